import PyProof.Rows.All
import Wide.All
import OpenK.AllK
import Wide.FinOn
import KE.KStateDown
import Lean
import HandS.ForMost
import HandS.Exc
import HandS.ExcOwn
import HandS.TryOnly
import HandS.WordsExc
import HandS.Defaults
import HandS.Codes
import HandS.CallSlots
import HandS.IsInst
import HandS.Flow
import HandS.Walk
import HandS.Wide
import HandS.FStr
import HandS.Flt
import HandS.Style
import KE.IntTextLaws
import KE.KExcInit
import HandS.HeadEnd
import HandS.Head0
import HandS.Head1
import HandS.Head2
import HandS.HeadHook1
import HandS.HeadHook2
import HandS.HeadNt
import HandS.Zip0
import HandS.Property
import HandS.ClsMeth
import HandS.TupAny
import HandS.Conv
import HandS.TupMul
import HandS.StrMore
import HandS.ReplaceList
import HandS.NoneIn
import HandS.Zip
import HandS.ExcInit
import HandS.Deep
import HandS.Small
import HandS.MakeKw
import HandS.Lambda
import HandS.ExcIs
import HandS.SuiteRaise
import HandS.RaiseFrom
import HandS.RaiseMore
import HandS.SortInts
import HandS.DictComp
import HandS.SetKeys
import HandS.Strs
import HandS.GenOver
import HandS.GenBody
import HandS.GenYield
import HandS.GenCall
import HandS.GenList
import HandS.Star
import HandS.MethStar
import HandS.ReplaceLit
import HandS.CallRecv
import HandS.StrSplit
import HandS.OwnEq
import PySem.Challenge.RW_fullqueue_k47_shortest_of_long_effects
set_option Elab.async false
set_option linter.all false
set_option maxRecDepth 100000
set_option maxHeartbeats 4000000
set_option pp.deepTerms true
set_option pp.maxSteps 200000
namespace Q
open PySem PySem.Spec PyProof.Rows L2
abbrev St := L2.St
noncomputable def fdA (K : PySem.W.Frag) (a : Addr) : FuncData := match K.lookup a with
  | some ⟨_, _, .func fd, _⟩ => fd
  | _ => PySem.W.fnOf "" "" { posonlyargs := [], args := [], vararg := none, kwonlyargs := [], kw_defaults := [], kwarg := none, defaults := [] } [] { kind := .function, names := [], isGenerator := false, isCoroutine := false, more := [] } .none .none .none .none none .none .none
theorem funD_fdA {K : PySem.W.Frag} {x qual : Str} {params : Arguments} {body : List Stmt} {scope : Scope} {dvs : List V} {kws : List (Str × V)} {f : Addr}
    (h : ∃ fd, FunD K x qual params body scope dvs kws f fd) : FunD K x qual params body scope dvs kws f (fdA K f) := by
  obtain ⟨fd, F⟩ := h
  obtain ⟨oc, od, dV, kV, doc, pm, an, cdv, ct, osl, e, lk, r⟩ := F.ex
  have q : fdA K f = fd := by unfold fdA; rw [lk]
  rw [q]; exact F
def obsM (ex : List (PySem.W.Frag → Bool)) (fn : List He5.DefA) (K : PySem.W.Frag) : He.AlD := ((ex.all fun f => f K) && fn.all fun d => d.ok K, fn.map fun d => He5.fnA K (d.at_ K))
def valM (fn : List He5.DefA) : He.AlD := (true, fn.map He5.DefA.val)
def SaysM (ex : List (PySem.W.Frag → Bool)) (fn : List He5.DefA) (K : PySem.W.Frag) : Prop := obsM ex fn K = valM fn
def obsMG (n : Nat) (ex : List (PySem.W.Frag → Bool)) (fn : List He5.DefA) (g : Addr → Option Obj) : He.AlD := obsM ex fn (He.frG g (He5.asA g n))
def hookM (n : Nat) (ex : List (PySem.W.Frag → Bool)) (fn : List He5.DefA) : PySem.W.Hook where
  α := He.AlD
  obs := fun s => obsMG n ex fn s.heap.get?
  val := fun _ => valM fn
  says := fun _ h => ∃ K : PySem.W.Frag, K.In h ∧ SaysM ex fn K
  of := fun _ _ e => ⟨_, He.frG_in, e⟩
  keeps := fun _ _ _ ⟨K, hK, c⟩ k => ⟨K, PySem.W.Frag.In.keeps hK k, c⟩
theorem obsMG_eq {n : Nat} {ex : List (PySem.W.Frag → Bool)} {fn : List He5.DefA} {g : Addr → Option Obj} {s : Shared} (h : ∀ a, g a = s.heap.get? a) : obsMG n ex fn g = (hookM n ex fn).obs s := by
  have e : g = s.heap.get? := funext h
  rw [e] <;> rfl
section
variable {ex : List (PySem.W.Frag → Bool)} {fn : List He5.DefA} {K : PySem.W.Frag}
theorem SaysM.fact (c : SaysM ex fn K) (i : Nat) {f : PySem.W.Frag → Bool} (h : ex[i]? = some f := by rfl) : f K = true := by
  have c1 := (He.ba (show ((ex.all fun f => f K) && fn.all fun d => d.ok K) = true from congrArg (fun z : He.AlD => z.1) c)).1
  exact List.all_eq_true.mp c1 f (List.mem_of_getElem? h)
theorem SaysM.def_ (c : SaysM ex fn K) (i : Nat) {d : He5.DefA} (h : fn[i]? = some d := by rfl) : FunD K d.name d.qual d.params d.body d.scope (d.dvs K) (d.kws K) (d.at_ K) (fdA K (d.at_ K)) := by
  have c2 := (He.ba (show ((ex.all fun f => f K) && fn.all fun d => d.ok K) = true from congrArg (fun z : He.AlD => z.1) c)).2
  have e : fn.map (fun d => He5.fnA K (d.at_ K)) = fn.map He5.DefA.val := congrArg (fun z : He.AlD => z.2) c
  have e2 : (fn.map fun d => He5.fnA K (d.at_ K))[i]? = (fn.map He5.DefA.val)[i]? := by rw [e]
  rw [List.getElem?_map, List.getElem?_map, h] at e2
  exact funD_fdA (He5.DefA.funD (Option.some.inj e2) (List.all_eq_true.mp c2 d (List.mem_of_getElem? h)))
end
structure ExcF (K : PySem.W.Frag) (C : Addr) (bm : List Value) (newId : String) : Prop where
  x : PySem.W.excIn K C bm newId = true
  k : PySem.W.keepIn K (.ref C) = true
  b : PySem.W.subIn K (.ref C) (.type "BaseException") = some true
  t : PySem.W.typeIn K (.ref C) = some (.type "type")
def excB (x : Str) (bm : List Value) (newId : String) (K : PySem.W.Frag) : Bool := PySem.W.excIn K (He.ga K x) bm newId && (PySem.W.keepIn K (.ref (He.ga K x)) && (decide (PySem.W.subIn K (.ref (He.ga K x)) (.type "BaseException") = some true) && decide (PySem.W.typeIn K (.ref (He.ga K x)) = some (.type "type"))))
theorem excB_ok {K : PySem.W.Frag} {x : Str} {bm : List Value} {newId : String} (h : excB x bm newId K = true) : ExcF K (He.ga K x) bm newId := by
  obtain ⟨c1, c⟩ := He.ba h
  obtain ⟨c2, c⟩ := He.ba c
  obtain ⟨c3, c4⟩ := He.ba c
  exact ⟨c1, c2, of_decide_eq_true c3, of_decide_eq_true c4⟩
section
variable {X : Cx} {CX : CXT} {k : Nat} {f : Addr} {fd : FuncData} {ps : List Str} {sp : Sp} {E : XK} {x : Str} {p pos : Pos} {e : Expr} {es : List Expr} {t : TA} {dvs : List V}
theorem pe_callD (F : FnOk X.prog X.w X.K X.mg X.base CX k f fd ps sp) (hr : Room k X.A) (hg : Gl X x) (hm : X.mg x = some (.ref f)) (hk : PySem.W.keepIn X.K (.ref f) = true) (hb : ∃ ds, Vals dvs ds ∧ Binds X.K fd ps ds) (hx : Passes CX X E)
    (ha : PA X (e :: es) t) (hdb : (x == ("__debug__" : Str)) = false := by decide) (he : starEach (e :: es) X.env = (false, eval e X.env) :: starEach es X.env := by rfl) (hpl : (backTo pos (starEach es X.env)).any (·.1) = false := by rfl) :
    PE X (.Call (.Name x p) (e :: es) [] pos) (tCall sp dvs E t) := by
  obtain ⟨ds, hd, hb⟩ := hb
  exact pe_call F hr hg hm hk hb hd hx ha hdb he hpl
end
theorem pe_gc {X : Cx} {x : Str} {v : V} {pos : Pos} (hg : Gl X x) (h : ∃ u, X.mg x = some u ∧ RelV v u) (hd : (x == ("__debug__" : Str)) = false := by decide) : PE X (.Name x pos) (tC v) := by
  obtain ⟨u, h1, h2⟩ := h
  exact pe_glob hg h1 h2 hd
theorem passE {P : Program} {w : World} {K : PySem.W.Frag} {mg : Str → Option Value} {base : Heap} {N : List Str} {qual : Str} {scope : Scope} {f : Addr} {cdv : Value} {A : Around} {outer : List Env} {s : Shared} {H : Hp} {E : XK} :
    Passes (L2.CX P w) (cxOf (L2.CX P w) P w K mg base N qual scope f cdv A outer s H E) E :=
  passes_call (takes_of rfl rfl rfl rfl) (fun _ _ _ _ z => z)
def isStrV : V → Bool
  | .str _ => true
  | _ => false
def isBlV : V → Bool
  | .bl _ => true
  | _ => false
def isIntV : V → Bool
  | .int _ => true
  | .bl _ => true
  | _ => false
structure AnyV (K : PySem.W.Frag) (H : Hp) (v : V) : Prop where
  ty : ∃ t, TyX K H v t ∧ PySem.W.kitOne K t (.type "str") = some (isStrV v) ∧ PySem.W.kitOne K t (.type "int") = some (isIntV v) ∧ PySem.W.kitOne K t (.type "bool") = some (isBlV v)
section
variable {K : PySem.W.Frag} {H : Hp}
theorem AnyV.non : AnyV K H .non := ⟨_, .base .non, kit_ty (by decide +kernel), kit_ty (by decide +kernel), kit_ty (by decide +kernel)⟩
theorem AnyV.bl {b : Bool} : AnyV K H (.bl b) := ⟨_, .base (.bl b), kit_ty (show kitB "bool" "str" = some false by decide +kernel), kit_ty (show kitB "bool" "int" = some true by decide +kernel), kit_ty (show kitB "bool" "bool" = some true by decide +kernel)⟩
theorem AnyV.int {i : Int} : AnyV K H (.int i) := ⟨_, .base (.int i), kit_ty (show kitB "int" "str" = some false by decide +kernel), kit_ty (show kitB "int" "int" = some true by decide +kernel), kit_ty (show kitB "int" "bool" = some false by decide +kernel)⟩
theorem AnyV.str {z : Str} : AnyV K H (.str z) := ⟨_, .base (.str z), kit_ty (show kitB "str" "str" = some true by decide +kernel), kit_ty (show kitB "str" "int" = some false by decide +kernel), kit_ty (show kitB "str" "bool" = some false by decide +kernel)⟩
theorem AnyV.lst {a : Addr} {xs : List V} (h : H a = some (.lst xs)) : AnyV K H (.ref a) := ⟨_, .base (.lst h), kit_ty (show kitB "list" "str" = some false by decide +kernel), kit_ty (show kitB "list" "int" = some false by decide +kernel), kit_ty (show kitB "list" "bool" = some false by decide +kernel)⟩
theorem AnyV.tup {a : Addr} {xs : List V} (h : H a = some (.tup xs)) : AnyV K H (.ref a) := ⟨_, .base (.tup h), kit_ty (show kitB "tuple" "str" = some false by decide +kernel), kit_ty (show kitB "tuple" "int" = some false by decide +kernel), kit_ty (show kitB "tuple" "bool" = some false by decide +kernel)⟩
theorem AnyV.dK {a : Addr} {xs : List (Key × V)} (h : H a = some (.dK xs)) : AnyV K H (.ref a) := ⟨_, .base (.dK h), kit_ty (show kitB "dict" "str" = some false by decide +kernel), kit_ty (show kitB "dict" "int" = some false by decide +kernel), kit_ty (show kitB "dict" "bool" = some false by decide +kernel)⟩
theorem isi_str {v : V} {Q : VK} (a : AnyV K H v) (q : Q (.bl (isStrV v)) H) : rIsi K [v, .ty "str"] H Q := by
  obtain ⟨t, h1, h2, _⟩ := a.ty
  exact ⟨v, _, t, _, _, rfl, .ty _, h1, h2, q⟩
theorem isi_int {v : V} {Q : VK} (a : AnyV K H v) (q : Q (.bl (isIntV v)) H) : rIsi K [v, .ty "int"] H Q := by
  obtain ⟨t, h1, _, h2, _⟩ := a.ty
  exact ⟨v, _, t, _, _, rfl, .ty _, h1, h2, q⟩
theorem isi_bool {v : V} {Q : VK} (a : AnyV K H v) (q : Q (.bl (isBlV v)) H) : rIsi K [v, .ty "bool"] H Q := by
  obtain ⟨t, h1, _, _, h2⟩ := a.ty
  exact ⟨v, _, t, _, _, rfl, .ty _, h1, h2, q⟩
end
theorem Same.upd {H : Hp} {p : Addr} {o : HO} (h : H p = none) : Same H (L2.upd H p o) := fun b u q => by
  rw [upd_ne (ne_of_none q h)]; exact q
theorem Same.upd3 {H H' : Hp} {p : Addr} {o : HO} (s : Same H H') (h : H' p = none) : Same H (L2.upd H' p o) := Same.trans s (Same.upd h)
theorem kp {H : Hp} {a p : Addr} {o u : HO} (h : H a = some o) (n : H p = none) : L2.upd H p u a = some o := by rw [upd_ne (ne_of_none h n)]; exact h
theorem bool_cases {c : Bool} {A B : Prop} (h1 : c = true → A) (h2 : c = false → B) : if c = true then A else B := by
  cases c with
  | true => exact iteT (h1 rfl)
  | false => exact iteF (h2 rfl)
theorem TyOf.mono {K : PySem.W.Frag} {H H' : Hp} {v : V} {t : Value} (s : Same H H') (h : TyOf K H v t) : TyOf K H' v t := by
  cases h with
  | non => exact .non
  | bl x => exact .bl x
  | int i => exact .int i
  | str x => exact .str x
  | flt x => exact .flt x
  | lst e => exact .lst (s _ _ e)
  | frz e => exact .frz (s _ _ e)
  | tup e => exact .tup (s _ _ e)
  | dK e => exact .dK (s _ _ e)
  | dT e => exact .dT (s _ _ e)
  | ins e cl ha hn htk hm => exact .ins (s _ _ e) cl ha hn htk hm
theorem TyX.mono {K : PySem.W.Frag} {H H' : Hp} {v : V} {t : Value} (s : Same H H') (h : TyX K H v t) : TyX K H' v t := by
  cases h with
  | base b => exact .base (TyOf.mono s b)
  | byt b => exact .byt b
  | set e => exact .set (s _ _ e)
  | kList e c => exact .kList e c
  | kTuple e c => exact .kTuple e c
  | kDict e c => exact .kDict e c
  | fTuple e => exact .fTuple (s _ _ e)
  | fDict e => exact .fDict (s _ _ e)
theorem AnyV.mono {K : PySem.W.Frag} {H H' : Hp} {v : V} (s : Same H H') (h : AnyV K H v) : AnyV K H' v := by
  obtain ⟨t, h1, h2⟩ := h.ty
  exact ⟨t, TyX.mono s h1, h2⟩
theorem scal_ii (i j : Int) : scal (.int i) (.int j) = true := rfl
theorem scal_ss (i j : Str) : scal (.str i) (.str j) = true := rfl
theorem scal_bb (i j : Bool) : scal (.bl i) (.bl j) = true := rfl
def LoopOk (J : It) (g : TG) (tb : TS) (D : Ends) (σ : St) (H1 : Hp) : Prop := ∃ W : Nat → Nat → St → Hp → Prop, (∃ m, W 0 m σ H1) ∧ ∀ i m σ H, W i m σ H →
  (J.stop i H ∧ D.nx σ H) ∨ (J.go i H ∧ ∃ N : St → Hp → Prop, (∀ σ' H', N σ' H' → ∃ m', m' < m ∧ W (i + 1) m' σ' H') ∧ ∀ x H', J.yld i H x H' → g x σ H' fun σ2 H2 => tb { D with nx := N, ct := N, bk := D.nx } σ2 H2)
theorem tFor_eq (wi : TI) (g : TG) (tb : TS) (D : Ends) (σ : St) (H : Hp) : tFor wi g tb D σ H = wi σ H fun J H1 => LoopOk J g tb D σ H1 := rfl
theorem LoopOk.walk {J : It} {n : Nat} {G : Hp → Prop} {Y : Nat → Hp → V → Hp → Prop} {g : TG} {tb : TS} {D : Ends} {σ : St} {H : Hp} (w : Walk J n G Y) (Pv : Nat → St → Hp → Prop) (h0 : Pv 0 σ H) (hG : ∀ i σ H, i ≤ n → Pv i σ H → G H)
    (hs : ∀ i x σ H H', i < n → Pv i σ H → Y i H x H' → g x σ H' fun σ2 H2 => tb { D with nx := Pv (i + 1), ct := Pv (i + 1), bk := D.nx } σ2 H2) (hd : ∀ σ H, Pv n σ H → D.nx σ H) : LoopOk J g tb D σ H :=
  for_it w Pv h0 hG hs hd
def LcOk (J : It) (g : TG) (tt : TT) (te : TE) (vs : List Nat) (σ : St) (H1 : Hp) (D : Addr) (Q : VK) : Prop := ∃ W : Nat → Nat → Hp → Prop, (∃ m, W 0 m (upd H1 D (.lst []))) ∧ ∀ i m H, W i m H →
  (J.stop i H ∧ Q (.ref D) H) ∨ (J.go i H ∧ ∃ Nx : Hp → Prop, (∀ H', Nx H' → ∃ m', m' < m ∧ W (i + 1) m' H') ∧ ∀ x H', J.yld i H x H' → g x (wipe σ vs) H' fun σ2 H2 => wipe σ2 vs = wipe σ vs ∧ tt σ2 H2 fun b H3 =>
    if b = true then te σ2 H3 fun y H4 => ∃ acc, H4 D = some (.lst acc) ∧ acc.length < sizeLine ∧ Nx (upd H4 D (.lst (acc ++ [y]))) else Nx H3)
theorem tLc_eq (wi : TI) (g : TG) (tt : TT) (te : TE) (vs : List Nat) (σ : St) (H : Hp) (Q : VK) : tLc wi g tt te vs σ H Q = wi σ H fun J H1 => ∀ D, H1 D = none → LcOk J g tt te vs σ H1 D Q := rfl
theorem LcOk.walk {J : It} {n : Nat} {G : Hp → Prop} {Y : Nat → Hp → V → Hp → Prop} {g : TG} {tt : TT} {te : TE} {vs : List Nat} {σ : St} {H1 : Hp} {D : Addr} {Q : VK} (w : Walk J n G Y) (Pv : Nat → Hp → Prop) (h0 : Pv 0 (upd H1 D (.lst []))) (hG : ∀ i H, i ≤ n → Pv i H → G H)
    (hs : ∀ i x H H', i < n → Pv i H → Y i H x H' → g x (wipe σ vs) H' fun σ2 H2 => wipe σ2 vs = wipe σ vs ∧ tt σ2 H2 fun b H3 =>
      if b = true then te σ2 H3 fun y H4 => ∃ acc, H4 D = some (.lst acc) ∧ acc.length < sizeLine ∧ Pv (i + 1) (upd H4 D (.lst (acc ++ [y]))) else Pv (i + 1) H3) (hd : ∀ H, Pv n H → Q (.ref D) H) : LcOk J g tt te vs σ H1 D Q :=
  lc_it w Pv h0 hG hs hd
theorem Paired.snoc {α β : Type} {F : α → β → Prop} {a : α} {b : β} : ∀ {l : List α} {m : List β}, Paired F l m → F a b → Paired F (l ++ [a]) (m ++ [b])
  | _, _, .nil, h => .cons h .nil
  | _, _, .cons r t, h => .cons r (Paired.snoc t h)
theorem LcOk.rep {δ : Type} {J : It} {n : Nat} {G : Hp → Prop} {Y : Nat → Hp → V → Hp → Prop} {g : TG} {te : TE} {vs : List Nat} {σ : St} {H1 : Hp} {D : Addr} {Q : VK} (w : Walk J n G Y) (hD : H1 D = none) (ds : List δ) (Rp : Hp → V → δ → Prop) (hn : ds.length = n) (hsz : n ≤ sizeLine)
    (mono : ∀ H H' v d, (∃ acc, H D = some (.lst acc)) → (∀ b o, H b = some o → b ≠ D → H' b = some o) → Rp H v d → Rp H' v d) (hG : ∀ H, Same H1 H → G H)
    (hs : ∀ i d x H H' (Nx : VK), ds[i]? = some d → Same H1 H → (∃ acc, H D = some (.lst acc)) → Y i H x H' → (∀ y H4, Same H H4 → Rp H4 y d → Nx y H4) → g x (wipe σ vs) H' fun σ2 H2 => wipe σ2 vs = wipe σ vs ∧ tYes σ2 H2 fun b H3 => if b = true then te σ2 H3 Nx else Nx .non H3)
    (gx : ∀ (x : V) (σ2 : St) (H2 : Hp) (Q1 Q2 : St → Hp → Prop), (∀ σ H, Q1 σ H → Q2 σ H) → g x σ2 H2 Q1 → g x σ2 H2 Q2)
    (hd : ∀ H ys, Same H1 H → H D = some (.lst ys) → Paired (Rp H) ys ds → Q (.ref D) H) : LcOk J g tYes te vs σ H1 D Q := by
  refine LcOk.walk w (fun i H => Same H1 H ∧ ∃ ys, H D = some (.lst ys) ∧ ys.length = i ∧ Paired (Rp H) ys (ds.take i)) ⟨Same.upd hD, [], upd_same, rfl, .nil⟩ (fun i H _ h => hG H h.1) ?_ ?_
  · intro i x H H' hi ⟨s1, ys, hy, hl, hp⟩ y
    have hdi : ds[i]? = some ds[i] := List.getElem?_eq_getElem (by omega)
    refine gx _ _ _ _ _ (fun σ2 H2 h => ⟨h.1, h.2⟩) (hs i ds[i] x H H' (fun v H4 => ∃ acc, H4 D = some (.lst acc) ∧ acc.length < sizeLine ∧ (Same H1 (upd H4 D (.lst (acc ++ [v]))) ∧ ∃ ys, upd H4 D (.lst (acc ++ [v])) D = some (.lst ys) ∧ ys.length = i + 1 ∧ Paired (Rp (upd H4 D (.lst (acc ++ [v])))) ys (ds.take (i + 1)))) hdi s1 ⟨ys, hy⟩ y fun v H4 s4 r => ?_)
    have e4 : H4 D = some (.lst ys) := s4 _ _ hy
    have s5 : Same H1 (upd H4 D (.lst (ys ++ [v]))) := fun b u z => by
      rw [upd_ne (ne_of_none z hD)]; exact s4 _ _ (s1 _ _ z)
    have kp : ∀ b o, H4 b = some o → b ≠ D → upd H4 D (.lst (ys ++ [v])) b = some o := fun b o z ne => by rw [upd_ne ne]; exact z
    refine ⟨ys, e4, by omega, s5, ys ++ [v], upd_same, by simp [hl], ?_⟩
    have et : ds.take (i + 1) = ds.take i ++ [ds[i]] := by rw [List.take_succ, hdi]; rfl
    rw [et]
    exact Paired.snoc (Paired.mapP hp fun a b z => mono _ _ _ _ ⟨ys, hy⟩ (fun b o z ne => kp b o (s4 _ _ z) ne) z) (mono _ _ _ _ ⟨ys, e4⟩ kp r)
  · intro H ⟨s1, ys, hy, hl, hp⟩
    rw [List.take_of_length_le (by omega)] at hp
    exact hd H ys s1 hy hp
theorem LcOk.val {J : It} {n : Nat} {G : Hp → Prop} {Y : Nat → Hp → V → Hp → Prop} {i0 : Nat} {te : TE} {vs : List Nat} {σ : St} {H1 : Hp} {D : Addr} {Q : VK} (w : Walk J n G Y) (hD : H1 D = none) (ds : List V) (hn : ds.length = n) (hsz : n ≤ sizeLine) (hG : ∀ H, Same H1 H → G H)
    (hs : ∀ i d x H H' (Nx : VK), ds[i]? = some d → Same H1 H → (∃ acc, H D = some (.lst acc)) → Y i H x H' → (∀ H4, Same H H4 → Nx d H4) → wipe ((wipe σ vs).set i0 (some x)) vs = wipe σ vs ∧ te ((wipe σ vs).set i0 (some x)) H' Nx)
    (hd : ∀ H, Same H1 H → H D = some (.lst ds) → Q (.ref D) H) : LcOk J (gName i0) tYes te vs σ H1 D Q := by
  refine LcOk.rep w hD ds (fun _ v d => v = d) hn hsz (fun _ _ _ _ _ _ h => h) hG (fun i d x H H' Nx h1 h2 h3 h4 h5 => ?_) (fun x σ2 H2 Q1 Q2 h => h _ _) (fun H ys h1 h2 h3 => hd H h1 ?_)
  · have q := hs i d x H H' Nx h1 h2 h3 h4 (fun H4 s4 => h5 d H4 s4 rfl)
    exact ⟨q.1, by simp only [tYes, if_true]; exact q.2⟩
  · have e : ys = ds := by
      clear h2 h1 hs hd hn
      induction h3 with
      | nil => rfl
      | cons r t ih => rw [r, ih]
    rw [← e]; exact h2
def tyIs (T : String) (v : V) : Bool := if T = "str" then isStrV v else if T = "int" then isIntV v else isBlV v
def rIsiA (K : PySem.W.Frag) : List V → Hp → VK → Prop := fun xs H Q => ∃ (v : V) (T : String), xs = [v, .ty T] ∧ (T = "str" ∨ T = "int" ∨ T = "bool") ∧ AnyV K H v ∧ Q (.bl (tyIs T v)) H
theorem call_isiA {X : Cx} : CallR X (.builtin "isinstance") (rIsiA X.K) := by
  intro pins s σ H xs us Q I r h
  refine call_isi pins s σ H xs us Q I r ?_
  obtain ⟨v, T, rfl, hT, a, q⟩ := h
  rcases hT with rfl | rfl | rfl
  · exact isi_str a q
  · exact isi_int a q
  · exact isi_bool a q
theorem tyIs_str (v : V) : tyIs "str" v = isStrV v := rfl
theorem tyIs_int (v : V) : tyIs "int" v = isIntV v := rfl
theorem tyIs_bool (v : V) : tyIs "bool" v = isBlV v := rfl
def rIxM : R2 := fun x y H Q => ∃ p xs i v, x = .ref p ∧ y = .int i ∧ H p = some (.lst xs) ∧ atI xs i = some v ∧ Q v H
theorem ix_listM {X : Cx} : IxR X rIxM := by
  intro value slice pins s σ H x y v u Q I rx ry h hs
  obtain ⟨p, xs, i, z, h1, h2, h3, h4, h5⟩ := h
  exact ix_list value slice pins s σ H x y v u Q I rx ry ⟨p, xs, i, z, h1, h2, SqL.of h3, h4, h5⟩ hs
theorem ixN_nat {n j : Nat} (h : j < n) : ixN n (j : Int) = some j := by
  unfold ixN
  rw [if_pos (by omega), if_pos (by omega)]
  simp
theorem atI_zero {α : Type} {x : α} {xs : List α} : atI (x :: xs) 0 = some x := by
  unfold atI
  rw [show ixN (x :: xs).length 0 = some 0 from ixN_nat (j := 0) (by simp)]
  rfl
theorem atI_one {α : Type} {x y : α} {xs : List α} : atI (x :: y :: xs) 1 = some y := by
  unfold atI
  rw [show ixN (x :: y :: xs).length 1 = some 1 from ixN_nat (j := 1) (by simp)]
  rfl
theorem ixN_20 : ixN 2 0 = some 0 := by decide
theorem ixN_21 : ixN 2 1 = some 1 := by decide
theorem dpAll_ints {K : PySem.W.Frag} {H : Hp} : ∀ ns : List Int, DpAll K H (ns.map V.int) (ns.map PyData.int)
  | [] => .nil
  | n :: ns => .cons (.int n) (dpAll_ints ns)
def SameX (d : Addr) (H H' : Hp) : Prop := ∀ b o, H b = some o → b ≠ d → H' b = some o
theorem SameX.refl {d : Addr} {H : Hp} : SameX d H H := fun _ _ h _ => h
theorem SameX.trans {d : Addr} {H H1 H2 : Hp} (a : SameX d H H1) (b : SameX d H1 H2) : SameX d H H2 := fun c o h n => b c o (a c o h n) n
theorem SameX.of {d : Addr} {H H' : Hp} (s : Same H H') : SameX d H H' := fun b o h _ => s b o h
theorem SameX.upd {d : Addr} {H : Hp} {o : HO} : SameX d H (L2.upd H d o) := fun b u h n => by rw [upd_ne n]; exact h
theorem SameX.seq {K : PySem.W.Frag} {d : Addr} {H H' : Hp} {a : Addr} {xs : List V} (e : SameX d H H') (n : a ≠ d) (h : SqL K H a xs) : SqL K H' a xs := by
  rcases h with (h | ⟨o, h⟩) | h
  · exact .inl (.inl (e _ _ h n))
  · exact .inl (.inr ⟨o, e _ _ h n⟩)
  · exact .inr h
theorem SameX.at {d : Addr} {H H' : Hp} {a : Addr} {o : HO} (e : SameX d H H') (n : H d = none) (h : H a = some o) : H' a = some o := e _ _ h (ne_of_none h n)
section
variable {X : Cx} {CX : CXT} {k : Nat} {f : Addr} {fd : FuncData} {ps : List Str} {sp : Sp} {E : St → XK} {x : Str} {p pos : Pos} {e : Expr} {es : List Expr} {t : TA} {dvs : List V}
theorem pe_callW (F : FnOk X.prog X.w X.K X.mg X.base CX k f fd ps sp) (hr : Room k X.A) (hg : Gl X x) (hm : X.mg x = some (.ref f)) (hk : PySem.W.keepIn X.K (.ref f) = true) (hb : ∃ ds, Vals dvs ds ∧ Binds X.K fd ps ds) (hx : ∀ σ, PassesAt CX X σ (E σ))
    (ha : PA X (e :: es) t) (hdb : (x == ("__debug__" : Str)) = false := by decide) (he : starEach (e :: es) X.env = (false, eval e X.env) :: starEach es X.env := by rfl) (hpl : (backTo pos (starEach es X.env)).any (·.1) = false := by rfl) :
    PE X (.Call (.Name x p) (e :: es) [] pos) (tCallSD sp dvs E t) := by
  obtain ⟨ds, hd, hb⟩ := hb
  exact pe_callSD F hr hg hm hk hb hd hx ha hdb he hpl
end
theorem cpow_18 : CPow 10 18 ↔ True := ⟨fun _ => trivial, fun _ => ⟨by decide, by decide, by decide⟩⟩
theorem cpow_30 : CPow 10 30 ↔ True := ⟨fun _ => trivial, fun _ => ⟨by decide, by decide, by decide⟩⟩
theorem cpow_20 : CPow 10 20 ↔ True := ⟨fun _ => trivial, fun _ => ⟨by decide, by decide, by decide⟩⟩
theorem cpow_9 : CPow 10 9 ↔ True := ⟨fun _ => trivial, fun _ => ⟨by decide, by decide, by decide⟩⟩
theorem cpow_29 : CPow 10 29 ↔ True := ⟨fun _ => trivial, fun _ => ⟨by decide, by decide, by decide⟩⟩
def S (l : List Nat) : Str := ⟨l.toArray⟩
theorem S_cps (l : List Nat) : (S l).cps.toList = l := rfl
theorem S_length (l : List Nat) : (S l).length = l.length := by simp [S, Str.length]
theorem S_of (x : Str) : x = S x.cps.toList := by
  obtain ⟨c⟩ := x
  simp [S]
theorem S_ex (x : Str) : ∃ l, x = S l := ⟨_, S_of x⟩
theorem S_inj {l m : List Nat} : S l = S m ↔ l = m := ⟨fun h => by have := congrArg (fun z : Str => z.cps.toList) h; exact this, fun h => by rw [h]⟩
theorem S_append (l m : List Nat) : S l ++ S m = S (l ++ m) := by
  show Str.append (S l) (S m) = S (l ++ m)
  simp [Str.append, S]
theorem S_one (c : Nat) : (⟨#[c]⟩ : Str) = S [c] := rfl
theorem cut_within {l : List Nat} {i j : Nat} (h : i ≤ j) (h2 : j ≤ l.length) : cutS (S l) (some (i : Int)) (some (j : Int)) = S ((l.drop i).take (j - i)) := by
  unfold cutS
  rw [HT.sIx_nat, HT.sIx_nat, S_cps, S_length, Nat.min_eq_left h2, Nat.min_eq_left (by omega)]
  rfl
def WhileOk (c : TT) (tb : TS) (D : Ends) (σ : St) (H : Hp) : Prop := ∃ W : Nat → St → Hp → Prop, (∃ m, W m σ H) ∧ ∀ m σ H, W m σ H →
  c σ H fun b H1 => if b = true then ∃ N : St → Hp → Prop, (∀ σ' H', N σ' H' → ∃ m', m' < m ∧ W m' σ' H') ∧ tb { D with nx := N, ct := N, bk := D.nx } σ H1 else D.nx σ H1
theorem tWhile_eq (c : TT) (tb : TS) (D : Ends) (σ : St) (H : Hp) : tWhile c tb D σ H = WhileOk c tb D σ H := rfl
theorem WhileOk.by {c : TT} {tb : TS} {D : Ends} {σ : St} {H : Hp} (Pv : St → Hp → Prop) (μ : St → Hp → Nat) (h0 : Pv σ H)
    (hs : ∀ (σ : St) (H : Hp) (m : Nat) (W : Nat → St → Hp → Prop), Pv σ H → m = μ σ H → (∀ σ' H', Pv σ' H' → μ σ' H' < m → ∃ m', m' < m ∧ W m' σ' H') → c σ H fun b H1 => if b = true then ∃ N : St → Hp → Prop, (∀ σ' H', N σ' H' → ∃ m', m' < m ∧ W m' σ' H') ∧ tb { D with nx := N, ct := N, bk := D.nx } σ H1 else D.nx σ H1) : WhileOk c tb D σ H :=
  ⟨fun m σ H => m = μ σ H ∧ Pv σ H, ⟨_, rfl, h0⟩, fun m σ H ⟨e, p⟩ => hs σ H m _ p e fun σ' H' p' l => ⟨_, l, rfl, p'⟩⟩
theorem nxt {Pv : St → Hp → Prop} {μ : St → Hp → Nat} {m : Nat} {W : Nat → St → Hp → Prop} (k : ∀ σ' H', Pv σ' H' → μ σ' H' < m → ∃ m', m' < m ∧ W m' σ' H') : ∀ σ' H', (Pv σ' H' ∧ μ σ' H' < m) → ∃ m', m' < m ∧ W m' σ' H' := fun σ' H' h => k σ' H' h.1 h.2
def mulS (z : Str) (n : Int) : Str := S (List.replicate n.toNat z.cps.toList).flatten
theorem foldl_app {α : Type} : ∀ (ls : List (Array α)) (a : Array α), (ls.foldl (· ++ ·) a).toList = a.toList ++ (ls.map Array.toList).flatten
  | [], a => by simp
  | b :: ls, a => by simp [foldl_app ls (a ++ b)]
theorem txt_mul (z : Str) (n : Int) : Txt.mul z n = mulS z n := by
  unfold Txt.mul mulS
  by_cases h1 : n < 1
  · rw [if_pos h1, show n.toNat = 0 by omega]; rfl
  · rw [if_neg h1]
    by_cases h2 : (n == 1 || z.length == 0) = true
    · rw [if_pos h2]
      rw [Bool.or_eq_true, beq_iff_eq, beq_iff_eq] at h2
      rw [S_of z, S_inj, S_cps]
      rcases h2 with h2 | h2
      · rw [h2]; simp
      · have : z.cps.toList = [] := by
          have h3 : z.cps.size = 0 := h2
          apply List.eq_nil_of_length_eq_zero
          rw [Array.length_toList]; exact h3
        rw [this]; simp
    · rw [if_neg h2]
      have e := foldl_app (List.replicate n.toNat z.cps) #[]
      rw [List.map_replicate, List.nil_append] at e
      rw [← e, ← S_of]
theorem op_mul_str {X : Cx} : OpR X (binaryOp .Mult) (fun x y H Q => ∃ z n, x = .str z ∧ y = .int n ∧ -9223372036854775808 ≤ n ∧ n < 9223372036854775808 ∧ z.length * n.toNat ≤ 16777216 ∧ Q (.str (mulS z n)) H) := by
  intro pins s σ H x y v u Q I rx ry h
  obtain ⟨z, n, rfl, rfl, h1, h2, h3, q⟩ := h
  obtain ⟨t, rfl⟩ := rx
  obtain ⟨t', rfl⟩ := ry
  refine SB.mul ⟨?_, ?_, ?_⟩ fun t k => ⟨.str (mulS z n), H, I.tok _, ⟨t, by rw [txt_mul]⟩, q⟩
  · have a1 : ¬ n < -(2 ^ 63 : Int) := by omega
    have a2 : ¬ n ≥ 2 ^ 63 := by omega
    rw [decide_eq_false a1, decide_eq_false a2]; rfl
  · intro a1 a2 a3
    have b1 : 0 < z.length := by
      rw [Bool.or_eq_false_iff] at a2
      have := a2.2
      simp at this
      omega
    have b4 : n.toNat ≤ z.length * n.toNat := Nat.le_mul_of_pos_left _ b1
    have b5 : z.length ≤ z.length * n.toNat := Nat.le_mul_of_pos_right _ (by omega)
    have b6 : (16777217 : Int) ≤ (2 ^ 63 - 1) / n := by
      rw [Int.le_ediv_iff_mul_le (by omega)]
      have : (16777217 : Int) * n ≤ 16777217 * 16777216 := by omega
      omega
    omega
  · intro a1 a2
    show decide (_ > sizeLine) = false
    rw [sizeLine_eq]
    exact decide_eq_false (by omega)
theorem Paired.mapP_mem {α β : Type} {F G : α → β → Prop} : ∀ {l : List α} {m : List β}, Paired F l m → (∀ a b, a ∈ l → F a b → G a b) → Paired G l m
  | _, _, .nil, _ => .nil
  | _, _, .cons r t, f => .cons (f _ _ List.mem_cons_self r) (Paired.mapP_mem t fun a b h => f a b (List.mem_cons_of_mem _ h))
theorem Paired.left {α β : Type} {F : α → β → Prop} {a : α} : ∀ {l : List α} {m : List β}, Paired F l m → a ∈ l → ∃ b, F a b
  | _, _, .cons r t, h => by
    rcases List.mem_cons.mp h with e | h
    · subst e; exact ⟨_, r⟩
    · exact Paired.left t h
  | _, _, .nil, h => by cases h
theorem call_lenM {X : Cx} : CallR X (.builtin "len") (fun xs H Q => ∃ p ys, xs = [.ref p] ∧ H p = some (.lst ys) ∧ Q (.int ys.length) H) := by
  intro pins s σ H xs us Q I r h
  obtain ⟨p, ys, h1, h2, h3⟩ := h
  exact call_len_seq pins s σ H xs us Q I r ⟨p, ys, h1, .inl (SqL.of h2), h3⟩
theorem one_eq {c m : Nat} {z : Str} (h : z.cps.toList = [m]) : ((⟨#[c]⟩ : Str) = z) = (c = m) := by
  apply propext
  constructor
  · intro e
    rw [← e] at h
    exact (List.cons.inj h).1
  · intro e
    rw [S_of z, h, e]; rfl
theorem atI_last {α : Type} {xs : List α} {y : α} : atI (xs ++ [y]) (-1) = some y := by
  unfold atI ixN
  rw [if_neg (by decide), if_pos (by simp; omega)]
  have e : (-1 + (((xs ++ [y]).length : Nat) : Int)).toNat = xs.length := by simp; omega
  rw [Option.bind_some, e]
  simp
theorem tw_take {α : Type} (p : α → Bool) (l : List α) : l.take (l.takeWhile p).length = l.takeWhile p := (List.prefix_iff_eq_take.mp (List.takeWhile_prefix p)).symm
theorem tw_drop {α : Type} (p : α → Bool) : ∀ l : List α, l.drop (l.takeWhile p).length = l.dropWhile p
  | [] => rfl
  | a :: l => by
    by_cases h : p a = true
    · rw [List.takeWhile_cons_of_pos h, List.dropWhile_cons_of_pos h, List.length_cons, List.drop_succ_cons]
      exact tw_drop p l
    · rw [List.takeWhile_cons_of_neg h, List.dropWhile_cons_of_neg h]
      rfl
theorem tyV_lst {K : PySem.W.Frag} {H : Hp} {l : Addr} {xs : List V} (h : H l = some (.lst xs)) : tyV K "list" (.ref l) H := Or.inl ⟨rfl, _, SqL.of h⟩
def Short (v : V) : Prop := ∀ x, v = .str x → x.length ≤ 100000
theorem short_of {v : V} {z : Str} (h : v = .str z) (l : z.length ≤ 100000) : Short v := fun x e => by
  rw [h] at e; cases e; exact l
theorem short_no {v : V} (h : isStrV v = false) : Short v := fun x e => by
  rw [e] at h; cases h
abbrev lettersZ : Str := "abcdefghijklmnopqrstuvwxyz"
abbrev ltr : List Nat := lettersZ.cps.toList
end Q
namespace Q
open PySem PySem.Spec PyProof.Rows L2
end Q
namespace L2
open PySem PySem.Spec PyProof.Rows
def Ends.gone (D : Ends) (i : Nat) : Ends := { nx := fun σ H => D.nx (σ.set i none) H, rt := D.rt, bk := fun σ H => D.bk (σ.set i none) H, ct := fun σ H => D.ct (σ.set i none) H }
def wX (K : PySem.W.Frag) (Wout : WX) (D : Ends) : List (Value × Option Nat × (Addr → Value → Option Addr → TS)) → WX
  | [] => Wout
  | (c, none, ts) :: r => fun cls d σ H => ∃ b, PySem.W.exmOne K cls c = some b ∧ (b = true → ∀ a, H a = none → ts a cls d D σ H) ∧ (b = false → wX K Wout D r cls d σ H)
  | (c, some i, ts) :: r => fun cls d σ H => ∃ b, PySem.W.exmOne K cls c = some b ∧ (b = true → ∀ a, H a = none → ts a cls d (D.gone i) (σ.set i (some (.ref a))) H) ∧ (b = false → wX K Wout D r cls d σ H)
inductive HdX (X : Cx) : List ExceptHandler → List (Value × Option Nat × (Addr → Value → Option Addr → TS)) → Prop
  | nil : HdX X [] []
  | plain {x : Str} {c : Value} {ts : Addr → Value → Option Addr → TS} {b₀ : Stmt} {suite : List Stmt} {np pos' : Pos} {hds : List ExceptHandler} {l : List (Value × Option Nat × (Addr → Value → Option Addr → TS))} (hc : Names X x c)
      (hsu : ∀ (a : Addr) (oe : Obj) (cls : Value) (d : Option Addr) (pn : List (Addr × Obj)), Zc cls d oe → (∃ vs, oe.data = .fields vs) → PSs (X.suite a ((a, oe) :: pn)) (b₀ :: suite) (ts a cls d)) (r : HdX X hds l) :
      HdX X (.ExceptHandler (some (.Name x np)) none (b₀ :: suite) pos' :: hds) ((c, none, ts) :: l)
  | named {x n : Str} {i : Nat} {c : Value} {ts : Addr → Value → Option Addr → TS} {b₀ : Stmt} {suite : List Stmt} {np pos' : Pos} {hds : List ExceptHandler} {l : List (Value × Option Nat × (Addr → Value → Option Addr → TS))} (hi : X.N[i]? = some n) (hln : X.env.kindOf n = some .local) (hc : Names X x c)
      (hsu : ∀ (a : Addr) (oe : Obj) (cls : Value) (d : Option Addr) (pn : List (Addr × Obj)), Zc cls d oe → (∃ vs, oe.data = .fields vs) → PSs (X.suite a ((a, oe) :: pn)) (b₀ :: suite) (ts a cls d)) (r : HdX X hds l) :
      HdX X (.ExceptHandler (some (.Name x np)) (some n) (b₀ :: suite) pos' :: hds) ((c, some i, ts) :: l)
section
variable {X : Cx} {body orelse : List Stmt} {h₀ : ExceptHandler} {hds : List ExceptHandler} {l : List (Value × Option Nat × (Addr → Value → Option Addr → TS))} {pos : Pos} {tb : WX → TS} {u : TS} {Wout : WX}
end
end L2
namespace L2
open PySem PySem.Spec PyProof.Rows
def IteS (x : Str) : It :=
  ⟨fun i _ => i < x.cps.size, fun i H v H' => ∃ T c, v = .ref T ∧ H T = none ∧ H' = upd H T (.tup [.int (i : Nat), .str ⟨#[c]⟩]) ∧ x.cps[i]? = some c, fun i _ => x.cps.size ≤ i⟩
def iEnumS (ta : TA) : TI := fun σ H R => ta σ H fun vs H1 => ∃ x, vs = [.str x] ∧ R (IteS x) H1
end L2
namespace Q
open PySem PySem.Spec PyProof.Rows L2
abbrev stepsZ : Str := "abcdefghijklmnopqrstuvwxyz-"
abbrev stp : List Nat := stepsZ.cps.toList
def isStp (c : Nat) : Bool := decide (c ∈ stp)
abbrev digsZ : Str := "0123456789"
def isDig (c : Nat) : Bool := decide (c ∈ digsZ.cps.toList)
theorem isDig_iff (c : Nat) : isDig c = true ↔ 48 ≤ c ∧ c ≤ 57 := by
  have e : digsZ.cps.toList = [48, 49, 50, 51, 52, 53, 54, 55, 56, 57] := by decide +kernel
  unfold isDig
  rw [e, decide_eq_true_eq]
  simp only [List.mem_cons, List.not_mem_nil, or_false]
  omega
abbrev dval (ds : List Nat) : Nat := NumText.digitsVal ds
def okCount (ds : List Nat) : Bool := decide (ds ≠ []) && (decide (ds.length ≤ 31) && (!(decide (ds.head? = some 48) && decide (ds ≠ [48])) && decide (dval ds ≤ 10 ^ 30)))
inductive Pg where
  | nil
  | seq (l : List Nat) (r : Pg)
  | rep (b : Pg) (n : Nat) (r : Pg)
def Pg.wr : Pg → List Nat
  | .nil => []
  | .seq l r => l ++ r.wr
  | .rep b n r => (List.replicate n b.wr).flatten ++ r.wr
def Pg.app : Pg → Pg → Pg
  | .nil, q => q
  | .seq l r, q => .seq l (r.app q)
  | .rep b n r, q => .rep b n (r.app q)
theorem Pg.wr_app (p q : Pg) : (p.app q).wr = p.wr ++ q.wr := by
  induction p with
  | nil => rfl
  | seq l r ih => simp [Pg.app, Pg.wr, ih]
  | rep b n r _ ih => simp [Pg.app, Pg.wr, ih]
def Pg.ok : Pg → Prop
  | .nil => True
  | .seq l r => (∀ c ∈ l, c ∈ stp) ∧ r.ok
  | .rep b n r => b.ok ∧ n ≤ 10 ^ 30 ∧ r.ok
theorem Pg.ok_app {p q : Pg} (hp : p.ok) (hq : q.ok) : (p.app q).ok := by
  induction p with
  | nil => exact hq
  | seq l r ih => exact ⟨hp.1, ih hp.2⟩
  | rep b n r _ ih => exact ⟨hp.1, hp.2.1, ih hp.2.2⟩
def Pg.depth : Pg → Nat
  | .nil => 0
  | .seq _ r => r.depth
  | .rep b _ r => max (b.depth + 1) r.depth
theorem Pg.depth_app (p q : Pg) : (p.app q).depth = max p.depth q.depth := by
  induction p with
  | nil => simp [Pg.app, Pg.depth]
  | seq l r ih => simp [Pg.app, Pg.depth, ih]
  | rep b n r _ ih => simp [Pg.app, Pg.depth, ih, Nat.max_assoc]
def Pg.size : Pg → Nat
  | .nil => 0
  | .seq l r => l.length + 1 + r.size
  | .rep b _ r => b.size + 1 + r.size
theorem Pg.size_app (p q : Pg) : (p.app q).size = p.size + q.size := by
  induction p with
  | nil => simp [Pg.app, Pg.size]
  | seq l r ih => simp [Pg.app, Pg.size, ih]; omega
  | rep b n r _ ih => simp [Pg.app, Pg.size, ih]; omega
def goF (t : List Nat) (st : List (List Nat)) : Option (List Nat) := match t, st with
  | [], [f] => some f
  | [], _ => none
  | _ :: _, [] => none
  | c :: t, f :: fs => if isStp c = true then goF t ((f ++ [c]) :: fs) else
    if c = 40 then (if fs.length < 20 then goF t ([] :: f :: fs) else none) else
    if c = 41 then (match fs with
      | [] => none
      | g :: gs => if okCount (t.takeWhile isDig) = true then goF (t.dropWhile isDig) ((g ++ (List.replicate (dval (t.takeWhile isDig)) f).flatten) :: gs) else none) else none
  termination_by t.length
  decreasing_by
    all_goals simp_wf
    have := (List.dropWhile_suffix (l := t) isDig).length_le
    omega
def progF (l : List Nat) : Option (List Nat) := goF l [[]]
theorem goF_step {c : Nat} {t : List Nat} {f : List Nat} {fs : List (List Nat)} (h : isStp c = true) : goF (c :: t) (f :: fs) = goF t ((f ++ [c]) :: fs) := by
  rw [goF.eq_def]
  simp only [h, if_true]
theorem goF_steps : ∀ {s t : List Nat} {f : List Nat} {fs : List (List Nat)}, (∀ c ∈ s, isStp c = true) → goF (s ++ t) (f :: fs) = goF t ((f ++ s) :: fs)
  | [], t, f, fs, _ => by simp
  | c :: s, t, f, fs, h => by
    rw [List.cons_append, goF_step (h c List.mem_cons_self), goF_steps fun d hd => h d (List.mem_cons_of_mem _ hd)]
    simp
theorem stp_40 : isStp 40 = false := by decide +kernel
theorem stp_41 : isStp 41 = false := by decide +kernel
theorem goF_open {t : List Nat} {f : List Nat} {fs : List (List Nat)} : goF (40 :: t) (f :: fs) = if fs.length < 20 then goF t ([] :: f :: fs) else none := by
  rw [goF.eq_def]
  simp only [stp_40, Bool.false_eq_true, if_false, if_true]
theorem goF_close {t : List Nat} {f g : List Nat} {gs : List (List Nat)} : goF (41 :: t) (f :: g :: gs) = if okCount (t.takeWhile isDig) = true then goF (t.dropWhile isDig) ((g ++ (List.replicate (dval (t.takeWhile isDig)) f).flatten) :: gs) else none := by
  rw [goF.eq_def]
  simp only [stp_41, Bool.false_eq_true, if_false, if_true, show ¬ ((41 : Nat) = 40) by decide]
theorem goF_close0 {t : List Nat} {f : List Nat} : goF (41 :: t) [f] = none := by
  rw [goF.eq_def]
  simp only [stp_41, Bool.false_eq_true, if_false, if_true, show ¬ ((41 : Nat) = 40) by decide]
theorem goF_other {c : Nat} {t : List Nat} {f : List Nat} {fs : List (List Nat)} (h : isStp c = false) (h1 : c ≠ 40) (h2 : c ≠ 41) : goF (c :: t) (f :: fs) = none := by
  rw [goF.eq_def]
  simp only [h, Bool.false_eq_true, if_false, h1, h2]
def goP (t : List Nat) (st : List Pg) : Option Pg := match t, st with
  | [], [f] => some f
  | [], _ => none
  | _ :: _, [] => none
  | c :: t, f :: fs => if isStp c = true then goP (t.dropWhile isStp) (f.app (.seq (c :: t.takeWhile isStp) .nil) :: fs) else
    if c = 40 then (if fs.length < 20 then goP t (.nil :: f :: fs) else none) else
    if c = 41 then (match fs with
      | [] => none
      | g :: gs => if okCount (t.takeWhile isDig) = true then goP (t.dropWhile isDig) (g.app (.rep f (dval (t.takeWhile isDig)) .nil) :: gs) else none) else none
  termination_by t.length
  decreasing_by
    all_goals simp_wf
    · have := (List.dropWhile_suffix (l := t) isStp).length_le
      omega
    · have := (List.dropWhile_suffix (l := t) isDig).length_le
      omega
def progP (l : List Nat) : Option Pg := goP l [.nil]
theorem goP_step {c : Nat} {t : List Nat} {f : Pg} {fs : List Pg} (h : isStp c = true) : goP (c :: t) (f :: fs) = goP (t.dropWhile isStp) (f.app (.seq (c :: t.takeWhile isStp) .nil) :: fs) := by
  rw [goP.eq_def]
  simp only [h, if_true]
theorem goP_open {t : List Nat} {f : Pg} {fs : List Pg} : goP (40 :: t) (f :: fs) = if fs.length < 20 then goP t (.nil :: f :: fs) else none := by
  rw [goP.eq_def]
  simp only [stp_40, Bool.false_eq_true, if_false, if_true]
theorem goP_close {t : List Nat} {f g : Pg} {gs : List Pg} : goP (41 :: t) (f :: g :: gs) = if okCount (t.takeWhile isDig) = true then goP (t.dropWhile isDig) (g.app (.rep f (dval (t.takeWhile isDig)) .nil) :: gs) else none := by
  rw [goP.eq_def]
  simp only [stp_41, Bool.false_eq_true, if_false, if_true, show ¬ ((41 : Nat) = 40) by decide]
theorem goP_close0 {t : List Nat} {f : Pg} : goP (41 :: t) [f] = none := by
  rw [goP.eq_def]
  simp only [stp_41, Bool.false_eq_true, if_false, if_true, show ¬ ((41 : Nat) = 40) by decide]
theorem goP_other {c : Nat} {t : List Nat} {f : Pg} {fs : List Pg} (h : isStp c = false) (h1 : c ≠ 40) (h2 : c ≠ 41) : goP (c :: t) (f :: fs) = none := by
  rw [goP.eq_def]
  simp only [h, Bool.false_eq_true, if_false, h1, h2]
theorem goP_F : ∀ (n : Nat) (t : List Nat) (st : List Pg), t.length ≤ n → goF t (st.map Pg.wr) = (goP t st).map Pg.wr
  | n, [], [], _ => by rw [goP.eq_def, goF.eq_def]; rfl
  | n, [], [f], _ => by rw [goP.eq_def, goF.eq_def]; rfl
  | n, [], f :: g :: fs, _ => by rw [goP.eq_def, goF.eq_def]; rfl
  | n, c :: t, [], _ => by rw [goP.eq_def, goF.eq_def]; rfl
  | 0, c :: t, f :: fs, h => by simp at h
  | n + 1, c :: t, f :: fs, h => by
    rw [List.length_cons] at h
    rw [List.map_cons]
    cases hs : isStp c with
    | true =>
      have hd := (List.dropWhile_suffix (l := t) isStp).length_le
      have ih := goP_F n (t.dropWhile isStp) (f.app (.seq (c :: t.takeWhile isStp) .nil) :: fs) (by omega)
      rw [goP_step hs, ← ih, List.map_cons, Pg.wr_app]
      have e : c :: t = (c :: t.takeWhile isStp) ++ t.dropWhile isStp := by rw [List.cons_append, List.takeWhile_append_dropWhile]
      conv => lhs; rw [e]
      rw [goF_steps (fun d hd => by
        rcases List.mem_cons.mp hd with z | z
        · rw [z]; exact hs
        · exact List.all_eq_true.mp List.all_takeWhile d z)]
      simp [Pg.wr]
    | false =>
      by_cases h40 : c = 40
      · subst h40
        rw [goP_open, goF_open, List.length_map]
        split
        · exact goP_F n t (.nil :: f :: fs) (by omega)
        · rfl
      · by_cases h41 : c = 41
        · subst h41
          cases fs with
          | nil => rw [goP_close0]; exact goF_close0
          | cons g gs =>
            rw [List.map_cons, goP_close, goF_close]
            split
            · have hd := (List.dropWhile_suffix (l := t) isDig).length_le
              have ih := goP_F n (t.dropWhile isDig) (g.app (.rep f (dval (t.takeWhile isDig)) .nil) :: gs) (by omega)
              rw [← ih, List.map_cons, Pg.wr_app]
              simp [Pg.wr]
            · rfl
        · rw [goP_other hs h40 h41, goF_other hs h40 h41]; rfl
theorem progF_P (l : List Nat) : progF l = (progP l).map Pg.wr := goP_F l.length l [.nil] (Nat.le_refl _)
def RepL (X : Addr → Prop) (H : Hp) : List V → Pg → Prop
  | vs, .nil => vs = []
  | vs, .seq l r => ∃ ws, vs = .str (S l) :: ws ∧ RepL X H ws r
  | vs, .rep b n r => ∃ (t a : Addr) (us ws : List V), vs = .ref t :: ws ∧ H t = some (.tup [.ref a, .int (n : Int)]) ∧ ¬ X t ∧ ¬ X a ∧ H a = some (.lst us) ∧ RepL X H us b ∧ RepL X H ws r
theorem RepL.mono {X X' : Addr → Prop} {H H' : Hp} (hx : ∀ a, X' a → X a) (h : ∀ b o, H b = some o → ¬ X b → H' b = some o) : ∀ {p : Pg} {vs : List V}, RepL X H vs p → RepL X' H' vs p
  | .nil, _, r => r
  | .seq l q, _, ⟨ws, e, r⟩ => ⟨ws, e, RepL.mono hx h r⟩
  | .rep b n q, _, ⟨t, a, us, ws, e, e1, n1, n2, e2, r1, r2⟩ => ⟨t, a, us, ws, e, h _ _ e1 n1, fun z => n1 (hx _ z), fun z => n2 (hx _ z), h _ _ e2 n2, RepL.mono hx h r1, RepL.mono hx h r2⟩
theorem RepL.app {X : Addr → Prop} {H : Hp} : ∀ {p q : Pg} {vs ws : List V}, RepL X H vs p → RepL X H ws q → RepL X H (vs ++ ws) (p.app q)
  | .nil, _, _, _, e, r => by
    have e' : _ = [] := e
    rw [e']; exact r
  | .seq l q, _, _, _, ⟨us, e, r⟩, s => ⟨_, by rw [e]; rfl, RepL.app r s⟩
  | .rep b n q, _, _, _, ⟨t, a, us, us2, e, e1, n1, n2, e2, r1, r2⟩, s => ⟨t, a, us, _, by rw [e]; rfl, e1, n1, n2, e2, r1, RepL.app r2 s⟩
abbrev NoX : Addr → Prop := fun _ => False
def ItemsAt (H : Hp) (a : Addr) (p : Pg) : Prop := ∃ us, H a = some (.lst us) ∧ RepL NoX H us p
theorem ItemsAt.mono {H H' : Hp} {a : Addr} {p : Pg} (s : Same H H') (h : ItemsAt H a p) : ItemsAt H' a p := by
  obtain ⟨us, e, r⟩ := h
  exact ⟨us, s _ _ e, r.mono (fun _ z => z) fun b o z _ => s b o z⟩
structure PgOk (p : Pg) : Prop where
  ok : p.ok
  depth : p.depth ≤ 20
  size : p.size ≤ 1000000
theorem RepL.fresh {X X' : Addr → Prop} {H : Hp} {n : Addr} (hn : H n = none) (hx : ∀ a, X' a → X a ∨ a = n) : ∀ {p : Pg} {vs : List V}, RepL X H vs p → RepL X' H vs p
  | .nil, _, r => r
  | .seq l q, _, ⟨ws, e, r⟩ => ⟨ws, e, RepL.fresh hn hx r⟩
  | .rep b k q, _, ⟨t, a, us, ws, e, e1, n1, n2, e2, r1, r2⟩ => ⟨t, a, us, ws, e, e1, fun z => (hx _ z).elim n1 (ne_of_none e1 hn), fun z => (hx _ z).elim n2 (ne_of_none e2 hn), e2, RepL.fresh hn hx r1, RepL.fresh hn hx r2⟩
theorem Paired.snoc_inv {α β : Type} {F : α → β → Prop} : ∀ {l : List α} {a : α} {m : List β}, Paired F (l ++ [a]) m → ∃ m' b, m = m' ++ [b] ∧ Paired F l m' ∧ F a b
  | [], a, _, .cons r .nil => ⟨[], _, rfl, .nil, r⟩
  | x :: l, a, _, .cons r t => by
    obtain ⟨m', b, e, h1, h2⟩ := Paired.snoc_inv t
    exact ⟨_ :: m', b, by rw [e]; rfl, .cons r h1, h2⟩
def XS (H0 : Hp) (l : List Addr) : Addr → Prop := fun b => b ∈ l ∨ H0 b ≠ none
structure PSt (H0 H : Hp) (o : Addr) (as : List Addr) (ps : List Pg) : Prop where
  same : Same H0 H
  fo : H0 o = none
  fas : ∀ a ∈ as, H0 a = none
  lo : H o = some (.lst (as.map V.ref))
  nd : (o :: as).Nodup
  rep : Paired (fun a p => ∃ us, H a = some (.lst us) ∧ RepL (XS H0 (o :: as)) H us p) as ps
  ok : ∀ p ∈ ps, p.ok
  dep : ∀ (i : Nat) p, ps[i]? = some p → p.depth + i ≤ 20
theorem PSt.len {H0 H : Hp} {o : Addr} {as : List Addr} {ps : List Pg} (h : PSt H0 H o as ps) : as.length = ps.length := Paired.length h.rep
theorem PSt.seq {H0 H : Hp} {o t : Addr} {as : List Addr} {ps : List Pg} {l : List Nat} (h : PSt H0 H o (as ++ [t]) ps) (hl : ∀ c ∈ l, c ∈ stp) :
    ∃ qs p us, ps = qs ++ [p] ∧ H t = some (.lst us) ∧ PSt H0 (upd H t (.lst (us ++ [.str (S l)]))) o (as ++ [t]) (qs ++ [p.app (.seq l .nil)]) := by
  obtain ⟨qs, p, rfl, h1, us, h2, h3⟩ := Paired.snoc_inv h.rep
  have hnt : H0 t = none := h.fas t (by simp)
  have hto : t ≠ o := by have := h.nd; simp at this; exact fun e => this.1.2 e.symm
  have keep : ∀ b u, H b = some u → ¬ XS H0 (o :: (as ++ [t])) b → upd H t (.lst (us ++ [.str (S l)])) b = some u := fun b u e n => by
    rw [upd_ne (fun z => n (.inl (by simp [z])))]; exact e
  refine ⟨qs, p, us, rfl, h2, ⟨fun b u e => ?_, h.fo, h.fas, ?_, h.nd, Paired.snoc (Paired.mapP_mem h1 ?_) ?_, ?_, ?_⟩⟩
  · rw [upd_ne (ne_of_none e hnt)]; exact h.same b u e
  · rw [upd_ne hto.symm]; exact h.lo
  · rintro a q ha ⟨ws, e, r⟩
    have nat : a ≠ t := by
      have := h.nd
      simp only [List.nodup_cons, List.nodup_append] at this
      exact this.2.2.2 a ha t (by simp)
    exact ⟨ws, by rw [upd_ne nat]; exact e, r.mono (fun _ z => z) keep⟩
  · exact ⟨_, upd_same, RepL.app (h3.mono (fun _ z => z) keep) ⟨[], rfl, rfl⟩⟩
  · intro q hq
    rcases List.mem_append.mp hq with z | z
    · exact h.ok q (List.mem_append_left _ z)
    · rw [List.mem_singleton.mp z]
      exact Pg.ok_app (h.ok p (by simp)) ⟨hl, trivial⟩
  · intro i q hq
    by_cases c : i < qs.length
    · rw [List.getElem?_append_left c] at hq
      exact h.dep i q (by rw [List.getElem?_append_left c]; exact hq)
    · rw [List.getElem?_append_right (by omega)] at hq
      have e0 : i - qs.length = 0 := by
        cases z : i - qs.length with
        | zero => rfl
        | succ k => rw [z] at hq; simp at hq
      rw [e0] at hq
      have e1 : p.app (.seq l .nil) = q := Option.some.inj hq
      have := h.dep i p (by rw [List.getElem?_append_right (by omega), e0]; rfl)
      rw [← e1, Pg.depth_app]
      simp only [Pg.depth]
      omega
theorem PSt.push {H0 H : Hp} {o n : Addr} {as : List Addr} {ps : List Pg} (h : PSt H0 H o as ps) (hn : H n = none) (hd : as.length ≤ 20) :
    PSt H0 (upd (upd H n (.lst [])) o (.lst ((as ++ [n]).map V.ref))) o (as ++ [n]) (ps ++ [.nil]) := by
  have h0n : H0 n = none := h.same.free hn
  have hno : n ≠ o := fun e => by rw [e, h.lo] at hn; cases hn
  have hna : ∀ a ∈ as, a ≠ n := fun a ha e => by
    obtain ⟨p, us, z, _⟩ := Paired.left h.rep ha
    rw [e, hn] at z; cases z
  have keep : ∀ b u, H b = some u → ¬ b ∈ o :: as → upd (upd H n (.lst [])) o (.lst ((as ++ [n]).map V.ref)) b = some u := fun b u e m => by
    rw [upd_ne (fun z => m (by simp [z])), upd_ne (ne_of_none e hn)]; exact e
  have conv : ∀ (q : Pg) (ws : List V), RepL (XS H0 (o :: as)) H ws q → RepL (XS H0 (o :: (as ++ [n]))) (upd (upd H n (.lst [])) o (.lst ((as ++ [n]).map V.ref))) ws q := fun q ws r =>
    (r.fresh (X' := XS H0 (o :: (as ++ [n]))) hn (fun a z => by
      rcases z with z | z
      · have : a ∈ o :: as ∨ a = n := by simpa [or_assoc] using z
        exact this.imp .inl id
      · exact .inl (.inr z))).mono (fun _ z => z) fun b u e m => keep b u e fun z => m (.inl (by
      rcases List.mem_cons.mp z with z | z
      · simp [z]
      · simp [z]))
  refine ⟨fun b u e => ?_, h.fo, ?_, upd_same, ?_, Paired.snoc (Paired.mapP_mem h.rep ?_) ⟨[], by rw [upd_ne hno, upd_same], rfl⟩, ?_, ?_⟩
  · rw [upd_ne (ne_of_none e h.fo), upd_ne (ne_of_none e h0n)]; exact h.same b u e
  · intro a ha
    rcases List.mem_append.mp ha with z | z
    · exact h.fas a z
    · rw [List.mem_singleton.mp z]; exact h0n
  · have := h.nd
    simp only [List.nodup_cons, List.nodup_append, List.mem_append, List.mem_singleton] at this ⊢
    refine ⟨fun z => z.elim this.1 (fun e => hno e.symm), this.2, by simp, ?_⟩
    intro a ha b hb
    rw [hb]
    exact hna a ha
  · rintro a q ha ⟨ws, e, r⟩
    have nao : a ≠ o := by
      have := h.nd
      simp only [List.nodup_cons] at this
      exact fun z => this.1 (z ▸ ha)
    exact ⟨ws, by rw [upd_ne nao, upd_ne (hna a ha)]; exact e, conv q ws r⟩
  · intro q hq
    rcases List.mem_append.mp hq with z | z
    · exact h.ok q z
    · rw [List.mem_singleton.mp z]; trivial
  · intro i q hq
    have hl := h.len
    by_cases c : i < ps.length
    · rw [List.getElem?_append_left c] at hq
      exact h.dep i q hq
    · rw [List.getElem?_append_right (by omega)] at hq
      cases z : i - ps.length with
      | zero =>
        rw [z] at hq
        have e1 : Pg.nil = q := Option.some.inj hq
        rw [← e1]
        show 0 + i ≤ 20
        omega
      | succ k => rw [z] at hq; simp at hq
theorem PSt.pop {H0 H : Hp} {o t u n : Addr} {as : List Addr} {ps : List Pg} {k : Nat} (h : PSt H0 H o (as ++ [u, t]) ps) (hk : k ≤ 10 ^ 30) (hn : H n = none) :
    ∃ qs p r us, ps = qs ++ [r, p] ∧ H u = some (.lst us) ∧
      PSt H0 (upd (upd (upd H o (.lst ((as ++ [u]).map V.ref))) n (.tup [.ref t, .int (k : Int)])) u (.lst (us ++ [.ref n]))) o (as ++ [u]) (qs ++ [r.app (.rep p k .nil)]) := by
  have e0 : as ++ [u, t] = (as ++ [u]) ++ [t] := by simp
  have h' : Paired (fun a p => ∃ us, H a = some (.lst us) ∧ RepL (XS H0 (o :: (as ++ [u, t]))) H us p) ((as ++ [u]) ++ [t]) ps := by rw [← e0]; exact h.rep
  obtain ⟨qs', p, e1, h1, ts, ht, rt⟩ := Paired.snoc_inv h'
  obtain ⟨qs, r, e2, h2, us, hu, ru⟩ := Paired.snoc_inv h1
  have ep : ps = qs ++ [r, p] := by rw [e1, e2]; simp
  have nd := h.nd
  simp only [List.nodup_cons, List.nodup_append, List.mem_append, List.mem_cons, List.not_mem_nil, or_false] at nd
  have hou : o ≠ u := fun e => nd.1 (.inr (.inl e))
  have hot : o ≠ t := fun e => nd.1 (.inr (.inr e))
  have hut : u ≠ t := nd.2.2.1.1
  have hno : n ≠ o := fun e => by rw [e, h.lo] at hn; cases hn
  have hnu : n ≠ u := fun e => by rw [e, hu] at hn; cases hn
  have hnt : n ≠ t := fun e => by rw [e, ht] at hn; cases hn
  have h0n : H0 n = none := h.same.free hn
  have keep : ∀ b v, H b = some v → ¬ XS H0 (o :: (as ++ [u, t])) b → upd (upd (upd H o (.lst ((as ++ [u]).map V.ref))) n (.tup [.ref t, .int (k : Int)])) u (.lst (us ++ [.ref n])) b = some v := fun b v e m => by
    rw [upd_ne (fun z => m (.inl (by simp [z]))), upd_ne (ne_of_none e hn), upd_ne (fun z => m (.inl (by simp [z])))]; exact e
  have conv : ∀ (q : Pg) (ws : List V), RepL (XS H0 (o :: (as ++ [u, t]))) H ws q → RepL (XS H0 (o :: (as ++ [u]))) (upd (upd (upd H o (.lst ((as ++ [u]).map V.ref))) n (.tup [.ref t, .int (k : Int)])) u (.lst (us ++ [.ref n]))) ws q := fun q ws z =>
    z.mono (fun a m => m.imp (fun m => by
      rcases List.mem_cons.mp m with m | m
      · simp [m]
      · rcases List.mem_append.mp m with m | m
        · simp [m]
        · simp [List.mem_singleton.mp m]) id) keep
  refine ⟨qs, p, r, us, ep, hu, ⟨fun b v e => ?_, h.fo, ?_, ?_, ?_, Paired.snoc (Paired.mapP_mem h2 ?_) ?_, ?_, ?_⟩⟩
  · have m1 := ne_of_none e (h.fas u (by simp))
    rw [upd_ne m1, upd_ne (ne_of_none e h0n), upd_ne (ne_of_none e h.fo)]; exact h.same b v e
  · intro a ha
    exact h.fas a (by
      rcases List.mem_append.mp ha with z | z
      · simp [z]
      · simp [List.mem_singleton.mp z])
  · rw [upd_ne hou, upd_ne hno.symm, upd_same]
  · simp only [List.nodup_cons, List.nodup_append, List.mem_append, List.mem_cons, List.not_mem_nil, or_false]
    refine ⟨fun z => z.elim (fun z => nd.1 (.inl z)) (fun z => hou z), nd.2.1, by simp, ?_⟩
    intro a ha b hb
    exact nd.2.2.2 a ha b (.inl hb)
  · rintro a q ha ⟨ws, e, z⟩
    have nao : a ≠ o := fun e => nd.1 (.inl (e ▸ ha))
    have nau : a ≠ u := nd.2.2.2 a ha u (.inl rfl)
    have nan : a ≠ n := fun c => by rw [c, hn] at e; cases e
    exact ⟨ws, by rw [upd_ne nau, upd_ne nan, upd_ne nao]; exact e, conv q ws z⟩
  · refine ⟨_, upd_same, RepL.app (conv r us ru) ⟨n, t, ts, [], rfl, ?_, ?_, ?_, ?_, conv p ts rt, rfl⟩⟩
    · rw [upd_ne hnu, upd_same]
    · intro m
      rcases m with m | m
      case inr => exact m h0n
      rcases List.mem_cons.mp m with m | m
      · exact hno m
      · rcases List.mem_append.mp m with m | m
        · obtain ⟨q, ws, z, _⟩ := Paired.left h2 m
          rw [hn] at z; cases z
        · exact hnu (List.mem_singleton.mp m)
    · intro m
      rcases m with m | m
      case inr => exact m (h.fas t (by simp))
      rcases List.mem_cons.mp m with m | m
      · exact hot m.symm
      · rcases List.mem_append.mp m with m | m
        · exact nd.2.2.2 t m t (.inr rfl) rfl
        · exact hut (List.mem_singleton.mp m).symm
    · rw [upd_ne hut.symm, upd_ne hnt.symm, upd_ne hot.symm]; exact ht
  · intro q hq
    rcases List.mem_append.mp hq with z | z
    · exact h.ok q (by rw [ep]; simp [z])
    · rw [List.mem_singleton.mp z]
      exact Pg.ok_app (h.ok r (by rw [ep]; simp)) ⟨h.ok p (by rw [ep]; simp), hk, trivial⟩
  · intro i q hq
    by_cases c : i < qs.length
    · rw [List.getElem?_append_left c] at hq
      exact h.dep i q (by rw [ep, List.getElem?_append_left c]; exact hq)
    · rw [List.getElem?_append_right (by omega)] at hq
      have e3 : i - qs.length = 0 := by
        cases z : i - qs.length with
        | zero => rfl
        | succ k => rw [z] at hq; simp at hq
      rw [e3] at hq
      have e4 : r.app (.rep p k .nil) = q := Option.some.inj hq
      have d1 := h.dep i r (by rw [ep, List.getElem?_append_right (by omega), e3]; rfl)
      have d2 := h.dep (i + 1) p (by rw [ep, List.getElem?_append_right (by omega), show i + 1 - qs.length = 1 by omega]; rfl)
      rw [← e4, Pg.depth_app]
      simp only [Pg.depth]
      omega
theorem RepL.len {X : Addr → Prop} {H : Hp} : ∀ {p : Pg} {vs : List V}, RepL X H vs p → vs.length ≤ p.size
  | .nil, _, e => by
    have e' : _ = [] := e
    rw [e']; exact Nat.zero_le _
  | .seq l q, _, ⟨ws, e, r⟩ => by
    have := r.len
    rw [e, List.length_cons]
    simp only [Pg.size]; omega
  | .rep b k q, _, ⟨t, a, us, ws, e, e1, n1, n2, e2, r1, r2⟩ => by
    have := r2.len
    rw [e, List.length_cons]
    simp only [Pg.size]; omega
theorem span_cut {x : Str} {k : Nat} {cs : List Nat} (h : k ≤ x.cps.toList.length) : cutS x (some (k : Int)) (some ((k + ((x.cps.toList.drop k).takeWhile fun c => decide (c ∈ cs)).length : Nat) : Int)) = S ((x.cps.toList.drop k).takeWhile fun c => decide (c ∈ cs)) := by
  obtain ⟨l, rfl⟩ := S_ex x
  rw [S_cps] at h ⊢
  have hl := (List.takeWhile_prefix (l := l.drop k) fun c => decide (c ∈ cs)).length_le
  rw [List.length_drop] at hl
  rw [cut_within (by omega) (by omega), S_inj, Nat.add_sub_cancel_left]
  exact tw_take _ _
def NoDig (l : List Nat) : Prop := ∀ c ∈ l.head?, isDig c = false
def dstep (s : Int × Int) (c : Nat) : Int × Int :=
  let d := if c = 40 then s.1 + 1 else if c = 41 then s.1 - 1 else s.1
  (d, if s.2 < d then d else s.2)
def DepIn (n : Nat) (tx : List Nat) : Prop := ∀ d m : Int, d ≤ m → ∃ m', tx.foldl dstep (d, m) = (d, m') ∧ m ≤ m' ∧ (m' ≤ m ∨ m' ≤ d + n)
theorem DepIn.flat {l : List Nat} (n : Nat) (h : ∀ c ∈ l, c ≠ 40 ∧ c ≠ 41) : DepIn n l := by
  induction l with
  | nil => exact fun d m h => ⟨m, rfl, by omega, by omega⟩
  | cons c l ih =>
    intro d m hd
    obtain ⟨h1, h2⟩ := h c List.mem_cons_self
    have e : dstep (d, m) c = (d, m) := by
      simp only [dstep, if_neg h1, if_neg h2]
      rw [if_neg (by omega)]
    rw [List.foldl_cons, e]
    exact ih (fun c hc => h c (List.mem_cons_of_mem _ hc)) d m hd
theorem DepIn.app {n : Nat} {a b : List Nat} (ha : DepIn n a) (hb : DepIn n b) : DepIn n (a ++ b) := by
  intro d m hd
  obtain ⟨m1, e1, l1, u1⟩ := ha d m hd
  obtain ⟨m2, e2, l2, u2⟩ := hb d m1 (by omega)
  exact ⟨m2, by rw [List.foldl_append, e1, e2], by omega, by omega⟩
theorem DepIn.rep {n : Nat} {a b : List Nat} (ha : DepIn n a) (hb : ∀ c ∈ b, c ≠ 40 ∧ c ≠ 41) : DepIn (n + 1) (40 :: (a ++ 41 :: b)) := by
  intro d m hd
  have e0 : dstep (d, m) 40 = (d + 1, if m < d + 1 then d + 1 else m) := rfl
  have e1 : ∀ z : Int, dstep (d + 1, z) 41 = (d, if z < d then d else z) := fun z => by
    have : (d + 1 - 1 : Int) = d := by omega
    simp only [dstep, if_neg (show ¬ ((41 : Nat) = 40) by decide), if_true, this]
  obtain ⟨m1, f1, l1, u1⟩ := ha (d + 1) (if m < d + 1 then d + 1 else m) (by split <;> omega)
  obtain ⟨m2, f2, l2, u2⟩ := DepIn.flat 0 hb d (if m1 < d then d else m1) (by split <;> omega)
  refine ⟨m2, by rw [List.foldl_cons, e0, List.foldl_append, f1, List.foldl_cons, e1, f2], ?_, ?_⟩
  · split at l1 <;> split at l2 <;> omega
  · split at l1 <;> split at u2 <;> split at u1 <;> omega
theorem DepIn.mono {m n : Nat} {a : List Nat} (h : DepIn m a) (hm : m ≤ n) : DepIn n a := fun d z hd => by
  obtain ⟨m', e, l, u⟩ := h d z hd
  exact ⟨m', e, l, by omega⟩
theorem stp_asc {c : Nat} (h : c ∈ stp) : c < 128 := by
  have e : stp.all (fun c => decide (c < 128)) = true := by decide +kernel
  exact of_decide_eq_true (List.all_eq_true.mp e c h)
theorem stp_flat {c : Nat} (h : c ∈ stp) : c ≠ 40 ∧ c ≠ 41 := by
  have e : stp.all (fun c => decide (c ≠ 40 ∧ c ≠ 41)) = true := by decide +kernel
  exact of_decide_eq_true (List.all_eq_true.mp e c h)
structure Spells (n : Nat) (tx fl : List Nat) : Prop where
  go : ∀ rest f fs, fs.length + n ≤ 20 → NoDig rest → goF (tx ++ rest) (f :: fs) = goF rest ((f ++ fl) :: fs)
  nd : ∀ rest, NoDig rest → NoDig (tx ++ rest)
  ok : ∀ c ∈ fl, c ∈ stp
  dep : DepIn n tx
  asc : ∀ c ∈ tx, c < 128
theorem NoDig.nil : NoDig [] := fun c h => by cases h
theorem Spells.nil {n : Nat} : Spells n [] [] := ⟨fun rest f fs _ _ => by simp, fun rest h => h, fun c h => (List.not_mem_nil h).elim, DepIn.flat n fun c h => (List.not_mem_nil h).elim, fun c h => (List.not_mem_nil h).elim⟩
theorem Spells.mono {m n : Nat} {tx fl : List Nat} (h : Spells m tx fl) (hm : m ≤ n) : Spells n tx fl := ⟨fun rest f fs hl hd => h.go rest f fs (by omega) hd, h.nd, h.ok, h.dep.mono hm, h.asc⟩
theorem Spells.app {n : Nat} {t1 f1 t2 f2 : List Nat} (h1 : Spells n t1 f1) (h2 : Spells n t2 f2) : Spells n (t1 ++ t2) (f1 ++ f2) :=
  ⟨fun rest f fs hl hd => by rw [List.append_assoc, h1.go _ _ _ hl (h2.nd _ hd), h2.go _ _ _ hl hd, List.append_assoc],
   fun rest hd => by rw [List.append_assoc]; exact h1.nd _ (h2.nd _ hd),
   fun c hc => (List.mem_append.mp hc).elim (h1.ok c) (h2.ok c), h1.dep.app h2.dep, fun c hc => (List.mem_append.mp hc).elim (h1.asc c) (h2.asc c)⟩
theorem stp_dig {c : Nat} (h : c ∈ stp) : isDig c = false := by
  have e : stp.all (fun c => !isDig c) = true := by decide +kernel
  have := List.all_eq_true.mp e c h
  simpa using this
theorem Spells.steps {n : Nat} {l : List Nat} (h : ∀ c ∈ l, c ∈ stp) : Spells n l l :=
  ⟨fun rest f fs _ _ => goF_steps fun c hc => decide_eq_true (h c hc),
   fun rest hd => by
    cases l with
    | nil => exact hd
    | cons a l => intro c hc; cases hc; exact stp_dig (h _ List.mem_cons_self), h, DepIn.flat n fun c hc => stp_flat (h c hc), fun c hc => stp_asc (h c hc)⟩
theorem numL_zero : ∀ {k : Nat}, (TL.numL k).head? = some 48 → TL.numL k = [48] := by
  intro k
  induction k using Nat.strongRecOn with
  | _ k ih =>
    intro h
    by_cases c : k < 10
    · rw [TL.numL_lt c] at h ⊢
      simp at h
      subst h
      rfl
    · rw [TL.numL_step (by omega)] at h
      have h2 : (TL.numL (k / 10)).head? = some 48 := by
        cases e : TL.numL (k / 10) with
        | nil => exact absurd e (TL.numL_ne _)
        | cons a l => rw [e] at h; simpa using h
      have h3 := ih (k / 10) (by omega) h2
      have h4 := TL.numL_val (k / 10)
      rw [h3] at h4
      have h5 : NumText.digitsVal [48] = 0 := by decide +kernel
      omega
theorem okCount_num {k : Nat} (h : k ≤ 10 ^ 30) : okCount (TL.numL k) = true := by
  have h1 : (TL.numL k).length ≤ 31 := TL.numL_len (by decide) (Nat.lt_of_le_of_lt h (by decide))
  have h2 : dval (TL.numL k) = k := TL.numL_val k
  have h3 : (decide ((TL.numL k).head? = some 48) && decide (TL.numL k ≠ [48])) = false := by
    by_cases c : (TL.numL k).head? = some 48
    · have : TL.numL k = [48] := numL_zero c
      simp [this]
    · simp [c]
  unfold okCount
  rw [h3, h2]
  simp [TL.numL_ne, h1, h]
theorem tw_num (k : Nat) {rest : List Nat} (h : NoDig rest) : (TL.numL k ++ rest).takeWhile isDig = TL.numL k ∧ (TL.numL k ++ rest).dropWhile isDig = rest := by
  have hd : ∀ c ∈ TL.numL k, isDig c = true := fun c hc => (isDig_iff c).mpr (TL.numL_digits k c hc)
  have hr : rest.takeWhile isDig = [] ∧ rest.dropWhile isDig = rest := by
    cases rest with
    | nil => exact ⟨rfl, rfl⟩
    | cons a l =>
      have := h a rfl
      simp [this]
  constructor
  · rw [List.takeWhile_append_of_pos hd, hr.1, List.append_nil]
  · rw [List.dropWhile_append_of_pos hd, hr.2]
theorem Spells.rep {n : Nat} {tx fl : List Nat} (h : Spells n tx fl) {k : Nat} (hk : k ≤ 10 ^ 30) : Spells (n + 1) (40 :: (tx ++ 41 :: TL.numL k)) (List.replicate k fl).flatten := by
  refine ⟨fun rest f fs hl hd => ?_, fun rest hd c hc => ?_, fun c hc => ?_, h.dep.rep fun c hc => ?_, fun c hc => ?_⟩
  · obtain ⟨e1, e2⟩ := tw_num k hd
    rw [List.cons_append, List.append_assoc, List.cons_append, goF_open, if_pos (by omega), h.go _ _ _ (by simp; omega) (fun c hc => by cases hc; decide +kernel), goF_close, e1, e2, if_pos (okCount_num hk), show dval (TL.numL k) = k from TL.numL_val k]
    simp
  · cases hc
    decide +kernel
  · obtain ⟨l, hl, hc⟩ := List.mem_flatten.mp hc
    rw [(List.mem_replicate.mp hl).2] at hc
    exact h.ok c hc
  · have := TL.numL_digits k c hc
    omega
  · rcases List.mem_cons.mp hc with z | z
    · omega
    · rcases List.mem_append.mp z with z | z
      · exact h.asc c z
      · rcases List.mem_cons.mp z with z | z
        · omega
        · have := TL.numL_digits k c z
          omega
theorem Spells.prog {n : Nat} {tx fl : List Nat} (h : Spells n tx fl) (hn : n ≤ 20) : progF tx = some fl := by
  have := h.go [] [] [] (by simpa using hn) NoDig.nil
  rw [List.append_nil] at this
  rw [progF, this, List.nil_append, goF.eq_def]
def progV (v : V) : Option (List Nat) := match v with
  | .str x => progF x.cps.toList
  | _ => none
def progPV (v : V) : Option Pg := match v with
  | .str x => progP x.cps.toList
  | _ => none
theorem progPV_S (l : List Nat) : progPV (.str (S l)) = progP l := by rw [progPV, S_cps]
theorem progV_S (l : List Nat) : progV (.str (S l)) = progF l := by rw [progV, S_cps]
theorem strOk_asc {l : List Nat} (h : ∀ c ∈ l, c < 128) : PyData.strOk (S l) = true := by
  show l.toArray.all _ = true
  rw [List.all_toArray, List.all_eq_true]
  exact fun c hc => decide_eq_true (by have := h c hc; omega)
theorem strOk_S {l : List Nat} (h : ∀ c ∈ l, c ∈ stp) : PyData.strOk (S l) = true := strOk_asc fun c hc => stp_asc (h c hc)
end Q
namespace PySem
namespace QX
open PySem.W PySem.Calls PyProof.Rows PySem.HandSPX
open Builtin Builtin.ObjectAttr
section
variable {prog : Program} {w : World} {A : Around} {E : Value → Shared → Prop} {R : Result → Shared → Prop} {hp : Heap} {g : Array GenState} {d : Drawn} {t : Nat} {os : OsState}
theorem osaG {K : W.Frag} {B : String} {bmB : List Value} {name : Str} {tk : Tok} {v : Value} {x C : Addr} {fv : Array Value} (SF : StoreFacts B bmB "object.__setattr__" "object")
    (X : K.In hp) (hx : hp.get? x = some { cls := .ref C, data := .fields fv }) (ho : excOver K C bmB = true) (hh : hasDictIn K C = true) (ht : takerIn K C name = some none)
    (hq : ∀ h' tk' dx, (∀ b o, b ≠ x → hp.get? b = some o → h'.get? b = some o) → hp.objs.size ≤ dx → dx ≠ x → h'.get? x = some { cls := .ref C, dict := some dx, data := .fields fv } →
      h'.Ns1 dx (fun y => if y = name then some v else none) → R (.ok (.ret .none)) ⟨h', g, d, tk', os⟩) :
    codeAny (model prog w) A (.call (.builtin "object.__setattr__") ⟨[.ref x, .str name tk, v], []⟩) R ⟨hp, g, d, t, os⟩ := by
  have hxs : x ≠ hp.objs.size := Nat.ne_of_lt (Heap.lt_size hx)
  have I0 : W.InstAt hp x { cls := .ref C, data := .fields fv } C none := ⟨hx, rfl, rfl, trivial⟩
  obtain ⟨cd, hc, hd⟩ := any_some (show (clsIn K C).any (·.hasDict) = true from hh)
  have Lc : W.Looks (model prog w) hp (classData C) cd := W.looks_clsIn X hc
  refine osa_openX SF X I0 ho ht fun b => ?_
  obtain ⟨nm, bs, mro, ns, qn, hd', sn, sb, ab, col, del⟩ := cd
  have hd2 : hd' = true := hd
  subst hd2
  unfold storeInOwnDict ownDictForStores
  repeat (first | with_reducible refine store_in_new ?_ ?_ | with_reducible refine wpAny_loadPart_at hx ?_ | with_reducible refine Lc.at ?_ | wp_step)
  · exact ⟨_, #[], _, (Heap.get?_update_ne _ _ _ _ hxs.symm).trans (Heap.get?_push_at rfl rfl), rfl, fun e he => absurd he (by simp), fun _ => rfl⟩
  · intro h' tk' hn' hs
    have hx1 : (hp.push { cls := .type "dict", data := .dict #[] }).get? x = some { cls := .ref C, data := .fields fv } := Heap.get?_push_of_some _ hx
    refine hq h' tk' hp.objs.size (fun c o hb hc => ?_) (Nat.le_refl _) hxs.symm ?_ hn'
    · exact (hs.2 c (Nat.ne_of_lt (Heap.lt_size hc))).trans ((Heap.get?_update_ne _ _ _ _ hb).trans (Heap.get?_push_of_some _ hc))
    · exact (hs.2 x hxs).trans (Heap.get?_update_self _ hx1 rfl)
end
structure XTxt (K : Frag) (C fI : Addr) (fld : Str) (bmB : List Value) (newId : String) : Prop where
  ini : excInitIn K C bmB newId = true
  ovr : excOver K C bmB = true
  tkr : takerIn K C fld = some none
  hd : hasDictIn K C = true
  sa : findIn K (.ref C) "__setattr__" = some (some (.builtin "object.__setattr__"))
  ga : findIn K (.ref C) "__getattribute__" = some (some (.builtin "BaseException.__getattribute__"))
  gg : findIn K (.ref C) "__getattr__" = some none
  no : findIn K (.ref C) fld = some none
  iC : findIn K (.ref C) "__init__" = some (some (.ref fI))
  tI : typeIn K (.ref fI) = some (.type "function")
  kC : keepIn K (.ref C) = true
  exC : subIn K (.ref C) (.type "BaseException") = some true
  tyC : typeIn K (.ref C) = some (.type "type")
  fnI : isFn K (.ref fI) = true
structure InitEnd (fld : Str) (h h' : Heap) (x C dx t1 : Addr) (v : Value) : Prop where
  keep : ∀ b o, b ≠ x → h.get? b = some o → h'.get? b = some o
  obj : h'.get? x = some { cls := .ref C, dict := some dx, data := .fields #[.ref t1, .none, .none, .none, .bool false, .none] }
  dbig : h.objs.size ≤ dx
  dne : dx ≠ x
  ns : h'.Ns1 dx (fun y => if y = fld then some v else none)
structure Made1 (fld : Str) (h h' : Heap) (e C d : Addr) (v : Value) : Prop where
  keep : ∀ b o, h.get? b = some o → h'.get? b = some o
  new : h.objs.size ≤ e
  obj : ∃ oe vs, h'.get? e = some oe ∧ oe.cls = .ref C ∧ oe.dict = some d ∧ oe.data = .fields vs ∧ vs[1]? = some .none
  dbig : h.objs.size ≤ d
  dne : d ≠ e
  ns : h'.Ns1 d (fun y => if y = fld then some v else none)
  ctx : ∀ oe vs, h'.get? e = some oe → oe.data = .fields vs → vs[2]? = some .none ∧ 4 < vs.size
theorem ldQ {M : Model} {s : Shared} {name : Str} {scope : Scope} {L a : Addr} {cd : Value} {m : Str → Option Value} {x : Str} {pos : Pos} {v : Value} {Q : Value → Shared → Prop} {A : Around} {E : Value → Shared → Prop} (hn : s.heap.Ns L m) (hv : m x = some v) (h : Q v s)
    (hk : scope.kind = .function := by rfl) (hl : (envOfC name scope L a cd).kindOf x = some .local := by rfl) (hd : (x == ("__debug__" : Str)) = false := by decide) :
    wpAny M A (eval (.Name x pos) (envOfC name scope L a cd)) Q E s := wpAny_Name (wpAny_loadName_local hk hl hn hv h) hd
def InitRuns (prog : Program) (w : World) (K : Frag) (C fI : Addr) (fld : Str) : Prop := ∀ (A : Around) (R : Result → Shared → Prop) (s : Shared) (x t0 : Addr) (v : Value), K.In s.heap → s.heap.NoLimit → s.heap.get? x = some (excO C t0) → K.lookup x = none → A.depth < recursionLimit →
  (∀ h' tk dx, InitEnd fld s.heap h' x C dx t0 v → R (.ok (.ret .none)) { s with heap := h', toks := tk }) → codeAny (model prog w) A (.call (.ref fI) ⟨[.ref x, v], []⟩) R s
section
variable {prog : Program} {w : World} {A : Around} {E : Value → Shared → Prop} {R : Result → Shared → Prop} {s : Shared} {K : Frag} {C fI : Addr} {fld : Str} {bmB : List Value} {newId initId B : String}
theorem made1 (FB : ExcBaseFacts B newId initId bmB) (T : XTxt K C fI fld bmB newId) (hI : InitRuns prog w K C fI fld) {v : Value} (X : K.In s.heap) (hlim : s.heap.NoLimit) (hroom : A.depth + 1 < recursionLimit)
    (hq : ∀ h' tk e d, Made1 fld s.heap h' e C d v → R (.ok (.ret (.ref e))) { s with heap := h', toks := tk }) :
    codeAny (model prog w) A (.call (.ref C) ⟨[v], []⟩) R s := by
  obtain ⟨nm, N, q, bs, bm, hdct, sn, sub, ab, col, dd, k0, k1, k2, k3, k5, hC, hT⟩ := excInit_of X T.ini
  obtain ⟨hp, g, dr, tk, os⟩ := s
  have k : ∀ b o, hp.get? b = some o → ((hp.push (kdv_tup [v])).push (excO C hp.objs.size)).get? b = some o := fun b o e => Heap.get?_push_of_some _ (Heap.get?_push_of_some _ e)
  have hget : ((hp.push (kdv_tup [v])).push (excO C hp.objs.size)).get? (hp.objs.size + 1) = some (excO C hp.objs.size) := by heap_get
  have hnx : K.lookup (hp.objs.size + 1) = none := by
    cases e : K.lookup (hp.objs.size + 1) with
    | none => rfl
    | some o =>
      have z : hp.get? (hp.objs.size + 1) = some o := X _ _ e
      exact absurd (Nat.lt_of_succ_lt (Heap.lt_size z)) (Nat.lt_irrefl _)
  have one : [v].length ≤ sizeLine := by rw [sizeLine_eq]; exact (by decide : 1 ≤ 16777216)
  refine call_own FB hT hC (looks_findIn X T.iC) (fun self => bind_fn X self T.tI) one ?_
  refine hI _ _ ⟨(hp.push (kdv_tup [v])).push (excO C hp.objs.size), g, dr, tk, os⟩ (hp.objs.size + 1) hp.objs.size v (X.keeps k) (hlim.keeps k) hget hnx ?_ fun h' tk' dx ⟨k', hx, dn, dne, hns⟩ => ?_
  · show A.depth + 1 < recursionLimit
    exact hroom
  · have old : ∀ b o, hp.get? b = some o → h'.get? b = some o := fun b o e => k' b o (Nat.ne_of_lt (Nat.lt_succ_of_lt (Heap.lt_size e))) (k b o e)
    have z : hp.objs.size + 1 + 1 ≤ dx := by
      first
        | (simpa only [Heap.size_push] using dn)
        | exact dn
        | (have q := dn; rw [Heap.size_push, Heap.size_push] at q; exact q)
    exact ⟨rfl, hq h' tk' (hp.objs.size + 1) dx ⟨old, Nat.le_succ _, ⟨_, _, hx, rfl, rfl, rfl, rfl⟩, Nat.le_trans (Nat.le_trans (Nat.le_succ _) (Nat.le_succ _)) z, dne, hns, fun oe vs e1 e2 => by
      rw [hx] at e1
      cases e1
      cases e2
      exact ⟨rfl, show 4 < 6 by decide⟩⟩⟩
end
end QX
end PySem
namespace Q
open PySem PySem.Spec PyProof.Rows L2
theorem relO_one {fld : Str} {v : V} {v' : Value} (r : RelV v v') (f : Str) : RelO (List.lookup f [(fld, v)]) (if f = fld then some v' else none) := by
  by_cases hw : f = fld
  · subst hw
    rw [if_pos rfl]
    have q : List.lookup f [(f, v)] = some v := by simp [List.lookup]
    rw [q]
    exact r
  · rw [if_neg hw]
    have qw : (f == fld) = false := by simpa using hw
    have q2 : List.lookup f [(fld, v)] = none := by simp [List.lookup, qw]
    rw [q2]
    trivial
section
variable {X : Cx} {C fI : Addr} {cn fld : Str} {bmB : List Value} {newId initId B : String}
def tMk1 (C : Addr) (fld : Str) (ta : TA) : St → Hp → XK → Prop := fun σ H Q => ta σ H fun vs H1 => ∃ v, vs = [v] ∧ ∀ d, H1 d = none → Q (.ref C) (some d) (upd H1 d (.xd [(fld, v)]))
theorem pmk_1 {a : Expr} {ta : TA} {p pos : Pos} {k : Nat} (FB : ExcBaseFacts B newId initId bmB) (T : PySem.QX.XTxt X.K C fI fld bmB newId) (hI : PySem.QX.InitRuns X.prog X.w X.K C fI fld) (gC : X.mg cn = some (.ref C)) (hr : Room k X.A) (hg : Gl X cn) (ha : PA X [a] ta)
    (hdb : (cn == ("__debug__" : Str)) = false := by decide) (he : starEach (a :: []) X.env = (false, eval a X.env) :: starEach [] X.env := by rfl) (hpl : (backTo pos (starEach [] X.env)).any (·.1) = false := by rfl) :
    PMk X (.Call (.Name cn p) [a] [] pos) (tMk1 C fld ta) := by
  intro pins s σ H Q I h
  refine wpAny_Call_Name_kw (ld_glob I hg gC ?_ hdb)
  refine PySem.W.callWith_K (h₀ := X.base) I.ok.mod.kin T.kC (thn (ha.run pos pins s σ H _ I h) fun us s1 hh => ?_) he hpl
  obtain ⟨vs, H1, I1, r1, v, ev, q1⟩ := hh
  subst ev
  refine ⟨I1.kIn, ?_⟩
  cases r1 with
  | cons rv rn =>
    rename_i v' us'
    cases rn
    show wpAny _ _ (call (.ref C) [v']) _ _ _
    have hlim := I1.nolimit
    obtain ⟨hp, g, dr, tk, os⟩ := s1
    refine wpAny_call (PySem.QX.made1 FB T hI I1.kIn hlim (by have := hr.dp; omega) fun h' tk' e d M => ?_)
    show MkP X pins σ Q (.ref e) ⟨h', g, dr, tk', os⟩
    obtain ⟨oe, fv, hoe, hc, hd, hdat, h1⟩ := M.obj
    have hns := M.ns
    obtain ⟨G', g1, g2⟩ := restrict h' fun b => decide (b ≠ e)
    have gk : ∀ b, b ≠ e → G'.get? b = h'.get? b := fun b hb => g1 b (decide_eq_true hb)
    have ge : G'.get? e = none := g2 e (by simp)
    have old : ∀ b o, hp.get? b = some o → G'.get? b = some o := fun b o q => (gk b (Nat.ne_of_lt (Nat.lt_of_lt_of_le (Heap.lt_size q) M.new))).trans (M.keep b o q)
    have ob : ObjOk X.prog X.w (upd H1 d (.xd [(fld, v)])) G' d (.xd [(fld, v)]) := ⟨_, hns.at (fun o q => (gk d M.dne).trans q), fun f => relO_one rv f⟩
    have J : Inv X pins σ (upd H1 d (.xd [(fld, v)])) ⟨G', g, dr, tk', os⟩ := I1.laid (t' := tk') old M.dbig ob
    refine ⟨e, oe, fv, ⟨G', g, dr, tk', os⟩, _, .ref C, some d, rfl, J, fun b o q => ?_, ge, hoe, ⟨hc, hd⟩, hdat, h1, ?_, rfl, I1.bare, raises_own T.exC T.tyC, q1 d (I1.hok.fresh M.dbig)⟩
    · by_cases hb : b = e
      · have q' : G'.get? b = some o := q
        rw [hb, ge] at q'; cases q'
      · exact (gk b hb).symm.trans q
    · rw [upd_ne (Ne.symm M.dne)]
      exact I1.hok.fresh M.new
def tBy1 (C : Addr) (fld : Str) (a : Addr) (cls : Value) (d : Option Addr) (te : TE) : TE := fun σ H Q => te σ H fun x H1 => x = .ref a ∧ cls = .ref C ∧ ∃ (dd : Addr) (v : V), d = some dd ∧ H1 dd = some (.xd [(fld, v)]) ∧ Q v H1
end
def x1B (cn fld : Str) (bmB : List Value) (newId : String) (K : PySem.W.Frag) : Bool :=
  PySem.W.excInitIn K (He.ga K cn) bmB newId && (PySem.W.excOver K (He.ga K cn) bmB && (decide (PySem.W.takerIn K (He.ga K cn) fld = some none) && (PySem.W.hasDictIn K (He.ga K cn) && (He.eqO (PySem.W.findIn K (.ref (He.ga K cn)) "__setattr__") (some (some (.builtin "object.__setattr__"))) &&
  (He.eqO (PySem.W.findIn K (.ref (He.ga K cn)) "__getattribute__") (some (some (.builtin "BaseException.__getattribute__"))) && (He.eqO (PySem.W.findIn K (.ref (He.ga K cn)) "__getattr__") (some none) && (He.eqO (PySem.W.findIn K (.ref (He.ga K cn)) fld) (some none) &&
  (He.eqO (PySem.W.findIn K (.ref (He.ga K cn)) "__init__") (some (some (.ref (He.ma K (He.ga K cn) "__init__")))) && (decide (PySem.W.typeIn K (.ref (He.ma K (He.ga K cn) "__init__")) = some (.type "function")) && (PySem.W.keepIn K (.ref (He.ga K cn)) &&
  (decide (PySem.W.subIn K (.ref (He.ga K cn)) (.type "BaseException") = some true) && (decide (PySem.W.typeIn K (.ref (He.ga K cn)) = some (.type "type")) && PySem.W.isFn K (.ref (He.ma K (He.ga K cn) "__init__"))))))))))))))
theorem x1B_ok {K : PySem.W.Frag} {cn fld : Str} {bmB : List Value} {newId : String} (h : x1B cn fld bmB newId K = true) : PySem.QX.XTxt K (He.ga K cn) (He.ma K (He.ga K cn) "__init__") fld bmB newId := by
  obtain ⟨c1, h⟩ := He.ba h
  obtain ⟨c2, h⟩ := He.ba h
  obtain ⟨c3, h⟩ := He.ba h
  obtain ⟨c4, h⟩ := He.ba h
  obtain ⟨c5, h⟩ := He.ba h
  obtain ⟨c6, h⟩ := He.ba h
  obtain ⟨c7, h⟩ := He.ba h
  obtain ⟨c8, h⟩ := He.ba h
  obtain ⟨c9, h⟩ := He.ba h
  obtain ⟨c10, h⟩ := He.ba h
  obtain ⟨c11, h⟩ := He.ba h
  obtain ⟨c12, h⟩ := He.ba h
  obtain ⟨c13, c14⟩ := He.ba h
  exact ⟨c1, c2, of_decide_eq_true c3, c4, He.eqO_ok c5, He.eqO_ok c6, He.eqO_ok c7, He.eqO_ok c8, He.eqO_ok c9, of_decide_eq_true c10, c11, of_decide_eq_true c12, of_decide_eq_true c13, c14⟩
end Q
namespace PySem
namespace QX
open PySem.W PySem.Calls PyProof.Rows PySem.HandSPX
open Builtin Builtin.ObjectAttr
section
variable {prog : Program} {w : World} {A : Around} {E : Value → Shared → Prop} {R : Result → Shared → Prop} {hp : Heap} {g : Array GenState} {d : Drawn} {t : Nat} {os : OsState}
end
structure InitEnd2 (f1 f2 : Str) (h h' : Heap) (x C dx t1 : Addr) (v1 v2 : Value) : Prop where
  keep : ∀ b o, b ≠ x → h.get? b = some o → h'.get? b = some o
  obj : h'.get? x = some { cls := .ref C, dict := some dx, data := .fields #[.ref t1, .none, .none, .none, .bool false, .none] }
  dbig : h.objs.size ≤ dx
  dne : dx ≠ x
  ns : h'.Ns1 dx (fun y => if y = f2 then some v2 else if y = f1 then some v1 else none)
structure Made2 (f1 f2 : Str) (h h' : Heap) (e C d : Addr) (v1 v2 : Value) : Prop where
  keep : ∀ b o, h.get? b = some o → h'.get? b = some o
  new : h.objs.size ≤ e
  obj : ∃ oe vs, h'.get? e = some oe ∧ oe.cls = .ref C ∧ oe.dict = some d ∧ oe.data = .fields vs ∧ vs[1]? = some .none
  dbig : h.objs.size ≤ d
  dne : d ≠ e
  ns : h'.Ns1 d (fun y => if y = f2 then some v2 else if y = f1 then some v1 else none)
def InitRuns2 (prog : Program) (w : World) (K : Frag) (C fI : Addr) (f1 f2 : Str) : Prop := ∀ (A : Around) (R : Result → Shared → Prop) (s : Shared) (x t0 : Addr) (v1 v2 : Value), K.In s.heap → s.heap.NoLimit → s.heap.get? x = some (excO C t0) → K.lookup x = none → A.depth < recursionLimit →
  (∀ h' tk dx, InitEnd2 f1 f2 s.heap h' x C dx t0 v1 v2 → R (.ok (.ret .none)) { s with heap := h', toks := tk }) → codeAny (model prog w) A (.call (.ref fI) ⟨[.ref x, v1, v2], []⟩) R s
section
variable {prog : Program} {w : World} {A : Around} {E : Value → Shared → Prop} {R : Result → Shared → Prop} {s : Shared} {K : Frag} {C fI : Addr} {f1 f2 : Str} {bmB : List Value} {newId initId B : String}
end
end QX
end PySem
namespace Q
open PySem PySem.Spec PyProof.Rows L2
section
variable {X : Cx} {C fI : Addr} {cn f1 f2 fld : Str} {bmB : List Value} {newId initId B : String}
def tMk2 (C : Addr) (f1 f2 : Str) (ta : TA) : St → Hp → XK → Prop := fun σ H Q => ta σ H fun vs H1 => ∃ v1 v2, vs = [v1, v2] ∧ ∀ d, H1 d = none → Q (.ref C) (some d) (upd H1 d (.xd [(f1, v1), (f2, v2)]))
def tByN (C : Addr) (fld : Str) (a : Addr) (cls : Value) (d : Option Addr) (te : TE) : TE := fun σ H Q => te σ H fun x H1 => x = .ref a ∧ cls = .ref C ∧ ∃ (dd : Addr) (fs : List (Str × V)) (v : V), d = some dd ∧ H1 dd = some (.xd fs) ∧ fs.lookup fld = some v ∧ Q v H1
end
end Q
namespace Q
open PySem PySem.Spec PyProof.Rows L2
structure Five where
  p : Int
  t : Int
  l : Int
  h : Int
  f : Int
deriving DecidableEq
def Five.vs (F : Five) : List V := [.int F.p, .int F.t, .int F.l, .int F.h, .int F.f]
def mx (a b : Int) : Int := if a < b then b else a
def mn (a b : Int) : Int := if b < a then b else a
def Five.join (F G : Five) : Five := ⟨F.p + G.p, F.t + G.t, mn F.l (F.p - F.t + G.l), mx F.h (F.p - F.t + G.h), mx (mx F.f G.f) (F.h - (F.p - F.t) - G.l)⟩
def Five.none : Five := ⟨0, 0, 0, 0, 0⟩
structure Five.Good (F : Five) : Prop where
  l : F.l ≤ 0
  h : 0 ≤ F.h
  f : 0 ≤ F.f
  f1 : -F.l ≤ F.f
  f2 : F.h - (F.p - F.t) ≤ F.f
  lo : F.l ≤ F.p - F.t
  ho : F.p - F.t ≤ F.h
  p0 : 0 ≤ F.p
  t0 : 0 ≤ F.t
def Five.pow (F : Five) : Nat → Five
  | 0 => Five.none
  | n + 1 => F.join (F.pow n)
def stepF (c : Nat) : Five := if c = 45 then ⟨0, 1, -1, 0, 1⟩ else ⟨1, 0, 0, 1, 0⟩
def fiveF : List Nat → Five
  | [] => Five.none
  | c :: l => (stepF c).join (fiveF l)
def rangeF (F : Five) (c : Int) (strict : Bool) : Option (Int × Int) :=
  if strict = true then (if F.h - F.l ≤ c then some (-F.l, c - F.h) else none) else (if F.f ≤ c then some (-F.l, c) else none)
def isStrict (z : Str) : Bool := decide (z = "strict")
def modeZ (v : V) : Bool := match v with
  | .str z => isStrict z
  | _ => false
def runs (F : Five) (c : Int) (strict : Bool) (n : Int) : Bool := match rangeF F c strict with
  | none => false
  | some (x, y) => decide (x ≤ n) && decide (n ≤ y)
def endF (F : Five) (c n : Int) : Int := if c + (F.p - F.t) - F.h < n + (F.p - F.t) then c + (F.p - F.t) - F.h else n + (F.p - F.t)
def lostF (F : Five) (c n : Int) : Int := if 0 < n + F.h - c then n + F.h - c else 0
end Q
namespace PySem
open Sem (wp)
open AutoSeq1 (wpAny_loadPart')
set_option maxRecDepth 100000
theorem meets_enumerate_newT (l : Addr) (items : Array Value) (n : Nat) (dct : Option Addr) (sl : Array (Option Value)) :
    Meets (Builtin.«enumerate.__new__» ⟨[.type "enumerate", .ref l], []⟩) (fun _ R s => s.heap.get? l = some { cls := .type "tuple", dict := dct, data := .seq items n, slots := sl } ∧
      R (.ok (.ret (.ref (s.heap.push { cls := .type "tuple_iterator", data := .fields #[.ref l, .int 0 0] }).objs.size)))
        { s with heap := (s.heap.push { cls := .type "tuple_iterator", data := .fields #[.ref l, .int 0 0] }).push { cls := .type "enumerate", data := .fields #[.none, .bool false, .ref s.heap.objs.size, rawInt 0, .none, .none] } }) :=
  .of_wp fun prog w A R s h => by
    obtain ⟨hp, g, d, tk, os⟩ := s; obtain ⟨hl, h⟩ := h
    have hsub := sub_enumerate
    have hL : Heap.IsTuple (Shared.heap ⟨hp, g, d, tk, os⟩) l items := ⟨_, hl, rfl, n, rfl⟩
    wp_walk using wpAny_loadPart' hl
    refine wpAny_stack_any fun st => wpAny_pure ?_
    split
    · rename_i c _ _ _ _ _
      cases (c == Value.type "enumerate")
      · wp_walk using wpAny_loadPart' hl, wpAny_pyIter_tuple hL
        exact ⟨_, rfl, h⟩
      · wp_walk using wpAny_loadPart' hl, wpAny_pyIter_tuple hL
        exact ⟨_, rfl, h⟩
    · wp_walk using wpAny_loadPart' hl, wpAny_pyIter_tuple hL
      exact ⟨_, rfl, h⟩
section
variable {prog : Program} {w : World} {A : Around} {E : Value → Shared → Prop} {s : Shared}
theorem call_enumerate_tuple {l : Addr} {items : Array Value} {Q : Value → Shared → Prop} (hL : s.heap.IsTuple l items)
    (h : ∀ h', IsEnum h' (s.heap.objs.size + 1) s.heap.objs.size 0 .none → h'.IsTupleIter s.heap.objs.size l 0 → h'.objs.size = s.heap.objs.size + 2 →
      (∀ b o, s.heap.get? b = some o → h'.get? b = some o) → Q (.ref (s.heap.objs.size + 1)) { s with heap := h' }) :
    wpAny (model prog w) A (call (.type "enumerate") [.ref l]) Q E s := by
  obtain ⟨⟨c, dct, dt, sl⟩, hl, hc, n, hd⟩ := hL
  replace hc : c = .type "tuple" := hc
  replace hd : dt = .seq items n := hd
  subst hc hd
  refine callType_new F.called_enumerate (by decide) (F.typeCall_enumerate_1 _) (F.newCall_enumerate_1 _) (fun obj => F.args_object_init_2 obj _) F.entry_enumerate_new
    (meets_enumerate_newT l items n dct sl) ⟨hl, ?_⟩
  have hz : (s.heap.push { cls := .type "tuple_iterator", data := .fields #[.ref l, .int 0 0] }).objs.size = s.heap.objs.size + 1 := Heap.size_push ..
  show _ ∧ _
  rw [hz]
  have he : IsEnum ((s.heap.push { cls := .type "tuple_iterator", data := .fields #[.ref l, .int 0 0] }).push
      { cls := .type "enumerate", data := .fields #[.none, .bool false, .ref s.heap.objs.size, rawInt 0, .none, .none] }) (s.heap.objs.size + 1) s.heap.objs.size 0 .none := by
    have := Heap.get?_push_size (s.heap.push { cls := .type "tuple_iterator", data := .fields #[.ref l, .int 0 0] })
      (o := { cls := .type "enumerate", data := .fields #[.none, .bool false, .ref s.heap.objs.size, rawInt 0, .none, .none] }) rfl
    rw [hz] at this; exact this
  refine ⟨⟨_, he, rfl⟩, h _ he ⟨_, Heap.get?_push_of_some _ (Heap.get?_push_size _ rfl), rfl, rfl⟩ (by rw [Heap.size_push, hz]) fun b o x => Heap.get?_push_of_some _ (Heap.get?_push_of_some _ x)⟩
end
theorem drawsTuple {prog : Program} {w : World} {A : Around} (hh : A.handled = none) (it l : Addr) (hne : l ≠ it) (items : Array Value) :
    Draws prog w A it [it, l] items.size (fun i v => items[i]? = some v) (fun i h => h.IsTupleIter it l i ∧ h.IsTuple l items) where
  live := fun _ _ st => let ⟨o, ho, _⟩ := st.1; ⟨o, ho⟩
  frame := fun _ _ _ st hk => ⟨st.1.at fun o e => hk it (by simp) o e, st.2.at fun o e => hk l (by simp) o e⟩
  item := fun i s Q E hi st hQ => by
    refine RZ.nextOf_tuple_item st.1 st.2 (x := items[i]) (by simp [hi]) fun h' hit' hs' => ?_
    exact hQ _ h' s.toks (by simp [hi]) ⟨hit', st.2.at fun o e => hs'.extBut l o hne e⟩ hs'
  done := fun s Q E st hE => RZ.nextOf_tuple_end hh st.1 st.2 (by simp) hE
section
variable {prog : Program} {w : World} {A : Around} {E : Value → Shared → Prop} {s : Shared}
theorem enumT_end {e it l : Addr} {i : Nat} {items : Array Value} {old : Value} {Q : Option Value → Shared → Prop} (hh : A.handled = none)
    (he : IsEnum s.heap e it i old) (hit : s.heap.IsTupleIter it l i) (hl : s.heap.IsTuple l items) (hx : items[i]? = none)
    (hQ : ∀ h', Heap.ExtBut it s.heap h' → Q none { s with heap := h' }) : wpAny (model prog w) A (pyNext (.ref e)) Q E s := by
  have hT : s.TypeIs (.ref e) "enumerate" := ⟨_, he, rfl⟩
  unfold pyNext
  refine wpAny_bind (wpAny_attempt (wpAny_callSpecial?_slot (name := Str.ofString "__next__") hT F.slot_enumerate_next
    (wpAny_call_entry F.slot_enumerate_next hT F.entry_enumerate_next ?_ (F.args_enumerate_next_1 _))))
  show wpAny _ _ (field (.ref e) 2 >>= _) _ _ _
  refine wpAny_bind (wpAny_field he rfl (x := .ref it) rfl ?_)
  refine wpAny_bind (RZ.nextOf_tuple_end hh hit hl hx fun h' x he' hx' => ?_)
  obtain ⟨o, ho, hc⟩ := hx'
  refine wpAny_bind (wpAny_isInstance (T := "StopIteration") (b := true) ⟨o, ho, hc⟩ isSubtype_stop ?_)
  exact wpAny_pure (hQ _ he')
end
end PySem
namespace L2
open PySem PySem.Spec PyProof.Rows
def IteT (K : PySem.W.Frag) (a : Addr) : It :=
  ⟨fun i H => ∃ (xs : List V) (x : V), SqT K H a xs ∧ xs[i]? = some x, fun i H v H' => ∃ T x, v = .ref T ∧ H T = none ∧ H' = upd H T (.tup [.int (i : Nat), x]) ∧ ∀ xs, SqT K H a xs → xs[i]? = some x, fun i H => ∃ xs : List V, SqT K H a xs ∧ xs.length ≤ i⟩
theorem turn_enumT {P : Program} {w : World} {K : PySem.W.Frag} {elts : List Expr} {kk : Nat} {tpos : Pos} (a e it : Addr) :
    Turn P w K (.Tuple elts kk tpos) (IteT K a) [e, it] e (fun i h => (∃ old, IsEnum h e it ((i : Nat) : Int) old) ∧ h.IsTupleIter it a i ∧ e ≠ it) where
  mem := by simp
  obj := fun i h st b hb => by
    obtain ⟨⟨old, he⟩, ⟨o, ho, hc, hd⟩, _⟩ := st
    have e' : b = e ∨ b = it := by simpa using hb
    rcases e' with z | z
    · rw [z]; exact ⟨_, he, fun v q => nomatch q⟩
    · rw [z]; exact ⟨o, ho, fun v q => by rw [hd] at q; cases q⟩
  keep := fun i h h' st k => let ⟨⟨old, he⟩, ⟨o, ho, r⟩, hne⟩ := st; ⟨⟨old, k e (by simp) _ he⟩, ⟨o, k it (by simp) o ho, r⟩, hne⟩
  item := by
    intro X hP hw hK hc i pins s σ H E I hf st hg
    subst hP hw hK
    obtain ⟨⟨old, he⟩, hit, hne⟩ := st
    obtain ⟨xs, x, hq, hx⟩ := hg
    obtain ⟨its, rv, p, hsz⟩ := I.tuple hq
    obtain ⟨u, hu, ru⟩ := rv.get hx
    have hel : e < s.heap.objs.size := Heap.lt_size he
    have hil : it < s.heap.objs.size := by obtain ⟨_, q, _⟩ := hit; exact Heap.lt_size q
    have hea : e ≠ a := fun z => by
      obtain ⟨o, e1, c1, _⟩ := p
      subst z
      rw [show s.heap.get? e = _ from he] at e1
      cases e1
      exact absurd (Value.type.inj c1) (by decide)
    have hia : a ≠ it := fun z => by
      obtain ⟨o, e1, c1, _⟩ := p
      obtain ⟨o2, e2, c2, _⟩ := hit
      subst z
      rw [e1] at e2
      cases e2
      rw [c1] at c2
      exact absurd (Value.type.inj c2) (by decide)
    have hlt : i < its.toArray.size := by
      have := (List.getElem?_eq_some_iff.mp hu).1
      simpa using this
    have D := drawsTuple (prog := X.prog) (w := X.w) (A := X.A.in1) (I.ok.hd hc) it a hia its.toArray
    refine wpAny_pyNext_enum_itemD D he ⟨hit, p⟩ hlt hne (by simp [hne, hea]) fun u' h' tk hPx ho hit' hT hsz hk => ?_
    have eu : u' = u := by
      have : its.toArray[i]? = some u := by simpa using hu
      rw [this] at hPx; exact (Option.some.inj hPx).symm
    subst eu
    refine ⟨_, rfl, wpAny_letOwnedTupleGo_enum (s := { s with heap := h', toks := tk + 1 }) ho fun h'' he' sb => ?_⟩
    have hT2 : h''.get? s.heap.objs.size = some { cls := .type "tuple", data := .seq #[.int i tk, u'] } := (sb.2 _ (Nat.ne_of_gt hel)).trans hT
    have new : ObjOk X.prog X.w (upd H s.heap.objs.size (.tup [.int (i : Nat), x])) h'' s.heap.objs.size (.tup [.int (i : Nat), x]) :=
      ⟨by show 2 ≤ sizeLine; decide, [.int i tk, u'], .cons ⟨_, rfl⟩ (.cons ru .nil), ⟨_, hT2, rfl, _, rfl⟩⟩
    have I1 : Inv X pins σ (upd H s.heap.objs.size (.tup [.int (i : Nat), x])) { s with heap := h'', toks := tk + 1 } :=
      I.turnedNew (ch := [e, it]) (fun b ob hb q => (sb.2 b (fun z => hb (by simp [z]))).trans (hk b ob (fun z => hb (by simp [z])) (fun z => hb (by simp [z])) q)) hf (Nat.le_refl _) new
    refine ⟨.ref s.heap.objs.size, _, I1, rfl, ⟨_, x, rfl, I.hok.fresh (Nat.le_refl _), rfl, fun ys hy => by rw [I.tuple_inj hy hq]; exact hx⟩, ⟨⟨u', ?_⟩, ?_, hne⟩, fun b hb => ?_⟩
    · have e1 : ((i + 1 : Nat) : Int) = (i : Int) + 1 := by omega
      rw [e1]; exact he'
    · obtain ⟨⟨o, ho2, r⟩, _⟩ := hit'
      exact ⟨o, (sb.2 it (Ne.symm hne)).trans ho2, r⟩
    · have hb' : b < s.heap.objs.size := by
        have e' : b = e ∨ b = it := by simpa using hb
        rcases e' with z | z
        · rw [z]; exact hel
        · rw [z]; exact hil
      rw [upd_ne (Nat.ne_of_lt hb')]
      exact (hf b hb).1
  done := by
    intro X hP hw hK hc i pins s σ H E I hf st hg
    subst hP hw hK
    obtain ⟨⟨old, he⟩, hit, hne⟩ := st
    obtain ⟨xs, hq, hx⟩ := hg
    obtain ⟨its, rv, p, hz⟩ := I.tuple hq
    obtain ⟨f0, f1, f2, f3, f4, f5⟩ := hf it (by simp)
    have hl := rv.length
    exact PySem.enumT_end (I.ok.hd hc) he hit p (by simp; omega) fun h' eb => ⟨rfl, I.turned (t' := s.toks) (fun b o hb q => eb b o hb q) f0 f1 f3 f4 f5⟩
  self := fun A i s Q E st h => let ⟨⟨_, he⟩, _⟩ := st; wpAny_pyIter_enum he h
def iEnumT (K : PySem.W.Frag) (ta : TA) : TI := fun σ H R => ta σ H fun vs H1 => ∃ a xs, vs = [.ref a] ∧ SqT K H1 a xs ∧ R (IteT K a) H1
def propB (x f : Str) (K : PySem.W.Frag) : Bool :=
  He.eqO (PySem.W.findIn K (.ref (He.ga K x)) f) (some (some (.ref (He.ma K (He.ga K x) f)))) && (He.eqO (PySem.W.specialIn K (.ref (He.ma K (He.ga K x) f)) "__get__") (some (some (.builtin "property.__get__"))) &&
    (decide (PySem.W.takesIn K (.ref (He.ma K (He.ga K x) f)) = some true) && (match PySem.W.recIn K (He.ma K (He.ga K x) f) "property" with
      | some (.ref g :: _) => g == He5.wf K (He.ga K x) "property" f
      | _ => false)))
theorem propB_ok {K : PySem.W.Frag} {x f : Str} (h : propB x f K = true) : PropOf K (He.ga K x) f (He.ma K (He.ga K x) f) (He5.wf K (He.ga K x) "property" f) := by
  unfold propB at h
  simp only [Bool.and_eq_true] at h
  obtain ⟨h1, h2, h3, h4⟩ := h
  refine ⟨He.eqO_ok h1, He.eqO_ok h2, of_decide_eq_true h3, ?_⟩
  split at h4
  · rename_i g rest e
    exact ⟨rest, by rw [e, eq_of_beq h4]⟩
  · cases h4
def isiB (x : Str) (K : PySem.W.Frag) : Bool := ["NoneType", "bool", "int", "str", "tuple", "list", "dict"].all fun n => decide (PySem.W.kitOne K (.type n) (.ref (He.ga K x)) = some false)
theorem isiB_ok {K : PySem.W.Frag} {x : Str} (h : isiB x K = true) : ∀ n ∈ ["NoneType", "bool", "int", "str", "tuple", "list", "dict"], PySem.W.kitOne K (.type n) (.ref (He.ga K x)) = some false := fun n hn => of_decide_eq_true (List.all_eq_true.mp h n hn)
def isiC (x y : Str) (b : Bool) (K : PySem.W.Frag) : Bool := decide (PySem.W.kitOne K (.ref (He.ga K x)) (.ref (He.ga K y)) = some b)
theorem isiC_ok {K : PySem.W.Frag} {x y : Str} {b : Bool} (h : isiC x y b K = true) : PySem.W.kitOne K (.ref (He.ga K x)) (.ref (He.ga K y)) = some b := of_decide_eq_true h
def dunB (x m : Str) (K : PySem.W.Frag) : Bool := He.eqO (PySem.W.findIn K (.ref (He.ga K x)) m) (some (some (.ref (He.ma K (He.ga K x) m)))) && PySem.W.isFn K (.ref (He.ma K (He.ga K x) m))
theorem dunB_ok {K : PySem.W.Frag} {x m : Str} (h : dunB x m K = true) : PySem.W.findIn K (.ref (He.ga K x)) m = some (some (.ref (He.ma K (He.ga K x) m))) ∧ PySem.W.isFn K (.ref (He.ma K (He.ga K x) m)) = true := by
  unfold dunB at h
  rw [Bool.and_eq_true] at h
  exact ⟨He.eqO_ok h.1, h.2⟩
def fnB (x m : Str) (K : PySem.W.Frag) : Bool := PySem.W.fnIn K (He.ma K (He.ga K x) m)
def neB (x : Str) (K : PySem.W.Frag) : Bool := He.eqO (PySem.W.findIn K (.ref (He.ga K x)) "__ne__") (some (some (.builtin "object.__ne__")))
def sfB (x : Str) (K : PySem.W.Frag) : Bool := PySem.W.selfFirst K (He.ga K x)
def siB (x : Str) (K : PySem.W.Frag) : Bool := decide (PySem.W.subIn K (.type "int") (.ref (He.ga K x)) = some false)
def creadB (x : Str) (K : PySem.W.Frag) : Bool := PySem.W.readsIn K (He.ga K x) (.type "type") && He.eqO (PySem.W.specialIn K (.ref (He.ga K x)) "__getattribute__") (some (some (.builtin "type.__getattribute__")))
theorem creadB_ok {K : PySem.W.Frag} {x : Str} (h : creadB x K = true) : ClX.CRead K (He.ga K x) (.type "type") := by
  unfold creadB at h
  rw [Bool.and_eq_true] at h
  exact ⟨h.1, He.eqO_ok h.2⟩
def cmetB (x m : Str) (K : PySem.W.Frag) : Bool := He5.wrapB K (He.ga K x) "classmethod" "classmethod.__get__" m && PySem.W.fnIn K (He5.wf K (He.ga K x) "classmethod" m)
theorem cmetB_ok {K : PySem.W.Frag} {x m : Str} (h : cmetB x m K = true) : ClX.CMet K (He.ga K x) (.type "type") m (He.ma K (He.ga K x) m) (He5.wf K (He.ga K x) "classmethod" m) := by
  unfold cmetB at h
  rw [Bool.and_eq_true] at h
  exact He5.cmet_of h.1 h.2
end L2
namespace L2
open PySem PySem.Spec PyProof.Rows
def iEnumQ (K : PySem.W.Frag) (ta : TA) : TI := fun σ H R => ta σ H fun vs H1 => (∃ a xs, vs = [.ref a] ∧ SqL K H1 a xs ∧ R (Ite K a) H1) ∨ ∃ a xs, vs = [.ref a] ∧ SqT K H1 a xs ∧ R (IteT K a) H1
theorem pi_enumQ {X : Cx} {e : Expr} {ta : TA} {p pos tpos : Pos} {elts : List Expr} {kk : Nat} (hg : Gl X "enumerate") (hm : X.mg "enumerate" = none) (ha : PA X [e] ta) (hs : starEach [e] X.env = [(false, eval e X.env)] := by rfl) :
    PI X (.Tuple elts kk tpos) (.Call (.Name "enumerate" p) [e] [] pos) (iEnumQ X.K ta) := by
  refine ⟨fun pins s σ H R I h => ?_⟩
  refine Call_ (ld_blt I hg hm boot_enumerate (PyProof.Rows.callWith_type1 (thn (ha.run pos pins s σ H _ I h) fun us s1 ⟨vs, H1, I1, r1, q1⟩ => ?_) hs rfl))
  have fp : ∀ b ∈ [s1.heap.objs.size + 1, s1.heap.objs.size], s1.heap.objs.size ≤ b := fun b hb => by
    have e' : b = s1.heap.objs.size + 1 ∨ b = s1.heap.objs.size := by simpa using hb
    rcases e' with z | z
    · rw [z]; exact Nat.le_add_right _ _
    · rw [z]; exact Nat.le_refl _
  rcases q1 with ⟨a, xs, ex, hq, q⟩ | ⟨a, xs, ex, hq, q⟩
  · subst ex
    cases r1 with
    | cons r rr =>
      cases rr
      cases r
      obtain ⟨its, rv, p', hz⟩ := I1.list hq
      refine call_enumerate_list p'.isList fun h' he hit hsz hk => wpAny_pyIter_enum he ?_
      have I2 : Inv X pins σ H1 { s1 with heap := h' } := I1.kept (t' := s1.toks) hk
      exact ⟨s1.heap.objs.size + 1, [s1.heap.objs.size + 1, s1.heap.objs.size], _, _, H1, rfl, I2, turn_enum a (s1.heap.objs.size + 1) s1.heap.objs.size, ⟨⟨.none, he⟩, hit, Nat.succ_ne_self _⟩, fun b hb => I1.fpOk (fp b hb) (I1.hok.fresh (fp b hb)), q⟩
  · subst ex
    cases r1 with
    | cons r rr =>
      cases rr
      cases r
      obtain ⟨its, rv, p', hz⟩ := I1.tuple hq
      refine PySem.call_enumerate_tuple p' fun h' he hit hsz hk => wpAny_pyIter_enum he ?_
      have I2 : Inv X pins σ H1 { s1 with heap := h' } := I1.kept (t' := s1.toks) hk
      exact ⟨s1.heap.objs.size + 1, [s1.heap.objs.size + 1, s1.heap.objs.size], _, _, H1, rfl, I2, turn_enumT a (s1.heap.objs.size + 1) s1.heap.objs.size, ⟨⟨.none, he⟩, hit, Nat.succ_ne_self _⟩, fun b hb => I1.fpOk (fp b hb) (I1.hok.fresh (fp b hb)), q⟩
structure InsTy (K : PySem.W.Frag) (C : Addr) : Prop where
  cl : Cls K C
  ha : PySem.W.findIn K (.ref C) "__class__" = some (some (.builtin "object.__class__"))
  hn : PySem.W.specialIn K (.builtin "object.__class__") "__get__" = some (some (.builtin "getset_descriptor.__get__"))
  htk : PySem.W.takesIn K (.builtin "object.__class__") = some true
  hm : PySem.W.mroIn K C (.type "object") = some true
def insTyB (x : Str) (K : PySem.W.Frag) : Bool := (He.Fa.cls x).ok K && (He.eqO (PySem.W.findIn K (.ref (He.ga K x)) "__class__") (some (some (.builtin "object.__class__"))) && (He.eqO (PySem.W.specialIn K (.builtin "object.__class__") "__get__") (some (some (.builtin "getset_descriptor.__get__"))) &&
  (decide (PySem.W.takesIn K (.builtin "object.__class__") = some true) && decide (PySem.W.mroIn K (He.ga K x) (.type "object") = some true))))
theorem insTyB_ok {K : PySem.W.Frag} {x : Str} (h : insTyB x K = true) : InsTy K (He.ga K x) := by
  unfold insTyB at h
  simp only [Bool.and_eq_true] at h
  exact ⟨He.cls_ok h.1, He.eqO_ok h.2.1, He.eqO_ok h.2.2.1, of_decide_eq_true h.2.2.2.1, of_decide_eq_true h.2.2.2.2⟩
end L2
namespace Q
open PySem PySem.Spec PyProof.Rows L2
def top (i : Nat) : Stmt := PySem.Challenge.pw_fullqueue_k47_shortest_of_long_effects.main.body.getD i (.Pass ⟨0, 0, 0, 0⟩)
abbrev s_wall : Stmt := top 0
abbrev s_InvalidEffect_init : Stmt := inClass (top 8) 0
abbrev s_CapacityMismatch_init : Stmt := inClass (top 9) 0
abbrev s_EffectFailed_init : Stmt := inClass (top 10) 0
abbrev s_is_integer : Stmt := top 15
abbrev s_check_integer : Stmt := top 16
abbrev s_is_text_of : Stmt := top 17
abbrev s_is_capacity : Stmt := top 18
abbrev s_check_capacity : Stmt := top 19
abbrev s_is_mode : Stmt := top 20
abbrev s_check_mode : Stmt := top 21
abbrev s_is_queue : Stmt := top 22
abbrev s_check_queue : Stmt := top 23
abbrev s_span_of : Stmt := top 30
abbrev s_is_count : Stmt := top 31
abbrev s_parse : Stmt := top 32
abbrev s_items_of : Stmt := top 33
abbrev s_is_row : Stmt := top 35
abbrev s_joined_row : Stmt := top 36
abbrev s_joined_rows : Stmt := top 37
abbrev s_identity_rows : Stmt := top 38
abbrev s_power_rows : Stmt := top 39
abbrev s_end_of : Stmt := top 40
abbrev s_Effect_init : Stmt := inClass (top 41) 0
abbrev s_Effect_identity : Stmt := inClass (top 41) 1
abbrev s_Effect_failing : Stmt := inClass (top 41) 2
abbrev s_Effect_capacity : Stmt := inClass (top 41) 3
abbrev s_Effect_rows : Stmt := inClass (top 41) 4
abbrev s_Effect_lengths : Stmt := inClass (top 41) 5
abbrev s_Effect_is_part_of : Stmt := inClass (top 41) 6
abbrev s_Effect_power : Stmt := inClass (top 41) 7
abbrev s_Effect_call : Stmt := inClass (top 41) 8
abbrev s_Effect_getitem : Stmt := inClass (top 41) 9
abbrev s_Effect_iter : Stmt := inClass (top 41) 10
abbrev s_Effect_contains : Stmt := inClass (top 41) 11
abbrev s_Effect_bool : Stmt := inClass (top 41) 12
abbrev s_Effect_mul : Stmt := inClass (top 41) 13
abbrev s_Effect_pow : Stmt := inClass (top 41) 14
abbrev s_Effect_eq : Stmt := inClass (top 41) 15
abbrev s_Effect_repr : Stmt := inClass (top 41) 16
abbrev s_check_effect : Stmt := top 42
abbrev s_check_same : Stmt := top 43
abbrev s_row_after : Stmt := top 45
abbrev s_rows_of : Stmt := top 46
abbrev s_effect_of : Stmt := top 47
abbrev s_Walk_init : Stmt := inClass (top 51) 0
abbrev s_Walk_least_puts : Stmt := inClass (top 51) 1
abbrev s_Walk_allows : Stmt := inClass (top 51) 2
abbrev s_Walk_drawn : Stmt := inClass (top 51) 3
abbrev s_lettered : Stmt := top 52
abbrev s_puts_for : Stmt := top 53
abbrev s_candidates_oldest : Stmt := top 54
abbrev s_walks_for : Stmt := top 55
abbrev s_sequence_for : Stmt := top 56
abbrev s_shortest_sequence : Stmt := top 57
abbrev s_law_pool : Stmt := top 59
abbrev s_law_take : Stmt := top 60
abbrev s_law_steps : Stmt := top 61
abbrev s_law_after : Stmt := top 62
abbrev s_law_end : Stmt := top 63
abbrev s_law_text : Stmt := top 64
abbrev s_law_known_right : Stmt := top 65
abbrev s_law : Stmt := top 66
theorem sc_is_integer : FnScope ["value", "least"] ["value", "least"] (defScope s_is_integer) := ⟨rfl, rfl, rfl, by decide +kernel, rfl, by decide +kernel, by decide +kernel⟩
theorem sc_is_text_of : FnScope ["value", "letters", "letter"] ["value", "letters"] (defScope s_is_text_of) := ⟨rfl, rfl, rfl, by decide +kernel, rfl, by decide +kernel, by decide +kernel⟩
theorem sc_is_capacity : FnScope ["value"] ["value"] (defScope s_is_capacity) := ⟨rfl, rfl, rfl, by decide +kernel, rfl, by decide +kernel, by decide +kernel⟩
theorem sc_check_capacity : FnScope ["value"] ["value"] (defScope s_check_capacity) := ⟨rfl, rfl, rfl, by decide +kernel, rfl, by decide +kernel, by decide +kernel⟩
theorem sc_is_mode : FnScope ["value"] ["value"] (defScope s_is_mode) := ⟨rfl, rfl, rfl, by decide +kernel, rfl, by decide +kernel, by decide +kernel⟩
theorem sc_check_mode : FnScope ["value"] ["value"] (defScope s_check_mode) := ⟨rfl, rfl, rfl, by decide +kernel, rfl, by decide +kernel, by decide +kernel⟩
theorem sc_is_queue : FnScope ["value", "capacity"] ["value", "capacity"] (defScope s_is_queue) := ⟨rfl, rfl, rfl, by decide +kernel, rfl, by decide +kernel, by decide +kernel⟩
theorem sc_span_of : FnScope ["text", "start", "characters", "end"] ["text", "start", "characters"] (defScope s_span_of) := ⟨rfl, rfl, rfl, by decide +kernel, rfl, by decide +kernel, by decide +kernel⟩
theorem sc_is_count : FnScope ["digits"] ["digits"] (defScope s_is_count) := ⟨rfl, rfl, rfl, by decide +kernel, rfl, by decide +kernel, by decide +kernel⟩
theorem sc_parse : FnScope ["text", "open_lists", "at", "end", "items"] ["text"] (defScope s_parse) := ⟨rfl, rfl, rfl, by decide +kernel, rfl, by decide +kernel, by decide +kernel⟩
theorem sc_items_of : FnScope ["program", "items"] ["program"] (defScope s_items_of) := ⟨rfl, rfl, rfl, by decide +kernel, rfl, by decide +kernel, by decide +kernel⟩
theorem sc_is_row : FnScope ["value", "length", "capacity"] ["value", "length", "capacity"] (defScope s_is_row) := ⟨rfl, rfl, rfl, by decide +kernel, rfl, by decide +kernel, by decide +kernel⟩
theorem sc_joined_row : FnScope ["row", "rows", "kept", "word", "after"] ["row", "rows"] (defScope s_joined_row) := ⟨rfl, rfl, rfl, by decide +kernel, rfl, by decide +kernel, by decide +kernel⟩
theorem sc_joined_rows : FnScope ["first", "second", "row"] ["first", "second"] (defScope s_joined_rows) := ⟨rfl, rfl, rfl, by decide +kernel, rfl, by decide +kernel, by decide +kernel⟩
theorem sc_identity_rows : FnScope ["capacity", "length"] ["capacity"] (defScope s_identity_rows) := ⟨rfl, rfl, rfl, by decide +kernel, rfl, by decide +kernel, by decide +kernel⟩
theorem sc_power_rows : FnScope ["rows", "exponent", "found", "factor", "left"] ["rows", "exponent"] (defScope s_power_rows) := ⟨rfl, rfl, rfl, by decide +kernel, rfl, by decide +kernel, by decide +kernel⟩
theorem sc_end_of : FnScope ["row"] ["row"] (defScope s_end_of) := ⟨rfl, rfl, rfl, by decide +kernel, rfl, by decide +kernel, by decide +kernel⟩
theorem sc_Effect_init : FnScope ["self", "capacity", "rows", "length", "row"] ["self", "capacity", "rows"] (defScope s_Effect_init) := ⟨rfl, rfl, rfl, by decide +kernel, rfl, by decide +kernel, by decide +kernel⟩
theorem sc_Effect_identity : FnScope ["cls", "capacity"] ["cls", "capacity"] (defScope s_Effect_identity) := ⟨rfl, rfl, rfl, by decide +kernel, rfl, by decide +kernel, by decide +kernel⟩
theorem sc_Effect_failing : FnScope ["cls", "capacity"] ["cls", "capacity"] (defScope s_Effect_failing) := ⟨rfl, rfl, rfl, by decide +kernel, rfl, by decide +kernel, by decide +kernel⟩
theorem sc_Effect_capacity : FnScope ["self"] ["self"] (defScope s_Effect_capacity) := ⟨rfl, rfl, rfl, by decide +kernel, rfl, by decide +kernel, by decide +kernel⟩
theorem sc_Effect_rows : FnScope ["self"] ["self"] (defScope s_Effect_rows) := ⟨rfl, rfl, rfl, by decide +kernel, rfl, by decide +kernel, by decide +kernel⟩
theorem sc_Effect_bool : FnScope ["self", "row"] ["self"] (defScope s_Effect_bool) := ⟨rfl, rfl, rfl, by decide +kernel, rfl, by decide +kernel, by decide +kernel⟩
theorem sc_Effect_eq : FnScope ["self", "other"] ["self", "other"] (defScope s_Effect_eq) := ⟨rfl, rfl, rfl, by decide +kernel, rfl, by decide +kernel, by decide +kernel⟩
theorem sc_check_effect : FnScope ["value"] ["value"] (defScope s_check_effect) := ⟨rfl, rfl, rfl, by decide +kernel, rfl, by decide +kernel, by decide +kernel⟩
theorem sc_row_after : FnScope ["row", "step", "capacity", "mode", "kept", "word", "length"] ["row", "step", "capacity", "mode"] (defScope s_row_after) := ⟨rfl, rfl, rfl, by decide +kernel, rfl, by decide +kernel, by decide +kernel⟩
theorem sc_rows_of : FnScope ["items", "capacity", "mode", "rows", "item", "step", "row"] ["items", "capacity", "mode"] (defScope s_rows_of) := ⟨rfl, rfl, rfl, by decide +kernel, rfl, by decide +kernel, by decide +kernel⟩
theorem sc_effect_of : FnScope ["program", "capacity", "mode", "items"] ["program", "capacity", "mode"] (defScope s_effect_of) := ⟨rfl, rfl, rfl, by decide +kernel, rfl, by decide +kernel, by decide +kernel⟩
theorem sc_Walk_init : FnScope ["self", "depth", "height", "last", "limit"] ["self", "depth", "height", "last", "limit"] (defScope s_Walk_init) := ⟨rfl, rfl, rfl, by decide +kernel, rfl, by decide +kernel, by decide +kernel⟩
theorem sc_Walk_least_puts : FnScope ["self"] ["self"] (defScope s_Walk_least_puts) := ⟨rfl, rfl, rfl, by decide +kernel, rfl, by decide +kernel, by decide +kernel⟩
theorem sc_Walk_allows : FnScope ["self", "puts", "least"] ["self", "puts"] (defScope s_Walk_allows) := ⟨rfl, rfl, rfl, by decide +kernel, rfl, by decide +kernel, by decide +kernel⟩
theorem sc_Walk_drawn : FnScope ["self", "puts", "pairs", "whole"] ["self", "puts"] (defScope s_Walk_drawn) := ⟨rfl, rfl, rfl, by decide +kernel, rfl, by decide +kernel, by decide +kernel⟩
theorem sc_lettered : FnScope ["walk", "letters", "puts", "left", "step"] ["walk", "letters"] (defScope s_lettered) := ⟨rfl, rfl, rfl, by decide +kernel, rfl, by decide +kernel, by decide +kernel⟩
theorem sc_puts_for : FnScope ["walk", "row", "seen", "kept", "word", "puts"] ["walk", "row", "seen"] (defScope s_puts_for) := ⟨rfl, rfl, rfl, by decide +kernel, rfl, by decide +kernel, by decide +kernel⟩
theorem gsc_candidates_oldest : GScope ["rows", "capacity", "low", "length", "row", "least", "most", "offset"] ["rows"] (defScope s_candidates_oldest) := ⟨rfl, rfl, rfl, by decide +kernel, rfl, by decide +kernel, by decide +kernel⟩
theorem sc_walks_for : FnScope ["rows", "mode", "capacity", "lengths", "length", "row", "low", "most", "offset"] ["rows", "mode"] (defScope s_walks_for) := ⟨rfl, rfl, rfl, by decide +kernel, rfl, by decide +kernel, by decide +kernel⟩
theorem sc_sequence_for : FnScope ["rows", "mode", "walks", "row", "best", "walk", "puts"] ["rows", "mode"] (defScope s_sequence_for) := ⟨rfl, rfl, rfl, by decide +kernel, rfl, by decide +kernel, by decide +kernel⟩
theorem sc_shortest_sequence : FnScope ["effect", "mode", "found"] ["effect", "mode"] (defScope s_shortest_sequence) := ⟨rfl, rfl, rfl, by decide +kernel, rfl, by decide +kernel, by decide +kernel⟩
theorem sc_law_pool : FnScope ["_law_script", "_law_k", "_law_cell", "_law_seed"] ["_law_script", "_law_k"] (defScope s_law_pool) := ⟨rfl, rfl, rfl, by decide +kernel, rfl, by decide +kernel, by decide +kernel⟩
theorem sc_law_take : FnScope ["_law_pool_here", "_law_bound", "_law_digit"] ["_law_pool_here", "_law_bound"] (defScope s_law_take) := ⟨rfl, rfl, rfl, by decide +kernel, rfl, by decide +kernel, by decide +kernel⟩
theorem sc_law_steps : FnScope ["_law_pool_here", "_law_most", "_law_letters", "_law_found", "_law_turn"] ["_law_pool_here", "_law_most", "_law_letters"] (defScope s_law_steps) := ⟨rfl, rfl, rfl, by decide +kernel, rfl, by decide +kernel, by decide +kernel⟩
theorem sc_law_text : FnScope ["_law_pool_here", "_law_many", "_law_turn"] ["_law_pool_here", "_law_many"] (defScope s_law_text) := ⟨rfl, rfl, rfl, by decide +kernel, rfl, by decide +kernel, by decide +kernel⟩
theorem sc_law_known_right : FnScope ["_law_pool_here", "_law_capacity", "_law_word", "_law_count", "_law_full", "_law_takes", "_law_puts", "_law_mode", "_law_found", "_law_back", "_law_tall", "_law_up"] ["_law_pool_here", "_law_capacity"] (defScope s_law_known_right) := ⟨rfl, rfl, rfl, by decide +kernel, rfl, by decide +kernel, by decide +kernel⟩
theorem sc_law : FnScope ["_law_script", "_law_k", "_law_pool_here", "_law_capacity", "_law_steps_here", "_law_mode", "_law_target", "_law_found", "_law_program"] ["_law_script"] (defScope s_law) := ⟨rfl, rfl, rfl, by decide +kernel, rfl, by decide +kernel, by decide +kernel⟩
structure Txt (K : PySem.W.Frag) (mg : Str → Option Value) : Prop where
  b_ValueError : mg "ValueError" = none
  b_LookupError : mg "LookupError" = none
  b_tuple : mg "tuple" = none
  b_list : mg "list" = none
  b_range : mg "range" = none
  b_max : mg "max" = none
  b_isinstance : mg "isinstance" = none
  b_int : mg "int" = none
  b_str : mg "str" = none
  b_all : mg "all" = none
  b_len : mg "len" = none
  b_enumerate : mg "enumerate" = none
  b_TypeError : mg "TypeError" = none
  b_any : mg "any" = none
  b_NotImplemented : mg "NotImplemented" = none
  b_bool : mg "bool" = none
  b_abs : mg "abs" = none
  b_min : mg "min" = none
  c_LETTERS : ∃ u, mg "LETTERS" = some u ∧ RelV (.str "abcdefghijklmnopqrstuvwxyz") u
  c_MOST : ∃ u, mg "MOST" = some u ∧ RelV (.int 100) u
  g_MODES : mg "MODES" = some (.ref (He.ga K "MODES"))
  q_MODES : ∀ H, SqT K H (He.ga K "MODES") ([(.str "oldest"), (.str "newest"), (.str "strict")] : List V)
  c_TAKE : ∃ u, mg "TAKE" = some u ∧ RelV (.str "-") u
  c_STEPS : ∃ u, mg "STEPS" = some u ∧ RelV (.str "abcdefghijklmnopqrstuvwxyz-") u
  c_DIGITS : ∃ u, mg "DIGITS" = some u ∧ RelV (.str "0123456789") u
  c_MOST_COUNT : ∃ u, mg "MOST_COUNT" = some u ∧ RelV (.int 1000000000000000000000000000000) u
  c_MOST_DEPTH : ∃ u, mg "MOST_DEPTH" = some u ∧ RelV (.int 20) u
  c_FILLER : ∃ u, mg "FILLER" = some u ∧ RelV (.str "a") u
  c_PUT : ∃ u, mg "PUT" = some u ∧ RelV (.str "+") u
  g_QueueError : mg "QueueError" = some (.ref (He.ga K "QueueError"))
  x_QueueError : ExcF K (He.ga K "QueueError") [.type "ValueError", .type "Exception", .type "BaseException", .type "object"] "ValueError.__new__"
  g_InvalidInteger : mg "InvalidInteger" = some (.ref (He.ga K "InvalidInteger"))
  x_InvalidInteger : ExcF K (He.ga K "InvalidInteger") [.type "ValueError", .type "Exception", .type "BaseException", .type "object"] "ValueError.__new__"
  g_InvalidCapacity : mg "InvalidCapacity" = some (.ref (He.ga K "InvalidCapacity"))
  x_InvalidCapacity : ExcF K (He.ga K "InvalidCapacity") [.type "ValueError", .type "Exception", .type "BaseException", .type "object"] "ValueError.__new__"
  g_InvalidMode : mg "InvalidMode" = some (.ref (He.ga K "InvalidMode"))
  x_InvalidMode : ExcF K (He.ga K "InvalidMode") [.type "ValueError", .type "Exception", .type "BaseException", .type "object"] "ValueError.__new__"
  g_InvalidQueue : mg "InvalidQueue" = some (.ref (He.ga K "InvalidQueue"))
  x_InvalidQueue : ExcF K (He.ga K "InvalidQueue") [.type "ValueError", .type "Exception", .type "BaseException", .type "object"] "ValueError.__new__"
  g_InvalidProgram : mg "InvalidProgram" = some (.ref (He.ga K "InvalidProgram"))
  x_InvalidProgram : ExcF K (He.ga K "InvalidProgram") [.type "ValueError", .type "Exception", .type "BaseException", .type "object"] "ValueError.__new__"
  g_InvalidEffect : mg "InvalidEffect" = some (.ref (He.ga K "InvalidEffect"))
  x_InvalidEffect : PySem.QX.XTxt K (He.ga K "InvalidEffect") (He.ma K (He.ga K "InvalidEffect") "__init__") "position" [.type "ValueError", .type "Exception", .type "BaseException", .type "object"] "ValueError.__new__"
  g_CapacityMismatch : mg "CapacityMismatch" = some (.ref (He.ga K "CapacityMismatch"))
  x_CapacityMismatch : PySem.QX.XTxt K (He.ga K "CapacityMismatch") (He.ma K (He.ga K "CapacityMismatch") "__init__") "first" [.type "ValueError", .type "Exception", .type "BaseException", .type "object"] "ValueError.__new__"
  y_CapacityMismatch : PySem.QX.XTxt K (He.ga K "CapacityMismatch") (He.ma K (He.ga K "CapacityMismatch") "__init__") "second" [.type "ValueError", .type "Exception", .type "BaseException", .type "object"] "ValueError.__new__"
  g_EffectFailed : mg "EffectFailed" = some (.ref (He.ga K "EffectFailed"))
  x_EffectFailed : PySem.QX.XTxt K (He.ga K "EffectFailed") (He.ma K (He.ga K "EffectFailed") "__init__") "length" [.type "LookupError", .type "Exception", .type "BaseException", .type "object"] "LookupError.__new__"
  g_Effect : mg "Effect" = some (.ref (He.ga K "Effect"))
  g_Walk : mg "Walk" = some (.ref (He.ga K "Walk"))
  k_Effect : Cls K (He.ga K "Effect")
  n_Effect_all_rows : NoAttr K (He.ga K "Effect") "all_rows"
  m_Effect : Mk K (He.ga K "Effect") (He.ma K (He.ga K "Effect") "__init__")
  it_Effect : InsTy K (He.ga K "Effect")
  ic_Effect_Effect : PySem.W.kitOne K (.ref (He.ga K "Effect")) (.ref (He.ga K "Effect")) = some true
  is_Effect : ∀ n ∈ ["NoneType", "bool", "int", "str", "tuple", "list", "dict"], PySem.W.kitOne K (.type n) (.ref (He.ga K "Effect")) = some false
  k_Walk : Cls K (He.ga K "Walk")
  n_Walk_depth : NoAttr K (He.ga K "Walk") "depth"
  n_Walk_height : NoAttr K (He.ga K "Walk") "height"
  n_Walk_last : NoAttr K (He.ga K "Walk") "last"
  n_Walk_is_up_first : NoAttr K (He.ga K "Walk") "is_up_first"
  m_Walk : Mk K (He.ga K "Walk") (He.ma K (He.ga K "Walk") "__init__")
  h_Walk_least_puts : Meth K (He.ga K "Walk") "least_puts" (He.ma K (He.ga K "Walk") "least_puts")
  h_Walk_allows : Meth K (He.ga K "Walk") "allows" (He.ma K (He.ga K "Walk") "allows")
  h_Walk_drawn : Meth K (He.ga K "Walk") "drawn" (He.ma K (He.ga K "Walk") "drawn")
  d_Effect_bool : PySem.W.findIn K (.ref (He.ga K "Effect")) "__bool__" = some (some (.ref (He.ma K (He.ga K "Effect") "__bool__"))) ∧ PySem.W.isFn K (.ref (He.ma K (He.ga K "Effect") "__bool__")) = true
  p_Effect_capacity : PropOf K (He.ga K "Effect") "capacity" (He.ma K (He.ga K "Effect") "capacity") (He5.wf K (He.ga K "Effect") "property" "capacity")
  p_Effect_rows : PropOf K (He.ga K "Effect") "rows" (He.ma K (He.ga K "Effect") "rows") (He5.wf K (He.ga K "Effect") "property" "rows")
  d_Effect_eq : PySem.W.findIn K (.ref (He.ga K "Effect")) "__eq__" = some (some (.ref (He.ma K (He.ga K "Effect") "__eq__"))) ∧ PySem.W.isFn K (.ref (He.ma K (He.ga K "Effect") "__eq__")) = true
  cr_Effect : ClX.CRead K (He.ga K "Effect") (.type "type")
  cm_Effect_failing : ClX.CMet K (He.ga K "Effect") (.type "type") "failing" (He.ma K (He.ga K "Effect") "failing") (He5.wf K (He.ga K "Effect") "classmethod" "failing")
  cm_Effect_identity : ClX.CMet K (He.ga K "Effect") (.type "type") "identity" (He.ma K (He.ga K "Effect") "identity") (He5.wf K (He.ga K "Effect") "classmethod" "identity")
  g_wall : mg "_wall" = some (.ref (He.ga K "_wall"))
  F_wall : FunD K "_wall" "_wall" (defArgs s_wall) (defBody s_wall) (defScope s_wall) [] [] (He.ga K "_wall") (fdA K (He.ga K "_wall"))
  F_InvalidEffect_init : FunD K "__init__" "InvalidEffect.__init__" (defArgs s_InvalidEffect_init) (defBody s_InvalidEffect_init) (defScope s_InvalidEffect_init) [] [] (He.ma K (He.ga K "InvalidEffect") "__init__") (fdA K (He.ma K (He.ga K "InvalidEffect") "__init__"))
  F_CapacityMismatch_init : FunD K "__init__" "CapacityMismatch.__init__" (defArgs s_CapacityMismatch_init) (defBody s_CapacityMismatch_init) (defScope s_CapacityMismatch_init) [] [] (He.ma K (He.ga K "CapacityMismatch") "__init__") (fdA K (He.ma K (He.ga K "CapacityMismatch") "__init__"))
  F_EffectFailed_init : FunD K "__init__" "EffectFailed.__init__" (defArgs s_EffectFailed_init) (defBody s_EffectFailed_init) (defScope s_EffectFailed_init) [] [] (He.ma K (He.ga K "EffectFailed") "__init__") (fdA K (He.ma K (He.ga K "EffectFailed") "__init__"))
  g_is_integer : mg "is_integer" = some (.ref (He.ga K "is_integer"))
  F_is_integer : FunD K "is_integer" "is_integer" (defArgs s_is_integer) (defBody s_is_integer) (defScope s_is_integer) [(.int 0)] [] (He.ga K "is_integer") (fdA K (He.ga K "is_integer"))
  g_check_integer : mg "check_integer" = some (.ref (He.ga K "check_integer"))
  F_check_integer : FunD K "check_integer" "check_integer" (defArgs s_check_integer) (defBody s_check_integer) (defScope s_check_integer) [(.int 0), .non] [] (He.ga K "check_integer") (fdA K (He.ga K "check_integer"))
  g_is_text_of : mg "is_text_of" = some (.ref (He.ga K "is_text_of"))
  F_is_text_of : FunD K "is_text_of" "is_text_of" (defArgs s_is_text_of) (defBody s_is_text_of) (defScope s_is_text_of) [] [] (He.ga K "is_text_of") (fdA K (He.ga K "is_text_of"))
  g_is_capacity : mg "is_capacity" = some (.ref (He.ga K "is_capacity"))
  F_is_capacity : FunD K "is_capacity" "is_capacity" (defArgs s_is_capacity) (defBody s_is_capacity) (defScope s_is_capacity) [] [] (He.ga K "is_capacity") (fdA K (He.ga K "is_capacity"))
  g_check_capacity : mg "check_capacity" = some (.ref (He.ga K "check_capacity"))
  F_check_capacity : FunD K "check_capacity" "check_capacity" (defArgs s_check_capacity) (defBody s_check_capacity) (defScope s_check_capacity) [] [] (He.ga K "check_capacity") (fdA K (He.ga K "check_capacity"))
  g_is_mode : mg "is_mode" = some (.ref (He.ga K "is_mode"))
  F_is_mode : FunD K "is_mode" "is_mode" (defArgs s_is_mode) (defBody s_is_mode) (defScope s_is_mode) [] [] (He.ga K "is_mode") (fdA K (He.ga K "is_mode"))
  g_check_mode : mg "check_mode" = some (.ref (He.ga K "check_mode"))
  F_check_mode : FunD K "check_mode" "check_mode" (defArgs s_check_mode) (defBody s_check_mode) (defScope s_check_mode) [] [] (He.ga K "check_mode") (fdA K (He.ga K "check_mode"))
  g_is_queue : mg "is_queue" = some (.ref (He.ga K "is_queue"))
  F_is_queue : FunD K "is_queue" "is_queue" (defArgs s_is_queue) (defBody s_is_queue) (defScope s_is_queue) [(.int 100)] [] (He.ga K "is_queue") (fdA K (He.ga K "is_queue"))
  g_check_queue : mg "check_queue" = some (.ref (He.ga K "check_queue"))
  F_check_queue : FunD K "check_queue" "check_queue" (defArgs s_check_queue) (defBody s_check_queue) (defScope s_check_queue) [(.int 100)] [] (He.ga K "check_queue") (fdA K (He.ga K "check_queue"))
  g_span_of : mg "span_of" = some (.ref (He.ga K "span_of"))
  F_span_of : FunD K "span_of" "span_of" (defArgs s_span_of) (defBody s_span_of) (defScope s_span_of) [] [] (He.ga K "span_of") (fdA K (He.ga K "span_of"))
  g_is_count : mg "is_count" = some (.ref (He.ga K "is_count"))
  F_is_count : FunD K "is_count" "is_count" (defArgs s_is_count) (defBody s_is_count) (defScope s_is_count) [] [] (He.ga K "is_count") (fdA K (He.ga K "is_count"))
  g_parse : mg "parse" = some (.ref (He.ga K "parse"))
  F_parse : FunD K "parse" "parse" (defArgs s_parse) (defBody s_parse) (defScope s_parse) [] [] (He.ga K "parse") (fdA K (He.ga K "parse"))
  g_items_of : mg "items_of" = some (.ref (He.ga K "items_of"))
  F_items_of : FunD K "items_of" "items_of" (defArgs s_items_of) (defBody s_items_of) (defScope s_items_of) [] [] (He.ga K "items_of") (fdA K (He.ga K "items_of"))
  g_is_row : mg "is_row" = some (.ref (He.ga K "is_row"))
  F_is_row : FunD K "is_row" "is_row" (defArgs s_is_row) (defBody s_is_row) (defScope s_is_row) [] [] (He.ga K "is_row") (fdA K (He.ga K "is_row"))
  g_joined_row : mg "joined_row" = some (.ref (He.ga K "joined_row"))
  F_joined_row : FunD K "joined_row" "joined_row" (defArgs s_joined_row) (defBody s_joined_row) (defScope s_joined_row) [] [] (He.ga K "joined_row") (fdA K (He.ga K "joined_row"))
  g_joined_rows : mg "joined_rows" = some (.ref (He.ga K "joined_rows"))
  F_joined_rows : FunD K "joined_rows" "joined_rows" (defArgs s_joined_rows) (defBody s_joined_rows) (defScope s_joined_rows) [] [] (He.ga K "joined_rows") (fdA K (He.ga K "joined_rows"))
  g_identity_rows : mg "identity_rows" = some (.ref (He.ga K "identity_rows"))
  F_identity_rows : FunD K "identity_rows" "identity_rows" (defArgs s_identity_rows) (defBody s_identity_rows) (defScope s_identity_rows) [] [] (He.ga K "identity_rows") (fdA K (He.ga K "identity_rows"))
  g_power_rows : mg "power_rows" = some (.ref (He.ga K "power_rows"))
  F_power_rows : FunD K "power_rows" "power_rows" (defArgs s_power_rows) (defBody s_power_rows) (defScope s_power_rows) [] [] (He.ga K "power_rows") (fdA K (He.ga K "power_rows"))
  g_end_of : mg "end_of" = some (.ref (He.ga K "end_of"))
  F_end_of : FunD K "end_of" "end_of" (defArgs s_end_of) (defBody s_end_of) (defScope s_end_of) [] [] (He.ga K "end_of") (fdA K (He.ga K "end_of"))
  F_Effect_init : FunD K "__init__" "Effect.__init__" (defArgs s_Effect_init) (defBody s_Effect_init) (defScope s_Effect_init) [] [] (He.ma K (He.ga K "Effect") "__init__") (fdA K (He.ma K (He.ga K "Effect") "__init__"))
  F_Effect_identity : FunD K "identity" "Effect.identity" (defArgs s_Effect_identity) (defBody s_Effect_identity) (defScope s_Effect_identity) [] [] (He5.wf K (He.ga K "Effect") "classmethod" "identity") (fdA K (He5.wf K (He.ga K "Effect") "classmethod" "identity"))
  F_Effect_failing : FunD K "failing" "Effect.failing" (defArgs s_Effect_failing) (defBody s_Effect_failing) (defScope s_Effect_failing) [] [] (He5.wf K (He.ga K "Effect") "classmethod" "failing") (fdA K (He5.wf K (He.ga K "Effect") "classmethod" "failing"))
  F_Effect_capacity : FunD K "capacity" "Effect.capacity" (defArgs s_Effect_capacity) (defBody s_Effect_capacity) (defScope s_Effect_capacity) [] [] (He5.wf K (He.ga K "Effect") "property" "capacity") (fdA K (He5.wf K (He.ga K "Effect") "property" "capacity"))
  F_Effect_rows : FunD K "rows" "Effect.rows" (defArgs s_Effect_rows) (defBody s_Effect_rows) (defScope s_Effect_rows) [] [] (He5.wf K (He.ga K "Effect") "property" "rows") (fdA K (He5.wf K (He.ga K "Effect") "property" "rows"))
  F_Effect_bool : FunD K "__bool__" "Effect.__bool__" (defArgs s_Effect_bool) (defBody s_Effect_bool) (defScope s_Effect_bool) [] [] (He.ma K (He.ga K "Effect") "__bool__") (fdA K (He.ma K (He.ga K "Effect") "__bool__"))
  F_Effect_eq : FunD K "__eq__" "Effect.__eq__" (defArgs s_Effect_eq) (defBody s_Effect_eq) (defScope s_Effect_eq) [] [] (He.ma K (He.ga K "Effect") "__eq__") (fdA K (He.ma K (He.ga K "Effect") "__eq__"))
  g_check_effect : mg "check_effect" = some (.ref (He.ga K "check_effect"))
  F_check_effect : FunD K "check_effect" "check_effect" (defArgs s_check_effect) (defBody s_check_effect) (defScope s_check_effect) [] [] (He.ga K "check_effect") (fdA K (He.ga K "check_effect"))
  g_check_same : mg "check_same" = some (.ref (He.ga K "check_same"))
  F_check_same : FunD K "check_same" "check_same" (defArgs s_check_same) (defBody s_check_same) (defScope s_check_same) [] [] (He.ga K "check_same") (fdA K (He.ga K "check_same"))
  g_row_after : mg "row_after" = some (.ref (He.ga K "row_after"))
  F_row_after : FunD K "row_after" "row_after" (defArgs s_row_after) (defBody s_row_after) (defScope s_row_after) [] [] (He.ga K "row_after") (fdA K (He.ga K "row_after"))
  g_rows_of : mg "rows_of" = some (.ref (He.ga K "rows_of"))
  F_rows_of : FunD K "rows_of" "rows_of" (defArgs s_rows_of) (defBody s_rows_of) (defScope s_rows_of) [] [] (He.ga K "rows_of") (fdA K (He.ga K "rows_of"))
  g_effect_of : mg "effect_of" = some (.ref (He.ga K "effect_of"))
  F_effect_of : FunD K "effect_of" "effect_of" (defArgs s_effect_of) (defBody s_effect_of) (defScope s_effect_of) [] [] (He.ga K "effect_of") (fdA K (He.ga K "effect_of"))
  F_Walk_init : FunD K "__init__" "Walk.__init__" (defArgs s_Walk_init) (defBody s_Walk_init) (defScope s_Walk_init) [] [] (He.ma K (He.ga K "Walk") "__init__") (fdA K (He.ma K (He.ga K "Walk") "__init__"))
  F_Walk_least_puts : FunD K "least_puts" "Walk.least_puts" (defArgs s_Walk_least_puts) (defBody s_Walk_least_puts) (defScope s_Walk_least_puts) [] [] (He.ma K (He.ga K "Walk") "least_puts") (fdA K (He.ma K (He.ga K "Walk") "least_puts"))
  F_Walk_allows : FunD K "allows" "Walk.allows" (defArgs s_Walk_allows) (defBody s_Walk_allows) (defScope s_Walk_allows) [] [] (He.ma K (He.ga K "Walk") "allows") (fdA K (He.ma K (He.ga K "Walk") "allows"))
  F_Walk_drawn : FunD K "drawn" "Walk.drawn" (defArgs s_Walk_drawn) (defBody s_Walk_drawn) (defScope s_Walk_drawn) [] [] (He.ma K (He.ga K "Walk") "drawn") (fdA K (He.ma K (He.ga K "Walk") "drawn"))
  g_lettered : mg "lettered" = some (.ref (He.ga K "lettered"))
  F_lettered : FunD K "lettered" "lettered" (defArgs s_lettered) (defBody s_lettered) (defScope s_lettered) [] [] (He.ga K "lettered") (fdA K (He.ga K "lettered"))
  g_puts_for : mg "puts_for" = some (.ref (He.ga K "puts_for"))
  F_puts_for : FunD K "puts_for" "puts_for" (defArgs s_puts_for) (defBody s_puts_for) (defScope s_puts_for) [] [] (He.ga K "puts_for") (fdA K (He.ga K "puts_for"))
  g_candidates_oldest : mg "candidates_oldest" = some (.ref (He.ga K "candidates_oldest"))
  F_candidates_oldest : FunD K "candidates_oldest" "candidates_oldest" (defArgs s_candidates_oldest) (defBody s_candidates_oldest) (defScope s_candidates_oldest) [] [] (He.ga K "candidates_oldest") (fdA K (He.ga K "candidates_oldest"))
  g_walks_for : mg "walks_for" = some (.ref (He.ga K "walks_for"))
  F_walks_for : FunD K "walks_for" "walks_for" (defArgs s_walks_for) (defBody s_walks_for) (defScope s_walks_for) [] [] (He.ga K "walks_for") (fdA K (He.ga K "walks_for"))
  g_sequence_for : mg "sequence_for" = some (.ref (He.ga K "sequence_for"))
  F_sequence_for : FunD K "sequence_for" "sequence_for" (defArgs s_sequence_for) (defBody s_sequence_for) (defScope s_sequence_for) [] [] (He.ga K "sequence_for") (fdA K (He.ga K "sequence_for"))
  g_shortest_sequence : mg "shortest_sequence" = some (.ref (He.ga K "shortest_sequence"))
  F_shortest_sequence : FunD K "shortest_sequence" "shortest_sequence" (defArgs s_shortest_sequence) (defBody s_shortest_sequence) (defScope s_shortest_sequence) [] [] (He.ga K "shortest_sequence") (fdA K (He.ga K "shortest_sequence"))
  g_law_pool : mg "_law_pool" = some (.ref (He.ga K "_law_pool"))
  F_law_pool : FunD K "_law_pool" "_law_pool" (defArgs s_law_pool) (defBody s_law_pool) (defScope s_law_pool) [] [] (He.ga K "_law_pool") (fdA K (He.ga K "_law_pool"))
  g_law_take : mg "_law_take" = some (.ref (He.ga K "_law_take"))
  F_law_take : FunD K "_law_take" "_law_take" (defArgs s_law_take) (defBody s_law_take) (defScope s_law_take) [] [] (He.ga K "_law_take") (fdA K (He.ga K "_law_take"))
  g_law_steps : mg "_law_steps" = some (.ref (He.ga K "_law_steps"))
  F_law_steps : FunD K "_law_steps" "_law_steps" (defArgs s_law_steps) (defBody s_law_steps) (defScope s_law_steps) [] [] (He.ga K "_law_steps") (fdA K (He.ga K "_law_steps"))
  g_law_after : mg "_law_after" = some (.ref (He.ga K "_law_after"))
  F_law_after : FunD K "_law_after" "_law_after" (defArgs s_law_after) (defBody s_law_after) (defScope s_law_after) [] [] (He.ga K "_law_after") (fdA K (He.ga K "_law_after"))
  g_law_end : mg "_law_end" = some (.ref (He.ga K "_law_end"))
  F_law_end : FunD K "_law_end" "_law_end" (defArgs s_law_end) (defBody s_law_end) (defScope s_law_end) [] [] (He.ga K "_law_end") (fdA K (He.ga K "_law_end"))
  g_law_text : mg "_law_text" = some (.ref (He.ga K "_law_text"))
  F_law_text : FunD K "_law_text" "_law_text" (defArgs s_law_text) (defBody s_law_text) (defScope s_law_text) [] [] (He.ga K "_law_text") (fdA K (He.ga K "_law_text"))
  g_law_known_right : mg "_law_known_right" = some (.ref (He.ga K "_law_known_right"))
  F_law_known_right : FunD K "_law_known_right" "_law_known_right" (defArgs s_law_known_right) (defBody s_law_known_right) (defScope s_law_known_right) [] [] (He.ga K "_law_known_right") (fdA K (He.ga K "_law_known_right"))
  g_law : mg "law" = some (.ref (He.ga K "law"))
  F_law : FunD K "law" "law" (defArgs s_law) (defBody s_law) (defScope s_law) [] [] (He.ga K "law") (fdA K (He.ga K "law"))
def exs : List (PySem.W.Frag → Bool) := [(He.Fa.free "ValueError").ok,
  (He.Fa.free "LookupError").ok,
  (He.Fa.free "tuple").ok,
  (He.Fa.free "list").ok,
  (He.Fa.free "range").ok,
  (He.Fa.free "max").ok,
  (He.Fa.free "isinstance").ok,
  (He.Fa.free "int").ok,
  (He.Fa.free "str").ok,
  (He.Fa.free "all").ok,
  (He.Fa.free "len").ok,
  (He.Fa.free "enumerate").ok,
  (He.Fa.free "TypeError").ok,
  (He.Fa.free "any").ok,
  (He.Fa.free "NotImplemented").ok,
  (He.Fa.free "bool").ok,
  (He.Fa.free "abs").ok,
  (He.Fa.free "min").ok,
  (He.Fa.str "LETTERS" "abcdefghijklmnopqrstuvwxyz").ok,
  (He.Fa.int "MOST" 100).ok,
  (He.Fa.glo "MODES").ok,
  fun K => He.tupB K "MODES" [(.str "oldest"), (.str "newest"), (.str "strict")],
  (He.Fa.str "TAKE" "-").ok,
  (He.Fa.str "STEPS" "abcdefghijklmnopqrstuvwxyz-").ok,
  (He.Fa.str "DIGITS" "0123456789").ok,
  (He.Fa.int "MOST_COUNT" 1000000000000000000000000000000).ok,
  (He.Fa.int "MOST_DEPTH" 20).ok,
  (He.Fa.str "FILLER" "a").ok,
  (He.Fa.str "PUT" "+").ok,
  (He.Fa.glo "QueueError").ok,
  excB "QueueError" [.type "ValueError", .type "Exception", .type "BaseException", .type "object"] "ValueError.__new__",
  (He.Fa.glo "InvalidInteger").ok,
  excB "InvalidInteger" [.type "ValueError", .type "Exception", .type "BaseException", .type "object"] "ValueError.__new__",
  (He.Fa.glo "InvalidCapacity").ok,
  excB "InvalidCapacity" [.type "ValueError", .type "Exception", .type "BaseException", .type "object"] "ValueError.__new__",
  (He.Fa.glo "InvalidMode").ok,
  excB "InvalidMode" [.type "ValueError", .type "Exception", .type "BaseException", .type "object"] "ValueError.__new__",
  (He.Fa.glo "InvalidQueue").ok,
  excB "InvalidQueue" [.type "ValueError", .type "Exception", .type "BaseException", .type "object"] "ValueError.__new__",
  (He.Fa.glo "InvalidProgram").ok,
  excB "InvalidProgram" [.type "ValueError", .type "Exception", .type "BaseException", .type "object"] "ValueError.__new__",
  (He.Fa.glo "InvalidEffect").ok,
  x1B "InvalidEffect" "position" [.type "ValueError", .type "Exception", .type "BaseException", .type "object"] "ValueError.__new__",
  (He.Fa.glo "CapacityMismatch").ok,
  x1B "CapacityMismatch" "first" [.type "ValueError", .type "Exception", .type "BaseException", .type "object"] "ValueError.__new__",
  x1B "CapacityMismatch" "second" [.type "ValueError", .type "Exception", .type "BaseException", .type "object"] "ValueError.__new__",
  (He.Fa.glo "EffectFailed").ok,
  x1B "EffectFailed" "length" [.type "LookupError", .type "Exception", .type "BaseException", .type "object"] "LookupError.__new__",
  (He.Fa.glo "Effect").ok,
  (He.Fa.glo "Walk").ok,
  (He.Fa.cls "Effect").ok,
  (He.Fa.noat "Effect" "all_rows").ok,
  (He.Fa.mkr "Effect").ok,
  insTyB "Effect",
  isiC "Effect" "Effect" true,
  isiB "Effect",
  (He.Fa.cls "Walk").ok,
  (He.Fa.noat "Walk" "depth").ok,
  (He.Fa.noat "Walk" "height").ok,
  (He.Fa.noat "Walk" "last").ok,
  (He.Fa.noat "Walk" "is_up_first").ok,
  (He.Fa.mkr "Walk").ok,
  (He.Fa.meth "Walk" "least_puts").ok,
  (He.Fa.meth "Walk" "allows").ok,
  (He.Fa.meth "Walk" "drawn").ok,
  dunB "Effect" "__bool__",
  propB "Effect" "capacity",
  propB "Effect" "rows",
  dunB "Effect" "__eq__",
  creadB "Effect",
  cmetB "Effect" "failing",
  cmetB "Effect" "identity",
  (He.Fa.glo "_wall").ok,
  (He.Fa.glo "is_integer").ok,
  (He.Fa.glo "check_integer").ok,
  (He.Fa.glo "is_text_of").ok,
  (He.Fa.glo "is_capacity").ok,
  (He.Fa.glo "check_capacity").ok,
  (He.Fa.glo "is_mode").ok,
  (He.Fa.glo "check_mode").ok,
  (He.Fa.glo "is_queue").ok,
  (He.Fa.glo "check_queue").ok,
  (He.Fa.glo "span_of").ok,
  (He.Fa.glo "is_count").ok,
  (He.Fa.glo "parse").ok,
  (He.Fa.glo "items_of").ok,
  (He.Fa.glo "is_row").ok,
  (He.Fa.glo "joined_row").ok,
  (He.Fa.glo "joined_rows").ok,
  (He.Fa.glo "identity_rows").ok,
  (He.Fa.glo "power_rows").ok,
  (He.Fa.glo "end_of").ok,
  (He.Fa.glo "check_effect").ok,
  (He.Fa.glo "check_same").ok,
  (He.Fa.glo "row_after").ok,
  (He.Fa.glo "rows_of").ok,
  (He.Fa.glo "effect_of").ok,
  (He.Fa.glo "lettered").ok,
  (He.Fa.glo "puts_for").ok,
  (He.Fa.glo "candidates_oldest").ok,
  (He.Fa.glo "walks_for").ok,
  (He.Fa.glo "sequence_for").ok,
  (He.Fa.glo "shortest_sequence").ok,
  (He.Fa.glo "_law_pool").ok,
  (He.Fa.glo "_law_take").ok,
  (He.Fa.glo "_law_steps").ok,
  (He.Fa.glo "_law_after").ok,
  (He.Fa.glo "_law_end").ok,
  (He.Fa.glo "_law_text").ok,
  (He.Fa.glo "_law_known_right").ok,
  (He.Fa.glo "law").ok]
def fns : List He5.DefA := [{ at_ := fun K => He.ga K "_wall", name := "_wall", qual := "_wall", params := defArgs s_wall, body := defBody s_wall, scope := defScope s_wall, dfl := [], kwd := [] },
  { at_ := fun K => He.ma K (He.ga K "InvalidEffect") "__init__", name := "__init__", qual := "InvalidEffect.__init__", params := defArgs s_InvalidEffect_init, body := defBody s_InvalidEffect_init, scope := defScope s_InvalidEffect_init, dfl := [], kwd := [] },
  { at_ := fun K => He.ma K (He.ga K "CapacityMismatch") "__init__", name := "__init__", qual := "CapacityMismatch.__init__", params := defArgs s_CapacityMismatch_init, body := defBody s_CapacityMismatch_init, scope := defScope s_CapacityMismatch_init, dfl := [], kwd := [] },
  { at_ := fun K => He.ma K (He.ga K "EffectFailed") "__init__", name := "__init__", qual := "EffectFailed.__init__", params := defArgs s_EffectFailed_init, body := defBody s_EffectFailed_init, scope := defScope s_EffectFailed_init, dfl := [], kwd := [] },
  { at_ := fun K => He.ga K "is_integer", name := "is_integer", qual := "is_integer", params := defArgs s_is_integer, body := defBody s_is_integer, scope := defScope s_is_integer, dfl := [(.int 0)], kwd := [] },
  { at_ := fun K => He.ga K "check_integer", name := "check_integer", qual := "check_integer", params := defArgs s_check_integer, body := defBody s_check_integer, scope := defScope s_check_integer, dfl := [(.int 0), .non], kwd := [] },
  { at_ := fun K => He.ga K "is_text_of", name := "is_text_of", qual := "is_text_of", params := defArgs s_is_text_of, body := defBody s_is_text_of, scope := defScope s_is_text_of, dfl := [], kwd := [] },
  { at_ := fun K => He.ga K "is_capacity", name := "is_capacity", qual := "is_capacity", params := defArgs s_is_capacity, body := defBody s_is_capacity, scope := defScope s_is_capacity, dfl := [], kwd := [] },
  { at_ := fun K => He.ga K "check_capacity", name := "check_capacity", qual := "check_capacity", params := defArgs s_check_capacity, body := defBody s_check_capacity, scope := defScope s_check_capacity, dfl := [], kwd := [] },
  { at_ := fun K => He.ga K "is_mode", name := "is_mode", qual := "is_mode", params := defArgs s_is_mode, body := defBody s_is_mode, scope := defScope s_is_mode, dfl := [], kwd := [] },
  { at_ := fun K => He.ga K "check_mode", name := "check_mode", qual := "check_mode", params := defArgs s_check_mode, body := defBody s_check_mode, scope := defScope s_check_mode, dfl := [], kwd := [] },
  { at_ := fun K => He.ga K "is_queue", name := "is_queue", qual := "is_queue", params := defArgs s_is_queue, body := defBody s_is_queue, scope := defScope s_is_queue, dfl := [(.int 100)], kwd := [] },
  { at_ := fun K => He.ga K "check_queue", name := "check_queue", qual := "check_queue", params := defArgs s_check_queue, body := defBody s_check_queue, scope := defScope s_check_queue, dfl := [(.int 100)], kwd := [] },
  { at_ := fun K => He.ga K "span_of", name := "span_of", qual := "span_of", params := defArgs s_span_of, body := defBody s_span_of, scope := defScope s_span_of, dfl := [], kwd := [] },
  { at_ := fun K => He.ga K "is_count", name := "is_count", qual := "is_count", params := defArgs s_is_count, body := defBody s_is_count, scope := defScope s_is_count, dfl := [], kwd := [] },
  { at_ := fun K => He.ga K "parse", name := "parse", qual := "parse", params := defArgs s_parse, body := defBody s_parse, scope := defScope s_parse, dfl := [], kwd := [] },
  { at_ := fun K => He.ga K "items_of", name := "items_of", qual := "items_of", params := defArgs s_items_of, body := defBody s_items_of, scope := defScope s_items_of, dfl := [], kwd := [] },
  { at_ := fun K => He.ga K "is_row", name := "is_row", qual := "is_row", params := defArgs s_is_row, body := defBody s_is_row, scope := defScope s_is_row, dfl := [], kwd := [] },
  { at_ := fun K => He.ga K "joined_row", name := "joined_row", qual := "joined_row", params := defArgs s_joined_row, body := defBody s_joined_row, scope := defScope s_joined_row, dfl := [], kwd := [] },
  { at_ := fun K => He.ga K "joined_rows", name := "joined_rows", qual := "joined_rows", params := defArgs s_joined_rows, body := defBody s_joined_rows, scope := defScope s_joined_rows, dfl := [], kwd := [] },
  { at_ := fun K => He.ga K "identity_rows", name := "identity_rows", qual := "identity_rows", params := defArgs s_identity_rows, body := defBody s_identity_rows, scope := defScope s_identity_rows, dfl := [], kwd := [] },
  { at_ := fun K => He.ga K "power_rows", name := "power_rows", qual := "power_rows", params := defArgs s_power_rows, body := defBody s_power_rows, scope := defScope s_power_rows, dfl := [], kwd := [] },
  { at_ := fun K => He.ga K "end_of", name := "end_of", qual := "end_of", params := defArgs s_end_of, body := defBody s_end_of, scope := defScope s_end_of, dfl := [], kwd := [] },
  { at_ := fun K => He.ma K (He.ga K "Effect") "__init__", name := "__init__", qual := "Effect.__init__", params := defArgs s_Effect_init, body := defBody s_Effect_init, scope := defScope s_Effect_init, dfl := [], kwd := [] },
  { at_ := fun K => He5.wf K (He.ga K "Effect") "classmethod" "identity", name := "identity", qual := "Effect.identity", params := defArgs s_Effect_identity, body := defBody s_Effect_identity, scope := defScope s_Effect_identity, dfl := [], kwd := [] },
  { at_ := fun K => He5.wf K (He.ga K "Effect") "classmethod" "failing", name := "failing", qual := "Effect.failing", params := defArgs s_Effect_failing, body := defBody s_Effect_failing, scope := defScope s_Effect_failing, dfl := [], kwd := [] },
  { at_ := fun K => He5.wf K (He.ga K "Effect") "property" "capacity", name := "capacity", qual := "Effect.capacity", params := defArgs s_Effect_capacity, body := defBody s_Effect_capacity, scope := defScope s_Effect_capacity, dfl := [], kwd := [] },
  { at_ := fun K => He5.wf K (He.ga K "Effect") "property" "rows", name := "rows", qual := "Effect.rows", params := defArgs s_Effect_rows, body := defBody s_Effect_rows, scope := defScope s_Effect_rows, dfl := [], kwd := [] },
  { at_ := fun K => He.ma K (He.ga K "Effect") "__bool__", name := "__bool__", qual := "Effect.__bool__", params := defArgs s_Effect_bool, body := defBody s_Effect_bool, scope := defScope s_Effect_bool, dfl := [], kwd := [] },
  { at_ := fun K => He.ma K (He.ga K "Effect") "__eq__", name := "__eq__", qual := "Effect.__eq__", params := defArgs s_Effect_eq, body := defBody s_Effect_eq, scope := defScope s_Effect_eq, dfl := [], kwd := [] },
  { at_ := fun K => He.ga K "check_effect", name := "check_effect", qual := "check_effect", params := defArgs s_check_effect, body := defBody s_check_effect, scope := defScope s_check_effect, dfl := [], kwd := [] },
  { at_ := fun K => He.ga K "check_same", name := "check_same", qual := "check_same", params := defArgs s_check_same, body := defBody s_check_same, scope := defScope s_check_same, dfl := [], kwd := [] },
  { at_ := fun K => He.ga K "row_after", name := "row_after", qual := "row_after", params := defArgs s_row_after, body := defBody s_row_after, scope := defScope s_row_after, dfl := [], kwd := [] },
  { at_ := fun K => He.ga K "rows_of", name := "rows_of", qual := "rows_of", params := defArgs s_rows_of, body := defBody s_rows_of, scope := defScope s_rows_of, dfl := [], kwd := [] },
  { at_ := fun K => He.ga K "effect_of", name := "effect_of", qual := "effect_of", params := defArgs s_effect_of, body := defBody s_effect_of, scope := defScope s_effect_of, dfl := [], kwd := [] },
  { at_ := fun K => He.ma K (He.ga K "Walk") "__init__", name := "__init__", qual := "Walk.__init__", params := defArgs s_Walk_init, body := defBody s_Walk_init, scope := defScope s_Walk_init, dfl := [], kwd := [] },
  { at_ := fun K => He.ma K (He.ga K "Walk") "least_puts", name := "least_puts", qual := "Walk.least_puts", params := defArgs s_Walk_least_puts, body := defBody s_Walk_least_puts, scope := defScope s_Walk_least_puts, dfl := [], kwd := [] },
  { at_ := fun K => He.ma K (He.ga K "Walk") "allows", name := "allows", qual := "Walk.allows", params := defArgs s_Walk_allows, body := defBody s_Walk_allows, scope := defScope s_Walk_allows, dfl := [], kwd := [] },
  { at_ := fun K => He.ma K (He.ga K "Walk") "drawn", name := "drawn", qual := "Walk.drawn", params := defArgs s_Walk_drawn, body := defBody s_Walk_drawn, scope := defScope s_Walk_drawn, dfl := [], kwd := [] },
  { at_ := fun K => He.ga K "lettered", name := "lettered", qual := "lettered", params := defArgs s_lettered, body := defBody s_lettered, scope := defScope s_lettered, dfl := [], kwd := [] },
  { at_ := fun K => He.ga K "puts_for", name := "puts_for", qual := "puts_for", params := defArgs s_puts_for, body := defBody s_puts_for, scope := defScope s_puts_for, dfl := [], kwd := [] },
  { at_ := fun K => He.ga K "candidates_oldest", name := "candidates_oldest", qual := "candidates_oldest", params := defArgs s_candidates_oldest, body := defBody s_candidates_oldest, scope := defScope s_candidates_oldest, dfl := [], kwd := [] },
  { at_ := fun K => He.ga K "walks_for", name := "walks_for", qual := "walks_for", params := defArgs s_walks_for, body := defBody s_walks_for, scope := defScope s_walks_for, dfl := [], kwd := [] },
  { at_ := fun K => He.ga K "sequence_for", name := "sequence_for", qual := "sequence_for", params := defArgs s_sequence_for, body := defBody s_sequence_for, scope := defScope s_sequence_for, dfl := [], kwd := [] },
  { at_ := fun K => He.ga K "shortest_sequence", name := "shortest_sequence", qual := "shortest_sequence", params := defArgs s_shortest_sequence, body := defBody s_shortest_sequence, scope := defScope s_shortest_sequence, dfl := [], kwd := [] },
  { at_ := fun K => He.ga K "_law_pool", name := "_law_pool", qual := "_law_pool", params := defArgs s_law_pool, body := defBody s_law_pool, scope := defScope s_law_pool, dfl := [], kwd := [] },
  { at_ := fun K => He.ga K "_law_take", name := "_law_take", qual := "_law_take", params := defArgs s_law_take, body := defBody s_law_take, scope := defScope s_law_take, dfl := [], kwd := [] },
  { at_ := fun K => He.ga K "_law_steps", name := "_law_steps", qual := "_law_steps", params := defArgs s_law_steps, body := defBody s_law_steps, scope := defScope s_law_steps, dfl := [], kwd := [] },
  { at_ := fun K => He.ga K "_law_after", name := "_law_after", qual := "_law_after", params := defArgs s_law_after, body := defBody s_law_after, scope := defScope s_law_after, dfl := [], kwd := [] },
  { at_ := fun K => He.ga K "_law_end", name := "_law_end", qual := "_law_end", params := defArgs s_law_end, body := defBody s_law_end, scope := defScope s_law_end, dfl := [], kwd := [] },
  { at_ := fun K => He.ga K "_law_text", name := "_law_text", qual := "_law_text", params := defArgs s_law_text, body := defBody s_law_text, scope := defScope s_law_text, dfl := [], kwd := [] },
  { at_ := fun K => He.ga K "_law_known_right", name := "_law_known_right", qual := "_law_known_right", params := defArgs s_law_known_right, body := defBody s_law_known_right, scope := defScope s_law_known_right, dfl := [], kwd := [] },
  { at_ := fun K => He.ga K "law", name := "law", qual := "law", params := defArgs s_law, body := defBody s_law, scope := defScope s_law, dfl := [], kwd := [] }]
theorem txt_of {K : PySem.W.Frag} {h : Heap} {mg : Str → Option Value} (X : K.In h) (G : h.Ns mainGlobals mg) (c : SaysM exs fns K) : Txt K mg :=
  ⟨He.free_ok X G (c.fact 0 rfl),
   He.free_ok X G (c.fact 1 rfl),
   He.free_ok X G (c.fact 2 rfl),
   He.free_ok X G (c.fact 3 rfl),
   He.free_ok X G (c.fact 4 rfl),
   He.free_ok X G (c.fact 5 rfl),
   He.free_ok X G (c.fact 6 rfl),
   He.free_ok X G (c.fact 7 rfl),
   He.free_ok X G (c.fact 8 rfl),
   He.free_ok X G (c.fact 9 rfl),
   He.free_ok X G (c.fact 10 rfl),
   He.free_ok X G (c.fact 11 rfl),
   He.free_ok X G (c.fact 12 rfl),
   He.free_ok X G (c.fact 13 rfl),
   He.free_ok X G (c.fact 14 rfl),
   He.free_ok X G (c.fact 15 rfl),
   He.free_ok X G (c.fact 16 rfl),
   He.free_ok X G (c.fact 17 rfl),
   (by obtain ⟨t, e⟩ := He.str_ok X G (c.fact 18 rfl); exact ⟨_, e, t, rfl⟩),
   (by obtain ⟨t, e⟩ := He.int_ok X G (c.fact 19 rfl); exact ⟨_, e, t, rfl⟩),
   He.glo_ok X G (c.fact 20 rfl),
   fun H => He.tupB_ok (c.fact 21 rfl) H,
   (by obtain ⟨t, e⟩ := He.str_ok X G (c.fact 22 rfl); exact ⟨_, e, t, rfl⟩),
   (by obtain ⟨t, e⟩ := He.str_ok X G (c.fact 23 rfl); exact ⟨_, e, t, rfl⟩),
   (by obtain ⟨t, e⟩ := He.str_ok X G (c.fact 24 rfl); exact ⟨_, e, t, rfl⟩),
   (by obtain ⟨t, e⟩ := He.int_ok X G (c.fact 25 rfl); exact ⟨_, e, t, rfl⟩),
   (by obtain ⟨t, e⟩ := He.int_ok X G (c.fact 26 rfl); exact ⟨_, e, t, rfl⟩),
   (by obtain ⟨t, e⟩ := He.str_ok X G (c.fact 27 rfl); exact ⟨_, e, t, rfl⟩),
   (by obtain ⟨t, e⟩ := He.str_ok X G (c.fact 28 rfl); exact ⟨_, e, t, rfl⟩),
   He.glo_ok X G (c.fact 29 rfl),
   excB_ok (c.fact 30 rfl),
   He.glo_ok X G (c.fact 31 rfl),
   excB_ok (c.fact 32 rfl),
   He.glo_ok X G (c.fact 33 rfl),
   excB_ok (c.fact 34 rfl),
   He.glo_ok X G (c.fact 35 rfl),
   excB_ok (c.fact 36 rfl),
   He.glo_ok X G (c.fact 37 rfl),
   excB_ok (c.fact 38 rfl),
   He.glo_ok X G (c.fact 39 rfl),
   excB_ok (c.fact 40 rfl),
   He.glo_ok X G (c.fact 41 rfl),
   x1B_ok (c.fact 42 rfl),
   He.glo_ok X G (c.fact 43 rfl),
   x1B_ok (c.fact 44 rfl),
   x1B_ok (c.fact 45 rfl),
   He.glo_ok X G (c.fact 46 rfl),
   x1B_ok (c.fact 47 rfl),
   He.glo_ok X G (c.fact 48 rfl),
   He.glo_ok X G (c.fact 49 rfl),
   He.cls_ok (c.fact 50 rfl),
   He.noat_ok (c.fact 51 rfl),
   He.mkr_ok (c.fact 52 rfl),
   insTyB_ok (c.fact 53 rfl),
   isiC_ok (c.fact 54 rfl),
   isiB_ok (c.fact 55 rfl),
   He.cls_ok (c.fact 56 rfl),
   He.noat_ok (c.fact 57 rfl),
   He.noat_ok (c.fact 58 rfl),
   He.noat_ok (c.fact 59 rfl),
   He.noat_ok (c.fact 60 rfl),
   He.mkr_ok (c.fact 61 rfl),
   He.meth_ok (c.fact 62 rfl),
   He.meth_ok (c.fact 63 rfl),
   He.meth_ok (c.fact 64 rfl),
   dunB_ok (c.fact 65 rfl),
   propB_ok (c.fact 66 rfl),
   propB_ok (c.fact 67 rfl),
   dunB_ok (c.fact 68 rfl),
   creadB_ok (c.fact 69 rfl),
   cmetB_ok (c.fact 70 rfl),
   cmetB_ok (c.fact 71 rfl),
   He.glo_ok X G (c.fact 72 rfl),
   c.def_ 0 rfl,
   c.def_ 1 rfl,
   c.def_ 2 rfl,
   c.def_ 3 rfl,
   He.glo_ok X G (c.fact 73 rfl),
   c.def_ 4 rfl,
   He.glo_ok X G (c.fact 74 rfl),
   c.def_ 5 rfl,
   He.glo_ok X G (c.fact 75 rfl),
   c.def_ 6 rfl,
   He.glo_ok X G (c.fact 76 rfl),
   c.def_ 7 rfl,
   He.glo_ok X G (c.fact 77 rfl),
   c.def_ 8 rfl,
   He.glo_ok X G (c.fact 78 rfl),
   c.def_ 9 rfl,
   He.glo_ok X G (c.fact 79 rfl),
   c.def_ 10 rfl,
   He.glo_ok X G (c.fact 80 rfl),
   c.def_ 11 rfl,
   He.glo_ok X G (c.fact 81 rfl),
   c.def_ 12 rfl,
   He.glo_ok X G (c.fact 82 rfl),
   c.def_ 13 rfl,
   He.glo_ok X G (c.fact 83 rfl),
   c.def_ 14 rfl,
   He.glo_ok X G (c.fact 84 rfl),
   c.def_ 15 rfl,
   He.glo_ok X G (c.fact 85 rfl),
   c.def_ 16 rfl,
   He.glo_ok X G (c.fact 86 rfl),
   c.def_ 17 rfl,
   He.glo_ok X G (c.fact 87 rfl),
   c.def_ 18 rfl,
   He.glo_ok X G (c.fact 88 rfl),
   c.def_ 19 rfl,
   He.glo_ok X G (c.fact 89 rfl),
   c.def_ 20 rfl,
   He.glo_ok X G (c.fact 90 rfl),
   c.def_ 21 rfl,
   He.glo_ok X G (c.fact 91 rfl),
   c.def_ 22 rfl,
   c.def_ 23 rfl,
   c.def_ 24 rfl,
   c.def_ 25 rfl,
   c.def_ 26 rfl,
   c.def_ 27 rfl,
   c.def_ 28 rfl,
   c.def_ 29 rfl,
   He.glo_ok X G (c.fact 92 rfl),
   c.def_ 30 rfl,
   He.glo_ok X G (c.fact 93 rfl),
   c.def_ 31 rfl,
   He.glo_ok X G (c.fact 94 rfl),
   c.def_ 32 rfl,
   He.glo_ok X G (c.fact 95 rfl),
   c.def_ 33 rfl,
   He.glo_ok X G (c.fact 96 rfl),
   c.def_ 34 rfl,
   c.def_ 35 rfl,
   c.def_ 36 rfl,
   c.def_ 37 rfl,
   c.def_ 38 rfl,
   He.glo_ok X G (c.fact 97 rfl),
   c.def_ 39 rfl,
   He.glo_ok X G (c.fact 98 rfl),
   c.def_ 40 rfl,
   He.glo_ok X G (c.fact 99 rfl),
   c.def_ 41 rfl,
   He.glo_ok X G (c.fact 100 rfl),
   c.def_ 42 rfl,
   He.glo_ok X G (c.fact 101 rfl),
   c.def_ 43 rfl,
   He.glo_ok X G (c.fact 102 rfl),
   c.def_ 44 rfl,
   He.glo_ok X G (c.fact 103 rfl),
   c.def_ 45 rfl,
   He.glo_ok X G (c.fact 104 rfl),
   c.def_ 46 rfl,
   He.glo_ok X G (c.fact 105 rfl),
   c.def_ 47 rfl,
   He.glo_ok X G (c.fact 106 rfl),
   c.def_ 48 rfl,
   He.glo_ok X G (c.fact 107 rfl),
   c.def_ 49 rfl,
   He.glo_ok X G (c.fact 108 rfl),
   c.def_ 50 rfl,
   He.glo_ok X G (c.fact 109 rfl),
   c.def_ 51 rfl,
   He.glo_ok X G (c.fact 110 rfl),
   c.def_ 52 rfl⟩
variable {P : Program} {w : World} {K : PySem.W.Frag} {mg : Str → Option Value} {base : Heap}
theorem init_InvalidEffect (T : Txt K mg) : PySem.QX.InitRuns P w K (He.ga K "InvalidEffect") (He.ma K (He.ga K "InvalidEffect") "__init__") "position" := by
  intro A R s x t0 v X hlim hx hnx hroom hq
  obtain ⟨oc, od, dV, kV, doc, pm, an, cdv, ct, osl, e, ho, hcd, hD, _⟩ := T.F_InvalidEffect_init.ex
  rcases hD with ⟨_, rfl⟩ | ⟨z, _⟩
  · rw [e] at ho
    refine Att.call_fn (binds := [("self", .ref x), ("position", v)]) X hlim ho hcd hroom (BindsTo.of_eq (by first | rfl | with_unfolding_all rfl)) (by first | rfl | decide | with_unfolding_all rfl) (fun s1 IC => ?_) rfl rfl rfl
    obtain ⟨h1, tk1, rfl⟩ := IC.toInCall.same
    have k : ∀ b o, s.heap.get? b = some o → h1.get? b = some o := IC.toInCall.keep
    have hn := IC.toInCall.ns
    have X1 : K.In h1 := X.keeps k
    have hx1 := k _ _ hx
    show wpAny _ _ (execs _ _) _ _ _
    refine wpAny_execs_cons (plainObj_wpAny_Assign_Attribute ?_)
    refine PySem.QX.ldQ (v := v) hn (by first | rfl | with_unfolding_all rfl | kernel_rfl) (PySem.QX.ldQ (v := .ref x) hn (by first | rfl | with_unfolding_all rfl | kernel_rfl) ?_)
    refine PySem.W.set_plain X1 (ox := PySem.HandSPX.excO (He.ga K "InvalidEffect") t0) (od := none) ⟨hx1, rfl, rfl, trivial⟩ T.x_InvalidEffect.sa ?_
    refine PySem.QX.osaG PySem.F.store_ValueError X1 hx1 T.x_InvalidEffect.ovr T.x_InvalidEffect.hd T.x_InvalidEffect.tkr (fun h3 tk3 dx k3 dn dne hx3 hn3 => ?_)
    show wpAny _ _ (execs _ _) _ _ _
    have z : s.heap.objs.size < h1.objs.size := hn.lt
    exact wpAny_execs_nil (hq h3 tk3 dx ⟨fun b o hb e => k3 b o hb (k b o e), hx3, Nat.le_of_lt (Nat.lt_of_lt_of_le z dn), dne, hn3⟩)
  · exact absurd rfl z
theorem bd_is_integer (T : Txt K mg) : ∃ ds, Vals ([] : List V) ds ∧ Binds K (fdA K (He.ga K "is_integer")) ["value", "least"] ds := T.F_is_integer.binds1 2 1 (by simp) rfl (fun _ _ _ _ _ _ _ us its hu hi => match us, its, hu, hi with | [_, _], [_], _, _ => ⟨_, rfl, rfl⟩)
theorem bd_is_integer_1 (T : Txt K mg) : ∃ ds, Vals ([(.int 0)] : List V) ds ∧ Binds K (fdA K (He.ga K "is_integer")) ["value", "least"] ds := T.F_is_integer.binds1 1 0 (by simp) rfl (fun _ _ _ _ _ _ _ us its hu hi => match us, its, hu, hi with | [_], [_], _, _ => ⟨_, rfl, rfl⟩)
theorem bd_is_text_of (T : Txt K mg) : ∃ ds, Vals [] ds ∧ Binds K (fdA K (He.ga K "is_text_of")) ["value", "letters"] ds := ⟨[], .nil, T.F_is_text_of.bindsN fun _ _ _ _ _ _ us hl => match us, hl with | [_, _], _ => rfl⟩
theorem bd_is_capacity (T : Txt K mg) : ∃ ds, Vals [] ds ∧ Binds K (fdA K (He.ga K "is_capacity")) ["value"] ds := ⟨[], .nil, T.F_is_capacity.bindsN fun _ _ _ _ _ _ us hl => match us, hl with | [_], _ => rfl⟩
theorem bd_check_capacity (T : Txt K mg) : ∃ ds, Vals [] ds ∧ Binds K (fdA K (He.ga K "check_capacity")) ["value"] ds := ⟨[], .nil, T.F_check_capacity.bindsN fun _ _ _ _ _ _ us hl => match us, hl with | [_], _ => rfl⟩
theorem bd_is_mode (T : Txt K mg) : ∃ ds, Vals [] ds ∧ Binds K (fdA K (He.ga K "is_mode")) ["value"] ds := ⟨[], .nil, T.F_is_mode.bindsN fun _ _ _ _ _ _ us hl => match us, hl with | [_], _ => rfl⟩
theorem bd_check_mode (T : Txt K mg) : ∃ ds, Vals [] ds ∧ Binds K (fdA K (He.ga K "check_mode")) ["value"] ds := ⟨[], .nil, T.F_check_mode.bindsN fun _ _ _ _ _ _ us hl => match us, hl with | [_], _ => rfl⟩
theorem bd_is_queue (T : Txt K mg) : ∃ ds, Vals ([] : List V) ds ∧ Binds K (fdA K (He.ga K "is_queue")) ["value", "capacity"] ds := T.F_is_queue.binds1 2 1 (by simp) rfl (fun _ _ _ _ _ _ _ us its hu hi => match us, its, hu, hi with | [_, _], [_], _, _ => ⟨_, rfl, rfl⟩)
theorem bd_span_of (T : Txt K mg) : ∃ ds, Vals [] ds ∧ Binds K (fdA K (He.ga K "span_of")) ["text", "start", "characters"] ds := ⟨[], .nil, T.F_span_of.bindsN fun _ _ _ _ _ _ us hl => match us, hl with | [_, _, _], _ => rfl⟩
theorem bd_is_count (T : Txt K mg) : ∃ ds, Vals [] ds ∧ Binds K (fdA K (He.ga K "is_count")) ["digits"] ds := ⟨[], .nil, T.F_is_count.bindsN fun _ _ _ _ _ _ us hl => match us, hl with | [_], _ => rfl⟩
theorem bd_parse (T : Txt K mg) : ∃ ds, Vals [] ds ∧ Binds K (fdA K (He.ga K "parse")) ["text"] ds := ⟨[], .nil, T.F_parse.bindsN fun _ _ _ _ _ _ us hl => match us, hl with | [_], _ => rfl⟩
theorem bd_items_of (T : Txt K mg) : ∃ ds, Vals [] ds ∧ Binds K (fdA K (He.ga K "items_of")) ["program"] ds := ⟨[], .nil, T.F_items_of.bindsN fun _ _ _ _ _ _ us hl => match us, hl with | [_], _ => rfl⟩
theorem bd_is_row (T : Txt K mg) : ∃ ds, Vals [] ds ∧ Binds K (fdA K (He.ga K "is_row")) ["value", "length", "capacity"] ds := ⟨[], .nil, T.F_is_row.bindsN fun _ _ _ _ _ _ us hl => match us, hl with | [_, _, _], _ => rfl⟩
theorem bd_joined_row (T : Txt K mg) : ∃ ds, Vals [] ds ∧ Binds K (fdA K (He.ga K "joined_row")) ["row", "rows"] ds := ⟨[], .nil, T.F_joined_row.bindsN fun _ _ _ _ _ _ us hl => match us, hl with | [_, _], _ => rfl⟩
theorem bd_joined_rows (T : Txt K mg) : ∃ ds, Vals [] ds ∧ Binds K (fdA K (He.ga K "joined_rows")) ["first", "second"] ds := ⟨[], .nil, T.F_joined_rows.bindsN fun _ _ _ _ _ _ us hl => match us, hl with | [_, _], _ => rfl⟩
theorem bd_identity_rows (T : Txt K mg) : ∃ ds, Vals [] ds ∧ Binds K (fdA K (He.ga K "identity_rows")) ["capacity"] ds := ⟨[], .nil, T.F_identity_rows.bindsN fun _ _ _ _ _ _ us hl => match us, hl with | [_], _ => rfl⟩
theorem bd_power_rows (T : Txt K mg) : ∃ ds, Vals [] ds ∧ Binds K (fdA K (He.ga K "power_rows")) ["rows", "exponent"] ds := ⟨[], .nil, T.F_power_rows.bindsN fun _ _ _ _ _ _ us hl => match us, hl with | [_, _], _ => rfl⟩
theorem bd_end_of (T : Txt K mg) : ∃ ds, Vals [] ds ∧ Binds K (fdA K (He.ga K "end_of")) ["row"] ds := ⟨[], .nil, T.F_end_of.bindsN fun _ _ _ _ _ _ us hl => match us, hl with | [_], _ => rfl⟩
theorem bd_Effect_init (T : Txt K mg) : ∃ ds, Vals [] ds ∧ Binds K (fdA K (He.ma K (He.ga K "Effect") "__init__")) ["self", "capacity", "rows"] ds := ⟨[], .nil, T.F_Effect_init.bindsN fun _ _ _ _ _ _ us hl => match us, hl with | [_, _, _], _ => rfl⟩
theorem bd_Effect_identity (T : Txt K mg) : ∃ ds, Vals [] ds ∧ Binds K (fdA K (He5.wf K (He.ga K "Effect") "classmethod" "identity")) ["cls", "capacity"] ds := ⟨[], .nil, T.F_Effect_identity.bindsN fun _ _ _ _ _ _ us hl => match us, hl with | [_, _], _ => rfl⟩
theorem bd_Effect_failing (T : Txt K mg) : ∃ ds, Vals [] ds ∧ Binds K (fdA K (He5.wf K (He.ga K "Effect") "classmethod" "failing")) ["cls", "capacity"] ds := ⟨[], .nil, T.F_Effect_failing.bindsN fun _ _ _ _ _ _ us hl => match us, hl with | [_, _], _ => rfl⟩
theorem bd_Effect_capacity (T : Txt K mg) : ∃ ds, Vals [] ds ∧ Binds K (fdA K (He5.wf K (He.ga K "Effect") "property" "capacity")) ["self"] ds := ⟨[], .nil, T.F_Effect_capacity.bindsN fun _ _ _ _ _ _ us hl => match us, hl with | [_], _ => rfl⟩
theorem bd_Effect_rows (T : Txt K mg) : ∃ ds, Vals [] ds ∧ Binds K (fdA K (He5.wf K (He.ga K "Effect") "property" "rows")) ["self"] ds := ⟨[], .nil, T.F_Effect_rows.bindsN fun _ _ _ _ _ _ us hl => match us, hl with | [_], _ => rfl⟩
theorem bd_Effect_bool (T : Txt K mg) : ∃ ds, Vals [] ds ∧ Binds K (fdA K (He.ma K (He.ga K "Effect") "__bool__")) ["self"] ds := ⟨[], .nil, T.F_Effect_bool.bindsN fun _ _ _ _ _ _ us hl => match us, hl with | [_], _ => rfl⟩
theorem bd_Effect_eq (T : Txt K mg) : ∃ ds, Vals [] ds ∧ Binds K (fdA K (He.ma K (He.ga K "Effect") "__eq__")) ["self", "other"] ds := ⟨[], .nil, T.F_Effect_eq.bindsN fun _ _ _ _ _ _ us hl => match us, hl with | [_, _], _ => rfl⟩
theorem bd_check_effect (T : Txt K mg) : ∃ ds, Vals [] ds ∧ Binds K (fdA K (He.ga K "check_effect")) ["value"] ds := ⟨[], .nil, T.F_check_effect.bindsN fun _ _ _ _ _ _ us hl => match us, hl with | [_], _ => rfl⟩
theorem bd_row_after (T : Txt K mg) : ∃ ds, Vals [] ds ∧ Binds K (fdA K (He.ga K "row_after")) ["row", "step", "capacity", "mode"] ds := ⟨[], .nil, T.F_row_after.bindsN fun _ _ _ _ _ _ us hl => match us, hl with | [_, _, _, _], _ => rfl⟩
theorem bd_rows_of (T : Txt K mg) : ∃ ds, Vals [] ds ∧ Binds K (fdA K (He.ga K "rows_of")) ["items", "capacity", "mode"] ds := ⟨[], .nil, T.F_rows_of.bindsN fun _ _ _ _ _ _ us hl => match us, hl with | [_, _, _], _ => rfl⟩
theorem bd_effect_of (T : Txt K mg) : ∃ ds, Vals [] ds ∧ Binds K (fdA K (He.ga K "effect_of")) ["program", "capacity", "mode"] ds := ⟨[], .nil, T.F_effect_of.bindsN fun _ _ _ _ _ _ us hl => match us, hl with | [_, _, _], _ => rfl⟩
theorem bd_Walk_init (T : Txt K mg) : ∃ ds, Vals [] ds ∧ Binds K (fdA K (He.ma K (He.ga K "Walk") "__init__")) ["self", "depth", "height", "last", "limit"] ds := ⟨[], .nil, T.F_Walk_init.bindsN fun _ _ _ _ _ _ us hl => match us, hl with | [_, _, _, _, _], _ => rfl⟩
theorem bd_Walk_least_puts (T : Txt K mg) : ∃ ds, Vals [] ds ∧ Binds K (fdA K (He.ma K (He.ga K "Walk") "least_puts")) ["self"] ds := ⟨[], .nil, T.F_Walk_least_puts.bindsN fun _ _ _ _ _ _ us hl => match us, hl with | [_], _ => rfl⟩
theorem bd_Walk_allows (T : Txt K mg) : ∃ ds, Vals [] ds ∧ Binds K (fdA K (He.ma K (He.ga K "Walk") "allows")) ["self", "puts"] ds := ⟨[], .nil, T.F_Walk_allows.bindsN fun _ _ _ _ _ _ us hl => match us, hl with | [_, _], _ => rfl⟩
theorem bd_Walk_drawn (T : Txt K mg) : ∃ ds, Vals [] ds ∧ Binds K (fdA K (He.ma K (He.ga K "Walk") "drawn")) ["self", "puts"] ds := ⟨[], .nil, T.F_Walk_drawn.bindsN fun _ _ _ _ _ _ us hl => match us, hl with | [_, _], _ => rfl⟩
theorem bd_lettered (T : Txt K mg) : ∃ ds, Vals [] ds ∧ Binds K (fdA K (He.ga K "lettered")) ["walk", "letters"] ds := ⟨[], .nil, T.F_lettered.bindsN fun _ _ _ _ _ _ us hl => match us, hl with | [_, _], _ => rfl⟩
theorem bd_puts_for (T : Txt K mg) : ∃ ds, Vals [] ds ∧ Binds K (fdA K (He.ga K "puts_for")) ["walk", "row", "seen"] ds := ⟨[], .nil, T.F_puts_for.bindsN fun _ _ _ _ _ _ us hl => match us, hl with | [_, _, _], _ => rfl⟩
theorem bd_candidates_oldest (T : Txt K mg) : ∃ ds, Vals [] ds ∧ Binds K (fdA K (He.ga K "candidates_oldest")) ["rows"] ds := ⟨[], .nil, T.F_candidates_oldest.bindsN fun _ _ _ _ _ _ us hl => match us, hl with | [_], _ => rfl⟩
theorem bd_walks_for (T : Txt K mg) : ∃ ds, Vals [] ds ∧ Binds K (fdA K (He.ga K "walks_for")) ["rows", "mode"] ds := ⟨[], .nil, T.F_walks_for.bindsN fun _ _ _ _ _ _ us hl => match us, hl with | [_, _], _ => rfl⟩
theorem bd_sequence_for (T : Txt K mg) : ∃ ds, Vals [] ds ∧ Binds K (fdA K (He.ga K "sequence_for")) ["rows", "mode"] ds := ⟨[], .nil, T.F_sequence_for.bindsN fun _ _ _ _ _ _ us hl => match us, hl with | [_, _], _ => rfl⟩
theorem bd_shortest_sequence (T : Txt K mg) : ∃ ds, Vals [] ds ∧ Binds K (fdA K (He.ga K "shortest_sequence")) ["effect", "mode"] ds := ⟨[], .nil, T.F_shortest_sequence.bindsN fun _ _ _ _ _ _ us hl => match us, hl with | [_, _], _ => rfl⟩
theorem bd_law_pool (T : Txt K mg) : ∃ ds, Vals [] ds ∧ Binds K (fdA K (He.ga K "_law_pool")) ["_law_script", "_law_k"] ds := ⟨[], .nil, T.F_law_pool.bindsN fun _ _ _ _ _ _ us hl => match us, hl with | [_, _], _ => rfl⟩
theorem bd_law_take (T : Txt K mg) : ∃ ds, Vals [] ds ∧ Binds K (fdA K (He.ga K "_law_take")) ["_law_pool_here", "_law_bound"] ds := ⟨[], .nil, T.F_law_take.bindsN fun _ _ _ _ _ _ us hl => match us, hl with | [_, _], _ => rfl⟩
theorem bd_law_steps (T : Txt K mg) : ∃ ds, Vals [] ds ∧ Binds K (fdA K (He.ga K "_law_steps")) ["_law_pool_here", "_law_most", "_law_letters"] ds := ⟨[], .nil, T.F_law_steps.bindsN fun _ _ _ _ _ _ us hl => match us, hl with | [_, _, _], _ => rfl⟩
theorem bd_law_text (T : Txt K mg) : ∃ ds, Vals [] ds ∧ Binds K (fdA K (He.ga K "_law_text")) ["_law_pool_here", "_law_many"] ds := ⟨[], .nil, T.F_law_text.bindsN fun _ _ _ _ _ _ us hl => match us, hl with | [_, _], _ => rfl⟩
theorem bd_law_known_right (T : Txt K mg) : ∃ ds, Vals [] ds ∧ Binds K (fdA K (He.ga K "_law_known_right")) ["_law_pool_here", "_law_capacity"] ds := ⟨[], .nil, T.F_law_known_right.bindsN fun _ _ _ _ _ _ us hl => match us, hl with | [_, _], _ => rfl⟩
end Q
namespace Q
open PySem PySem.W PySem.Calls PyProof.Rows
abbrev R : OpenRow := OpenLaw.row PySem.Challenge.rw_fullqueue_k47_shortest_of_long_effects
def loose : List PySem.Str := (["CapacityMismatch", "DIGITS", "Effect", "EffectFailed", "FILLER", "InvalidCapacity", "InvalidEffect", "InvalidInteger", "InvalidMode", "InvalidProgram", "InvalidQueue", "LETTERS", "MODES", "MOST", "MOST_COUNT", "MOST_DEPTH", "PUT", "QueueError", "STEPS", "TAKE", "Walk", "_law_after", "_law_end", "_law_known_right", "_law_pool", "_law_steps", "_law_take", "_law_text", "_wall", "candidates_oldest"] : List PySem.Str) ++ (["check_capacity", "check_effect", "check_integer", "check_mode", "check_queue", "check_same", "effect_of", "end_of", "identity_rows", "is_capacity", "is_count", "is_integer", "is_mode", "is_queue", "is_row", "is_text_of", "items_of", "joined_row", "joined_rows", "lettered", "parse", "power_rows", "puts_for", "row_after", "rows_of", "sequence_for", "shortest_sequence", "span_of", "walks_for"] : List PySem.Str)
abbrev hk : Hook := hookM 5 exs fns
def ob (s : SharedT) : He.AlD := obsMG 5 exs fns (HandSHeadRun.getT s)
theorem ob_eq (s : SharedT) : ob s = hk.obs s.abs := obsMG_eq (HandSHeadRun.getT_eq s)
theorem run (w : World) : HandSHeadRun.RunEq R (view R.prog [66]) hk ob 20000 loose w := by
  intro os
  kernel_rfl
end Q
namespace U
inductive D where
  | non | bl (b : Bool) | int (i : Int) | str (s : List Nat) | tup (l : List D) | lst (l : List D) | ins (c : String) (ns : List String) (ds : List D) | own (t : Nat) (d : D) | exn (c : String) (ns : List String) (ds : List D) | scr (ns : List Int) | dic (ks : List Int) | exv (c : String) (ns : List String) (ds : List D)
abbrev Env := List (Option D)
structure Ex where
  cls : String
  ns : List String
  ds : List D
inductive ER where
  | ok (d : D) (ρ : Env) | exc (x : Ex) (ρ : Env) | bad
inductive AR where
  | ok (ds : List D) (ρ : Env) | exc (x : Ex) (ρ : Env) | bad
inductive Fl where
  | nx (ρ : Env) | rt (d : D) (ρ : Env) | bk (ρ : Env) | ct (ρ : Env) | ex (x : Ex) (ρ : Env) | bad
abbrev E := Env → ER
abbrev As := Env → AR
abbrev St := Env → Fl
abbrev Fn := List D → ER
def D.isMut : D → Bool
  | .own _ _ => true
  | .exn _ _ _ => true
  | _ => false
def ER.bind (r : ER) (k : D → Env → ER) : ER := match r with
  | .ok d ρ => k d ρ
  | .exc x ρ => .exc x ρ
  | .bad => .bad
def ER.binds (r : ER) (k : D → Env → Fl) : Fl := match r with
  | .ok d ρ => k d ρ
  | .exc x ρ => .ex x ρ
  | .bad => .bad
def AR.bind (r : AR) (k : List D → Env → ER) : ER := match r with
  | .ok d ρ => k d ρ
  | .exc x ρ => .exc x ρ
  | .bad => .bad
def ER.bindA (r : ER) (k : D → Env → AR) : AR := match r with
  | .ok d ρ => k d ρ
  | .exc x ρ => .exc x ρ
  | .bad => .bad
def AR.bindA (r : AR) (k : List D → Env → AR) : AR := match r with
  | .ok d ρ => k d ρ
  | .exc x ρ => .exc x ρ
  | .bad => .bad
def lift (o : Option D) (ρ : Env) : ER := match o with
  | some d => .ok d ρ
  | none => .bad
def rd (o : Option (Option D)) : Option D := match o with
  | some (some (.own _ _)) => none
  | some (some (.exn _ _ _)) => none
  | some (some d) => some d
  | _ => none
def eC (d : D) : E := fun ρ => .ok d ρ
def eVar (i : Nat) : E := fun ρ => lift (rd ρ[i]?) ρ
def eOp (o : D → D → Option D) (a b : E) : E := fun ρ => (a ρ).bind fun x ρ1 => (b ρ1).bind fun y ρ2 => lift (o x y) ρ2
def eUn (o : D → Option D) (a : E) : E := fun ρ => (a ρ).bind fun x ρ1 => lift (o x) ρ1
def aNil : As := fun ρ => .ok [] ρ
def aCons (a : E) (r : As) : As := fun ρ => (a ρ).bindA fun x ρ1 => (r ρ1).bindA fun xs ρ2 => .ok (x :: xs) ρ2
def eN (o : List D → Option D) (a : As) : E := fun ρ => (a ρ).bind fun xs ρ1 => lift (o xs) ρ1
def eAnd (a b : E) : E := fun ρ => (a ρ).bind fun x ρ1 => match x with
  | .bl true => b ρ1
  | .bl false => .ok (.bl false) ρ1
  | _ => .bad
def eOr (a b : E) : E := fun ρ => (a ρ).bind fun x ρ1 => match x with
  | .bl false => b ρ1
  | .bl true => .ok (.bl true) ρ1
  | _ => .bad
def eIf (c a b : E) : E := fun ρ => (c ρ).bind fun x ρ1 => match x with
  | .bl true => a ρ1
  | .bl false => b ρ1
  | _ => .bad
def eChain (o o' : D → D → Option D) (a b c : E) : E := fun ρ => (a ρ).bind fun x ρ1 => (b ρ1).bind fun y ρ2 => match o x y with
  | some (.bl true) => (c ρ2).bind fun z ρ3 => lift (o' y z) ρ3
  | some (.bl false) => .ok (.bl false) ρ2
  | _ => .bad
def allPlain : List D → Bool
  | [] => true
  | d :: r => !d.isMut && allPlain r
def frzD : D → Option D
  | .own 0 (.lst l) => if allPlain l then some (.lst l) else none
  | .own 0 (.ins c ns l) => if allPlain l then some (.ins c ns l) else none
  | .own _ _ => none
  | .exn _ _ _ => none
  | d => some d
def eFrz (a : E) : E := fun ρ => (a ρ).bind fun x ρ1 => lift (frzD x) ρ1
def eGive (i : Nat) : E := fun ρ => match ρ[i]? with
  | some (some d) => (match frzD d with
    | some d' => .ok d' (ρ.set i (some d'))
    | none => .bad)
  | _ => .bad
inductive Ag where
  | v (a : E) | b (i : Nat)
inductive Arg where
  | v (d : D) | b (i : Nat)
inductive GR where
  | ok (l : List Arg) (ρ : Env) | exc (x : Ex) (ρ : Env) | bad
def evAg : List Ag → Env → GR
  | [], ρ => .ok [] ρ
  | .v a :: r, ρ => (match a ρ with
    | .ok d ρ1 => (match evAg r ρ1 with
      | .ok l ρ2 => .ok (.v d :: l) ρ2
      | .exc x ρ2 => .exc x ρ2
      | .bad => .bad)
    | .exc x ρ1 => .exc x ρ1
    | .bad => .bad)
  | .b i :: r, ρ => (match ρ[i]? with
    | some (some (.own _ _)) => (match evAg r ρ with
      | .ok l ρ2 => .ok (.b i :: l) ρ2
      | .exc x ρ2 => .exc x ρ2
      | .bad => .bad)
    | _ => .bad)
def hand (ρ : Env) : Nat → List Arg → Option (List D)
  | _, [] => some []
  | j, .v d :: r => (hand ρ (j + 1) r).map (d :: ·)
  | j, .b i :: r => match ρ[i]? with
    | some (some (.own _ d)) => (hand ρ (j + 1) r).map (.own (j + 1) d :: ·)
    | _ => none
def back : Nat → List Arg → Env → Env → Option Env
  | _, [], _, ρ => some ρ
  | j, .v _ :: r, o, ρ => back (j + 1) r o.tail ρ
  | j, .b i :: r, o, ρ => match o.head?, ρ[i]? with
    | some (some (.own (t' + 1) d)), some (some (.own t _)) => if t' = j then back (j + 1) r o.tail (ρ.set i (some (.own t d))) else none
    | _, _ => none
def lent : List Arg → List Nat
  | [] => []
  | .v _ :: r => lent r
  | .b i :: r => i :: lent r
def eCall (f : Fn) (g : List Ag) (dd : List D) : E := fun ρ => match evAg g ρ with
  | .ok l ρ1 => (match hand ρ1 0 l with
    | some ds => if (lent l).Nodup then (match f (ds ++ dd) with
      | .ok d o => (match back 0 l o ρ1 with
        | some ρ2 => .ok d ρ2
        | none => .bad)
      | .exc x o => (match back 0 l o ρ1 with
        | some ρ2 => .exc x ρ2
        | none => .bad)
      | .bad => .bad) else .bad
    | none => .bad)
  | .exc x ρ1 => .exc x ρ1
  | .bad => .bad
def sNil : St := fun ρ => .nx ρ
def Fl.bind (r : Fl) (k : Env → Fl) : Fl := match r with
  | .nx ρ => k ρ
  | r => r
def sSeq (a b : St) : St := fun ρ => (a ρ).bind b
def sRet (a : E) : St := fun ρ => (a ρ).binds fun d ρ1 => .rt d ρ1
def sRetN : St := fun ρ => .rt .non ρ
def sDrop (a : E) : St := fun ρ => (a ρ).binds fun _ ρ1 => .nx ρ1
def sIf (c : E) (a b : St) : St := fun ρ => (c ρ).binds fun x ρ1 => match x with
  | .bl true => a ρ1
  | .bl false => b ρ1
  | _ => .bad
def put (i : Nat) (d : D) (ρ : Env) : Option Env := match ρ[i]? with
  | some (some (.own (_ + 1) _)) => none
  | some _ => some (ρ.set i (some d))
  | none => none
def sSet (i : Nat) (a : E) : St := fun ρ => (a ρ).binds fun d ρ1 => match put i d ρ1 with
  | some ρ2 => .nx ρ2
  | none => .bad
def sBk : St := fun ρ => .bk ρ
def sCt : St := fun ρ => .ct ρ
def sRaise (c : String) (ns : List String) (a : As) : St := fun ρ => match a ρ with
  | .ok ds ρ1 => .ex ⟨c, ns, ds⟩ ρ1
  | .exc x ρ1 => .ex x ρ1
  | .bad => .bad
def putAll : List Nat → List D → Env → Option Env
  | [], [], ρ => some ρ
  | i :: is, d :: ds, ρ => (put i d ρ).bind (putAll is ds)
  | _, _, _ => none
def sPar (is : List Nat) (a : As) : St := fun ρ => match a ρ with
  | .ok ds ρ1 => (match putAll is ds ρ1 with
    | some ρ2 => .nx ρ2
    | none => .bad)
  | .exc x ρ1 => .ex x ρ1
  | .bad => .bad
def sAug (i : Nat) (o : D → D → Option D) (a : E) : St := fun ρ => match rd ρ[i]? with
  | none => .bad
  | some x => (a ρ).binds fun y ρ1 => match o x y with
    | none => .bad
    | some z => match put i z ρ1 with
      | some ρ2 => .nx ρ2
      | none => .bad
abbrev Tg := D → Env → Option Env
def gVar (i : Nat) : Tg := fun d ρ => put i d ρ
def gAll : List Tg → List D → Env → Option Env
  | [], [], ρ => some ρ
  | g :: gs, d :: ds, ρ => (g d ρ).bind (gAll gs ds)
  | _, _, _ => none
def gTup (gs : List Tg) : Tg := fun d ρ => match d with
  | .tup ds => gAll gs ds ρ
  | _ => none
def sAsg (a : E) (g : Tg) : St := fun ρ => (a ρ).binds fun d ρ1 => match g d ρ1 with
  | some ρ2 => .nx ρ2
  | none => .bad
def forL (g : Tg) (b : St) : List D → Env → Fl
  | [], ρ => .nx ρ
  | d :: ds, ρ => match g d ρ with
    | none => .bad
    | some ρ1 => match b ρ1 with
      | .nx ρ2 => forL g b ds ρ2
      | .ct ρ2 => forL g b ds ρ2
      | .bk ρ2 => .nx ρ2
      | .rt d ρ2 => .rt d ρ2
      | .ex x ρ2 => .ex x ρ2
      | .bad => .bad
inductive IR where
  | ok (ds : List D) (ρ : Env) | exc (x : Ex) (ρ : Env) | bad
abbrev Is := Env → AR
def sFor (it : Is) (g : Tg) (b : St) : St := fun ρ => match it ρ with
  | .ok ds ρ1 => forL g b ds ρ1
  | .exc x ρ1 => .ex x ρ1
  | .bad => .bad
def whileN (c : E) (b : St) : Nat → Env → Fl
  | 0, _ => .bad
  | n + 1, ρ => (c ρ).binds fun x ρ1 => match x with
    | .bl true => (match b ρ1 with
      | .nx ρ2 => whileN c b n ρ2
      | .ct ρ2 => whileN c b n ρ2
      | .bk ρ2 => .nx ρ2
      | .rt d ρ2 => .rt d ρ2
      | .ex x ρ2 => .ex x ρ2
      | .bad => .bad)
    | .bl false => .nx ρ1
    | _ => .bad
open Classical in
noncomputable def sWhile (c : E) (b : St) : St := fun ρ => if h : ∃ n, whileN c b n ρ ≠ .bad then whileN c b (choose h) ρ else .bad
def wipeE : List Nat → Env → Env
  | [], ρ => ρ
  | i :: vs, ρ => (wipeE vs ρ).set i none
def compL (g : Tg) (t : E) (e : E) (vs : List Nat) : List D → Env → List D → AR
  | [], ρ, acc => .ok acc ρ
  | d :: ds, ρ, acc => match g d ρ with
    | none => .bad
    | some ρ1 => match t ρ1 with
      | .ok (.bl true) ρ2 => (match e ρ2 with
        | .ok x ρ3 => if acc.length < 16777216 then compL g t e vs ds (wipeE vs ρ3) (acc ++ [x]) else .bad
        | _ => .bad)
      | .ok (.bl false) ρ2 => compL g t e vs ds (wipeE vs ρ2) acc
      | _ => .bad
def eComp (it : Is) (g : Tg) (t e : E) (vs : List Nat) : E := fun ρ => match it ρ with
  | .ok ds ρ1 => (match compL g t e vs ds (wipeE vs ρ1) [] with
    | .ok l ρ2 => .ok (.own 0 (.lst l)) ρ2
    | .exc x ρ2 => .exc x ρ2
    | .bad => .bad)
  | .exc x ρ1 => .exc x ρ1
  | .bad => .bad
def fnOf (n m : Nat) (b : St) : Fn := fun ds => if ds.length = n then (match b (ds.map some ++ List.replicate m none) with
  | .rt d ρ => .ok d (ρ.take n)
  | .nx ρ => .ok .non (ρ.take n)
  | .ex x ρ => .exc x (ρ.take n)
  | _ => .bad) else .bad
def lookN (f : String) : List String → List D → Option D
  | n :: ns, d :: ds => if n = f then some d else lookN f ns ds
  | _, _ => none
def eXf (i : Nat) (c f : String) : E := fun ρ => match ρ[i]? with
  | some (some (.exn c' [f'] [d])) => if c' = c ∧ f' = f then .ok d ρ else .bad
  | _ => .bad
structure Hd where
  c : String
  i : Option Nat
  s : St
abbrev Tb := List (String × String × Bool)
def Tb.at (t : Tb) (a b : String) : Option Bool := match t with
  | [] => none
  | (x, y, r) :: t => if x = a ∧ y = b then some r else Tb.at t a b
def D.isExn : D → Bool
  | .exn _ _ _ => true
  | _ => false
def noExn : Env → Bool
  | [] => true
  | none :: r => noExn r
  | some d :: r => !d.isExn && noExn r
def Fl.unset (r : Fl) (i : Nat) : Fl := match r with
  | .nx ρ => if noExn (ρ.set i none) then .nx (ρ.set i none) else .bad
  | .bk ρ => if noExn (ρ.set i none) then .bk (ρ.set i none) else .bad
  | .ct ρ => if noExn (ρ.set i none) then .ct (ρ.set i none) else .bad
  | .rt d ρ => if noExn (ρ.set i none) then .rt d (ρ.set i none) else .bad
  | _ => .bad
def catch_ (t : Tb) (x : Ex) (ρ : Env) : List Hd → Fl
  | [] => .ex x ρ
  | h :: r => match t.at x.cls h.c with
    | some true => (match h.i with
      | none => (match h.s ρ with
        | .ex _ _ => .bad
        | q => q)
      | some i => (match put i (.exn x.cls x.ns x.ds) ρ with
        | some ρ1 => if noExn ρ then (h.s ρ1).unset i else .bad
        | none => .bad))
    | some false => catch_ t x ρ r
    | none => .bad
def sTry (t : Tb) (b : St) (hs : List Hd) (e : St) : St := fun ρ => match b ρ with
  | .nx ρ1 => e ρ1
  | .ex x ρ1 => catch_ t x ρ1 hs
  | r => r
def itL : D → Option (List D)
  | .lst l => some l
  | _ => none
def itT : D → Option (List D)
  | .tup l => some l
  | _ => none
def itS : D → Option (List D)
  | .str l => some (l.map fun c => .str [c])
  | _ => none
def iOf (o : D → Option (List D)) (f : E) : Is := fun ρ => match f ρ with
  | .ok d ρ1 => (match o d with
    | some ds => .ok ds ρ1
    | none => .bad)
  | .exc x ρ1 => .exc x ρ1
  | .bad => .bad
def iOfA (o : List D → Option (List D)) (f : As) : Is := fun ρ => match f ρ with
  | .ok xs ρ1 => (match o xs with
    | some ds => .ok ds ρ1
    | none => .bad)
  | .exc x ρ1 => .exc x ρ1
  | .bad => .bad
def rangeD (lo : Int) (n : Nat) : List D := (List.range n).map fun (i : Nat) => D.int (lo + i)
def okR (i : Int) : Bool := decide (-4611686018427387904 ≤ i ∧ i < 4611686018427387904)
def itR : List D → Option (List D)
  | [.int j] => if okR j then some (rangeD 0 j.toNat) else none
  | [.int i, .int j] => if okR i && okR j then some (rangeD i (j - i).toNat) else none
  | _ => none
def enumD (l : List D) : List D := (l.zipIdx).map fun p => D.tup [.int (p.2 : Nat), p.1]
def itEL : List D → Option (List D)
  | [.lst l] => some (enumD l)
  | _ => none
def itES : List D → Option (List D)
  | [.str l] => some (enumD (l.map fun c => .str [c]))
  | _ => none
def oNot : D → Option D
  | .bl b => some (.bl (!b))
  | _ => none
end U
namespace U
def ixD (n : Nat) (i : Int) : Option Nat := if 0 ≤ i then (if i < n then some i.toNat else none) else if -(n : Int) ≤ i then some (i + n).toNat else none
def atD {α : Type} (l : List α) (i : Int) : Option α := (ixD l.length i).bind fun j => l[j]?
def oAdd : D → D → Option D
  | .int i, .int j => some (.int (i + j))
  | _, _ => none
def oSub : D → D → Option D
  | .int i, .int j => some (.int (i - j))
  | _, _ => none
def lim64 : Nat := 2 ^ 64
def lim4k : Nat := 2 ^ 4000
def lim1k : Nat := 2 ^ 1800
def oMul : D → D → Option D
  | .int i, .int j => if i.natAbs < lim64 ∨ j.natAbs < lim64 then some (.int (i * j)) else none
  | _, _ => none
def oMulW : D → D → Option D
  | .int i, .int j => if i.natAbs < lim4k ∧ j.natAbs < lim4k then some (.int (i * j)) else none
  | _, _ => none
def oDiv : D → D → Option D
  | .int i, .int j => if 0 < j ∧ j.natAbs < lim4k then some (.int (i / j)) else none
  | _, _ => none
def oMod : D → D → Option D
  | .int i, .int j => if 0 < j then some (.int (i % j)) else none
  | _, _ => none
def oPow : D → D → Option D
  | .int i, .int j => if 0 ≤ j ∧ j ≤ 1000 ∧ i.natAbs < 1000 then some (.int (i ^ j.toNat)) else none
  | _, _ => none
def oNeg : D → Option D
  | .int i => some (.int (-i))
  | _ => none
def oLt : D → D → Option D
  | .int i, .int j => some (.bl (decide (i < j)))
  | _, _ => none
def oLe : D → D → Option D
  | .int i, .int j => some (.bl (decide (i ≤ j)))
  | _, _ => none
def oGt : D → D → Option D
  | .int i, .int j => some (.bl (decide (j < i)))
  | _, _ => none
def oGe : D → D → Option D
  | .int i, .int j => some (.bl (decide (j ≤ i)))
  | _, _ => none
mutual
def D.eqv : D → D → Bool
  | .non, .non => true
  | .bl a, .bl b => a == b
  | .bl a, .int j => (if a then 1 else 0) == j
  | .int i, .bl b => i == (if b then 1 else 0)
  | .int i, .int j => i == j
  | .str x, .str y => x == y
  | .lst xs, .lst ys => eqvs xs ys
  | .tup xs, .tup ys => eqvs xs ys
  | _, _ => false
def eqvs : List D → List D → Bool
  | [], [] => true
  | x :: xs, y :: ys => x.eqv y && eqvs xs ys
  | _, _ => false
end
def okD : Nat → D → Bool
  | _, .non => true
  | _, .bl _ => true
  | _, .int _ => true
  | _, .str _ => true
  | n + 1, .tup l => l.all (okD n)
  | n + 1, .lst l => l.all (okD n)
  | _, _ => false
def oEq (a b : D) : Option D := if okD 9 a && okD 9 b then some (.bl (a.eqv b)) else none
def oNeScr : D → D → Option D
  | .scr ns, .lst [] => some (.bl (!ns.isEmpty))
  | _, _ => none
def oIxScr : D → D → Option D
  | .scr ns, .int i => (atD ns i).map .int
  | _, _ => none
def oLenScr : List D → Option D
  | [.scr ns] => some (.int ns.length)
  | _ => none
def oNe (a b : D) : Option D := if okD 9 a && okD 9 b then some (.bl (!a.eqv b)) else none
def D.isN : D → Bool
  | .non => true
  | _ => false
def oIsN : D → D → Option D
  | a, .non => if a.isMut then none else some (.bl a.isN)
  | _, _ => none
def oNotN : D → D → Option D
  | a, .non => if a.isMut then none else some (.bl (!a.isN))
  | _, _ => none
def oInS : D → D → Option D
  | .str [c], .str l => some (.bl (decide (c ∈ l)))
  | _, _ => none
def oNotInS : D → D → Option D
  | .str [c], .str l => some (.bl (!decide (c ∈ l)))
  | _, _ => none
def D.flat : D → Bool
  | .non => true
  | .bl _ => true
  | .int _ => true
  | .str _ => true
  | _ => false
def inD (x : D) (l : List D) : Bool := l.any fun y => y.eqv x
def oInQ : D → D → Option D
  | x, .tup l => if x.flat && l.all D.flat then some (.bl (inD x l)) else none
  | x, .lst l => if x.flat && l.all D.flat then some (.bl (inD x l)) else none
  | _, _ => none
def oNotInQ : D → D → Option D
  | x, .tup l => if x.flat && l.all D.flat then some (.bl (!inD x l)) else none
  | x, .lst l => if x.flat && l.all D.flat then some (.bl (!inD x l)) else none
  | _, _ => none
def cap : Nat := 16777216
def oAddS : D → D → Option D
  | .str a, .str b => if a.length + b.length ≤ cap then some (.str (a ++ b)) else none
  | _, _ => none
def oMulS : D → D → Option D
  | .str a, .int n => if -9223372036854775808 ≤ n ∧ n < 9223372036854775808 ∧ a.length * n.toNat ≤ cap then some (.str (List.replicate n.toNat a).flatten) else none
  | _, _ => none
def oCatL : D → D → Option D
  | .lst a, .lst b => if a.length + b.length ≤ cap then some (.own 0 (.lst (a ++ b))) else none
  | _, _ => none
def oRepL : D → D → Option D
  | .lst a, .int n => if -9223372036854775808 ≤ n ∧ n < 9223372036854775808 ∧ a.length * n.toNat ≤ cap then some (.own 0 (.lst (List.replicate n.toNat a).flatten)) else none
  | _, _ => none
def oCatT : D → D → Option D
  | .tup a, .tup b => if a.length + b.length ≤ cap then some (.tup (a ++ b)) else none
  | _, _ => none
def oRepT : D → D → Option D
  | .tup a, .int n => if 2 ≤ n ∧ n ≤ 1000 ∧ 0 < a.length ∧ a.length ≤ 1000 then some (.tup (List.replicate n.toNat a).flatten) else none
  | _, _ => none
def oIxL : D → D → Option D
  | .lst l, .int i => atD l i
  | _, _ => none
def oIxT : D → D → Option D
  | .tup l, .int i => atD l i
  | _, _ => none
def oIxS : D → D → Option D
  | .str l, .int i => if l.length ≤ cap then (atD l i).map fun c => .str [c] else none
  | _, _ => none
def oLen : List D → Option D
  | [.str l] => if l.length ≤ cap then some (.int l.length) else none
  | [.lst l] => some (.int l.length)
  | [.tup l] => some (.int l.length)
  | _ => none
def oLenS : List D → Option D
  | [.str l] => if l.length ≤ cap then some (.int l.length) else none
  | _ => none
def oLenQ : List D → Option D
  | [.lst l] => some (.int l.length)
  | [.tup l] => some (.int l.length)
  | _ => none
def oMax2 : List D → Option D
  | [.int i, .int j] => some (.int (if j > i then j else i))
  | _ => none
def oMin2 : List D → Option D
  | [.int i, .int j] => some (.int (if j < i then j else i))
  | _ => none
def oMax3 : List D → Option D
  | [.int i, .int j, .int k] => some (.int (if (if i < j then j else i) < k then k else (if i < j then j else i)))
  | _ => none
def oAbs : List D → Option D
  | [.int i] => some (.int (if i < 0 then -i else i))
  | _ => none
def intsD : List D → Option (List Int)
  | [] => some []
  | .int i :: r => (intsD r).map (i :: ·)
  | _ => none
def boolsD : List D → Option (List Bool)
  | [] => some []
  | .bl i :: r => (boolsD r).map (i :: ·)
  | _ => none
def strsD : List D → Option (List (List Nat))
  | [] => some []
  | .str i :: r => (strsD r).map (i :: ·)
  | _ => none
def oSum : List D → Option D
  | [.lst l] => (intsD l).map fun ns => .int ns.sum
  | _ => none
def oAll : List D → Option D
  | [.lst l] => (boolsD l).map fun bs => .bl (bs.all id)
  | _ => none
def oAny : List D → Option D
  | [.lst l] => (boolsD l).map fun bs => .bl (bs.any id)
  | _ => none
def oInt : List D → Option D
  | [.int i] => some (.int i)
  | [.bl b] => some (.int (if b then 1 else 0))
  | _ => none
def decL (n : Nat) : List Nat := (Nat.toDigits 10 n).map Char.toNat
def oStrI : List D → Option D
  | [.int i] => if 0 ≤ i ∧ i.natAbs < lim1k then some (.str (decL i.natAbs)) else none
  | _ => none
def oTupOf : List D → Option D
  | [.lst l] => some (.tup l)
  | [.tup l] => some (.tup l)
  | _ => none
def oLstOf : List D → Option D
  | [.lst l] => some (.own 0 (.lst l))
  | [.tup l] => some (.own 0 (.lst l))
  | _ => none
def sIxD (n d : Nat) : Option Int → Nat
  | none => d
  | some v => if v < 0 then (v + (n : Int)).toNat else min v.toNat n
def cutD {α : Type} (l : List α) (lo hi : Option Int) : List α := (l.drop (sIxD l.length 0 lo)).take (sIxD l.length l.length hi - sIxD l.length 0 lo)
def oSlS : D → Option Int → Option Int → Option D
  | .str l, lo, hi => if l.length ≤ cap then some (.str (cutD l lo hi)) else none
  | _, _, _ => none
def oSlL : D → Option Int → Option Int → Option D
  | .lst l, lo, hi => some (.own 0 (.lst (cutD l lo hi)))
  | _, _, _ => none
def oSlT : D → Option Int → Option Int → Option D
  | .tup l, lo, hi => some (.tup (cutD l lo hi))
  | _, _, _ => none
inductive OR where
  | ok (o : Option Int) (ρ : Env) | exc (x : Ex) (ρ : Env) | bad
def part (e : Option E) : Env → OR := fun ρ => match e with
  | none => .ok none ρ
  | some f => (match f ρ with
    | .ok (.int i) ρ1 => .ok (some i) ρ1
    | .ok _ _ => .bad
    | .exc x ρ1 => .exc x ρ1
    | .bad => .bad)
def eSl (o : D → Option Int → Option Int → Option D) (f : E) (lo hi : Option E) : E := fun ρ => (f ρ).bind fun x ρ1 => match part lo ρ1 with
  | .ok l ρ2 => (match part hi ρ2 with
    | .ok h ρ3 => lift (o x l h) ρ3
    | .exc x ρ3 => .exc x ρ3
    | .bad => .bad)
  | .exc x ρ2 => .exc x ρ2
  | .bad => .bad
def oRev : D → Option D
  | .lst l => some (.own 0 (.lst l.reverse))
  | _ => none
def joinD (a : List Nat) : List (List Nat) → List Nat
  | [] => []
  | [x] => x
  | x :: y :: r => x ++ a ++ joinD a (y :: r)
def oJoin : D → D → Option D
  | .str a, .lst l => (strsD l).bind fun ys => if (ys.map List.length).sum + ys.length * a.length ≤ cap then some (.str (joinD a ys)) else none
  | .str a, .tup l => (strsD l).bind fun ys => if (ys.map List.length).sum + ys.length * a.length ≤ cap then some (.str (joinD a ys)) else none
  | _, _ => none
def tyName : D → Option String
  | .non => some "NoneType"
  | .bl _ => some "bool"
  | .int _ => some "int"
  | .str _ => some "str"
  | .tup _ => some "tuple"
  | .lst _ => some "list"
  | .dic _ => some "dict"
  | _ => none
def oIsi (T : String) (d : D) : Option D := (tyName d).map fun n => .bl (n == T || (n == "bool" && T == "int"))
def mkTup (l : List D) : Option D := if l.length ≤ cap then some (.tup l) else none
def mkLst (l : List D) : Option D := if l.length ≤ cap then some (.own 0 (.lst l)) else none
def isOL (o : Option (Option D)) : Bool := match o with
  | some (some (.own _ (.lst _))) => true
  | _ => false
def eApp (i : Nat) (a : E) : E := fun ρ => if isOL ρ[i]? then (a ρ).bind fun x ρ1 => (match ρ1[i]? with
  | some (some (.own t (.lst l))) => if l.length < cap then .ok .non (ρ1.set i (some (.own t (.lst (l ++ [x]))))) else .bad
  | _ => .bad) else .bad
def eIxO (i : Nat) (a : E) : E := fun ρ => if isOL ρ[i]? then (a ρ).bind fun x ρ1 => (match ρ1[i]?, x with
  | some (some (.own _ (.lst l))), .int k => (match atD l k with
    | some d => if d.isMut then .bad else .ok d ρ1
    | none => .bad)
  | _, _ => .bad) else .bad
def sPutO (i : Nat) (k a : E) : St := fun ρ => (a ρ).binds fun x ρ1 => if isOL ρ1[i]? then (k ρ1).binds fun y ρ2 => (match ρ2[i]?, y with
  | some (some (.own t (.lst l))), .int j => (match ixD l.length j with
    | some m => if allPlain l then .nx (ρ2.set i (some (.own t (.lst (l.set m x))))) else .bad
    | none => .bad)
  | _, _ => .bad) else .bad
def eLenO (i : Nat) : E := fun ρ => match ρ[i]? with
  | some (some (.own _ (.lst l))) => .ok (.int l.length) ρ
  | _ => .bad
def eMs (o : D → D → Option D) (a b : E) : E := fun ρ => (a ρ).bind fun x ρ1 => match x with
  | .str s => (b ρ1).bind fun y ρ2 => lift (o (.str s) y) ρ2
  | _ => .bad
def eMs0 (o : D → Option D) (a : E) : E := fun ρ => (a ρ).bind fun x ρ1 => match x with
  | .str s => lift (o (.str s)) ρ1
  | _ => .bad
def okRg (a b : Int) : Bool := decide (-4611686018427387904 ≤ a ∧ a < 4611686018427387904 ∧ -4611686018427387904 ≤ b ∧ b < 4611686018427387904 ∧ (b - a).toNat ≤ cap)
def oLstRg : D → D → Option D
  | .int a, .int b => if okRg a b then some (.own 0 (.lst ((List.range (b - a).toNat).map fun (i : Nat) => D.int (a + i)))) else none
  | _, _ => none
def eIsi (T : String) (a : E) : E := eUn (oIsi T) a
end U
namespace U
open PySem PySem.Spec PyProof.Rows L2
abbrev Fz := Addr → Prop
def S (l : List Nat) : Str := ⟨l.toArray⟩
def chars (l : List Nat) : Prop := ∀ c ∈ l, c < 1114112
def SqLF (K : PySem.W.Frag) (F : Fz) (H : Hp) (a : Addr) (xs : List V) : Prop := F a ∧ H a = some (.lst xs)
def SqTF (K : PySem.W.Frag) (F : Fz) (H : Hp) (a : Addr) (xs : List V) : Prop :=
  (F a ∧ Rd H a (.tup xs)) ∨
    ∃ (o : Obj) (its : Array Value) (n : Nat), K.lookup a = some o ∧ o.cls = .type "tuple" ∧ o.data = .seq its n ∧ its.size ≤ sizeLine ∧ Vals xs its.toList
theorem SqLF.seq {K : PySem.W.Frag} {F : Fz} {H : Hp} {a : Addr} {xs : List V} (h : SqLF K F H a xs) : SqL K H a xs := .inl (.inl h.2)
theorem SqTF.seq {K : PySem.W.Frag} {F : Fz} {H : Hp} {a : Addr} {xs : List V} (h : SqTF K F H a xs) : SqT K H a xs := h.imp (·.2) id
def ExV (C : Addr) (dd : Option Addr) (a : Addr) : HO := .ext fun h => ∃ (oe : Obj) (vs : Array Value), h.get? a = some oe ∧ Zc (.ref C) dd oe ∧ oe.data = .fields vs
section
variable (K : PySem.W.Frag) (F : Fz) (H : Hp)
mutual
def RV : V → D → Prop
  | v, .non => v = .non
  | v, .bl b => v = .bl b
  | v, .int i => v = .int i
  | v, .str l => v = .str (S l) ∧ chars l
  | v, .tup ds => ∃ a vs, v = .ref a ∧ SqTF K F H a vs ∧ RVs vs ds
  | v, .lst ds => ∃ a vs, v = .ref a ∧ SqLF K F H a vs ∧ RVs vs ds
  | v, .ins c ns ds => ∃ a dx fs, v = .ref a ∧ F a ∧ H a = some (.ins (He.ga K (Str.ofString c)) dx fs) ∧ fs.map (·.1) = ns.map Str.ofString ∧ RVs (fs.map (·.2)) ds
  | _, .own _ _ => False
  | _, .exn _ _ _ => False
  | v, .dic ks => ∃ a, v = .ref a ∧ F a ∧ H a = some (.dK (ks.map fun k => (.inl k, V.bl true)))
  | v, .exv c ns ds => ∃ a dd fs, v = .ref a ∧ F a ∧ H a = some (ExV (He.ga K (Str.ofString c)) dd a) ∧ fs.map (·.1) = ns.map Str.ofString ∧ ((dd = none ∧ fs = []) ∨ ∃ d, dd = some d ∧ F d ∧ H d = some (.xd fs)) ∧ RVs (fs.map (·.2)) ds
  | v, .scr ns => ∃ a, v = .ref a ∧ ((F a ∧ Rd H a (.lst (ns.map V.int))) ∨ SqL K (fun _ => none) a (ns.map V.int))
def RVs : List V → List D → Prop
  | [], [] => True
  | v :: vs, d :: ds => RV v d ∧ RVs vs ds
  | _, _ => False
end
mutual
def OV : V → D → List Addr → Prop
  | v, .own 0 (.lst ds), A => ∃ a vs A', v = .ref a ∧ H a = some (.lst vs) ∧ A = a :: A' ∧ OVs vs ds A'
  | v, .own 0 (.ins c ns ds), A => ∃ a dx fs A', v = .ref a ∧ H a = some (.ins (He.ga K (Str.ofString c)) dx fs) ∧ fs.map (·.1) = ns.map Str.ofString ∧ A = a :: A' ∧ OVs (fs.map (·.2)) ds A'
  | _, .own _ _, _ => False
  | v, d, A => A = [] ∧ RV K F H v d
def OVs : List V → List D → List Addr → Prop
  | [], [], A => A = []
  | v :: vs, d :: ds, A => ∃ A1 A2, OV v d A1 ∧ OVs vs ds A2 ∧ A = A1 ++ A2
  | _, _, _ => False
end
end
def XV (K : PySem.W.Frag) (F : Fz) (H : Hp) (x : Ex) (cls : Value) (dd : Option Addr) : Prop :=
  cls = .ref (He.ga K (Str.ofString x.cls)) ∧ ((x.ns = [] ∧ x.ds = [] ∧ dd = none) ∨ ∃ d fs, dd = some d ∧ F d ∧ H d = some (.xd fs) ∧ fs.map (·.1) = x.ns.map Str.ofString ∧ RVs K F H (fs.map (·.2)) x.ds)
abbrev Bx := List Addr × Option (Addr × Value × Option Addr)
section
variable (K : PySem.W.Frag) (F : Fz) (H : Hp) (B : Bx)
def OVp : V → D → List Addr → Prop
  | v, .own (j + 1) d, A => OV K F H v (.own 0 d) A ∧ ∃ a, v = .ref a ∧ B.1[j]? = some a
  | v, .exn c ns ds, A => A = [] ∧ ∃ a cls dd, v = .ref a ∧ B.2 = some (a, cls, dd) ∧ XV K F H ⟨c, ns, ds⟩ cls dd
  | v, d, A => OV K F H v d A
def OVps : List V → List D → List Addr → Prop
  | [], [], A => A = []
  | v :: vs, d :: ds, A => ∃ A1 A2, OVp K F H B v d A1 ∧ OVps vs ds A2 ∧ A = A1 ++ A2
  | _, _, _ => False
def OVo : Option V → Option D → List Addr → Prop
  | _, none, A => A = []
  | some v, some d, A => OVp K F H B v d A
  | none, some _, _ => False
def OVS : List (Option V) → List (Option D) → List Addr → Prop
  | [], [], A => A = []
  | v :: vs, d :: ds, A => ∃ A1 A2, OVo K F H B v d A1 ∧ OVS vs ds A2 ∧ A = A1 ++ A2
  | _, _, _ => False
structure Rep (σ : L2.St) (ρ : Env) (A : List Addr) : Prop where
  sl : OVS K F H B σ ρ A
  nd : A.Nodup
  nf : ∀ a ∈ A, ¬ F a
  dm : ∀ a, F a → ∃ o, H a = some o
end
structure Step (A : List Addr) (F : Fz) (H : Hp) (A' : List Addr) (F' : Fz) (H' : Hp) : Prop where
  mono : ∀ a, F a → F' a
  keep : ∀ a o, H a = some o → a ∉ A → H' a = some o
  froz : ∀ a, F' a → F a ∨ H a = none ∨ a ∈ A
  own : ∀ a ∈ A', a ∈ A ∨ H a = none
theorem Step.refl {A : List Addr} {F : Fz} {H : Hp} : Step A F H A F H := ⟨fun _ h => h, fun _ _ h _ => h, fun _ h => .inl h, fun _ h => .inl h⟩
theorem Step.trans {A A1 A2 : List Addr} {F F1 F2 : Fz} {H H1 H2 : Hp} (s : Step A F H A1 F1 H1) (t : Step A1 F1 H1 A2 F2 H2) : Step A F H A2 F2 H2 := by
  have no : ∀ a, H1 a = none → H a = none ∨ a ∈ A := fun a h => by
    by_cases ha : a ∈ A
    · exact .inr ha
    · cases e : H a with
      | none => exact .inl rfl
      | some o => rw [s.keep a o e ha] at h; cases h
  refine ⟨fun a h => t.mono a (s.mono a h), fun a o h n => t.keep a o (s.keep a o h n) fun m => ?_, fun a h => ?_, fun a h => ?_⟩
  · rcases s.own a m with q | q
    · exact n q
    · rw [h] at q; cases q
  · rcases t.froz a h with q | q | q
    · exact s.froz a q
    · rcases no a q with z | z
      · exact .inr (.inl z)
      · exact .inr (.inr z)
    · rcases s.own a q with z | z
      · exact .inr (.inr z)
      · exact .inr (.inl z)
  · rcases t.own a h with q | q
    · exact s.own a q
    · exact (no a q).symm
structure Grow (F : Fz) (H : Hp) (F' : Fz) (H' : Hp) : Prop where
  mono : ∀ a, F a → F' a
  keep : ∀ a o, H a = some o → H' a = some o
  froz : ∀ a, F' a → F a ∨ H a = none
  dm : (∀ a, F a → ∃ o, H a = some o) → ∀ a, F' a → ∃ o, H' a = some o
theorem Grow.refl {F : Fz} {H : Hp} : Grow F H F H := ⟨fun _ h => h, fun _ _ h => h, fun _ h => .inl h, fun h => h⟩
theorem Grow.trans {F F1 F2 : Fz} {H H1 H2 : Hp} (s : Grow F H F1 H1) (t : Grow F1 H1 F2 H2) : Grow F H F2 H2 := by
  refine ⟨fun a h => t.mono a (s.mono a h), fun a o h => t.keep a o (s.keep a o h), fun a h => ?_, fun h => t.dm (s.dm h)⟩
  rcases t.froz a h with q | q
  · exact s.froz a q
  · refine .inr ?_
    cases e : H a with
    | none => rfl
    | some o => rw [s.keep a o e] at q; cases q
theorem Grow.new {F : Fz} {H : Hp} {p : Addr} {o : HO} (h : H p = none) : Grow F H (fun a => F a ∨ a = p) (upd H p o) :=
  ⟨fun _ h => .inl h, fun a u e => by rw [upd_ne (ne_of_none e h)]; exact e, fun a q => q.imp id fun e => by rw [e]; exact h, fun dm a q => by
    by_cases c : a = p
    · exact ⟨o, by rw [c, upd_same]⟩
    · rcases q with q | q
      · rw [upd_ne c]; exact dm a q
      · exact absurd q c⟩
theorem Grow.raw {F : Fz} {H : Hp} {p : Addr} {o : HO} (h : H p = none) : Grow F H F (upd H p o) :=
  ⟨fun _ h => h, fun a u e => by rw [upd_ne (ne_of_none e h)]; exact e, fun a q => .inl q, fun dm a q => by
    obtain ⟨u, e⟩ := dm a q
    exact ⟨u, by rw [upd_ne (ne_of_none e h)]; exact e⟩⟩
theorem Grow.step {A : List Addr} {F F' : Fz} {H H' : Hp} (g : Grow F H F' H') : Step A F H A F' H' :=
  ⟨g.mono, fun a o h _ => g.keep a o h, fun a h => (g.froz a h).imp id .inl, fun _ h => .inl h⟩
section
variable {K : PySem.W.Frag} {B : Bx} {F F' : Fz} {H H' : Hp}
theorem SqLF.step {a : Addr} {xs : List V} (m : ∀ a, F a → F' a) (k : ∀ a o, F a → H a = some o → H' a = some o) (h : SqLF K F H a xs) : SqLF K F' H' a xs := ⟨m a h.1, k a _ h.1 h.2⟩
theorem SqTF.step {a : Addr} {xs : List V} (m : ∀ a, F a → F' a) (k : ∀ a o, F a → H a = some o → H' a = some o) (h : SqTF K F H a xs) : SqTF K F' H' a xs := by
  rcases h with ⟨f, h | ⟨o, h⟩⟩ | h
  · exact .inl ⟨m a f, .inl (k a _ f h)⟩
  · exact .inl ⟨m a f, .inr ⟨o, k a _ f h⟩⟩
  · exact .inr h
mutual
theorem RV.stay (m : ∀ a, F a → F' a) (k : ∀ a o, F a → H a = some o → H' a = some o) : ∀ {v : V} {d : D}, RV K F H v d → RV K F' H' v d
  | _, .non, h => by simp only [RV] at h ⊢; exact h
  | _, .bl _, h => by simp only [RV] at h ⊢; exact h
  | _, .int _, h => by simp only [RV] at h ⊢; exact h
  | _, .str _, h => by simp only [RV] at h ⊢; exact h
  | _, .tup _, h => by
    simp only [RV] at h ⊢
    obtain ⟨a, vs, e, s, r⟩ := h
    exact ⟨a, vs, e, s.step m k, RVs.stay m k r⟩
  | _, .lst _, h => by
    simp only [RV] at h ⊢
    obtain ⟨a, vs, e, s, r⟩ := h
    exact ⟨a, vs, e, s.step m k, RVs.stay m k r⟩
  | _, .ins _ _ _, h => by
    simp only [RV] at h ⊢
    obtain ⟨a, dx, fs, e, f, s, n, r⟩ := h
    exact ⟨a, dx, fs, e, m a f, k a _ f s, n, RVs.stay m k r⟩
  | _, .own _ _, h => by simp only [RV] at h
  | _, .exn _ _ _, h => by simp only [RV] at h
  | _, .dic _, h => by
    simp only [RV] at h ⊢
    obtain ⟨a, e, f, s⟩ := h
    exact ⟨a, e, m a f, k a _ f s⟩
  | _, .exv _ _ _, h => by
    simp only [RV] at h ⊢
    obtain ⟨a, dd, fs, e, f, s, n, z, r⟩ := h
    refine ⟨a, dd, fs, e, m a f, k a _ f s, n, ?_, RVs.stay m k r⟩
    rcases z with z | ⟨d, e1, f1, s1⟩
    · exact .inl z
    · exact .inr ⟨d, e1, m d f1, k d _ f1 s1⟩
  | _, .scr _, h => by
    simp only [RV] at h ⊢
    obtain ⟨a, e, h⟩ := h
    refine ⟨a, e, ?_⟩
    rcases h with ⟨f, s | ⟨o, s⟩⟩ | h
    · exact .inl ⟨m a f, .inl (k a _ f s)⟩
    · exact .inl ⟨m a f, .inr ⟨o, k a _ f s⟩⟩
    · exact .inr h
theorem RVs.stay (m : ∀ a, F a → F' a) (k : ∀ a o, F a → H a = some o → H' a = some o) : ∀ {vs : List V} {ds : List D}, RVs K F H vs ds → RVs K F' H' vs ds
  | [], [], _ => by simp only [RVs]
  | _ :: _, _ :: _, h => by
    simp only [RVs] at h ⊢
    exact ⟨RV.stay m k h.1, RVs.stay m k h.2⟩
  | [], _ :: _, h => by simp only [RVs] at h
  | _ :: _, [], h => by simp only [RVs] at h
end
theorem XV.stay (m : ∀ a, F a → F' a) (k : ∀ a o, F a → H a = some o → H' a = some o) {x : Ex} {cls : Value} {dd : Option Addr} (h : XV K F H x cls dd) : XV K F' H' x cls dd := by
  obtain ⟨e, h⟩ := h
  refine ⟨e, ?_⟩
  rcases h with h | ⟨d, fs, e1, f, e2, e3, r⟩
  · exact .inl h
  · exact .inr ⟨d, fs, e1, m d f, k d _ f e2, e3, r.stay m k⟩
end
end U
namespace U
open PySem PySem.Spec PyProof.Rows L2
section
variable {K : PySem.W.Frag} {B : Bx} {F F' : Fz} {H H' : Hp}
mutual
theorem OV.stay (m : ∀ a, F a → F' a) : ∀ {v : V} {d : D} {A : List Addr}, (∀ a o, (F a ∨ a ∈ A) → H a = some o → H' a = some o) → OV K F H v d A → OV K F' H' v d A
  | _, .own 0 (.lst ds), A, k, h => by
    simp only [OV] at h ⊢
    obtain ⟨a, vs, A', e, s, q, r⟩ := h
    subst q
    exact ⟨a, vs, A', e, k a _ (.inr List.mem_cons_self) s, rfl, OVs.stay m (fun b o hb => k b o (hb.imp id (List.mem_cons_of_mem _))) r⟩
  | _, .own 0 (.ins c ns ds), A, k, h => by
    simp only [OV] at h ⊢
    obtain ⟨a, dx, fs, A', e, s, n, q, r⟩ := h
    subst q
    exact ⟨a, dx, fs, A', e, k a _ (.inr List.mem_cons_self) s, n, rfl, OVs.stay m (fun b o hb => k b o (hb.imp id (List.mem_cons_of_mem _))) r⟩
  | _, .own (_ + 1) _, _, _, h => by simp only [OV] at h
  | _, .own 0 .non, _, _, h => by simp only [OV] at h
  | _, .own 0 (.bl _), _, _, h => by simp only [OV] at h
  | _, .own 0 (.int _), _, _, h => by simp only [OV] at h
  | _, .own 0 (.str _), _, _, h => by simp only [OV] at h
  | _, .own 0 (.tup _), _, _, h => by simp only [OV] at h
  | _, .own 0 (.own _ _), _, _, h => by simp only [OV] at h
  | _, .own 0 (.exn _ _ _), _, _, h => by simp only [OV] at h
  | _, .own 0 (.dic _), _, _, h => by simp only [OV] at h
  | _, .own 0 (.exv _ _ _), _, _, h => by simp only [OV] at h
  | _, .own 0 (.scr _), _, _, h => by simp only [OV] at h
  | _, .non, _, k, h => by simp only [OV] at h ⊢; exact ⟨h.1, h.2.stay m fun a o f => k a o (.inl f)⟩
  | _, .bl _, _, k, h => by simp only [OV] at h ⊢; exact ⟨h.1, h.2.stay m fun a o f => k a o (.inl f)⟩
  | _, .int _, _, k, h => by simp only [OV] at h ⊢; exact ⟨h.1, h.2.stay m fun a o f => k a o (.inl f)⟩
  | _, .str _, _, k, h => by simp only [OV] at h ⊢; exact ⟨h.1, h.2.stay m fun a o f => k a o (.inl f)⟩
  | _, .tup _, _, k, h => by simp only [OV] at h ⊢; exact ⟨h.1, h.2.stay m fun a o f => k a o (.inl f)⟩
  | _, .lst _, _, k, h => by simp only [OV] at h ⊢; exact ⟨h.1, h.2.stay m fun a o f => k a o (.inl f)⟩
  | _, .ins _ _ _, _, k, h => by simp only [OV] at h ⊢; exact ⟨h.1, h.2.stay m fun a o f => k a o (.inl f)⟩
  | _, .exn _ _ _, _, k, h => by simp only [OV, RV] at h; exact h.2.elim
  | _, .dic _, _, k, h => by simp only [OV] at h ⊢; exact ⟨h.1, h.2.stay m fun a o f => k a o (.inl f)⟩
  | _, .exv _ _ _, _, k, h => by simp only [OV] at h ⊢; exact ⟨h.1, h.2.stay m fun a o f => k a o (.inl f)⟩
  | _, .scr _, _, k, h => by simp only [OV] at h ⊢; exact ⟨h.1, h.2.stay m fun a o f => k a o (.inl f)⟩
theorem OVs.stay (m : ∀ a, F a → F' a) : ∀ {vs : List V} {ds : List D} {A : List Addr}, (∀ a o, (F a ∨ a ∈ A) → H a = some o → H' a = some o) → OVs K F H vs ds A → OVs K F' H' vs ds A
  | [], [], _, _, h => by simp only [OVs] at h ⊢; exact h
  | _ :: _, _ :: _, _, k, h => by
    simp only [OVs] at h ⊢
    obtain ⟨A1, A2, h1, h2, e⟩ := h
    subst e
    exact ⟨A1, A2, OV.stay m (fun b o hb => k b o (hb.imp id (List.mem_append_left _))) h1, OVs.stay m (fun b o hb => k b o (hb.imp id (List.mem_append_right _))) h2, rfl⟩
  | [], _ :: _, _, _, h => by simp only [OVs] at h
  | _ :: _, [], _, _, h => by simp only [OVs] at h
end
theorem OVp.stay (m : ∀ a, F a → F' a) {v : V} {d : D} {A : List Addr} (k : ∀ a o, (F a ∨ a ∈ A) → H a = some o → H' a = some o) (h : OVp K F H B v d A) : OVp K F' H' B v d A := by
  unfold OVp at h ⊢
  split at h
  · exact ⟨h.1.stay m k, h.2⟩
  · obtain ⟨e, a, cls, dd, h1, h2, h3⟩ := h
    exact ⟨e, a, cls, dd, h1, h2, h3.stay m fun a o f => k a o (.inl f)⟩
  · exact h.stay m k
theorem OV.op {v : V} {d : D} {A : List Addr} (h : OV K F H v d A) : OVp K F H B v d A := by
  unfold OVp
  split
  · simp only [OV] at h
  · simp only [OV, RV] at h; exact h.2.elim
  · exact h
theorem OVo.stay (m : ∀ a, F a → F' a) : ∀ {v : Option V} {d : Option D} {A : List Addr}, (∀ a o, (F a ∨ a ∈ A) → H a = some o → H' a = some o) → OVo K F H B v d A → OVo K F' H' B v d A
  | some _, some _, _, k, h => by simp only [OVo] at h ⊢; exact h.stay m k
  | some _, none, _, _, h => by simp only [OVo] at h ⊢; exact h
  | none, none, _, _, h => by simp only [OVo] at h ⊢; exact h
  | none, some _, _, _, h => by simp only [OVo] at h
theorem OVS.stay (m : ∀ a, F a → F' a) : ∀ {vs : List (Option V)} {ds : List (Option D)} {A : List Addr}, (∀ a o, (F a ∨ a ∈ A) → H a = some o → H' a = some o) → OVS K F H B vs ds A → OVS K F' H' B vs ds A
  | [], [], _, _, h => by simp only [OVS] at h ⊢; exact h
  | _ :: _, _ :: _, _, k, h => by
    simp only [OVS] at h ⊢
    obtain ⟨A1, A2, h1, h2, e⟩ := h
    subst e
    exact ⟨A1, A2, OVo.stay m (fun b o hb => k b o (hb.imp id (List.mem_append_left _))) h1, OVS.stay m (fun b o hb => k b o (hb.imp id (List.mem_append_right _))) h2, rfl⟩
  | [], _ :: _, _, _, h => by simp only [OVS] at h
  | _ :: _, [], _, _, h => by simp only [OVS] at h
theorem OV.plain {v : V} {d : D} {A : List Addr} (hm : d.isMut = false) (h : OV K F H v d A) : A = [] ∧ RV K F H v d := by
  cases d with
  | own t d => cases hm
  | exn c ns ds => cases hm
  | _ => simp only [OV] at h; exact h
theorem RV.own {v : V} {d : D} (h : RV K F H v d) : OV K F H v d [] := by
  cases d with
  | own t d => simp only [RV] at h
  | exn c ns ds => simp only [RV] at h
  | _ => simp only [OV]; exact ⟨trivial, h⟩
theorem RV.notMut {v : V} {d : D} (h : RV K F H v d) : d.isMut = false := by
  cases d with
  | own t d => simp only [RV] at h
  | exn c ns ds => simp only [RV] at h
  | _ => rfl
mutual
theorem OV.there : ∀ {v : V} {d : D} {A : List Addr}, OV K F H v d A → ∀ a ∈ A, ∃ o, H a = some o
  | _, .own 0 (.lst ds), A, h, a, ha => by
    simp only [OV] at h
    obtain ⟨b, vs, A', e, s, q, r⟩ := h
    subst q
    rcases List.mem_cons.mp ha with z | z
    · rw [z]; exact ⟨_, s⟩
    · exact OVs.there r a z
  | _, .own 0 (.ins c ns ds), A, h, a, ha => by
    simp only [OV] at h
    obtain ⟨b, dx, fs, A', e, s, n, q, r⟩ := h
    subst q
    rcases List.mem_cons.mp ha with z | z
    · rw [z]; exact ⟨_, s⟩
    · exact OVs.there r a z
  | _, .own (_ + 1) _, _, h, _, _ => by simp only [OV] at h
  | _, .own 0 .non, _, h, _, _ => by simp only [OV] at h
  | _, .own 0 (.bl _), _, h, _, _ => by simp only [OV] at h
  | _, .own 0 (.int _), _, h, _, _ => by simp only [OV] at h
  | _, .own 0 (.str _), _, h, _, _ => by simp only [OV] at h
  | _, .own 0 (.tup _), _, h, _, _ => by simp only [OV] at h
  | _, .own 0 (.own _ _), _, h, _, _ => by simp only [OV] at h
  | _, .own 0 (.exn _ _ _), _, h, _, _ => by simp only [OV] at h
  | _, .own 0 (.dic _), _, h, _, _ => by simp only [OV] at h
  | _, .own 0 (.exv _ _ _), _, h, _, _ => by simp only [OV] at h
  | _, .own 0 (.scr _), _, h, _, _ => by simp only [OV] at h
  | _, .non, _, h, _, ha => by simp only [OV] at h; rw [h.1] at ha; cases ha
  | _, .bl _, _, h, _, ha => by simp only [OV] at h; rw [h.1] at ha; cases ha
  | _, .int _, _, h, _, ha => by simp only [OV] at h; rw [h.1] at ha; cases ha
  | _, .str _, _, h, _, ha => by simp only [OV] at h; rw [h.1] at ha; cases ha
  | _, .tup _, _, h, _, ha => by simp only [OV] at h; rw [h.1] at ha; cases ha
  | _, .lst _, _, h, _, ha => by simp only [OV] at h; rw [h.1] at ha; cases ha
  | _, .ins _ _ _, _, h, _, ha => by simp only [OV] at h; rw [h.1] at ha; cases ha
  | _, .exn _ _ _, _, h, _, ha => by simp only [OV] at h; rw [h.1] at ha; cases ha
  | _, .dic _, _, h, _, ha => by simp only [OV] at h; rw [h.1] at ha; cases ha
  | _, .exv _ _ _, _, h, _, ha => by simp only [OV] at h; rw [h.1] at ha; cases ha
  | _, .scr _, _, h, _, ha => by simp only [OV] at h; rw [h.1] at ha; cases ha
theorem OVs.there : ∀ {vs : List V} {ds : List D} {A : List Addr}, OVs K F H vs ds A → ∀ a ∈ A, ∃ o, H a = some o
  | [], [], _, h, _, ha => by simp only [OVs] at h; rw [h] at ha; cases ha
  | _ :: _, _ :: _, _, h, a, ha => by
    simp only [OVs] at h
    obtain ⟨A1, A2, h1, h2, e⟩ := h
    subst e
    rcases List.mem_append.mp ha with z | z
    · exact OV.there h1 a z
    · exact OVs.there h2 a z
  | [], _ :: _, _, h, _, _ => by simp only [OVs] at h
  | _ :: _, [], _, h, _, _ => by simp only [OVs] at h
end
theorem OVp.there {v : V} {d : D} {A : List Addr} (h : OVp K F H B v d A) : ∀ a ∈ A, ∃ o, H a = some o := by
  unfold OVp at h
  split at h
  · exact h.1.there
  · intro a ha; rw [h.1] at ha; cases ha
  · exact h.there
theorem OVp.plain {v : V} {d : D} {A : List Addr} (hm : d.isMut = false) (h : OVp K F H B v d A) : A = [] ∧ RV K F H v d := by
  unfold OVp at h
  split at h
  · cases hm
  · cases hm
  · exact h.plain hm
theorem OVS.there : ∀ {vs : List (Option V)} {ds : List (Option D)} {A : List Addr}, OVS K F H B vs ds A → ∀ a ∈ A, ∃ o, H a = some o
  | [], [], _, h, _, ha => by simp only [OVS] at h; rw [h] at ha; cases ha
  | v :: _, d :: _, _, h, a, ha => by
    simp only [OVS] at h
    obtain ⟨A1, A2, h1, h2, e⟩ := h
    subst e
    rcases List.mem_append.mp ha with z | z
    · cases d with
      | none => simp only [OVo] at h1; rw [h1] at z; cases z
      | some d =>
        cases v with
        | none => simp only [OVo] at h1
        | some v => simp only [OVo] at h1; exact h1.there a z
    · exact OVS.there h2 a z
  | [], _ :: _, _, h, _, _ => by simp only [OVS] at h
  | _ :: _, [], _, h, _, _ => by simp only [OVS] at h
theorem OVS.get : ∀ {vs : List (Option V)} {ds : List (Option D)} {A : List Addr} {i : Nat} {d : D}, OVS K F H B vs ds A → ds[i]? = some (some d) → ∃ v A1, vs[i]? = some (some v) ∧ OVp K F H B v d A1 ∧ ∀ a ∈ A1, a ∈ A
  | v :: vs, d :: ds, _, 0, d', h, e => by
    simp only [OVS] at h
    obtain ⟨A1, A2, h1, h2, q⟩ := h
    simp only [List.getElem?_cons_zero, Option.some.injEq] at e
    subst e q
    cases v with
    | none => simp only [OVo] at h1
    | some v => simp only [OVo] at h1; exact ⟨v, A1, rfl, h1, fun a ha => List.mem_append_left _ ha⟩
  | v :: vs, d :: ds, _, i + 1, d', h, e => by
    simp only [OVS] at h
    obtain ⟨A1, A2, h1, h2, q⟩ := h
    simp only [List.getElem?_cons_succ] at e
    subst q
    obtain ⟨w, A3, h3, h4, h5⟩ := OVS.get h2 e
    exact ⟨w, A3, by simpa using h3, h4, fun a ha => List.mem_append_right _ (h5 a ha)⟩
  | [], [], _, _, _, _, e => by simp at e
  | [], _ :: _, _, _, _, h, _ => by simp only [OVS] at h
  | _ :: _, [], _, _, _, h, _ => by simp only [OVS] at h
theorem OVS.len : ∀ {vs : List (Option V)} {ds : List (Option D)} {A : List Addr}, OVS K F H B vs ds A → vs.length = ds.length
  | [], [], _, _ => rfl
  | _ :: _, _ :: _, _, h => by
    simp only [OVS] at h
    obtain ⟨A1, A2, h1, h2, e⟩ := h
    simp [h2.len]
  | [], _ :: _, _, h => by simp only [OVS] at h
  | _ :: _, [], _, h => by simp only [OVS] at h
theorem OVS.split : ∀ {vs : List (Option V)} {ds : List (Option D)} {A : List Addr} {i : Nat} {d : Option D}, OVS K F H B vs ds A → ds[i]? = some d → ∃ v A1 L R, vs[i]? = some v ∧ OVo K F H B v d A1 ∧ A = L ++ A1 ++ R ∧
    ∀ {F' : Fz} {H' : Hp} {v' : Option V} {d' : Option D} {A' : List Addr}, (∀ a, F a → F' a) → (∀ a o, (F a ∨ a ∈ L ∨ a ∈ R) → H a = some o → H' a = some o) → OVo K F' H' B v' d' A' → OVS K F' H' B (vs.set i v') (ds.set i d') (L ++ A' ++ R)
  | v :: vs, d :: ds, _, 0, d', h, e => by
    simp only [OVS] at h
    obtain ⟨A1, A2, h1, h2, q⟩ := h
    simp only [List.getElem?_cons_zero, Option.some.injEq] at e
    subst e q
    refine ⟨v, A1, [], A2, rfl, h1, rfl, fun {F' H' v' d' A'} m k h' => ?_⟩
    simp only [List.set_cons_zero, OVS]
    exact ⟨A', A2, h', h2.stay m fun a o ha => k a o (ha.imp id .inr), rfl⟩
  | v :: vs, d :: ds, _, i + 1, d', h, e => by
    simp only [OVS] at h
    obtain ⟨A1, A2, h1, h2, q⟩ := h
    simp only [List.getElem?_cons_succ] at e
    subst q
    obtain ⟨w, A3, L, R, h3, h4, h5, h6⟩ := OVS.split h2 e
    subst h5
    refine ⟨w, A3, A1 ++ L, R, by simpa using h3, h4, by simp, fun {F' H' v' d' A'} m k h' => ?_⟩
    simp only [List.set_cons_succ, OVS]
    refine ⟨A1, L ++ A' ++ R, h1.stay m fun a o ha => k a o (ha.imp id fun z => .inl (List.mem_append_left _ z)), h6 m (fun a o ha => k a o (ha.imp id fun z => z.imp (List.mem_append_right _) id)) h', by simp⟩
  | [], [], _, _, _, _, e => by simp at e
  | [], _ :: _, _, _, _, h, _ => by simp only [OVS] at h
  | _ :: _, [], _, _, _, h, _ => by simp only [OVS] at h
theorem Rep.grow {σ : L2.St} {ρ : Env} {A : List Addr} (r : Rep K F H B σ ρ A) (g : Grow F H F' H') : Rep K F' H' B σ ρ A :=
  ⟨r.sl.stay g.mono fun a o _ h => g.keep a o h, r.nd, fun a ha f => by
    rcases g.froz a f with z | z
    · exact r.nf a ha z
    · obtain ⟨o, e⟩ := r.sl.there a ha
      exact absurd (z.symm.trans e) (by simp), g.dm r.dm⟩
theorem RV.grow {v : V} {d : D} (h : RV K F H v d) (g : Grow F H F' H') : RV K F' H' v d := h.stay g.mono fun a o _ e => g.keep a o e
theorem RVs.grow {v : List V} {d : List D} (h : RVs K F H v d) (g : Grow F H F' H') : RVs K F' H' v d := h.stay g.mono fun a o _ e => g.keep a o e
theorem RV.step {v : V} {d : D} {σ : L2.St} {ρ : Env} {A A' : List Addr} (h : RV K F H v d) (r : Rep K F H B σ ρ A) (s : Step A F H A' F' H') : RV K F' H' v d := h.stay s.mono fun a o f e => s.keep a o e fun ha => r.nf a ha f
theorem RVs.step {v : List V} {d : List D} {σ : L2.St} {ρ : Env} {A A' : List Addr} (h : RVs K F H v d) (r : Rep K F H B σ ρ A) (s : Step A F H A' F' H') : RVs K F' H' v d := h.stay s.mono fun a o f e => s.keep a o e fun ha => r.nf a ha f
end
end U
namespace U
open PySem PySem.Spec PyProof.Rows L2
section
variable (K : PySem.W.Frag) (B : Bx) (W : WX)
def xend (σ : L2.St) (A : List Addr) (F : Fz) (H : Hp) (x : Ex) (ρ' : Env) : Prop := ∀ cls dd σ' F' H' A', Rep K F' H' B σ' ρ' A' → XV K F' H' x cls dd → Step A F H A' F' H' → σ'.length = σ.length → W cls dd σ' H'
def xendE (σ : L2.St) (A : List Addr) (F : Fz) (H : Hp) (x : Ex) (ρ' : Env) : Prop := ∀ cls dd F' H' A', Rep K F' H' B σ ρ' A' → XV K F' H' x cls dd → Step A F H A' F' H' → W cls dd σ H'
def tDE (f : E) : TE := fun σ H Q => ∃ F ρ A, Rep K F H B σ ρ A ∧ match f ρ with
  | .ok d ρ' => ∀ v F' H' A', Rep K F' H' B σ ρ' A' → RV K F' H' v d → Step A F H A' F' H' → Q v H'
  | .exc x ρ' => xendE K B W σ A F H x ρ'
  | .bad => False
def tDM (f : E) : TE := fun σ H Q => ∃ F ρ A, Rep K F H B σ ρ A ∧ match f ρ with
  | .ok d ρ' => ∀ v F' H' A' Ar, Rep K F' H' B σ ρ' A' → OV K F' H' v d Ar → (A' ++ Ar).Nodup → (∀ a ∈ Ar, ¬ F' a) → Step A F H (A' ++ Ar) F' H' → Q v H'
  | .exc x ρ' => xendE K B W σ A F H x ρ'
  | .bad => False
def tDT (f : E) : TT := fun σ H Q => ∃ F ρ A, Rep K F H B σ ρ A ∧ match f ρ with
  | .ok d ρ' => ∃ b, d = .bl b ∧ ∀ F' H' A', Rep K F' H' B σ ρ' A' → Step A F H A' F' H' → Q b H'
  | .exc x ρ' => xendE K B W σ A F H x ρ'
  | .bad => False
def tDA (f : As) : TA := fun σ H Q => ∃ F ρ A, Rep K F H B σ ρ A ∧ match f ρ with
  | .ok ds ρ' => ∀ vs F' H' A', Rep K F' H' B σ ρ' A' → RVs K F' H' vs ds → Step A F H A' F' H' → Q vs H'
  | .exc x ρ' => xendE K B W σ A F H x ρ'
  | .bad => False
def AV (K : PySem.W.Frag) (F : Fz) (H : Hp) (σ : L2.St) : List V → List Arg → Prop
  | [], [] => True
  | v :: vs, .v d :: l => RV K F H v d ∧ AV K F H σ vs l
  | v :: vs, .b i :: l => σ[i]? = some (some v) ∧ AV K F H σ vs l
  | _, _ => False
def tDG (g : List Ag) : TA := fun σ H Q => ∃ F ρ A, Rep K F H B σ ρ A ∧ match evAg g ρ with
  | .ok l ρ' => ∀ vs F' H' A', Rep K F' H' B σ ρ' A' → AV K F' H' σ vs l → Step A F H A' F' H' → Q vs H'
  | .exc x ρ' => xendE K B W σ A F H x ρ'
  | .bad => False
def tDS (f : St) : TS := fun D σ H => ∃ F ρ A, Rep K F H B σ ρ A ∧ match f ρ with
  | .nx ρ' => ∀ σ' F' H' A', Rep K F' H' B σ' ρ' A' → Step A F H A' F' H' → σ'.length = σ.length → D.nx σ' H'
  | .bk ρ' => ∀ σ' F' H' A', Rep K F' H' B σ' ρ' A' → Step A F H A' F' H' → σ'.length = σ.length → D.bk σ' H'
  | .ct ρ' => ∀ σ' F' H' A', Rep K F' H' B σ' ρ' A' → Step A F H A' F' H' → σ'.length = σ.length → D.ct σ' H'
  | .rt d ρ' => ∀ v σ' F' H' A' Ar, Rep K F' H' B σ' ρ' A' → OV K F' H' v d Ar → (A' ++ Ar).Nodup → (∀ a ∈ Ar, ¬ F' a) → Step A F H (A' ++ Ar) F' H' → σ'.length = σ.length → D.rt v H'
  | .ex x ρ' => xend K B W σ A F H x ρ'
  | .bad => False
end
theorem xendE.before {K : PySem.W.Frag} {B : Bx} {W : WX} {σ : L2.St} {A A1 : List Addr} {F F1 : Fz} {H H1 : Hp} {x : Ex} {ρ' : Env} (h : xendE K B W σ A F H x ρ') (s : Step A F H A1 F1 H1) : xendE K B W σ A1 F1 H1 x ρ' :=
  fun cls dd F' H' A' r x t => h cls dd F' H' A' r x (s.trans t)
theorem xendE.xend {K : PySem.W.Frag} {B : Bx} {W : WX} {σ : L2.St} {A : List Addr} {F : Fz} {H : Hp} {x : Ex} {ρ' : Env} (h : U.xend K B W σ A F H x ρ') : xendE K B W σ A F H x ρ' :=
  fun cls dd F' H' A' r x t => h cls dd σ F' H' A' r x t rfl
section
variable {X : Cx} {e : Expr} {K : PySem.W.Frag} {B : Bx} {W : WX}
theorem _root_.L2.PE.weak {t t' : TE} (h : PE X e t) (w : ∀ σ H Q, t' σ H Q → t σ H Q) : PE X e t' := ⟨fun pins s σ H Q I q => h.run pins s σ H Q I (w σ H Q q)⟩
theorem _root_.L2.PT.weak {t t' : TT} (h : PT X e t) (w : ∀ σ H Q, t' σ H Q → t σ H Q) : PT X e t' := ⟨fun pins s σ H Q I q => h.run pins s σ H Q I (w σ H Q q)⟩
theorem _root_.L2.PW.weak {t t' : TT} (h : PW X e t) (w : ∀ σ H Q, t' σ H Q → t σ H Q) : PW X e t' := ⟨fun wh pins s σ H Q I q => h.run wh pins s σ H Q I (w σ H Q q)⟩
theorem _root_.L2.PA.weak {es : List Expr} {t t' : TA} (h : PA X es t) (w : ∀ σ H Q, t' σ H Q → t σ H Q) : PA X es t' := ⟨fun p pins s σ H Q I q => h.run p pins s σ H Q I (w σ H Q q)⟩
theorem _root_.L2.PS.weak {st : Stmt} {t t' : TS} (h : PS X st t) (w : ∀ D σ H, t' D σ H → t D σ H) : PS X st t' := ⟨fun pins s σ H D I q => h.run pins s σ H D I (w D σ H q)⟩
theorem _root_.L2.PSs.weak {st : List Stmt} {t t' : TS} (h : PSs X st t) (w : ∀ D σ H, t' D σ H → t D σ H) : PSs X st t' := ⟨fun pins s σ H D I q => h.run pins s σ H D I (w D σ H q)⟩
def P1 (K : PySem.W.Frag) (o : D → Option D) (r : V → Hp → VK → Prop) : Prop := ∀ (F : Fz) (H : Hp) (x : V) (a d : D) (Q : VK), RV K F H x a → o a = some d → (∀ v F' H', Grow F H F' H' → RV K F' H' v d → Q v H') → r x H Q
def P2 (K : PySem.W.Frag) (o : D → D → Option D) (r : R2) : Prop := ∀ (F : Fz) (H : Hp) (x y : V) (a b d : D) (Q : VK), RV K F H x a → RV K F H y b → o a b = some d → (∀ v F' H', Grow F H F' H' → RV K F' H' v d → Q v H') → r x y H Q
def PN (K : PySem.W.Frag) (o : List D → Option D) (r : List V → Hp → VK → Prop) : Prop := ∀ (F : Fz) (H : Hp) (xs : List V) (ds : List D) (d : D) (Q : VK), RVs K F H xs ds → o ds = some d → (∀ v F' H', Grow F H F' H' → RV K F' H' v d → Q v H') → r xs H Q
theorem ok_inv {o : Option D} {ρ : Env} {Φ : D → Env → Prop} {Ψ : Ex → Env → Prop} (h : match lift o ρ with | .ok d ρ' => Φ d ρ' | .exc x ρ' => Ψ x ρ' | .bad => False) : ∃ d, o = some d ∧ Φ d ρ := by
  cases o with
  | none => exact h.elim
  | some d => exact ⟨d, rfl, h⟩
theorem w_op {o : D → D → Option D} {r : R2} {f g : E} (p : P2 K o r) (σ : L2.St) (H : Hp) (Q : VK) (h : tDE K B W (eOp o f g) σ H Q) : tOp r (tDE K B W f) (tDE K B W g) σ H Q := by
  obtain ⟨F, ρ, A, rp, h⟩ := h
  refine ⟨F, ρ, A, rp, ?_⟩
  unfold eOp at h
  cases e1 : f ρ with
  | bad => rw [e1] at h; exact h
  | exc x ρ1 => rw [e1] at h; exact h
  | ok d1 ρ1 =>
    rw [e1] at h
    intro v1 F1 H1 A1 r1 v1r s1
    refine ⟨F1, ρ1, A1, r1, ?_⟩
    simp only [ER.bind] at h
    cases e2 : g ρ1 with
    | bad => rw [e2] at h; exact h
    | exc x ρ2 => rw [e2] at h; exact h.before s1
    | ok d2 ρ2 =>
      rw [e2] at h
      intro v2 F2 H2 A2 r2 v2r s2
      obtain ⟨d, ed, h⟩ := ok_inv h
      refine p F2 H2 v1 v2 d1 d2 d Q (v1r.step r1 s2) v2r ed fun v F' H' g vr => h v F' H' A2 (r2.grow g) vr ((s1.trans s2).trans g.step)
theorem w_un {o : D → Option D} {r : V → Hp → VK → Prop} {f : E} (p : P1 K o r) (σ : L2.St) (H : Hp) (Q : VK) (h : tDE K B W (eUn o f) σ H Q) : tUn r (tDE K B W f) σ H Q := by
  obtain ⟨F, ρ, A, rp, h⟩ := h
  refine ⟨F, ρ, A, rp, ?_⟩
  unfold eUn at h
  cases e1 : f ρ with
  | bad => rw [e1] at h; exact h
  | exc x ρ1 => rw [e1] at h; exact h
  | ok d1 ρ1 =>
    rw [e1] at h
    intro v1 F1 H1 A1 r1 v1r s1
    obtain ⟨d, ed, h⟩ := ok_inv h
    exact p F1 H1 v1 d1 d Q v1r ed fun v F' H' g vr => h v F' H' A1 (r1.grow g) vr (s1.trans g.step)
theorem w_n {o : List D → Option D} {r : List V → Hp → VK → Prop} {f : As} (p : PN K o r) (σ : L2.St) (H : Hp) (Q : VK) (h : tDE K B W (eN o f) σ H Q) : tCB r (tDA K B W f) σ H Q := by
  obtain ⟨F, ρ, A, rp, h⟩ := h
  refine ⟨F, ρ, A, rp, ?_⟩
  unfold eN at h
  cases e1 : f ρ with
  | bad => rw [e1] at h; exact h
  | exc x ρ1 => rw [e1] at h; exact h
  | ok d1 ρ1 =>
    rw [e1] at h
    intro v1 F1 H1 A1 r1 v1r s1
    obtain ⟨d, ed, h⟩ := ok_inv h
    exact p F1 H1 v1 d1 d Q v1r ed fun v F' H' g vr => h v F' H' A1 (r1.grow g) vr (s1.trans g.step)
theorem w_anil (σ : L2.St) (H : Hp) (Q : List V → Hp → Prop) (h : tDA K B W aNil σ H Q) : tNil σ H Q := by
  obtain ⟨F, ρ, A, rp, h⟩ := h
  exact h [] F H A rp (by simp only [RVs]) Step.refl
theorem w_acons {f : E} {r : As} (σ : L2.St) (H : Hp) (Q : List V → Hp → Prop) (h : tDA K B W (aCons f r) σ H Q) : tCons (tDE K B W f) (tDA K B W r) σ H Q := by
  obtain ⟨F, ρ, A, rp, h⟩ := h
  refine ⟨F, ρ, A, rp, ?_⟩
  unfold aCons at h
  cases e1 : f ρ with
  | bad => rw [e1] at h; exact h
  | exc x ρ1 => rw [e1] at h; exact h
  | ok d1 ρ1 =>
    rw [e1] at h
    intro v1 F1 H1 A1 r1 v1r s1
    refine ⟨F1, ρ1, A1, r1, ?_⟩
    simp only [ER.bindA] at h
    cases e2 : r ρ1 with
    | bad => rw [e2] at h; exact h
    | exc x ρ2 => rw [e2] at h; exact h.before s1
    | ok d2 ρ2 =>
      rw [e2] at h
      intro v2 F2 H2 A2 r2 v2r s2
      exact h (v1 :: v2) F2 H2 A2 r2 (by simp only [RVs]; exact ⟨v1r.step r1 s2, v2r⟩) (s1.trans s2)
theorem rd_some {o : Option (Option D)} {d : D} (h : rd o = some d) : o = some (some d) ∧ d.isMut = false := by
  unfold rd at h
  split at h
  · cases h
  · cases h
  · cases h
    rename_i d' hn hn2
    refine ⟨rfl, ?_⟩
    cases d with
    | own t d' => exact absurd rfl (hn t d')
    | exn c ns ds => exact absurd rfl (hn2 c ns ds)
    | _ => rfl
  · cases h
theorem w_var {i : Nat} (σ : L2.St) (H : Hp) (Q : VK) (h : tDE K B W (eVar i) σ H Q) : tVar i σ H Q := by
  obtain ⟨F, ρ, A, rp, h⟩ := h
  obtain ⟨d, ed, h⟩ := ok_inv h
  obtain ⟨eo, hm⟩ := rd_some ed
  obtain ⟨v, A1, hv, ov, _⟩ := rp.sl.get eo
  exact ⟨v, hv, h v F H A rp (ov.plain hm).2 Step.refl⟩
theorem w_c {v : V} {d : D} (p : ∀ F H, RV K F H v d) (σ : L2.St) (H : Hp) (Q : VK) (h : tDE K B W (eC d) σ H Q) : tC v σ H Q := by
  obtain ⟨F, ρ, A, rp, h⟩ := h
  exact h v F H A rp (p F H) Step.refl
theorem w_and {f g : E} (σ : L2.St) (H : Hp) (Q : VK) (h : tDE K B W (eAnd f g) σ H Q) : tAndV (tDE K B W f) (tDE K B W g) σ H Q := by
  obtain ⟨F, ρ, A, rp, h⟩ := h
  refine ⟨F, ρ, A, rp, ?_⟩
  unfold eAnd at h
  cases e1 : f ρ with
  | bad => rw [e1] at h; exact h
  | exc x ρ1 => rw [e1] at h; exact h
  | ok d1 ρ1 =>
    rw [e1] at h
    intro v1 F1 H1 A1 r1 v1r s1
    cases d1 with
    | bl b =>
      simp only [RV] at v1r
      refine ⟨b, v1r, ?_⟩
      cases b with
      | true =>
        rw [if_pos rfl]
        refine ⟨F1, ρ1, A1, r1, ?_⟩
        simp only [ER.bind] at h
        cases e2 : g ρ1 with
        | bad => rw [e2] at h; exact h
        | exc x ρ2 => rw [e2] at h; exact h.before s1
        | ok d2 ρ2 =>
          rw [e2] at h
          intro v2 F2 H2 A2 r2 v2r s2
          exact h v2 F2 H2 A2 r2 v2r (s1.trans s2)
      | false =>
        rw [if_neg (by decide)]
        exact h (.bl false) F1 H1 A1 r1 (by simp only [RV]) s1
    | _ => exact h.elim
theorem w_or {f g : E} (σ : L2.St) (H : Hp) (Q : VK) (h : tDE K B W (eOr f g) σ H Q) : tOrV (tDE K B W f) (tDE K B W g) σ H Q := by
  obtain ⟨F, ρ, A, rp, h⟩ := h
  refine ⟨F, ρ, A, rp, ?_⟩
  unfold eOr at h
  cases e1 : f ρ with
  | bad => rw [e1] at h; exact h
  | exc x ρ1 => rw [e1] at h; exact h
  | ok d1 ρ1 =>
    rw [e1] at h
    intro v1 F1 H1 A1 r1 v1r s1
    cases d1 with
    | bl b =>
      simp only [RV] at v1r
      refine ⟨b, v1r, ?_⟩
      cases b with
      | false =>
        rw [if_neg (by decide)]
        refine ⟨F1, ρ1, A1, r1, ?_⟩
        simp only [ER.bind] at h
        cases e2 : g ρ1 with
        | bad => rw [e2] at h; exact h
        | exc x ρ2 => rw [e2] at h; exact h.before s1
        | ok d2 ρ2 =>
          rw [e2] at h
          intro v2 F2 H2 A2 r2 v2r s2
          exact h v2 F2 H2 A2 r2 v2r (s1.trans s2)
      | true =>
        rw [if_pos rfl]
        exact h (.bl true) F1 H1 A1 r1 (by simp only [RV]) s1
    | _ => exact h.elim
theorem w_tv {f : E} (σ : L2.St) (H : Hp) (Q : Bool → Hp → Prop) (h : tDT K B W f σ H Q) : tTest (tDE K B W f) σ H Q := by
  obtain ⟨F, ρ, A, rp, h⟩ := h
  refine ⟨F, ρ, A, rp, ?_⟩
  cases e1 : f ρ with
  | bad => rw [e1] at h; exact h
  | exc x ρ1 => rw [e1] at h; exact h
  | ok d1 ρ1 =>
    rw [e1] at h
    obtain ⟨b, rfl, h⟩ := h
    intro v1 F1 H1 A1 r1 v1r s1
    simp only [RV] at v1r
    exact ⟨b, v1r, h F1 H1 A1 r1 s1⟩
theorem w_tand {f g : E} (σ : L2.St) (H : Hp) (Q : Bool → Hp → Prop) (h : tDT K B W (eAnd f g) σ H Q) : tAnd (tDT K B W f) (tDT K B W g) σ H Q := by
  obtain ⟨F, ρ, A, rp, h⟩ := h
  refine ⟨F, ρ, A, rp, ?_⟩
  unfold eAnd at h
  cases e1 : f ρ with
  | bad => rw [e1] at h; exact h
  | exc x ρ1 => rw [e1] at h; exact h
  | ok d1 ρ1 =>
    rw [e1] at h
    cases d1 with
    | bl b =>
      refine ⟨b, rfl, fun F1 H1 A1 r1 s1 => ?_⟩
      cases b with
      | true =>
        rw [if_pos rfl]
        refine ⟨F1, ρ1, A1, r1, ?_⟩
        simp only [ER.bind] at h
        cases e2 : g ρ1 with
        | bad => rw [e2] at h; exact h
        | exc x ρ2 => rw [e2] at h; exact h.before s1
        | ok d2 ρ2 =>
          rw [e2] at h
          obtain ⟨b2, rfl, h⟩ := h
          exact ⟨b2, rfl, fun F2 H2 A2 r2 s2 => h F2 H2 A2 r2 (s1.trans s2)⟩
      | false =>
        rw [if_neg (by decide)]
        obtain ⟨b2, eb, h⟩ := h
        cases eb
        exact h F1 H1 A1 r1 s1
    | _ => exact h.elim
theorem w_tor {f g : E} (σ : L2.St) (H : Hp) (Q : Bool → Hp → Prop) (h : tDT K B W (eOr f g) σ H Q) : tOr (tDT K B W f) (tDT K B W g) σ H Q := by
  obtain ⟨F, ρ, A, rp, h⟩ := h
  refine ⟨F, ρ, A, rp, ?_⟩
  unfold eOr at h
  cases e1 : f ρ with
  | bad => rw [e1] at h; exact h
  | exc x ρ1 => rw [e1] at h; exact h
  | ok d1 ρ1 =>
    rw [e1] at h
    cases d1 with
    | bl b =>
      refine ⟨b, rfl, fun F1 H1 A1 r1 s1 => ?_⟩
      cases b with
      | false =>
        rw [if_neg (by decide)]
        refine ⟨F1, ρ1, A1, r1, ?_⟩
        simp only [ER.bind] at h
        cases e2 : g ρ1 with
        | bad => rw [e2] at h; exact h
        | exc x ρ2 => rw [e2] at h; exact h.before s1
        | ok d2 ρ2 =>
          rw [e2] at h
          obtain ⟨b2, rfl, h⟩ := h
          exact ⟨b2, rfl, fun F2 H2 A2 r2 s2 => h F2 H2 A2 r2 (s1.trans s2)⟩
      | true =>
        rw [if_pos rfl]
        obtain ⟨b2, eb, h⟩ := h
        cases eb
        exact h F1 H1 A1 r1 s1
    | _ => exact h.elim
theorem w_tnot {f : E} (σ : L2.St) (H : Hp) (Q : Bool → Hp → Prop) (h : tDT K B W (eUn oNot f) σ H Q) : L2.tNot (tDT K B W f) σ H Q := by
  obtain ⟨F, ρ, A, rp, h⟩ := h
  refine ⟨F, ρ, A, rp, ?_⟩
  unfold eUn at h
  cases e1 : f ρ with
  | bad => rw [e1] at h; exact h
  | exc x ρ1 => rw [e1] at h; exact h
  | ok d1 ρ1 =>
    rw [e1] at h
    cases d1 with
    | bl b =>
      obtain ⟨b2, eb, h⟩ := h
      cases eb
      exact ⟨b, rfl, fun F1 H1 A1 r1 s1 => h F1 H1 A1 r1 s1⟩
    | _ => exact h.elim
theorem w_not {f : E} (σ : L2.St) (H : Hp) (Q : VK) (h : tDE K B W (eUn oNot f) σ H Q) : tNotV (tDE K B W f) σ H Q := by
  obtain ⟨F, ρ, A, rp, h⟩ := h
  refine ⟨F, ρ, A, rp, ?_⟩
  unfold eUn at h
  cases e1 : f ρ with
  | bad => rw [e1] at h; exact h
  | exc x ρ1 => rw [e1] at h; exact h
  | ok d1 ρ1 =>
    rw [e1] at h
    intro v1 F1 H1 A1 r1 v1r s1
    cases d1 with
    | bl b =>
      simp only [RV] at v1r
      exact ⟨b, v1r, h (.bl (!b)) F1 H1 A1 r1 (by simp only [RV]) s1⟩
    | _ => exact h.elim
theorem w_if {c f g : E} (σ : L2.St) (H : Hp) (Q : VK) (h : tDE K B W (eIf c f g) σ H Q) : tIf (tDT K B W c) (tDE K B W f) (tDE K B W g) σ H Q := by
  obtain ⟨F, ρ, A, rp, h⟩ := h
  refine ⟨F, ρ, A, rp, ?_⟩
  unfold eIf at h
  cases e1 : c ρ with
  | bad => rw [e1] at h; exact h
  | exc x ρ1 => rw [e1] at h; exact h
  | ok d1 ρ1 =>
    rw [e1] at h
    cases d1 with
    | bl b =>
      refine ⟨b, rfl, fun F1 H1 A1 r1 s1 => ?_⟩
      cases b with
      | true =>
        rw [if_pos rfl]
        refine ⟨F1, ρ1, A1, r1, ?_⟩
        simp only [ER.bind] at h
        cases e2 : f ρ1 with
        | bad => rw [e2] at h; exact h
        | exc x ρ2 => rw [e2] at h; exact h.before s1
        | ok d2 ρ2 =>
          rw [e2] at h
          exact fun v2 F2 H2 A2 r2 v2r s2 => h v2 F2 H2 A2 r2 v2r (s1.trans s2)
      | false =>
        rw [if_neg (by decide)]
        refine ⟨F1, ρ1, A1, r1, ?_⟩
        simp only [ER.bind] at h
        cases e2 : g ρ1 with
        | bad => rw [e2] at h; exact h
        | exc x ρ2 => rw [e2] at h; exact h.before s1
        | ok d2 ρ2 =>
          rw [e2] at h
          exact fun v2 F2 H2 A2 r2 v2r s2 => h v2 F2 H2 A2 r2 v2r (s1.trans s2)
    | _ => exact h.elim
end
end U
namespace U
open PySem PySem.Spec PyProof.Rows L2
section
variable {K : PySem.W.Frag} {B B' : Bx} {F F' : Fz} {H H' : Hp} {W : WX}
theorem Step.sub {A A' A'' : List Addr} (s : Step A F H A' F' H') (h : ∀ a ∈ A'', a ∈ A') : Step A F H A'' F' H' := ⟨s.mono, s.keep, s.froz, fun a ha => s.own a (h a ha)⟩
theorem Rep.put {σ : L2.St} {ρ ρ' : Env} {A Ar : List Addr} {i : Nat} {v : V} {d : D} (r : Rep K F H B σ ρ A) (o : OV K F H v d Ar) (nd : (A ++ Ar).Nodup) (nf : ∀ a ∈ Ar, ¬ F a) (e : U.put i d ρ = some ρ') :
    ∃ A', Rep K F H B (σ.set i (some v)) ρ' A' ∧ ∀ a ∈ A', a ∈ A ++ Ar := by
  have he : ∃ c, ρ[i]? = some c ∧ ρ' = ρ.set i (some d) := by
    unfold U.put at e
    split at e
    · cases e
    · rename_i x hx hn
      cases e
      exact ⟨x, by assumption, rfl⟩
    · cases e
  obtain ⟨c, hc, rfl⟩ := he
  obtain ⟨v0, A1, L, R, h1, h2, h3, h4⟩ := r.sl.split hc
  subst h3
  refine ⟨L ++ Ar ++ R, ⟨h4 (fun _ h => h) (fun _ _ _ h => h) (by simp only [OVo]; exact o.op), ?_, fun a ha => ?_, r.dm⟩, fun a ha => ?_⟩
  · simp only [List.nodup_append, List.mem_append] at nd ⊢
    obtain ⟨⟨⟨n1, n2, n3⟩, n4, n5⟩, n6, n7⟩ := nd
    refine ⟨⟨n1, n6, fun a ha b hb e => n7 a (.inl (.inl ha)) b hb e⟩, n4, fun a ha b hb e => ?_⟩
    rcases ha with ha | ha
    · exact n5 a (.inl ha) b hb e
    · exact n7 b (.inr hb) a ha e.symm
  · simp only [List.mem_append] at ha
    rcases ha with (ha | ha) | ha
    · exact r.nf a (by simp [ha])
    · exact nf a ha
    · exact r.nf a (by simp [ha])
  · simp only [List.mem_append] at ha ⊢
    rcases ha with (ha | ha) | ha
    · exact .inl (.inl (.inl ha))
    · exact .inr ha
    · exact .inl (.inr ha)
theorem Rep.putP {σ : L2.St} {ρ ρ' : Env} {A : List Addr} {i : Nat} {v : V} {d : D} (r : Rep K F H B σ ρ A) (o : RV K F H v d) (e : U.put i d ρ = some ρ') :
    ∃ A', Rep K F H B (σ.set i (some v)) ρ' A' ∧ ∀ a ∈ A', a ∈ A := by
  obtain ⟨A', h1, h2⟩ := r.put (Ar := []) o.own (by simpa using r.nd) (fun a h => by cases h) e
  exact ⟨A', h1, fun a ha => by simpa using h2 a ha⟩
def send (K : PySem.W.Frag) (B : Bx) (W : WX) (D : Ends) (σ : L2.St) (A : List Addr) (F : Fz) (H : Hp) (r : Fl) : Prop := match r with
  | .nx ρ' => ∀ σ' F' H' A', Rep K F' H' B σ' ρ' A' → Step A F H A' F' H' → σ'.length = σ.length → D.nx σ' H'
  | .bk ρ' => ∀ σ' F' H' A', Rep K F' H' B σ' ρ' A' → Step A F H A' F' H' → σ'.length = σ.length → D.bk σ' H'
  | .ct ρ' => ∀ σ' F' H' A', Rep K F' H' B σ' ρ' A' → Step A F H A' F' H' → σ'.length = σ.length → D.ct σ' H'
  | .rt d ρ' => ∀ v σ' F' H' A' Ar, Rep K F' H' B σ' ρ' A' → OV K F' H' v d Ar → (A' ++ Ar).Nodup → (∀ a ∈ Ar, ¬ F' a) → Step A F H (A' ++ Ar) F' H' → σ'.length = σ.length → D.rt v H'
  | .ex x ρ' => xend K B W σ A F H x ρ'
  | .bad => False
theorem send.before {D : Ends} {σ σ1 : L2.St} {A A1 : List Addr} {F1 : Fz} {H1 : Hp} {r : Fl} (h : send K B W D σ A F H r) (s : Step A F H A1 F1 H1) (l : σ1.length = σ.length) : send K B W D σ1 A1 F1 H1 r := by
  cases r with
  | nx ρ' => exact fun σ' F' H' A' r t e => h σ' F' H' A' r (s.trans t) (e.trans l)
  | bk ρ' => exact fun σ' F' H' A' r t e => h σ' F' H' A' r (s.trans t) (e.trans l)
  | ct ρ' => exact fun σ' F' H' A' r t e => h σ' F' H' A' r (s.trans t) (e.trans l)
  | rt d ρ' => exact fun v σ' F' H' A' Ar r o n nf t e => h v σ' F' H' A' Ar r o n nf (s.trans t) (e.trans l)
  | ex x ρ' => exact fun cls dd σ' F' H' A' r x t e => h cls dd σ' F' H' A' r x (s.trans t) (e.trans l)
  | bad => exact h
theorem xend.expr {σ : L2.St} {A : List Addr} {x : Ex} {ρ' : Env} (h : xend K B W σ A F H x ρ') : xendE K B W σ A F H x ρ' := fun cls dd F' H' A' r x t => h cls dd σ F' H' A' r x t rfl
theorem w_dm {f : E} (σ : L2.St) (H : Hp) (Q : VK) (h : tDM K B W f σ H Q) : tDE K B W f σ H Q := by
  obtain ⟨F, ρ, A, rp, h⟩ := h
  refine ⟨F, ρ, A, rp, ?_⟩
  cases e1 : f ρ with
  | bad => rw [e1] at h; exact h
  | exc x ρ1 => rw [e1] at h; exact h
  | ok d1 ρ1 =>
    rw [e1] at h
    exact fun v F' H' A' r o s => h v F' H' A' [] r o.own (by simpa using r.nd) (fun a ha => by cases ha) (by simpa using s)
theorem frz_ov {v : V} {d d' : D} {A Ar : List Addr} {σ : L2.St} {ρ : Env} (r : Rep K F H B σ ρ A) (o : OV K F H v d Ar) (nd : (A ++ Ar).Nodup) (e : frzD d = some d') :
    ∃ F', (∀ a, F a → F' a) ∧ (∀ a, F' a → F a ∨ a ∈ Ar) ∧ RV K F' H v d' ∧ (∀ a, F' a → ∃ o, H a = some o) := by
  have dm := r.dm
  have all : ∀ {vs : List V} {ds : List D} {A' : List Addr}, OVs K F H vs ds A' → allPlain ds = true → A' = [] ∧ RVs K F H vs ds := by
    intro vs
    induction vs with
    | nil =>
      intro ds A' h hp
      cases ds with
      | nil => simp only [OVs] at h; exact ⟨h, by simp only [RVs]⟩
      | cons d ds => simp only [OVs] at h
    | cons v vs ih =>
      intro ds A' h hp
      cases ds with
      | nil => simp only [OVs] at h
      | cons d ds =>
        simp only [OVs] at h
        obtain ⟨A1, A2, h1, h2, e⟩ := h
        simp only [allPlain, Bool.and_eq_true, Bool.not_eq_true'] at hp
        obtain ⟨z1, z2⟩ := h1.plain hp.1
        obtain ⟨z3, z4⟩ := ih h2 hp.2
        subst z1 z3
        exact ⟨e, by simp only [RVs]; exact ⟨z2, z4⟩⟩
  have pl : d.isMut = false → d' = d → ∃ F', (∀ a, F a → F' a) ∧ (∀ a, F' a → F a ∨ a ∈ Ar) ∧ RV K F' H v d' ∧ (∀ a, F' a → ∃ o, H a = some o) := fun hm ed => by
    subst ed
    exact ⟨F, fun _ h => h, fun _ h => .inl h, (o.plain hm).2, dm⟩
  have m1 : ∀ {a : Addr} {ob : HO}, H a = some ob → (∀ b, (fun z => F z ∨ z = a) b → ∃ o, H b = some o) := fun {a ob} h b hb => by
    rcases hb with hb | hb
    · exact dm b hb
    · rw [hb]; exact ⟨ob, h⟩
  cases d with
  | own t d =>
    cases t with
    | succ t => simp only [frzD] at e; cases e
    | zero =>
      cases d with
      | lst l =>
        simp only [frzD] at e
        by_cases hp : allPlain l = true
        · rw [if_pos hp] at e
          cases e
          simp only [OV] at o
          obtain ⟨a, vs, A', ev, hs, eA, ro⟩ := o
          obtain ⟨z1, z2⟩ := all ro hp
          subst z1 eA
          refine ⟨fun b => F b ∨ b = a, fun _ h => .inl h, fun b h => h.imp id fun z => by simp [z], ?_, m1 hs⟩
          simp only [RV]
          exact ⟨a, vs, ev, ⟨.inr rfl, hs⟩, z2.stay (fun _ h => .inl h) fun _ _ _ h => h⟩
        · rw [if_neg hp] at e; cases e
      | ins c ns l =>
        simp only [frzD] at e
        by_cases hp : allPlain l = true
        · rw [if_pos hp] at e
          cases e
          simp only [OV] at o
          obtain ⟨a, dx, fs, A', ev, hs, en, eA, ro⟩ := o
          obtain ⟨z1, z2⟩ := all ro hp
          subst z1 eA
          refine ⟨fun b => F b ∨ b = a, fun _ h => .inl h, fun b h => h.imp id fun z => by simp [z], ?_, m1 hs⟩
          simp only [RV]
          exact ⟨a, dx, fs, ev, .inr rfl, hs, en, z2.stay (fun _ h => .inl h) fun _ _ _ h => h⟩
        · rw [if_neg hp] at e; cases e
      | _ => simp only [OV] at o
  | non => exact pl rfl (by simp only [frzD] at e; exact (Option.some.inj e).symm)
  | bl b => exact pl rfl (by simp only [frzD] at e; exact (Option.some.inj e).symm)
  | int b => exact pl rfl (by simp only [frzD] at e; exact (Option.some.inj e).symm)
  | str b => exact pl rfl (by simp only [frzD] at e; exact (Option.some.inj e).symm)
  | tup b => exact pl rfl (by simp only [frzD] at e; exact (Option.some.inj e).symm)
  | lst b => exact pl rfl (by simp only [frzD] at e; exact (Option.some.inj e).symm)
  | ins c ns b => exact pl rfl (by simp only [frzD] at e; exact (Option.some.inj e).symm)
  | exn c ns b => simp only [frzD] at e; cases e
  | exv c ns b => exact pl rfl (by simp only [frzD] at e; exact (Option.some.inj e).symm)
  | dic b => exact pl rfl (by simp only [frzD] at e; exact (Option.some.inj e).symm)
  | scr b => exact pl rfl (by simp only [frzD] at e; exact (Option.some.inj e).symm)
theorem w_frz {f : E} (σ : L2.St) (H : Hp) (Q : VK) (h : tDE K B W (eFrz f) σ H Q) : tDM K B W f σ H Q := by
  obtain ⟨F, ρ, A, rp, h⟩ := h
  refine ⟨F, ρ, A, rp, ?_⟩
  unfold eFrz at h
  cases e1 : f ρ with
  | bad => rw [e1] at h; exact h
  | exc x ρ1 => rw [e1] at h; exact h
  | ok d1 ρ1 =>
    rw [e1] at h
    obtain ⟨d, ed, h⟩ := ok_inv h
    intro v F' H' A' Ar r o nd nf s
    obtain ⟨F2, m, fz, rv, dm⟩ := frz_ov r o nd ed
    rw [List.nodup_append] at nd
    refine h v F2 H' A' ⟨r.sl.stay m fun _ _ _ h => h, r.nd, fun a ha hf => ?_, dm⟩ rv ⟨fun a ha => m a (s.mono a ha), s.keep, fun a ha => ?_, fun a ha => s.own a (List.mem_append_left _ ha)⟩
    · rcases fz a hf with z | z
      · exact r.nf a ha z
      · exact nd.2.2 a ha a z rfl
    · rcases fz a ha with z | z
      · exact s.froz a z
      · rcases s.own a (List.mem_append_right _ z) with q | q
        · exact .inr (.inr q)
        · exact .inr (.inl q)
theorem w_nil (D : Ends) (σ : L2.St) (H : Hp) (h : tDS K B W sNil D σ H) : tNext D σ H := by
  obtain ⟨F, ρ, A, rp, h⟩ := h
  exact h σ F H A rp Step.refl rfl
theorem w_ct (D : Ends) (σ : L2.St) (H : Hp) (h : tDS K B W sCt D σ H) : tCont D σ H := by
  obtain ⟨F, ρ, A, rp, h⟩ := h
  exact h σ F H A rp Step.refl rfl
theorem w_seq {f g : U.St} (D : Ends) (σ : L2.St) (H : Hp) (h : tDS K B W (sSeq f g) D σ H) : tSeq (tDS K B W f) (tDS K B W g) D σ H := by
  obtain ⟨F, ρ, A, rp, h⟩ := h
  refine ⟨F, ρ, A, rp, ?_⟩
  unfold sSeq at h
  cases e1 : f ρ with
  | nx ρ1 =>
    rw [e1] at h
    exact fun σ1 F1 H1 A1 r1 s1 l1 => ⟨F1, ρ1, A1, r1, send.before (r := g ρ1) h s1 l1⟩
  | bk ρ1 => rw [e1] at h; exact h
  | ct ρ1 => rw [e1] at h; exact h
  | rt d ρ1 => rw [e1] at h; exact h
  | ex x ρ1 => rw [e1] at h; exact h
  | bad => rw [e1] at h; exact h
theorem w_ret {f : E} (D : Ends) (σ : L2.St) (H : Hp) (h : tDS K B W (sRet f) D σ H) : tRet (tDM K B W f) D σ H := by
  obtain ⟨F, ρ, A, rp, h⟩ := h
  refine ⟨F, ρ, A, rp, ?_⟩
  unfold sRet at h
  cases e1 : f ρ with
  | bad => rw [e1] at h; exact h
  | exc x ρ1 => rw [e1] at h; exact xend.expr h
  | ok d1 ρ1 =>
    rw [e1] at h
    exact fun v F' H' A' Ar r o nd nf s => h v σ F' H' A' Ar r o nd nf s rfl
theorem w_drop {f : E} (D : Ends) (σ : L2.St) (H : Hp) (h : tDS K B W (sDrop f) D σ H) : tDrop (tDM K B W f) D σ H := by
  obtain ⟨F, ρ, A, rp, h⟩ := h
  refine ⟨F, ρ, A, rp, ?_⟩
  unfold sDrop at h
  cases e1 : f ρ with
  | bad => rw [e1] at h; exact h
  | exc x ρ1 => rw [e1] at h; exact xend.expr h
  | ok d1 ρ1 =>
    rw [e1] at h
    exact fun v F' H' A' Ar r o nd nf s => h σ F' H' A' r (s.sub fun a ha => List.mem_append_left _ ha) rfl
theorem w_ifs {c : E} {f g : U.St} (D : Ends) (σ : L2.St) (H : Hp) (h : tDS K B W (sIf c f g) D σ H) : tIfS (tDT K B W c) (tDS K B W f) (tDS K B W g) D σ H := by
  obtain ⟨F, ρ, A, rp, h⟩ := h
  refine ⟨F, ρ, A, rp, ?_⟩
  unfold sIf at h
  cases e1 : c ρ with
  | bad => rw [e1] at h; exact h
  | exc x ρ1 => rw [e1] at h; exact xend.expr h
  | ok d1 ρ1 =>
    rw [e1] at h
    cases d1 with
    | bl b =>
      refine ⟨b, rfl, fun F1 H1 A1 r1 s1 => ?_⟩
      cases b with
      | true =>
        rw [if_pos rfl]
        exact ⟨F1, ρ1, A1, r1, send.before (r := f ρ1) h s1 rfl⟩
      | false =>
        rw [if_neg (by decide)]
        exact ⟨F1, ρ1, A1, r1, send.before (r := g ρ1) h s1 rfl⟩
    | _ => exact h.elim
theorem w_set {i : Nat} {f : E} (D : Ends) (σ : L2.St) (H : Hp) (h : tDS K B W (sSet i f) D σ H) : tAsg (tDM K B W f) (gName i) D σ H := by
  obtain ⟨F, ρ, A, rp, h⟩ := h
  refine ⟨F, ρ, A, rp, ?_⟩
  unfold sSet at h
  cases e1 : f ρ with
  | bad => rw [e1] at h; exact h
  | exc x ρ1 => rw [e1] at h; exact xend.expr h
  | ok d1 ρ1 =>
    rw [e1] at h
    intro v F' H' A' Ar r o nd nf s
    simp only [ER.binds] at h
    cases e2 : U.put i d1 ρ1 with
    | none => rw [e2] at h; exact h.elim
    | some ρ2 =>
      rw [e2] at h
      obtain ⟨A2, r2, sub⟩ := r.put o nd nf e2
      exact h _ F' H' A2 r2 (s.sub sub) (by simp)
def WG (K : PySem.W.Frag) (B : Bx) (ks : List Nat) (g : Tg) (tg : TG) : Prop := ∀ (F : Fz) (H : Hp) (σ : L2.St) (ρ ρ' : Env) (A : List Addr) (v : V) (d : D) (Q : L2.St → Hp → Prop), Rep K F H B σ ρ A → RV K F H v d → g d ρ = some ρ' →
  (∀ σ' A', Rep K F H B σ' ρ' A' → (∀ a ∈ A', a ∈ A) → σ'.length = σ.length → (∀ j, j ∉ ks → σ'[j]? = σ[j]?) → Q σ' H) → tg v σ H Q
def WGs (K : PySem.W.Frag) (B : Bx) (ks : List Nat) (gs : List Tg) (tg : TGs) : Prop := ∀ (F : Fz) (H : Hp) (σ : L2.St) (ρ ρ' : Env) (A : List Addr) (v : List V) (d : List D) (Q : L2.St → Hp → Prop), Rep K F H B σ ρ A → RVs K F H v d → gAll gs d ρ = some ρ' →
  (∀ σ' A', Rep K F H B σ' ρ' A' → (∀ a ∈ A', a ∈ A) → σ'.length = σ.length → (∀ j, j ∉ ks → σ'[j]? = σ[j]?) → Q σ' H) → tg v σ H Q
theorem wg_var {i : Nat} : WG K B [i] (gVar i) (gName i) := fun F H σ ρ ρ' A v d Q r o e h => by
  obtain ⟨A', r', sub⟩ := r.putP o e
  exact h _ A' r' sub (by simp) fun j hj => by
    rw [List.getElem?_set_ne]
    intro z; exact hj (by simp [z])
theorem wg_nil : WGs K B [] [] gNil := fun F H σ ρ ρ' A v d Q r o e h => by
  cases d with
  | nil =>
    cases v with
    | nil =>
      simp only [gAll] at e
      cases e
      exact ⟨rfl, h σ A r (fun a ha => ha) rfl fun _ _ => rfl⟩
    | cons v vs => simp only [RVs] at o
  | cons d ds => simp only [gAll] at e; cases e
theorem wg_cons {g : Tg} {gs : List Tg} {t : TG} {ts : TGs} {k1 k2 : List Nat} (h1 : WG K B k1 g t) (h2 : WGs K B k2 gs ts) : WGs K B (k1 ++ k2) (g :: gs) (gCons t ts) := fun F H σ ρ ρ' A v d Q r o e h => by
  cases d with
  | nil => simp only [gAll] at e; cases e
  | cons d ds =>
    cases v with
    | nil => simp only [RVs] at o
    | cons v vs =>
      simp only [RVs] at o
      simp only [gAll] at e
      cases e1 : g d ρ with
      | none => rw [e1] at e; cases e
      | some ρ1 =>
        rw [e1] at e
        refine ⟨v, vs, rfl, h1 F H σ ρ ρ1 A v d _ r o.1 e1 fun σ1 A1 r1 s1 l1 j1 => ?_⟩
        exact h2 F H σ1 ρ1 ρ' A1 vs ds Q r1 o.2 e fun σ2 A2 r2 s2 l2 j2 => h σ2 A2 r2 (fun a ha => s1 a (s2 a ha)) (l2.trans l1) fun j hj => (j2 j fun z => hj (List.mem_append_right _ z)).trans (j1 j fun z => hj (List.mem_append_left _ z))
theorem RVs.len : ∀ {vs : List V} {ds : List D}, RVs K F H vs ds → vs.length = ds.length
  | [], [], _ => rfl
  | _ :: _, _ :: _, h => by simp only [RVs] at h; simp [RVs.len h.2]
  | [], _ :: _, h => by simp only [RVs] at h
  | _ :: _, [], h => by simp only [RVs] at h
theorem gAll_len : ∀ {gs : List Tg} {ds : List D} {ρ ρ' : Env}, gAll gs ds ρ = some ρ' → ds.length = gs.length
  | [], [], _, _, _ => rfl
  | _ :: _, _ :: _, _, _, h => by
    simp only [gAll] at h
    obtain ⟨ρ1, _, h2⟩ := Option.bind_eq_some_iff.mp h
    simp [gAll_len h2]
  | [], _ :: _, _, _, h => by simp only [gAll] at h; cases h
  | _ :: _, [], _, _, h => by simp only [gAll] at h; cases h
theorem wg_tup {gs : List Tg} {ts : TGs} {n : Nat} {ks : List Nat} (hn : gs.length = n) (h2 : WGs K B ks gs ts) : WG K B ks (U.gTup gs) (L2.gTup K n ts) := fun F H σ ρ ρ' A v d Q r o e h => by
  cases d with
  | tup ds =>
    simp only [RV] at o
    obtain ⟨a, vs, ev, sq, rs⟩ := o
    exact ⟨a, vs, ev, sq.seq, by rw [rs.len, gAll_len e, hn], h2 F H σ ρ ρ' A vs ds Q r rs e h⟩
  | _ => simp only [U.gTup] at e; cases e
theorem w_asg {f : E} {g : Tg} {tg : TG} {ks : List Nat} (hg : WG K B ks g tg) (D : Ends) (σ : L2.St) (H : Hp) (h : tDS K B W (sAsg f g) D σ H) : tAsg (tDE K B W f) tg D σ H := by
  obtain ⟨F, ρ, A, rp, h⟩ := h
  refine ⟨F, ρ, A, rp, ?_⟩
  unfold sAsg at h
  cases e1 : f ρ with
  | bad => rw [e1] at h; exact h
  | exc x ρ1 => rw [e1] at h; exact xend.expr h
  | ok d1 ρ1 =>
    rw [e1] at h
    intro v F' H' A' r o s
    simp only [ER.binds] at h
    cases e2 : g d1 ρ1 with
    | none => rw [e2] at h; exact h.elim
    | some ρ2 =>
      rw [e2] at h
      exact hg F' H' σ ρ1 ρ2 A' v d1 D.nx r o e2 fun σ2 A2 r2 sub l2 _ => h σ2 F' H' A2 r2 (s.sub sub) l2
theorem w_par2 {i j : Nat} {f : As} (D : Ends) (σ : L2.St) (H : Hp) (h : tDS K B W (sPar [i, j] f) D σ H) : tPar i j (tDA K B W f) D σ H := by
  obtain ⟨F, ρ, A, rp, h⟩ := h
  refine ⟨F, ρ, A, rp, ?_⟩
  unfold sPar at h
  cases e1 : f ρ with
  | bad => rw [e1] at h; exact h
  | exc x ρ1 => rw [e1] at h; exact xend.expr h
  | ok ds ρ1 =>
    rw [e1] at h
    intro vs F' H' A' r o s
    match ds, vs, o, h with
    | [d1, d2], [v1, v2], o, h =>
      simp only [RVs] at o
      simp only [putAll] at h
      cases e2 : U.put i d1 ρ1 with
      | none => rw [e2] at h; exact h.elim
      | some ρ2 =>
        rw [e2] at h
        simp only [Option.bind_some] at h
        cases e3 : U.put j d2 ρ2 with
        | none => rw [e3] at h; exact h.elim
        | some ρ3 =>
          rw [e3] at h
          obtain ⟨A2, r2, sub2⟩ := r.putP o.1 e2
          obtain ⟨A3, r3, sub3⟩ := r2.putP o.2.1 e3
          exact ⟨v1, v2, rfl, h _ F' H' A3 r3 (s.sub fun a ha => sub2 a (sub3 a ha)) (by simp)⟩
    | [], _, _, h => exact h.elim
    | [_], _, _, h => simp only [putAll, Option.bind_fun_none] at h
    | _ :: _ :: _ :: _, _, _, h =>
      simp only [putAll] at h
      cases e2 : U.put i _ ρ1 with
      | none => rw [e2] at h; exact h.elim
      | some ρ2 =>
        rw [e2] at h
        simp only [Option.bind_some] at h
        cases e3 : U.put j _ ρ2 with
        | none => rw [e3] at h; exact h.elim
        | some ρ3 => rw [e3] at h; exact h.elim
    | [_, _], [], o, _ => simp only [RVs] at o
    | [_, _], [_], o, _ => simp only [RVs] at o; exact o.2.elim
    | [_, _], _ :: _ :: _ :: _, o, _ => simp only [RVs] at o; exact o.2.2.elim
def PI2 (K : PySem.W.Frag) (o : D → D → Option D) (r : TIp) : Prop := ∀ (F : Fz) (H : Hp) (x y : V) (a b d : D) (Q : VK), RV K F H x a → RV K F H y b → o a b = some d → (∀ v F' H', Grow F H F' H' → RV K F' H' v d → Q v H') → r x y H Q
end
end U
namespace U
open PySem PySem.Spec PyProof.Rows L2
section
variable {K : PySem.W.Frag} {B : Bx} {F F' : Fz} {H H' : Hp} {W : WX}
def Yl (K : PySem.W.Frag) (J : It) (F : Fz) (H : Hp) (ds : List D) : Prop := ∀ (F' : Fz) (H' : Hp), (∀ a, F a → F' a) → (∀ a o, F a → H a = some o → H' a = some o) →
  (∀ i d, ds[i]? = some d → J.go i H' ∧ ∀ x H'', J.yld i H' x H'' → ∃ F'', Grow F' H' F'' H'' ∧ RV K F'' H'' x d) ∧ ∀ i, ds.length ≤ i → J.stop i H'
theorem Yl.later {J : It} {ds : List D} (y : Yl K J F H ds) (m : ∀ a, F a → F' a) (k : ∀ a o, F a → H a = some o → H' a = some o) (dm : ∀ a, F a → ∃ o, H a = some o) : Yl K J F' H' ds := fun F2 H2 m2 k2 =>
  y F2 H2 (fun a h => m2 a (m a h)) fun a o f e => k2 a o (m a f) (k a o f e)
def tDI (K : PySem.W.Frag) (B : Bx) (W : WX) (f : Is) : TI := fun σ H R => ∃ F ρ A, Rep K F H B σ ρ A ∧ match f ρ with
  | .ok ds ρ' => ∀ J F' H' A', Rep K F' H' B σ ρ' A' → Yl K J F' H' ds → Step A F H A' F' H' → R J H'
  | .exc x ρ' => xendE K B W σ A F H x ρ'
  | .bad => False
theorem w_for {it : Is} {g : Tg} {tg : TG} {b : U.St} {ks : List Nat} (hg : WG K B ks g tg) (D : Ends) (σ : L2.St) (H : Hp) (h : tDS K B W (sFor it g b) D σ H) : tFor (tDI K B W it) tg (tDS K B W b) D σ H := by
  obtain ⟨F, ρ, A, rp, h⟩ := h
  refine ⟨F, ρ, A, rp, ?_⟩
  unfold sFor at h
  cases e1 : it ρ with
  | bad => rw [e1] at h; exact h
  | exc x ρ1 => rw [e1] at h; exact xend.expr h
  | ok ds ρ1 =>
    rw [e1] at h
    intro J F1 H1 A1 r1 y s1
    have h1 : send K B W D σ A1 F1 H1 (forL g b ds ρ1) := send.before h s1 rfl
    refine ⟨fun i m σ' H' => m + i = ds.length ∧ σ'.length = σ.length ∧ ∃ F' ρ' A', Rep K F' H' B σ' ρ' A' ∧ Step A1 F1 H1 A' F' H' ∧ send K B W D σ' A' F' H' (forL g b (ds.drop i) ρ'), ⟨ds.length, rfl, rfl, F1, ρ1, A1, r1, Step.refl, h1⟩, ?_⟩
    rintro i m σ2 H2 ⟨em, l2, F2, ρ2, A2, r2, s2, h2⟩
    have yy := y F2 H2 s2.mono fun a o f e => s2.keep a o e fun ha => r1.nf a ha f
    by_cases hi : i < ds.length
    · right
      have hd : ds.drop i = ds[i] :: ds.drop (i + 1) := List.drop_eq_getElem_cons hi
      obtain ⟨go, yl⟩ := yy.1 i ds[i] (List.getElem?_eq_getElem hi)
      rw [hd] at h2
      simp only [forL] at h2
      refine ⟨go, ?_⟩
      cases e2 : g ds[i] ρ2 with
      | none => rw [e2] at h2; exact h2.elim
      | some ρ3 =>
        rw [e2] at h2
        simp only at h2
        refine ⟨fun σ' H' => σ'.length = σ.length ∧ ∃ F' ρ' A', Rep K F' H' B σ' ρ' A' ∧ Step A1 F1 H1 A' F' H' ∧ send K B W D σ' A' F' H' (forL g b (ds.drop (i + 1)) ρ'), fun σ' H' ⟨l', q⟩ => ⟨m - 1, by omega, by omega, l', q⟩, fun x H3 yd => ?_⟩
        obtain ⟨F3, g3, rv⟩ := yl x H3 yd
        refine hg F3 H3 σ2 ρ2 ρ3 A2 x ds[i] _ (r2.grow g3) rv e2 fun σ3 A3 r3 sub l3 _ => ?_
        have s3 : Step A2 F2 H2 A3 F3 H3 := g3.step.sub sub
        refine ⟨F3, ρ3, A3, r3, ?_⟩
        cases e3 : b ρ3 with
        | nx ρ4 =>
          rw [e3] at h2
          exact fun σ4 F4 H4 A4 r4 s4 l4 => ⟨by omega, F4, ρ4, A4, r4, (s2.trans s3).trans s4, send.before h2 (s3.trans s4) (by omega)⟩
        | ct ρ4 =>
          rw [e3] at h2
          exact fun σ4 F4 H4 A4 r4 s4 l4 => ⟨by omega, F4, ρ4, A4, r4, (s2.trans s3).trans s4, send.before h2 (s3.trans s4) (by omega)⟩
        | bk ρ4 =>
          rw [e3] at h2
          exact fun σ4 F4 H4 A4 r4 s4 l4 => h2 σ4 F4 H4 A4 r4 (s3.trans s4) (by omega)
        | rt d ρ4 =>
          rw [e3] at h2
          exact fun v σ4 F4 H4 A4 Ar r4 o nd nf s4 l4 => h2 v σ4 F4 H4 A4 Ar r4 o nd nf (s3.trans s4) (by omega)
        | ex x ρ4 =>
          rw [e3] at h2
          exact fun cls dd σ4 F4 H4 A4 r4 x s4 l4 => h2 cls dd σ4 F4 H4 A4 r4 x (s3.trans s4) (by omega)
        | bad => rw [e3] at h2; exact h2
    · left
      rw [List.drop_of_length_le (by omega)] at h2
      exact ⟨yy.2 i (by omega), h2 σ2 F2 H2 A2 r2 Step.refl rfl⟩
theorem w_while {c : E} {b : U.St} (D : Ends) (σ : L2.St) (H : Hp) (h : tDS K B W (sWhile c b) D σ H) : tWhile (tDT K B W c) (tDS K B W b) D σ H := by
  obtain ⟨F, ρ, A, rp, h⟩ := h
  unfold sWhile at h
  by_cases hx : ∃ n, whileN c b n ρ ≠ .bad
  case neg => rw [dif_neg hx] at h; exact h.elim
  case pos =>
    rw [dif_pos hx] at h
    generalize Classical.choose hx = n at h
    refine ⟨fun m σ' H' => σ'.length = σ.length ∧ ∃ F' ρ' A', Rep K F' H' B σ' ρ' A' ∧ send K B W D σ' A' F' H' (whileN c b m ρ'), ⟨n, rfl, F, ρ, A, rp, h⟩, ?_⟩
    rintro m σ2 H2 ⟨l2, F2, ρ2, A2, r2, h2⟩
    cases m with
    | zero => exact h2.elim
    | succ m =>
      refine ⟨F2, ρ2, A2, r2, ?_⟩
      simp only [whileN] at h2
      cases e1 : c ρ2 with
      | bad => rw [e1] at h2; exact h2
      | exc x ρ1 => rw [e1] at h2; exact xend.expr h2
      | ok d1 ρ3 =>
        rw [e1] at h2
        cases d1 with
        | bl k =>
          refine ⟨k, rfl, fun F3 H3 A3 r3 s3 => ?_⟩
          cases k with
          | false =>
            rw [if_neg (by decide)]
            exact h2 σ2 F3 H3 A3 r3 s3 rfl
          | true =>
            rw [if_pos rfl]
            simp only [ER.binds] at h2
            refine ⟨fun σ' H' => σ'.length = σ.length ∧ ∃ F' ρ' A', Rep K F' H' B σ' ρ' A' ∧ send K B W D σ' A' F' H' (whileN c b m ρ'), fun σ' H' q => ⟨m, Nat.lt_succ_self m, q⟩, F3, ρ3, A3, r3, ?_⟩
            cases e3 : b ρ3 with
            | nx ρ4 =>
              rw [e3] at h2
              exact fun σ4 F4 H4 A4 r4 s4 l4 => ⟨by omega, F4, ρ4, A4, r4, send.before h2 (s3.trans s4) l4⟩
            | ct ρ4 =>
              rw [e3] at h2
              exact fun σ4 F4 H4 A4 r4 s4 l4 => ⟨by omega, F4, ρ4, A4, r4, send.before h2 (s3.trans s4) l4⟩
            | bk ρ4 =>
              rw [e3] at h2
              exact fun σ4 F4 H4 A4 r4 s4 l4 => h2 σ4 F4 H4 A4 r4 (s3.trans s4) l4
            | rt d ρ4 =>
              rw [e3] at h2
              exact fun v σ4 F4 H4 A4 Ar r4 o nd nf s4 l4 => h2 v σ4 F4 H4 A4 Ar r4 o nd nf (s3.trans s4) l4
            | ex x ρ4 =>
              rw [e3] at h2
              exact fun cls dd σ4 F4 H4 A4 r4 x s4 l4 => h2 cls dd σ4 F4 H4 A4 r4 x (s3.trans s4) l4
            | bad => rw [e3] at h2; exact h2
        | _ => exact h2.elim
theorem getElem?_RVs : ∀ {vs : List V} {ds : List D} {i : Nat} {d : D}, RVs K F H vs ds → ds[i]? = some d → ∃ v, vs[i]? = some v ∧ RV K F H v d
  | _ :: _, _ :: _, 0, _, h, e => by simp only [RVs] at h; simp at e; subst e; exact ⟨_, rfl, h.1⟩
  | _ :: _, _ :: _, i + 1, _, h, e => by
    simp only [RVs] at h
    obtain ⟨v, h1, h2⟩ := getElem?_RVs h.2 (i := i) (by simpa using e)
    exact ⟨v, by simpa using h1, h2⟩
  | [], [], _, _, _, e => by simp at e
  | [], _ :: _, _, _, h, _ => by simp only [RVs] at h
  | _ :: _, [], _, _, h, _ => by simp only [RVs] at h
theorem yl_list {a : Addr} {vs : List V} {ds : List D} (s : SqLF K F H a vs) (r : RVs K F H vs ds) : Yl K (Itl K a) F H ds := fun F' H' m k => by
  have s' := (s.step m k).seq
  have r' := r.stay m k
  refine ⟨fun i d e => ?_, fun i hi => ⟨vs, s', by rw [r.len]; exact hi⟩⟩
  obtain ⟨v, h1, h2⟩ := getElem?_RVs r' e
  refine ⟨⟨vs, v, s', h1⟩, ?_⟩
  rintro x H'' ⟨rfl, hx⟩
  have := hx vs s'
  rw [h1] at this
  cases this
  exact ⟨F', Grow.refl, h2⟩
theorem yl_tup {a : Addr} {vs : List V} {ds : List D} (s : SqTF K F H a vs) (r : RVs K F H vs ds) : Yl K (Itt K a) F H ds := fun F' H' m k => by
  have s' := (s.step m k).seq
  have r' := r.stay m k
  refine ⟨fun i d e => ?_, fun i hi => ⟨vs, s', by rw [r.len]; exact hi⟩⟩
  obtain ⟨v, h1, h2⟩ := getElem?_RVs r' e
  refine ⟨⟨vs, v, s', h1⟩, ?_⟩
  rintro x H'' ⟨rfl, hx⟩
  have := hx vs s'
  rw [h1] at this
  cases this
  exact ⟨F', Grow.refl, h2⟩
theorem w_iof {o : D → Option (List D)} {f : E} {σ : L2.St} {H : Hp} {R : It → Hp → Prop} {k : VK} (h : tDI K B W (iOf o f) σ H R)
    (hk : ∀ (F : Fz) (H : Hp) (v : V) (d : D) (ds : List D), RV K F H v d → o d = some ds → (∀ J, Yl K J F H ds → R J H) → k v H) : tDE K B W f σ H k := by
  obtain ⟨F, ρ, A, rp, h⟩ := h
  refine ⟨F, ρ, A, rp, ?_⟩
  unfold iOf at h
  cases e1 : f ρ with
  | bad => rw [e1] at h; exact h
  | exc x ρ1 => rw [e1] at h; exact h
  | ok d ρ1 =>
    rw [e1] at h
    simp only at h
    intro v F' H' A' r o' s
    cases e2 : o d with
    | none => rw [e2] at h; exact h.elim
    | some ds =>
      rw [e2] at h
      exact hk F' H' v d ds o' e2 fun J y => h J F' H' A' r y s
theorem w_ilist {f : E} (σ : L2.St) (H : Hp) (R : It → Hp → Prop) (h : tDI K B W (iOf itL f) σ H R) : iList K (tDE K B W f) σ H R := by
  refine w_iof h fun F H v d ds r e k => ?_
  cases d with
  | lst l =>
    simp only [itL] at e
    cases e
    simp only [RV] at r
    obtain ⟨a, vs, ev, sq, rs⟩ := r
    exact ⟨a, ev, ⟨vs, sq.seq⟩, k _ (yl_list sq rs)⟩
  | _ => simp only [itL] at e; cases e
theorem w_itup {f : E} (σ : L2.St) (H : Hp) (R : It → Hp → Prop) (h : tDI K B W (iOf itT f) σ H R) : iTup K (tDE K B W f) σ H R := by
  refine w_iof h fun F H v d ds r e k => ?_
  cases d with
  | tup l =>
    simp only [itT] at e
    cases e
    simp only [RV] at r
    obtain ⟨a, vs, ev, sq, rs⟩ := r
    exact ⟨a, ev, ⟨vs, sq.seq⟩, k _ (yl_tup sq rs)⟩
  | _ => simp only [itT] at e; cases e
end
end U
namespace U
open PySem PySem.Spec PyProof.Rows L2
section
variable {K : PySem.W.Frag} {B : Bx} {F F' : Fz} {H H' : Hp} {W : WX}
theorem chars_one {l : List Nat} {c : Nat} (h : chars l) (hc : c ∈ l) : chars [c] := fun x hx => by
  rw [List.mem_singleton] at hx; subst hx; exact h x hc
theorem S_cps (l : List Nat) : (S l).cps.toList = l := rfl
theorem S_size (l : List Nat) : (S l).cps.size = l.length := by simp [S]
theorem S_length (l : List Nat) : (S l).length = l.length := by simp [S, Str.length]
theorem S_get (l : List Nat) (i : Nat) : (S l).cps[i]? = l[i]? := by simp [S]
theorem S_one (c : Nat) : (⟨#[c]⟩ : Str) = S [c] := rfl
theorem yl_str {l : List Nat} (hc : chars l) : Yl K (Its (S l)) F H (l.map fun c => D.str [c]) := fun F' H' m k => by
  refine ⟨fun i d e => ?_, fun i hi => by show (S l).cps.size ≤ i; rw [S_size]; simpa using hi⟩
  rw [List.getElem?_map] at e
  obtain ⟨c, ec, rfl⟩ := Option.map_eq_some_iff.mp e
  obtain ⟨hi, hg⟩ := List.getElem?_eq_some_iff.mp ec
  refine ⟨by show i < (S l).cps.size; rw [S_size]; exact hi, ?_⟩
  rintro x H'' ⟨rfl, c', h1, h2⟩
  rw [S_get, ec] at h1
  cases h1
  refine ⟨F', Grow.refl, ?_⟩
  simp only [RV]
  exact ⟨h2, chars_one hc (List.mem_of_getElem? ec)⟩
theorem w_istr {f : E} (σ : L2.St) (H : Hp) (R : It → Hp → Prop) (h : tDI K B W (iOf itS f) σ H R) : iStr (tDE K B W f) σ H R := by
  refine w_iof h fun F H v d ds r e k => ?_
  cases d with
  | str l =>
    simp only [itS] at e
    cases e
    simp only [RV] at r
    exact ⟨S l, r.1, k _ (yl_str r.2)⟩
  | _ => simp only [itS] at e; cases e
theorem w_iofA {o : List D → Option (List D)} {f : As} {σ : L2.St} {H : Hp} {R : It → Hp → Prop} {k : List V → Hp → Prop} (h : tDI K B W (iOfA o f) σ H R)
    (hk : ∀ (F : Fz) (H : Hp) (v : List V) (d : List D) (ds : List D), RVs K F H v d → o d = some ds → (∀ J, Yl K J F H ds → R J H) → k v H) : tDA K B W f σ H k := by
  obtain ⟨F, ρ, A, rp, h⟩ := h
  refine ⟨F, ρ, A, rp, ?_⟩
  unfold iOfA at h
  cases e1 : f ρ with
  | bad => rw [e1] at h; exact h
  | exc x ρ1 => rw [e1] at h; exact h
  | ok d ρ1 =>
    rw [e1] at h
    simp only at h
    intro v F' H' A' r o' s
    cases e2 : o d with
    | none => rw [e2] at h; exact h.elim
    | some ds =>
      rw [e2] at h
      exact hk F' H' v d ds o' e2 fun J y => h J F' H' A' r y s
theorem yl_range {lo : Int} {n : Nat} : Yl K (Itr lo n) F H (rangeD lo n) := fun F' H' m k => by
  refine ⟨fun i d e => ?_, fun i hi => by show n ≤ i; simpa [rangeD] using hi⟩
  unfold rangeD at e
  rw [List.getElem?_map] at e
  obtain ⟨c, ec, rfl⟩ := Option.map_eq_some_iff.mp e
  obtain ⟨hi, hg⟩ := List.getElem?_eq_some_iff.mp ec
  simp at hi hg
  subst hg
  refine ⟨hi, ?_⟩
  rintro x H'' ⟨rfl, hx⟩
  exact ⟨F', Grow.refl, by simp only [RV]; exact hx⟩
theorem RVs.int1 {vs : List V} {i : Int} (h : RVs K F H vs [.int i]) : vs = [.int i] := by
  match vs, h with
  | [v], h => simp only [RVs, RV] at h; rw [h.1]
  | [], h => simp only [RVs] at h
  | _ :: _ :: _, h => simp only [RVs] at h; exact h.2.elim
theorem RVs.two {vs : List V} {a b : D} (h : RVs K F H vs [a, b]) : ∃ v w, vs = [v, w] ∧ RV K F H v a ∧ RV K F H w b := by
  match vs, h with
  | [v, w], h => simp only [RVs] at h; exact ⟨v, w, rfl, h.1, h.2.1⟩
  | [], h => simp only [RVs] at h
  | [_], h => simp only [RVs] at h; exact h.2.elim
  | _ :: _ :: _ :: _, h => simp only [RVs] at h; exact h.2.2.elim
theorem RVs.one {vs : List V} {a : D} (h : RVs K F H vs [a]) : ∃ v, vs = [v] ∧ RV K F H v a := by
  match vs, h with
  | [v], h => simp only [RVs] at h; exact ⟨v, rfl, h.1⟩
  | [], h => simp only [RVs] at h
  | _ :: _ :: _, h => simp only [RVs] at h; exact h.2.elim
theorem okR_iff {i : Int} : okR i = true ↔ -(2 ^ 62) ≤ i ∧ i < 2 ^ 62 := by
  unfold okR
  rw [decide_eq_true_eq]
  constructor <;> intro h <;> omega
theorem w_irng1 {f : As} (σ : L2.St) (H : Hp) (R : It → Hp → Prop) (h : tDI K B W (iOfA itR f) σ H R) (h1 : ∀ ρ ds ρ', f ρ = .ok ds ρ' → ds.length = 1) : iRng1 (tDA K B W f) σ H R := by
  obtain ⟨F, ρ, A, rp, h⟩ := h
  refine ⟨F, ρ, A, rp, ?_⟩
  unfold iOfA at h
  cases e1 : f ρ with
  | bad => rw [e1] at h; exact h
  | exc x ρ1 => rw [e1] at h; exact h
  | ok d ρ1 =>
    rw [e1] at h
    have hl := h1 ρ d ρ1 e1
    simp only at h
    intro v F' H' A' r o' s
    cases e2 : itR d with
    | none => rw [e2] at h; exact h.elim
    | some ds =>
      rw [e2] at h
      match d, hl, o', e2 with
      | [.int j], _, o', e2 =>
        simp only [itR] at e2
        by_cases c : okR j = true
        · rw [if_pos c] at e2
          cases e2
          have := okR_iff.mp c
          exact ⟨j, o'.int1, this.1, this.2, h _ F' H' A' r yl_range s⟩
        · rw [if_neg c] at e2; cases e2
      | [.non], _, _, e2 => simp [itR] at e2
      | [.bl _], _, _, e2 => simp [itR] at e2
      | [.str _], _, _, e2 => simp [itR] at e2
      | [.tup _], _, _, e2 => simp [itR] at e2
      | [.lst _], _, _, e2 => simp [itR] at e2
      | [.ins _ _ _], _, _, e2 => simp [itR] at e2
      | [.own _ _], _, _, e2 => simp [itR] at e2
      | [.exn _ _ _], _, _, e2 => simp [itR] at e2
      | [.dic _], _, _, e2 => simp [itR] at e2
      | [.exv _ _ _], _, _, e2 => simp [itR] at e2
      | [.scr _], _, _, e2 => simp [itR] at e2
theorem len1 {f : E} (ρ : Env) (ds : List D) (ρ' : Env) (h : aCons f aNil ρ = .ok ds ρ') : ds.length = 1 := by
  unfold aCons aNil at h
  cases e : f ρ with
  | bad => rw [e] at h; cases h
  | exc x ρ1 => rw [e] at h; cases h
  | ok d ρ1 => rw [e] at h; cases h; rfl
theorem len2 {f g : E} (ρ : Env) (ds : List D) (ρ' : Env) (h : aCons f (aCons g aNil) ρ = .ok ds ρ') : ds.length = 2 := by
  unfold aCons aNil at h
  cases e : f ρ with
  | bad => rw [e] at h; cases h
  | exc x ρ1 => rw [e] at h; cases h
  | ok d ρ1 =>
    rw [e] at h
    simp only [ER.bindA] at h
    cases e2 : g ρ1 with
    | bad => rw [e2] at h; cases h
    | exc x ρ2 => rw [e2] at h; cases h
    | ok d2 ρ2 => rw [e2] at h; cases h; rfl
theorem w_irng2 {f : As} (σ : L2.St) (H : Hp) (R : It → Hp → Prop) (h : tDI K B W (iOfA itR f) σ H R) (h1 : ∀ ρ ds ρ', f ρ = .ok ds ρ' → ds.length = 2) : iRng2 (tDA K B W f) σ H R := by
  obtain ⟨F, ρ, A, rp, h⟩ := h
  refine ⟨F, ρ, A, rp, ?_⟩
  unfold iOfA at h
  cases e1 : f ρ with
  | bad => rw [e1] at h; exact h
  | exc x ρ1 => rw [e1] at h; exact h
  | ok d ρ1 =>
    rw [e1] at h
    have hl := h1 ρ d ρ1 e1
    simp only at h
    intro v F' H' A' r o' s
    cases e2 : itR d with
    | none => rw [e2] at h; exact h.elim
    | some ds =>
      rw [e2] at h
      match d, hl with
      | [a, b], _ =>
        cases a with
        | int i =>
          cases b with
          | int j =>
            simp only [itR] at e2
            by_cases c : (okR i && okR j) = true
            · rw [if_pos c] at e2
              cases e2
              rw [Bool.and_eq_true, okR_iff, okR_iff] at c
              obtain ⟨v1, v2, ev, r1, r2⟩ := o'.two
              simp only [RV] at r1 r2
              subst r1 r2
              exact ⟨i, j, ev, ⟨c.1.1, c.1.2, c.2.1, c.2.2⟩, h _ F' H' A' r yl_range s⟩
            · rw [if_neg c] at e2; cases e2
          | _ => simp [itR] at e2
        | _ => simp [itR] at e2
theorem enumD_get {l : List D} {i : Nat} {d : D} (h : (enumD l)[i]? = some d) : ∃ x, l[i]? = some x ∧ d = .tup [.int (i : Nat), x] := by
  unfold enumD at h
  rw [List.getElem?_map, List.getElem?_zipIdx] at h
  cases e : l[i]? with
  | none => rw [e] at h; simp at h
  | some x => rw [e] at h; simp at h; exact ⟨x, rfl, h.symm⟩
theorem enumD_len {l : List D} : (enumD l).length = l.length := by simp [enumD]
theorem RV.tup2 {T : Addr} {v w : V} {a b : D} (e : F T) (h : H T = some (.tup [v, w])) (h1 : RV K F H v a) (h2 : RV K F H w b) : RV K F H (.ref T) (.tup [a, b]) := by
  simp only [RV, RVs]
  exact ⟨T, [v, w], rfl, .inl ⟨e, .inl h⟩, by simp only [RVs]; exact ⟨h1, h2, trivial⟩⟩
theorem yl_enumL {a : Addr} {vs : List V} {ds : List D} (s : SqLF K F H a vs) (r : RVs K F H vs ds) : Yl K (Ite K a) F H (enumD ds) := fun F' H' m k => by
  have s' := (s.step m k).seq
  have r' := r.stay m k
  refine ⟨fun i d e => ?_, fun i hi => ⟨vs, s', by rw [r.len]; rw [enumD_len] at hi; exact hi⟩⟩
  obtain ⟨x, ex, rfl⟩ := enumD_get e
  obtain ⟨v, h1, h2⟩ := getElem?_RVs r' ex
  refine ⟨⟨vs, v, s', h1⟩, ?_⟩
  rintro y H'' ⟨T, z, rfl, hT, rfl, hz⟩
  have := hz vs s'
  rw [h1] at this
  cases this
  exact ⟨_, Grow.new hT, RV.tup2 (.inr rfl) upd_same (by simp only [RV]) (h2.grow (Grow.new hT))⟩
theorem OVS.congr : ∀ {σ σ' : L2.St} {ρ : Env} {A : List Addr}, OVS K F H B σ ρ A → σ'.length = σ.length → (∀ i : Nat, ρ[i]? ≠ some none → σ'[i]? = σ[i]?) → OVS K F H B σ' ρ A
  | [], [], [], _, h, _, _ => h
  | v :: vs, v' :: vs', d :: ds, _, h, l, k => by
    simp only [OVS] at h ⊢
    obtain ⟨A1, A2, h1, h2, e⟩ := h
    refine ⟨A1, A2, ?_, OVS.congr h2 (by simpa using l) (fun i hi => by simpa using k (i + 1) (by simpa using hi)), e⟩
    cases d with
    | none => simp only [OVo] at h1 ⊢; exact h1
    | some d =>
      have := k 0 (by simp)
      simp at this
      rw [this]; exact h1
  | [], _ :: _, _, _, _, l, _ => by simp at l
  | _ :: _, [], _, _, _, l, _ => by simp at l
  | [], [], _ :: _, _, h, _, _ => by simp only [OVS] at h
  | _ :: _, _ :: _, [], _, h, _, _ => by simp only [OVS] at h
theorem wipe_get {σ : L2.St} {j : Nat} : ∀ {vs : List Nat}, j ∉ vs → (wipe σ vs)[j]? = σ[j]?
  | [], _ => rfl
  | v :: vs, h => by
    simp only [wipe]
    rw [List.getElem?_set_ne (fun z => h (by simp [z])), wipe_get fun z => h (List.mem_cons_of_mem _ z)]
theorem wipeE_len {ρ : Env} : ∀ vs : List Nat, (wipeE vs ρ).length = ρ.length
  | [] => rfl
  | v :: vs => by simp only [wipeE, List.length_set]; exact wipeE_len vs
theorem wipeE_in {ρ : Env} {j : Nat} : ∀ {vs : List Nat}, j ∈ vs → j < ρ.length → (wipeE vs ρ)[j]? = some none
  | v :: vs, h, hl => by
    simp only [wipeE]
    by_cases c : v = j
    · subst c; rw [List.getElem?_set_self]; rw [wipeE_len]; exact hl
    · rw [List.getElem?_set_ne c]
      rcases List.mem_cons.mp h with z | z
      · exact absurd z.symm c
      · exact wipeE_in z hl
theorem wipe_in {σ : L2.St} {j : Nat} : ∀ {vs : List Nat}, j ∈ vs → j < σ.length → (wipe σ vs)[j]? = some none
  | v :: vs, h, hl => by
    simp only [wipe]
    by_cases c : v = j
    · subst c; rw [List.getElem?_set_self]; rw [wipe_length]; exact hl
    · rw [List.getElem?_set_ne c]
      rcases List.mem_cons.mp h with z | z
      · exact absurd z.symm c
      · exact wipe_in z hl
theorem wipe_eq {σ σ' : L2.St} {vs : List Nat} (l : σ'.length = σ.length) (k : ∀ j, j ∉ vs → σ'[j]? = σ[j]?) : wipe σ' vs = wipe σ vs := by
  apply List.ext_getElem?
  intro j
  by_cases c : j ∈ vs
  · by_cases hl : j < σ.length
    · rw [wipe_in c (by omega), wipe_in c hl]
    · rw [List.getElem?_eq_none (by rw [wipe_length]; omega), List.getElem?_eq_none (by rw [wipe_length]; omega)]
  · rw [wipe_get c, wipe_get c, k j c]
theorem Rep.unwipe {σ : L2.St} {ρ : Env} {A : List Addr} {vs : List Nat} (r : Rep K F H B (wipe σ vs) (wipeE vs ρ) A) : Rep K F H B σ (wipeE vs ρ) A := by
  refine ⟨r.sl.congr (by rw [wipe_length]) fun i hi => ?_, r.nd, r.nf, r.dm⟩
  by_cases c : i ∈ vs
  · have ll := r.sl.len
    rw [wipe_length, wipeE_len] at ll
    by_cases hl : i < ρ.length
    · exact absurd (wipeE_in c hl) hi
    · rw [List.getElem?_eq_none (by omega), List.getElem?_eq_none (by rw [wipe_length]; omega)]
  · exact (wipe_get c).symm
theorem Rep.wipe {σ : L2.St} {ρ : Env} {A : List Addr} (r : Rep K F H B σ ρ A) : ∀ vs : List Nat, ∃ A', Rep K F H B (L2.wipe σ vs) (wipeE vs ρ) A' ∧ ∀ a ∈ A', a ∈ A
  | [] => ⟨A, r, fun _ h => h⟩
  | v :: vs => by
    obtain ⟨A1, r1, s1⟩ := Rep.wipe r vs
    by_cases hl : v < (wipeE vs ρ).length
    · obtain ⟨v0, A2, L, R, h1, h2, h3, h4⟩ := r1.sl.split (i := v) (d := (wipeE vs ρ)[v]) (List.getElem?_eq_getElem hl)
      subst h3
      have q := h4 (F' := F) (H' := H) (v' := none) (d' := none) (A' := []) (fun _ h => h) (fun _ _ _ h => h) (by simp only [OVo])
      have nd := r1.nd
      refine ⟨L ++ [] ++ R, ⟨q, ?_, fun a ha => r1.nf a ?_, r1.dm⟩, fun a ha => s1 a ?_⟩
      · simp only [List.append_nil, List.nodup_append, List.mem_append] at nd ⊢
        exact ⟨nd.1.1, nd.2.1, fun a ha b hb => nd.2.2 a (.inl ha) b hb⟩
      · simp only [List.append_nil, List.mem_append] at ha ⊢
        exact ha.elim (fun z => .inl (.inl z)) .inr
      · simp only [List.append_nil, List.mem_append] at ha ⊢
        exact ha.elim (fun z => .inl (.inl z)) .inr
    · refine ⟨A1, ?_, s1⟩
      simp only [wipeE, L2.wipe]
      have ll := r1.sl.len
      rw [List.set_eq_of_length_le (by omega), List.set_eq_of_length_le (by omega)]
      exact r1
abbrev W0 : WX := fun _ _ _ _ => False
theorem RVs.snoc : ∀ {vs : List V} {ds : List D} {v : V} {d : D}, RVs K F H vs ds → RV K F H v d → RVs K F H (vs ++ [v]) (ds ++ [d])
  | [], [], _, _, _, h => by simp only [List.nil_append, RVs]; exact ⟨h, trivial⟩
  | _ :: _, _ :: _, _, _, h, h' => by
    simp only [RVs] at h
    simp only [List.cons_append, RVs]
    exact ⟨h.1, RVs.snoc h.2 h'⟩
  | [], _ :: _, _, _, h, _ => by simp only [RVs] at h
  | _ :: _, [], _, _, h, _ => by simp only [RVs] at h
theorem RVs.ovs : ∀ {vs : List V} {ds : List D}, RVs K F H vs ds → OVs K F H vs ds []
  | [], [], _ => by simp only [OVs]
  | _ :: _, _ :: _, h => by
    simp only [RVs] at h
    simp only [OVs]
    exact ⟨[], [], h.1.own, RVs.ovs h.2, rfl⟩
  | [], _ :: _, h => by simp only [RVs] at h
  | _ :: _, [], h => by simp only [RVs] at h
theorem Step.beside {A A' : List Addr} {p : Addr} {o : HO} (s : Step A F H A' F' H') (hp : H p = some o) (ha : p ∉ A) (hf : ¬ F p) : H' p = some o ∧ p ∉ A' ∧ ¬ F' p := by
  refine ⟨s.keep p o hp ha, fun z => ?_, fun z => ?_⟩
  · rcases s.own p z with q | q
    · exact ha q
    · rw [hp] at q; cases q
  · rcases s.froz p z with q | q | q
    · exact hf q
    · rw [hp] at q; cases q
    · exact ha q
theorem Rep.off {σ : L2.St} {ρ : Env} {A : List Addr} {p : Addr} {o : HO} (r : Rep K F H B σ ρ A) (ha : p ∉ A) (hf : ¬ F p) (hp : ∃ u, H p = some u) : Rep K F (upd H p o) B σ ρ A :=
  ⟨r.sl.stay (fun _ h => h) (fun a u h e => by
    rw [upd_ne]; exact e
    intro z; subst z
    exact h.elim hf ha), r.nd, r.nf, fun a h => by
      by_cases c : a = p
      · subst c; exact ⟨o, upd_same⟩
      · rw [upd_ne c]; exact r.dm a h⟩
theorem Step.off {A A' : List Addr} {p : Addr} {o : HO} (s : Step A F H A' F' H') (hp : H p = none) : Step A F H A' F' (upd H' p o) :=
  ⟨s.mono, fun a u e n => by rw [upd_ne (ne_of_none e hp)]; exact s.keep a u e n, s.froz, s.own⟩
theorem RVs.off {vs : List V} {ds : List D} {p : Addr} {o : HO} (r : RVs K F H vs ds) (hf : ¬ F p) : RVs K F (upd H p o) vs ds := r.stay (fun _ h => h) fun a u f e => by
  rw [upd_ne]; exact e
  intro z; subst z; exact hf f
theorem RV.off {vs : V} {ds : D} {p : Addr} {o : HO} (r : RV K F H vs ds) (hf : ¬ F p) : RV K F (upd H p o) vs ds := r.stay (fun _ h => h) fun a u f e => by
  rw [upd_ne]; exact e
  intro z; subst z; exact hf f
theorem w_comp {it : Is} {g : Tg} {tg : TG} {t e : E} {vs ks : List Nat} {tt : TT} (ht : ∀ σ H Q, tDT K B W0 t σ H Q → tt σ H Q) (hg : WG K B ks g tg) (hks : ∀ j ∈ ks, j ∈ vs) (σ : L2.St) (H : Hp) (Q : VK) (h : tDM K B W (eComp it g t e vs) σ H Q) : tLc (tDI K B W it) tg tt (tDE K B W0 e) vs σ H Q := by
  obtain ⟨F, ρ, A, rp, h⟩ := h
  refine ⟨F, ρ, A, rp, ?_⟩
  unfold eComp at h
  cases e1 : it ρ with
  | bad => rw [e1] at h; exact h
  | exc x ρ1 => rw [e1] at h; exact h
  | ok ds ρ1 =>
    rw [e1] at h
    simp only at h
    intro J F1 H1 A1 r1 y s1 C hC
    cases e2 : compL g t e vs ds (wipeE vs ρ1) [] with
    | bad => rw [e2] at h; exact h.elim
    | exc x ρ2 => 
      exfalso
      clear h y
      revert e2
      generalize wipeE vs ρ1 = ρ0
      generalize ([] : List D) = acc
      clear e1
      induction ds generalizing ρ0 acc with
      | nil => intro e2; simp [compL] at e2
      | cons d ds ih =>
        intro e2
        simp only [compL] at e2
        split at e2
        · cases e2
        · split at e2
          · split at e2
            · split at e2
              · exact ih _ _ e2
              · cases e2
            · cases e2
          · exact ih _ _ e2
          · cases e2
    | ok l ρ2 =>
      rw [e2] at h
      simp only at h
      obtain ⟨A2, r2, sub2⟩ := r1.wipe vs
      have hCA : C ∉ A1 := fun z => by
        obtain ⟨o, q⟩ := r1.sl.there C z
        rw [hC] at q; cases q
      have hCF : ¬ F1 C := fun z => by
        obtain ⟨o, q⟩ := r1.dm C z
        rw [hC] at q; cases q
      have g0 : Grow F1 H1 F1 (upd H1 C (.lst [])) := Grow.raw hC
      refine ⟨fun i m H' => m + i = ds.length ∧ ∃ F' ρ' A' ac acD, Rep K F' H' B (L2.wipe σ vs) (wipeE vs ρ') A' ∧ Step A1 F1 H1 A' F' H' ∧ True ∧ C ∉ A' ∧ ¬ F' C ∧ H' C = some (.lst ac) ∧ RVs K F' H' ac acD ∧ compL g t e vs (ds.drop i) (wipeE vs ρ') acD = .ok l ρ2,
        ⟨ds.length, rfl, F1, ρ1, A2, [], [], r2.grow g0, (Step.refl.sub sub2).trans g0.step, trivial, fun z => hCA (sub2 C z), hCF, upd_same, by simp only [RVs], e2⟩, ?_⟩
      rintro i m H2 ⟨em, F2, ρ3, A3, ac, acD, r3, s3, _, nA, nF, hC2, rac, ec⟩
      have yy := y F2 H2 s3.mono fun a o f e => s3.keep a o e fun ha => r1.nf a ha f
      by_cases hi : i < ds.length
      · right
        have hd : ds.drop i = ds[i] :: ds.drop (i + 1) := List.drop_eq_getElem_cons hi
        obtain ⟨go, yl⟩ := yy.1 i ds[i] (List.getElem?_eq_getElem hi)
        rw [hd] at ec
        simp only [compL] at ec
        cases e3 : g ds[i] (wipeE vs ρ3) with
        | none => rw [e3] at ec; cases ec
        | some ρ4 =>
          rw [e3] at ec
          simp only at ec
          refine ⟨go, fun H' => ∃ F' ρ' A' ac acD, Rep K F' H' B (L2.wipe σ vs) (wipeE vs ρ') A' ∧ Step A1 F1 H1 A' F' H' ∧ True ∧ C ∉ A' ∧ ¬ F' C ∧ H' C = some (.lst ac) ∧ RVs K F' H' ac acD ∧ compL g t e vs (ds.drop (i + 1)) (wipeE vs ρ') acD = .ok l ρ2, fun H' q => ⟨m - 1, by omega, by omega, q⟩, fun x H3 yd => ?_⟩
          obtain ⟨F3, g3, rv⟩ := yl x H3 yd
          refine hg F3 H3 (L2.wipe σ vs) _ ρ4 A3 x ds[i] _ (r3.grow g3) rv e3 fun σ4 A4 r4 sub4 l4 j4 => ?_
          have wq : L2.wipe σ4 vs = L2.wipe σ vs := wipe_eq (by rw [l4, wipe_length]) fun j hj => by rw [j4 j fun z => hj (hks j z), wipe_get hj]
          refine ⟨wq, ht σ4 H3 _ ⟨F3, ρ4, A4, r4, ?_⟩⟩
          have s4 : Step A3 F2 H2 A4 F3 H3 := g3.step.sub sub4
          obtain ⟨hC4, nA4, nF4⟩ := s4.beside hC2 nA nF
          have rac4 := rac.grow g3
          cases e4 : t ρ4 with
          | bad => rw [e4] at ec; cases ec
          | exc x ρ5 => rw [e4] at ec; cases ec
          | ok d5 ρ5 =>
            rw [e4] at ec
            cases d5 with
            | bl k =>
              refine ⟨k, rfl, fun F5 H5 A5 r5 s5 => ?_⟩
              obtain ⟨hC5, nA5, nF5⟩ := s5.beside hC4 nA4 nF4
              have rac5 := rac4.step r4 s5
              cases k with
              | false =>
                simp only at ec
                rw [if_neg (by decide)]
                obtain ⟨A6, r6, sub6⟩ := r5.wipe vs
                rw [wq] at r6
                exact ⟨F5, ρ5, A6, ac, acD, r6, ((s3.trans s4).trans s5).sub sub6, trivial, fun z => nA5 (sub6 C z), nF5, hC5, rac5, ec⟩
              | true =>
                simp only at ec
                rw [if_pos rfl]
                refine ⟨F5, ρ5, A5, r5, ?_⟩
                cases e5 : e ρ5 with
                | bad => rw [e5] at ec; cases ec
                | exc x ρ6 => rw [e5] at ec; cases ec
                | ok d6 ρ6 =>
                  rw [e5] at ec
                  simp only at ec
                  by_cases hz : acD.length < 16777216
                  · rw [if_pos hz] at ec
                    intro v6 F6 H6 A6 r6 rv6 s6
                    obtain ⟨hC6, nA6, nF6⟩ := s6.beside hC5 nA5 nF5
                    have rac6 := rac5.step r5 s6
                    obtain ⟨A7, r7, sub7⟩ := r6.wipe vs
                    rw [wq] at r7
                    have nA7 : C ∉ A7 := fun z => nA6 (sub7 C z)
                    refine ⟨ac, hC6, by rw [rac.len, sizeLine_eq]; exact hz, F6, ρ6, A7, ac ++ [v6], acD ++ [d6], r7.off nA7 nF6 ⟨_, hC6⟩, ((((s3.trans s4).trans s5).trans s6).sub sub7).off hC, trivial, nA7, nF6, upd_same, (rac6.snoc rv6).off nF6, ec⟩
                  · rw [if_neg hz] at ec; cases ec
            | _ => cases ec
      · left
        refine ⟨yy.2 i (by omega), ?_⟩
        rw [List.drop_of_length_le (by omega)] at ec
        simp only [compL] at ec
        cases ec
        refine h (.ref C) F2 H2 A3 [C] r3.unwipe ?_ ?_ (fun a ha => ?_) ?_
        · simp only [OV]
          exact ⟨C, ac, [], rfl, hC2, rfl, rac.ovs⟩
        · rw [List.nodup_append]
          exact ⟨r3.nd, by simp, fun a ha b hb z => nA (by rw [List.mem_singleton] at hb; rw [← hb, ← z]; exact ha)⟩
        · rw [List.mem_singleton] at ha; rw [ha]; exact nF
        · have s := s1.trans s3
          refine ⟨s.mono, s.keep, s.froz, fun a ha => ?_⟩
          rcases List.mem_append.mp ha with z | z
          · exact s.own a z
          · rw [List.mem_singleton] at z
            subst z
            by_cases q : a ∈ A
            · exact .inl q
            · refine .inr ?_
              cases z : H a with
              | none => rfl
              | some o => rw [s1.keep a o z q] at hC; cases hC
end
end U
namespace U
open PySem PySem.Spec PyProof.Rows L2
def spD (K : PySem.W.Frag) (f : Fn) : Sp := fun vs H Q E => ∃ (F : Fz) (ds : List D) (A : List Addr) (B : Bx), OVps K F H B vs ds A ∧ A.Nodup ∧ (∀ a ∈ A, ¬ F a) ∧ (∀ a, F a → ∃ o, H a = some o) ∧ match f ds with
  | .ok d o => ∀ v F' H' σ' A' Ar, OVS K F' H' B σ' o A' → (A' ++ Ar).Nodup → (∀ a ∈ A' ++ Ar, ¬ F' a) → (∀ a, F' a → ∃ o, H' a = some o) → OV K F' H' v d Ar → Step A F H (A' ++ Ar) F' H' → Q v H'
  | .exc x o => ∀ cls dd F' H' σ' A', OVS K F' H' B σ' o A' → A'.Nodup → (∀ a ∈ A', ¬ F' a) → (∀ a, F' a → ∃ o, H' a = some o) → XV K F' H' x cls dd → Step A F H A' F' H' → E cls dd H'
  | .bad => False
section
variable {K : PySem.W.Frag} {B B' : Bx} {F F' : Fz} {H H' : Hp} {W : WX} {σ : L2.St}
theorem OV.root {v : V} {d : D} {A : List Addr} (h : OV K F H v (.own 0 d) A) : ∃ a, v = .ref a ∧ a ∈ A := by
  cases d with
  | lst ds => simp only [OV] at h; obtain ⟨a, vs, A', e, s, q, r⟩ := h; exact ⟨a, e, by rw [q]; exact List.mem_cons_self⟩
  | ins c ns ds => simp only [OV] at h; obtain ⟨a, dx, fs, A', e, s, n, q, r⟩ := h; exact ⟨a, e, by rw [q]; exact List.mem_cons_self⟩
  | _ => simp only [OV] at h
theorem OVp.root {v : V} {d : D} {t : Nat} {A : List Addr} (h : OVp K F H B v (.own t d) A) : OV K F H v (.own 0 d) A ∧ ∃ a, v = .ref a ∧ a ∈ A ∧ ∀ k, t = k + 1 → B.1[k]? = some a := by
  cases t with
  | zero =>
    simp only [OVp] at h
    obtain ⟨a, e, m⟩ := h.root
    exact ⟨h, a, e, m, fun k z => by cases z⟩
  | succ j =>
    simp only [OVp] at h
    obtain ⟨h1, a, e, p⟩ := h
    obtain ⟨a', e', m⟩ := h1.root
    rw [e] at e'; cases e'
    exact ⟨h1, a, e, m, fun k z => by cases z; exact p⟩
theorem OVp.tag {v : V} {d : D} {t : Nat} {a : Addr} {A : List Addr} (h : OV K F H v (.own 0 d) A) (e : v = .ref a) (p : ∀ k, t = k + 1 → B.1[k]? = some a) : OVp K F H B v (.own t d) A := by
  cases t with
  | zero => simp only [OVp]; exact h
  | succ j => simp only [OVp]; exact ⟨h, a, e, p j rfl⟩
theorem Rep.take1 {ρ : Env} {A : List Addr} {i t : Nat} {d : D} (r : Rep K F H B σ ρ A) (e : ρ[i]? = some (some (.own t d))) : ∃ a A1 A2, σ[i]? = some (some (.ref a)) ∧ OV K F H (.ref a) (.own 0 d) A1 ∧ (∀ k, t = k + 1 → B.1[k]? = some a) ∧ Rep K F H B σ (ρ.set i none) A2 ∧ (A1 ++ A2).Nodup ∧ ∀ x ∈ A1 ++ A2, x ∈ A := by
  obtain ⟨v, A1, L, R, h1, h2, h3, h4⟩ := r.sl.split e
  subst h3
  cases v with
  | none => simp only [OVo] at h2
  | some v =>
    simp only [OVo] at h2
    obtain ⟨o, a, rfl, ma, p⟩ := h2.root
    have q := h4 (F' := F) (H' := H) (v' := some (.ref a)) (d' := none) (A' := []) (fun _ h => h) (fun _ _ _ h => h) (by simp only [OVo])
    have es : σ.set i (some (.ref a)) = σ := by
      apply List.ext_getElem?
      intro j
      by_cases c : i = j
      · subst c
        rw [List.getElem?_set_self (List.getElem?_eq_some_iff.mp h1).1, h1]
      · rw [List.getElem?_set_ne c]
    rw [es] at q
    have nd := r.nd
    simp only [List.nodup_append, List.mem_append] at nd
    refine ⟨a, A1, L ++ [] ++ R, h1, o, p, ⟨q, ?_, fun x hx => r.nf x ?_, r.dm⟩, ?_, fun x hx => ?_⟩
    · simp only [List.append_nil, List.nodup_append]
      exact ⟨nd.1.1, nd.2.1, fun a ha b hb => nd.2.2 a (.inl ha) b hb⟩
    · simp only [List.append_nil, List.mem_append] at hx ⊢
      exact hx.elim (fun z => .inl (.inl z)) .inr
    · simp only [List.append_nil, List.nodup_append, List.mem_append]
      refine ⟨nd.1.2.1, ⟨nd.1.1, nd.2.1, fun a ha b hb => nd.2.2 a (.inl ha) b hb⟩, fun a ha b hb => ?_⟩
      rcases hb with hb | hb
      · exact fun z => nd.1.2.2 b hb a ha z.symm
      · exact nd.2.2 a (.inr ha) b hb
    · simp only [List.append_nil, List.mem_append] at hx ⊢
      rcases hx with hx | hx | hx
      · exact .inl (.inr hx)
      · exact .inl (.inl hx)
      · exact .inr hx
theorem Rep.give1 {ρ : Env} {A A1 : List Addr} {i : Nat} {v : V} {d : D} (r : Rep K F H B σ ρ A) (e : ρ[i]? = some none) (es : σ[i]? = some (some v)) (o : OVp K F H B v d A1) (nd : (A1 ++ A).Nodup) (nf : ∀ a ∈ A1, ¬ F a) : ∃ A', Rep K F H B σ (ρ.set i (some d)) A' ∧ ∀ x ∈ A', x ∈ A1 ++ A := by
  obtain ⟨v0, A0, L, R, h1, h2, h3, h4⟩ := r.sl.split e
  simp only [OVo] at h2
  subst h2 h3
  have q := h4 (F' := F) (H' := H) (v' := some v) (d' := some d) (A' := A1) (fun _ h => h) (fun _ _ _ h => h) (by simp only [OVo]; exact o)
  have ez : σ.set i (some v) = σ := by
    apply List.ext_getElem?
    intro j
    by_cases c : i = j
    · subst c
      rw [List.getElem?_set_self (List.getElem?_eq_some_iff.mp es).1, es]
    · rw [List.getElem?_set_ne c]
  rw [ez] at q
  simp only [List.append_nil, List.nodup_append, List.mem_append] at nd
  refine ⟨L ++ A1 ++ R, ⟨q, ?_, fun a ha => ?_, r.dm⟩, fun a ha => ?_⟩
  · simp only [List.nodup_append, List.mem_append]
    refine ⟨⟨nd.2.1.1, nd.1, fun a ha b hb z => nd.2.2 b hb a (.inl ha) z.symm⟩, nd.2.1.2.1, fun a ha b hb => ?_⟩
    rcases ha with ha | ha
    · exact nd.2.1.2.2 a ha b hb
    · exact nd.2.2 a ha b (.inr hb)
  · simp only [List.mem_append] at ha
    rcases ha with (ha | ha) | ha
    · exact r.nf a (by simp [ha])
    · exact nf a ha
    · exact r.nf a (by simp [ha])
  · simp only [List.append_nil, List.mem_append] at ha ⊢
    rcases ha with (ha | ha) | ha
    · exact .inr (.inl ha)
    · exact .inl ha
    · exact .inr (.inr ha)
def outs : List Arg → Env → Env
  | [], ρ => ρ
  | .v _ :: r, ρ => outs r ρ
  | .b i :: r, ρ => outs r (ρ.set i none)
theorem outs_set {x : Option D} {i : Nat} : ∀ {l : List Arg} {ρ : Env}, i ∉ lent l → outs l (ρ.set i x) = (outs l ρ).set i x
  | [], _, _ => rfl
  | .v _ :: r, ρ, h => by simp only [outs]; exact outs_set (l := r) h
  | .b k :: r, ρ, h => by
    simp only [outs]
    simp only [lent, List.mem_cons, not_or] at h
    rw [List.set_comm _ _ h.1, outs_set h.2]
def Lk (σ : L2.St) (B B' : Bx) : Nat → List Arg → Env → Prop
  | _, [], _ => True
  | j, .v _ :: r, ρ => Lk σ B B' (j + 1) r ρ
  | j, .b i :: r, ρ => (∃ a t d, σ[i]? = some (some (.ref a)) ∧ ρ[i]? = some (some (.own t d)) ∧ (∀ k, t = k + 1 → B.1[k]? = some a) ∧ B'.1[j]? = some a) ∧ Lk σ B B' (j + 1) r ρ
theorem lend : ∀ {l : List Arg} {j : Nat} {ρ0 ρ : Env} {A : List Addr} {vs : List V} {ds : List D}, Rep K F H B σ ρ A → (lent l).Nodup → (∀ i ∈ lent l, ρ[i]? = ρ0[i]?) → AV K F H σ vs l → hand ρ0 j l = some ds →
    ∃ (Bs Ac Ao : List Addr), Bs.length = l.length ∧ (∀ B', (∀ (k : Nat) (a : Addr), Bs[k]? = some a → B'.1[j + k]? = some a) → OVps K F H B' vs ds Ac ∧ Lk σ B B' j l ρ0) ∧ Rep K F H B σ (outs l ρ) Ao ∧ (Ac ++ Ao).Nodup ∧ (∀ x ∈ Ac ++ Ao, x ∈ A)
  | [], j, ρ0, ρ, A, vs, ds, r, _, _, av, h => by
    cases vs with
    | cons v vs => simp only [AV] at av
    | nil =>
      simp only [hand] at h
      cases h
      exact ⟨[], [], A, rfl, fun B' _ => ⟨by simp only [OVps], by simp only [Lk]⟩, by simp only [outs]; exact r, by simpa using r.nd, by simp⟩
  | .v d :: l, j, ρ0, ρ, A, vs, ds, r, nd, ag, av, h => by
    cases vs with
    | nil => simp only [AV] at av
    | cons v vs =>
      simp only [AV] at av
      simp only [hand] at h
      obtain ⟨ds', e, rfl⟩ := Option.map_eq_some_iff.mp h
      obtain ⟨Bs, Ac, Ao, b1, b2, b3, b4, b5⟩ := lend (l := l) r nd ag av.2 e
      refine ⟨0 :: Bs, Ac, Ao, by simp [b1], fun B' hB => ?_, by simp only [outs]; exact b3, b4, b5⟩
      obtain ⟨c1, c2⟩ := b2 B' fun k a hk => by
        have := hB (k + 1) a (by simpa using hk)
        rw [show j + 1 + k = j + (k + 1) by omega]; exact this
      refine ⟨?_, by simp only [Lk]; exact c2⟩
      simp only [OVps]
      exact ⟨[], Ac, av.1.own.op, c1, rfl⟩
  | .b i :: l, j, ρ0, ρ, A, vs, ds, r, nd, ag, av, h => by
    cases vs with
    | nil => simp only [AV] at av
    | cons v vs =>
      simp only [AV] at av
      simp only [lent, List.nodup_cons] at nd
      simp only [hand] at h
      split at h
      · rename_i t d e0
        obtain ⟨ds', e, rfl⟩ := Option.map_eq_some_iff.mp h
        have ei : ρ[i]? = some (some (.own t d)) := (ag i (by simp [lent])).trans e0
        obtain ⟨a, A1, A2, s1, o1, p1, r2, n1, sub1⟩ := r.take1 ei
        rw [av.1] at s1
        cases s1
        obtain ⟨Bs, Ac, Ao, b1, b2, b3, b4, b5⟩ := lend (l := l) (j := j + 1) (ρ0 := ρ0) r2 nd.2 (fun k hk => by
          rw [List.getElem?_set_ne (fun z => nd.1 (by rw [z]; exact hk))]
          exact ag k (by simp [lent, hk])) av.2 e
        refine ⟨a :: Bs, A1 ++ Ac, Ao, by simp [b1], fun B' hB => ?_, by simp only [outs]; exact b3, ?_, fun x hx => ?_⟩
        · obtain ⟨c1, c2⟩ := b2 B' fun k b hk => by
            have := hB (k + 1) b (by simpa using hk)
            rw [show j + 1 + k = j + (k + 1) by omega]; exact this
          have hBj : B'.1[j]? = some a := by simpa using hB 0 a rfl
          refine ⟨?_, ?_⟩
          · simp only [OVps]
            exact ⟨A1, Ac, OVp.tag o1 rfl (fun k z => by cases z; exact hBj), c1, rfl⟩
          · simp only [Lk]
            exact ⟨⟨a, t, d, av.1, e0, p1, hBj⟩, c2⟩
        · simp only [List.nodup_append, List.mem_append] at n1 b4 ⊢
          refine ⟨⟨n1.1, b4.1, fun x hx y hy => n1.2.2 x hx y (b5 y (by simp [hy]))⟩, b4.2.1, fun x hx y hy => ?_⟩
          rcases hx with hx | hx
          · exact n1.2.2 x hx y (b5 y (by simp [hy]))
          · exact b4.2.2 x hx y hy
        · simp only [List.mem_append] at hx
          rcases hx with (hx | hx) | hx
          · exact sub1 x (by simp [hx])
          · exact sub1 x (by simp [b5 x (by simp [hx])])
          · exact sub1 x (by simp [b5 x (by simp [hx])])
      · cases h
theorem regain : ∀ {l : List Arg} {j : Nat} {ρ0 ρ ρ2 o : Env} {σ' : L2.St} {Ac Ao : List Addr}, Rep K F H B σ (outs l ρ) Ao → (lent l).Nodup → Lk σ B B' j l ρ0 → (∀ i ∈ lent l, ρ[i]? = ρ0[i]?) → OVS K F H B' σ' o Ac → back j l o ρ = some ρ2 → (Ac ++ Ao).Nodup → (∀ a ∈ Ac, ¬ F a) →
    ∃ A2, Rep K F H B σ ρ2 A2 ∧ ∀ x ∈ A2, x ∈ Ac ++ Ao
  | [], j, ρ0, ρ, ρ2, o, σ', Ac, Ao, r, _, _, _, _, e, _, _ => by
    simp only [back] at e
    cases e
    simp only [outs] at r
    exact ⟨Ao, r, fun x hx => List.mem_append_right _ hx⟩
  | .v d :: l, j, ρ0, ρ, ρ2, o, σ', Ac, Ao, r, nd, lk, ag, os, e, n, nf => by
    simp only [back] at e
    simp only [outs] at r
    simp only [Lk] at lk
    match o, σ', os, e with
    | [], [], os, e => exact regain (l := l) (σ' := []) r nd lk ag os e n nf
    | c :: o, v :: σ', os, e =>
      simp only [OVS] at os
      obtain ⟨A1, A2, h1, h2, q⟩ := os
      subst q
      obtain ⟨A3, r3, s3⟩ := regain (l := l) r nd lk ag h2 e (by
        simp only [List.nodup_append, List.mem_append] at n ⊢
        exact ⟨n.1.2.1, n.2.1, fun a ha b hb => n.2.2 a (.inr ha) b hb⟩) (fun a ha => nf a (List.mem_append_right _ ha))
      exact ⟨A3, r3, fun x hx => by
        have := s3 x hx
        simp only [List.mem_append] at this ⊢
        exact this.elim (fun z => .inl (.inr z)) .inr⟩
    | [], _ :: _, os, _ => simp only [OVS] at os
    | _ :: _, [], os, _ => simp only [OVS] at os
  | .b i :: l, j, ρ0, ρ, ρ2, o, σ', Ac, Ao, r, nd, lk, ag, os, e, n, nf => by
    simp only [outs] at r
    simp only [Lk] at lk
    simp only [lent, List.nodup_cons] at nd
    obtain ⟨⟨a, t, d, s1, e1, p1, hB⟩, lk⟩ := lk
    have ei : ρ[i]? = some (some (.own t d)) := (ag i (by simp [lent])).trans e1
    simp only [back] at e
    match o, σ', os, e with
    | [], _, _, e => simp at e
    | c :: o, [], os, _ => simp only [OVS] at os
    | c :: o, v :: σ', os, e =>
      simp only [OVS] at os
      obtain ⟨A1, A2, h1, h2, q⟩ := os
      subst q
      simp only [List.head?_cons, List.tail_cons] at e
      split at e
      · rename_i t' d' t2 d2 hc hρ
        cases hc
        rw [ei] at hρ
        cases hρ
        split at e
        · rename_i ht
          subst ht
          cases v with
          | none => simp only [OVo] at h1
          | some v =>
            simp only [OVo] at h1
            obtain ⟨o1, a', ev, m, p⟩ := h1.root
            have := p t' rfl
            rw [hB] at this
            cases this
            subst ev
            rw [outs_set nd.1] at r
            have hl : i < (outs l ρ).length := by
              have := r.sl.len
              rw [List.length_set] at this
              rw [← this]; exact (List.getElem?_eq_some_iff.mp s1).1
            simp only [List.nodup_append, List.mem_append] at n
            obtain ⟨A3, r3, s3⟩ := r.give1 (i := i) (A1 := A1) (d := .own t d') (by rw [List.getElem?_set_self hl]) s1 (OVp.tag o1 rfl p1) (by
              simp only [List.nodup_append]
              exact ⟨n.1.1, n.2.1, fun a ha b hb => n.2.2 a (.inl ha) b hb⟩) (fun a ha => nf a (List.mem_append_left _ ha))
            rw [List.set_set, ← outs_set nd.1] at r3
            obtain ⟨A4, r4, s4⟩ := regain (l := l) (ρ0 := ρ0) r3 nd.2 lk (fun k hk => by
              rw [List.getElem?_set_ne (fun z => nd.1 (by rw [z]; exact hk))]
              exact ag k (by simp [lent, hk])) h2 e (by
                simp only [List.nodup_append, List.mem_append]
                refine ⟨n.1.2.1, r3.nd, fun a ha b hb => ?_⟩
                have := s3 b hb
                simp only [List.mem_append] at this
                rcases this with z | z
                · exact fun q => n.1.2.2 b z a ha q.symm
                · exact n.2.2 a (.inr ha) b z) (fun a ha => nf a (List.mem_append_right _ ha))
            refine ⟨A4, r4, fun x hx => ?_⟩
            have := s4 x hx
            simp only [List.mem_append] at this ⊢
            rcases this with z | z
            · exact .inl (.inr z)
            · have := s3 x z
              simp only [List.mem_append] at this
              exact this.elim (fun q => .inl (.inl q)) .inr
        · cases e
      · cases e
theorem OVps.snocP : ∀ {vs ws : List V} {ds es : List D} {A : List Addr}, OVps K F H B vs ds A → RVs K F H ws es → OVps K F H B (vs ++ ws) (ds ++ es) A
  | [], ws, [], es, A, h, r => by
    simp only [OVps] at h
    subst h
    simp only [List.nil_append]
    induction ws generalizing es with
    | nil =>
      cases es with
      | nil => simp only [OVps]
      | cons e es => simp only [RVs] at r
    | cons w ws ih =>
      cases es with
      | nil => simp only [RVs] at r
      | cons e es =>
        simp only [RVs] at r
        simp only [OVps]
        exact ⟨[], [], r.1.own.op, ih _ r.2, rfl⟩
  | v :: vs, ws, d :: ds, es, A, h, r => by
    simp only [OVps] at h
    obtain ⟨A1, A2, h1, h2, e⟩ := h
    simp only [List.cons_append, OVps]
    exact ⟨A1, A2, h1, OVps.snocP h2 r, e⟩
  | [], _, _ :: _, _, _, h, _ => by simp only [OVps] at h
  | _ :: _, _, [], _, _, h, _ => by simp only [OVps] at h
theorem w_call {f : Fn} {g : List Ag} {dd : List D} {dvs : List V} (hd : ∀ F H, RVs K F H dvs dd) (σ : L2.St) (H : Hp) (Q : VK) (h : tDM K B W (eCall f g dd) σ H Q) : tCallSD (spD K f) dvs (WE W) (tDG K B W g) σ H Q := by
  obtain ⟨F, ρ, A, rp, h⟩ := h
  refine ⟨F, ρ, A, rp, ?_⟩
  unfold eCall at h
  cases e1 : evAg g ρ with
  | bad => rw [e1] at h; exact h
  | exc x ρ1 => rw [e1] at h; exact h
  | ok l ρ1 =>
    rw [e1] at h
    simp only at h
    intro vs F1 H1 A1 r1 av s1
    cases e2 : hand ρ1 0 l with
    | none => rw [e2] at h; exact h.elim
    | some ds =>
      rw [e2] at h
      simp only at h
      by_cases hn : (lent l).Nodup
      case neg => rw [if_neg hn] at h; exact h.elim
      case pos =>
        rw [if_pos hn] at h
        obtain ⟨Bs, Ac, Ao, b1, b2, b3, b4, b5⟩ := lend r1 hn (fun _ _ => rfl) av e2
        obtain ⟨c1, c2⟩ := b2 (Bs, none) fun k a hk => by simpa using hk
        have nd := b4
        simp only [List.nodup_append] at nd
        refine ⟨F1, ds ++ dd, Ac, (Bs, none), c1.snocP (hd F1 H1), nd.1, fun a ha => r1.nf a (b5 a (List.mem_append_left _ ha)), r1.dm, ?_⟩
        -- what stands beside the lent ones stays
        have stay : ∀ {F2 : Fz} {H2 : Hp} {A' : List Addr}, Step Ac F1 H1 A' F2 H2 → (∀ a, F2 a → ∃ o, H2 a = some o) → (∀ a ∈ A', ¬ F2 a) → A'.Nodup → Rep K F2 H2 B σ (outs l ρ1) Ao ∧ (A' ++ Ao).Nodup := fun {F2 H2 A'} s dm nf n => by
          have out : ∀ a ∈ Ao, a ∉ Ac := fun a ha z => nd.2.2 a z a ha rfl
          refine ⟨⟨b3.sl.stay s.mono fun a o ha e => s.keep a o e fun z => ?_, b3.nd, fun a ha f => ?_, dm⟩, ?_⟩
          · rcases ha with ha | ha
            · exact r1.nf a (b5 a (List.mem_append_left _ z)) ha
            · exact out a ha z
          · rcases s.froz a f with q | q | q
            · exact b3.nf a ha q
            · obtain ⟨o, e⟩ := b3.sl.there a ha
              rw [q] at e; cases e
            · exact out a ha q
          · simp only [List.nodup_append]
            refine ⟨n, b3.nd, fun a ha b hb z => ?_⟩
            subst z
            rcases s.own a ha with q | q
            · exact out a hb q
            · obtain ⟨o, e⟩ := b3.sl.there a hb
              rw [q] at e; cases e
        have whole : ∀ {F2 : Fz} {H2 : Hp} {A' A2 : List Addr}, Step Ac F1 H1 A' F2 H2 → (∀ x ∈ A2, x ∈ A' ++ Ao) → Step A1 F1 H1 A2 F2 H2 := fun {F2 H2 A' A2} s sub =>
          ⟨s.mono, fun a o e n => s.keep a o e fun z => n (b5 a (List.mem_append_left _ z)), fun a ha => by
            rcases s.froz a ha with q | q | q
            · exact .inl q
            · exact .inr (.inl q)
            · exact .inr (.inr (b5 a (List.mem_append_left _ q))), fun a ha => by
            rcases List.mem_append.mp (sub a ha) with q | q
            · rcases s.own a q with z | z
              · exact .inl (b5 a (List.mem_append_left _ z))
              · exact .inr z
            · exact .inl (b5 a (List.mem_append_right _ q))⟩
        cases e3 : f (ds ++ dd) with
        | bad => rw [e3] at h; exact h
        | exc x o =>
          rw [e3] at h
          simp only at h
          intro cls d2 F2 H2 σ2 A2 o2 n2 nf2 dm2 xv s2
          cases e4 : back 0 l o ρ1 with
          | none => rw [e4] at h; exact h.elim
          | some ρ2 =>
            rw [e4] at h
            obtain ⟨k1, k2⟩ := stay s2 dm2 nf2 n2
            obtain ⟨A3, r3, s3⟩ := regain k1 hn c2 (fun _ _ => rfl) o2 e4 k2 nf2
            exact h cls d2 F2 H2 A3 r3 xv (s1.trans (whole s2 s3))
        | ok d o =>
          rw [e3] at h
          simp only at h
          intro v F2 H2 σ2 A2 Ar o2 n2 nf2 dm2 ov s2
          cases e4 : back 0 l o ρ1 with
          | none => rw [e4] at h; exact h.elim
          | some ρ2 =>
            rw [e4] at h
            obtain ⟨k1, k2⟩ := stay s2 dm2 nf2 n2
            simp only [List.nodup_append, List.mem_append] at k2 n2
            obtain ⟨A3, r3, s3⟩ := regain k1 hn c2 (fun _ _ => rfl) o2 e4 (by
              simp only [List.nodup_append]
              exact ⟨n2.1, k1.nd, fun a ha b hb => k2.2.2 a (.inl ha) b hb⟩) (fun a ha => nf2 a (List.mem_append_left _ ha))
            refine h v F2 H2 A3 Ar r3 ov ?_ (fun a ha => nf2 a (List.mem_append_right _ ha)) (s1.trans (whole s2 fun x hx => ?_))
            · simp only [List.nodup_append]
              refine ⟨r3.nd, n2.2.1, fun a ha b hb => ?_⟩
              rcases List.mem_append.mp (s3 a ha) with z | z
              · exact n2.2.2 a z b hb
              · exact fun q => k2.2.2 b (.inr hb) a z q.symm
            · simp only [List.mem_append] at hx ⊢
              rcases hx with hx | hx
              · exact (List.mem_append.mp (s3 x hx)).elim (fun z => .inl (.inl z)) .inr
              · exact .inl (.inr hx)
theorem w_gnil (σ : L2.St) (H : Hp) (Q : List V → Hp → Prop) (h : tDG K B W [] σ H Q) : tNil σ H Q := by
  obtain ⟨F, ρ, A, rp, h⟩ := h
  exact h [] F H A rp (by simp only [AV]) Step.refl
theorem AV.step {vs : List V} {l : List Arg} {ρ : Env} {A A' : List Addr} (h : AV K F H σ vs l) (r : Rep K F H B σ ρ A) (s : Step A F H A' F' H') : AV K F' H' σ vs l := by
  induction l generalizing vs with
  | nil => cases vs with
    | nil => simp only [AV]
    | cons v vs => simp only [AV] at h
  | cons g l ih =>
    cases vs with
    | nil => cases g <;> simp only [AV] at h
    | cons v vs =>
      cases g with
      | v d => simp only [AV] at h ⊢; exact ⟨h.1.step r s, ih h.2⟩
      | b i => simp only [AV] at h ⊢; exact ⟨h.1, ih h.2⟩
theorem w_gv {f : E} {g : List Ag} (σ : L2.St) (H : Hp) (Q : List V → Hp → Prop) (h : tDG K B W (.v f :: g) σ H Q) : tCons (tDE K B W f) (tDG K B W g) σ H Q := by
  obtain ⟨F, ρ, A, rp, h⟩ := h
  refine ⟨F, ρ, A, rp, ?_⟩
  simp only [evAg] at h
  cases e1 : f ρ with
  | bad => rw [e1] at h; exact h
  | exc x ρ1 => rw [e1] at h; exact h
  | ok d1 ρ1 =>
    rw [e1] at h
    simp only at h
    intro v1 F1 H1 A1 r1 v1r s1
    refine ⟨F1, ρ1, A1, r1, ?_⟩
    cases e2 : evAg g ρ1 with
    | bad => rw [e2] at h; exact h
    | exc x ρ2 => rw [e2] at h; exact h.before s1
    | ok l ρ2 =>
      rw [e2] at h
      intro v2 F2 H2 A2 r2 v2r s2
      exact h (v1 :: v2) F2 H2 A2 r2 (by simp only [AV]; exact ⟨v1r.step r1 s2, v2r⟩) (s1.trans s2)
theorem w_gb {i : Nat} {g : List Ag} (σ : L2.St) (H : Hp) (Q : List V → Hp → Prop) (h : tDG K B W (.b i :: g) σ H Q) : tCons (tVar i) (tDG K B W g) σ H Q := by
  obtain ⟨F, ρ, A, rp, h⟩ := h
  simp only [evAg] at h
  split at h
  · rename_i l ρ1 e
    split at e
    · rename_i t d hd
      obtain ⟨v, A1, hv, ov, _⟩ := rp.sl.get hd
      refine ⟨v, hv, F, ρ, A, rp, ?_⟩
      cases e2 : evAg g ρ with
      | bad => rw [e2] at e; cases e
      | exc x ρ2 => rw [e2] at e; cases e
      | ok l2 ρ2 =>
        rw [e2] at e
        cases e
        intro v2 F2 H2 A2 r2 v2r s2
        exact h (v :: v2) F2 H2 A2 r2 (by simp only [AV]; exact ⟨hv, v2r⟩) s2
    · cases e
  · rename_i x ρ1 e
    split at e
    · rename_i t d hd
      obtain ⟨v, A1, hv, ov, _⟩ := rp.sl.get hd
      refine ⟨v, hv, F, ρ, A, rp, ?_⟩
      cases e2 : evAg g ρ with
      | bad => rw [e2] at e; cases e
      | exc x ρ2 => rw [e2] at e; cases e; exact h
      | ok l2 ρ2 => rw [e2] at e; cases e
    · cases e
  · exact h.elim
end
end U
namespace U
open PySem PySem.Spec PyProof.Rows L2
section
variable {K : PySem.W.Frag} {B : Bx} {F F' : Fz} {H H' : Hp} {W : WX}
theorem p_add : P2 K oAdd (rI0 fun i j => .int (i + j)) := by
  intro F H x y a b d Q ra rb e q
  unfold oAdd at e; split at e
  · cases e; simp only [RV] at ra rb; exact ⟨_, _, ra, rb, q _ F H Grow.refl (by simp only [RV])⟩
  · cases e
theorem p_sub : P2 K oSub (rI0 fun i j => .int (i - j)) := by
  intro F H x y a b d Q ra rb e q
  unfold oSub at e; split at e
  · cases e; simp only [RV] at ra rb; exact ⟨_, _, ra, rb, q _ F H Grow.refl (by simp only [RV])⟩
  · cases e
theorem p_lt : P2 K oLt (rI0 fun i j => .bl (decide (i < j))) := by
  intro F H x y a b d Q ra rb e q
  unfold oLt at e; split at e
  · cases e; simp only [RV] at ra rb; exact ⟨_, _, ra, rb, q _ F H Grow.refl (by simp only [RV])⟩
  · cases e
theorem p_le : P2 K oLe (rI0 fun i j => .bl (decide (i ≤ j))) := by
  intro F H x y a b d Q ra rb e q
  unfold oLe at e; split at e
  · cases e; simp only [RV] at ra rb; exact ⟨_, _, ra, rb, q _ F H Grow.refl (by simp only [RV])⟩
  · cases e
theorem p_gt : P2 K oGt (rI0 fun i j => .bl (decide (j < i))) := by
  intro F H x y a b d Q ra rb e q
  unfold oGt at e; split at e
  · cases e; simp only [RV] at ra rb; exact ⟨_, _, ra, rb, q _ F H Grow.refl (by simp only [RV])⟩
  · cases e
theorem p_ge : P2 K oGe (rI0 fun i j => .bl (decide (j ≤ i))) := by
  intro F H x y a b d Q ra rb e q
  unfold oGe at e; split at e
  · cases e; simp only [RV] at ra rb; exact ⟨_, _, ra, rb, q _ F H Grow.refl (by simp only [RV])⟩
  · cases e
theorem p_mul : P2 K oMul (rI CMul fun i j => .int (i * j)) := by
  intro F H x y a b d Q ra rb e q
  unfold oMul at e; split at e
  · split at e
    · rename_i i j h
      cases e; simp only [RV] at ra rb
      refine ⟨_, _, ra, rb, ?_, q _ F H Grow.refl (by simp only [RV])⟩
      unfold lim64 at h
      unfold CMul
      rcases h with h | h
      · exact .inl ⟨by omega, by omega⟩
      · exact .inr ⟨by omega, by omega⟩
    · cases e
  · cases e
theorem p_div : P2 K oDiv (rI CDivW fun i j => .int (i / j)) := by
  intro F H x y a b d Q ra rb e q
  unfold oDiv at e; split at e
  · split at e
    · rename_i i j h
      cases e; simp only [RV] at ra rb
      exact ⟨_, _, ra, rb, wide_div h.1 h.2 (by decide) (by decide), q _ F H Grow.refl (by simp only [RV])⟩
    · cases e
  · cases e
theorem p_mod : P2 K oMod (rI (fun _ j => 0 < j) fun i j => .int (i % j)) := by
  intro F H x y a b d Q ra rb e q
  unfold oMod at e; split at e
  · split at e
    · rename_i i j h
      cases e; simp only [RV] at ra rb
      exact ⟨_, _, ra, rb, h, q _ F H Grow.refl (by simp only [RV])⟩
    · cases e
  · cases e
theorem p_pow : P2 K oPow (rI CPow fun i j => .int (i ^ j.toNat)) := by
  intro F H x y a b d Q ra rb e q
  unfold oPow at e; split at e
  · split at e
    · rename_i i j h
      cases e; simp only [RV] at ra rb
      exact ⟨_, _, ra, rb, ⟨h.1, by omega, by omega⟩, q _ F H Grow.refl (by simp only [RV])⟩
    · cases e
  · cases e
theorem p_neg : P1 K oNeg (rU fun i => .int (-i)) := by
  intro F H x a d Q ra e q
  unfold oNeg at e; split at e
  · cases e; simp only [RV] at ra; exact ⟨_, ra, q _ F H Grow.refl (by simp only [RV])⟩
  · cases e
mutual
def toPy : D → PyData
  | .non => .none
  | .bl b => .bool b
  | .int i => .int i
  | .str l => .str (S l)
  | .tup l => .tuple (toPys l)
  | .lst l => .list (toPys l)
  | .ins _ _ _ => .none
  | .own _ _ => .none
  | .exn _ _ _ => .none
  | .dic _ => .none
  | .exv _ _ _ => .none
  | .scr _ => .none
def toPys : List D → List PyData
  | [] => []
  | d :: l => toPy d :: toPys l
end
theorem S_inj {l m : List Nat} : S l = S m ↔ l = m := ⟨fun h => by have := congrArg (fun z : Str => z.cps.toList) h; exact this, fun h => by rw [h]⟩
theorem S_beq (l m : List Nat) : (S l == S m) = (l == m) := by
  by_cases h : l = m
  · subst h; simp
  · have h' : ¬ S l = S m := fun z => h (S_inj.mp z)
    rw [beq_eq_false_iff_ne.mpr h, beq_eq_false_iff_ne.mpr h']
mutual
theorem eqv_py : ∀ {n m : Nat} {a b : D}, okD n a = true → okD m b = true → PyData.eqv (toPy a) (toPy b) = a.eqv b
  | n, m, a, b, ha, hb => by
    match a, b, n, m, ha, hb with
    | .tup l, .tup r, n + 1, m + 1, ha, hb => simp only [toPy, PyData.eqv, D.eqv]; exact eqvs_py (by simpa [okD] using ha) (by simpa [okD] using hb)
    | .lst l, .lst r, n + 1, m + 1, ha, hb => simp only [toPy, PyData.eqv, D.eqv]; exact eqvs_py (by simpa [okD] using ha) (by simpa [okD] using hb)
    | .tup _, _, 0, _, ha, _ => simp [okD] at ha
    | .lst _, _, 0, _, ha, _ => simp [okD] at ha
    | _, .tup _, _, 0, _, hb => simp [okD] at hb
    | _, .lst _, _, 0, _, hb => simp [okD] at hb
    | .ins _ _ _, _, _, _, ha, _ => simp [okD] at ha
    | .own _ _, _, _, _, ha, _ => simp [okD] at ha
    | .exn _ _ _, _, _, _, ha, _ => simp [okD] at ha
    | .dic _, _, _, _, ha, _ => simp [okD] at ha
    | .exv _ _ _, _, _, _, ha, _ => simp [okD] at ha
    | .scr _, _, _, _, ha, _ => simp [okD] at ha
    | _, .ins _ _ _, _, _, _, hb => simp [okD] at hb
    | _, .own _ _, _, _, _, hb => simp [okD] at hb
    | _, .exn _ _ _, _, _, _, hb => simp [okD] at hb
    | _, .dic _, _, _, _, hb => simp [okD] at hb
    | _, .exv _ _ _, _, _, _, hb => simp [okD] at hb
    | _, .scr _, _, _, _, hb => simp [okD] at hb
    | .str x, .str y, _, _, _, _ => simp only [toPy, PyData.eqv, D.eqv]; exact S_beq x y
    | .non, .non, _, _, _, _ => simp [toPy, PyData.eqv, D.eqv]
    | .non, .bl _, _, _, _, _ => simp [toPy, PyData.eqv, D.eqv]
    | .non, .int _, _, _, _, _ => simp [toPy, PyData.eqv, D.eqv]
    | .non, .str _, _, _, _, _ => simp [toPy, PyData.eqv, D.eqv]
    | .non, .tup _, _, _, _, _ => simp [toPy, PyData.eqv, D.eqv]
    | .non, .lst _, _, _, _, _ => simp [toPy, PyData.eqv, D.eqv]
    | .bl _, .non, _, _, _, _ => simp [toPy, PyData.eqv, D.eqv]
    | .bl _, .bl _, _, _, _, _ => simp [toPy, PyData.eqv, D.eqv]
    | .bl _, .int _, _, _, _, _ => simp [toPy, PyData.eqv, D.eqv]
    | .bl _, .str _, _, _, _, _ => simp [toPy, PyData.eqv, D.eqv]
    | .bl _, .tup _, _, _, _, _ => simp [toPy, PyData.eqv, D.eqv]
    | .bl _, .lst _, _, _, _, _ => simp [toPy, PyData.eqv, D.eqv]
    | .int _, .non, _, _, _, _ => simp [toPy, PyData.eqv, D.eqv]
    | .int _, .bl _, _, _, _, _ => simp [toPy, PyData.eqv, D.eqv]
    | .int _, .int _, _, _, _, _ => simp [toPy, PyData.eqv, D.eqv]
    | .int _, .str _, _, _, _, _ => simp [toPy, PyData.eqv, D.eqv]
    | .int _, .tup _, _, _, _, _ => simp [toPy, PyData.eqv, D.eqv]
    | .int _, .lst _, _, _, _, _ => simp [toPy, PyData.eqv, D.eqv]
    | .str _, .non, _, _, _, _ => simp [toPy, PyData.eqv, D.eqv]
    | .str _, .bl _, _, _, _, _ => simp [toPy, PyData.eqv, D.eqv]
    | .str _, .int _, _, _, _, _ => simp [toPy, PyData.eqv, D.eqv]
    | .str _, .tup _, _, _, _, _ => simp [toPy, PyData.eqv, D.eqv]
    | .str _, .lst _, _, _, _, _ => simp [toPy, PyData.eqv, D.eqv]
    | .tup _, .non, _, _, _, _ => simp [toPy, PyData.eqv, D.eqv]
    | .tup _, .bl _, _, _, _, _ => simp [toPy, PyData.eqv, D.eqv]
    | .tup _, .int _, _, _, _, _ => simp [toPy, PyData.eqv, D.eqv]
    | .tup _, .str _, _, _, _, _ => simp [toPy, PyData.eqv, D.eqv]
    | .tup _, .lst _, _, _, _, _ => simp [toPy, PyData.eqv, D.eqv]
    | .lst _, .non, _, _, _, _ => simp [toPy, PyData.eqv, D.eqv]
    | .lst _, .bl _, _, _, _, _ => simp [toPy, PyData.eqv, D.eqv]
    | .lst _, .int _, _, _, _, _ => simp [toPy, PyData.eqv, D.eqv]
    | .lst _, .str _, _, _, _, _ => simp [toPy, PyData.eqv, D.eqv]
    | .lst _, .tup _, _, _, _, _ => simp [toPy, PyData.eqv, D.eqv]
theorem eqvs_py : ∀ {n m : Nat} {a b : List D}, (∀ x ∈ a, okD n x = true) → (∀ x ∈ b, okD m x = true) → PyData.eqvAll (toPys a) (toPys b) = eqvs a b
  | _, _, [], [], _, _ => by simp [toPys, PyData.eqvAll, eqvs]
  | _, _, [], _ :: _, _, _ => by simp [toPys, PyData.eqvAll, eqvs]
  | _, _, _ :: _, [], _, _ => by simp [toPys, PyData.eqvAll, eqvs]
  | n, m, x :: a, y :: b, ha, hb => by
    simp only [toPys, PyData.eqvAll, eqvs]
    rw [eqv_py (ha x List.mem_cons_self) (hb y List.mem_cons_self), eqvs_py (fun z hz => ha z (List.mem_cons_of_mem _ hz)) (fun z hz => hb z (List.mem_cons_of_mem _ hz))]
end
theorem strOk_S {l : List Nat} (h : chars l) : PyData.strOk (S l) = true := by
  unfold PyData.strOk S
  rw [show (Array.all (⟨l.toArray⟩ : Str).cps fun x => decide (x < 0x110000)) = l.all fun x => decide (x < 0x110000) from by simp]
  rw [List.all_eq_true]
  exact fun x hx => decide_eq_true (h x hx)
mutual
theorem dp_of : ∀ {n : Nat} {v : V} {d : D}, okD n d = true → RV K F H v d → Dp K H v (toPy d) ∧ (toPy d).canLay0 = true ∧ (toPy d).depth ≤ n
  | n, v, .non, _, r => by simp only [RV] at r; subst r; exact ⟨.non, by simp [toPy, PyData.canLay0], by simp [toPy, PyData.depth]⟩
  | n, v, .bl b, _, r => by simp only [RV] at r; subst r; exact ⟨.bl b, by simp [toPy, PyData.canLay0], by simp [toPy, PyData.depth]⟩
  | n, v, .int b, _, r => by simp only [RV] at r; subst r; exact ⟨.int b, by simp [toPy, PyData.canLay0], by simp [toPy, PyData.depth]⟩
  | n, v, .str l, _, r => by simp only [RV] at r; obtain ⟨rfl, c⟩ := r; exact ⟨.str _, by simp only [toPy, PyData.canLay0]; exact strOk_S c, by simp [toPy, PyData.depth]⟩
  | 0, v, .tup l, h, _ => by simp [okD] at h
  | 0, v, .lst l, h, _ => by simp [okD] at h
  | n + 1, v, .tup l, h, r => by
    simp only [RV] at r
    obtain ⟨a, vs, rfl, sq, rs⟩ := r
    obtain ⟨h1, h2, h3⟩ := dps_of (n := n) (by simpa [okD] using h) rs
    exact ⟨.tup sq.seq h1, by simp only [toPy, PyData.canLay0]; exact h2, by simp only [toPy, PyData.depth]; omega⟩
  | n + 1, v, .lst l, h, r => by
    simp only [RV] at r
    obtain ⟨a, vs, rfl, sq, rs⟩ := r
    obtain ⟨h1, h2, h3⟩ := dps_of (n := n) (by simpa [okD] using h) rs
    exact ⟨.lst sq.seq h1, by simp only [toPy, PyData.canLay0]; exact h2, by simp only [toPy, PyData.depth]; omega⟩
  | n, v, .ins _ _ _, h, _ => by simp [okD] at h
  | n, v, .own _ _, h, _ => by simp [okD] at h
  | n, v, .exn _ _ _, h, _ => by simp [okD] at h
  | n, v, .dic _, h, _ => by simp [okD] at h
  | n, v, .exv _ _ _, h, _ => by simp [okD] at h
  | n, v, .scr _, h, _ => by simp [okD] at h
theorem dps_of : ∀ {n : Nat} {vs : List V} {ds : List D}, (∀ x ∈ ds, okD n x = true) → RVs K F H vs ds → DpAll K H vs (toPys ds) ∧ PyData.canLayAll0 (toPys ds) = true ∧ PyData.depthAll (toPys ds) ≤ n
  | n, [], [], _, _ => ⟨.nil, by simp [toPys, PyData.canLayAll0], by simp [toPys, PyData.depthAll]⟩
  | n, v :: vs, d :: ds, h, r => by
    simp only [RVs] at r
    obtain ⟨a1, a2, a3⟩ := dp_of (h d List.mem_cons_self) r.1
    obtain ⟨b1, b2, b3⟩ := dps_of (fun z hz => h z (List.mem_cons_of_mem _ hz)) r.2
    exact ⟨.cons a1 b1, by simp only [toPys, PyData.canLayAll0, a2, b2]; rfl, by simp only [toPys, PyData.depthAll]; omega⟩
  | _, [], _ :: _, _, r => by simp only [RVs] at r
  | _, _ :: _, [], _, r => by simp only [RVs] at r
end
theorem p_eq : P2 K oEq (rEqD K) := by
  intro F H x y a b d Q ra rb e q
  unfold oEq at e; split at e
  · rename_i h
    rw [Bool.and_eq_true] at h
    cases e
    obtain ⟨a1, a2, a3⟩ := dp_of h.1 ra
    obtain ⟨b1, b2, b3⟩ := dp_of h.2 rb
    refine ⟨_, _, a1, b1, by unfold SeqAt.shaped; rw [a2, decide_eq_true (by omega)]; rfl, by unfold SeqAt.shaped; rw [b2, decide_eq_true (by omega)]; rfl, ?_⟩
    rw [eqv_py h.1 h.2]
    exact q _ F H Grow.refl (by simp only [RV])
  · cases e
theorem p_ne : P2 K oNe (rNeD K) := by
  intro F H x y a b d Q ra rb e q
  unfold oNe at e; split at e
  · rename_i h
    rw [Bool.and_eq_true] at h
    cases e
    obtain ⟨a1, a2, a3⟩ := dp_of h.1 ra
    obtain ⟨b1, b2, b3⟩ := dp_of h.2 rb
    refine ⟨_, _, a1, b1, by unfold SeqAt.shaped; rw [a2, decide_eq_true (by omega)]; rfl, by unfold SeqAt.shaped; rw [b2, decide_eq_true (by omega)]; rfl, ?_⟩
    rw [eqv_py h.1 h.2]
    exact q _ F H Grow.refl (by simp only [RV])
  · cases e
theorem RV.isN {v : V} {d : D} (r : RV K F H v d) : decide (v = .non) = d.isN := by
  cases d with
  | non => simp only [RV] at r; subst r; rfl
  | bl b => simp only [RV] at r; subst r; rfl
  | int b => simp only [RV] at r; subst r; rfl
  | str b => simp only [RV] at r; rw [r.1]; rfl
  | tup l => simp only [RV] at r; obtain ⟨a, vs, rfl, _⟩ := r; rfl
  | lst l => simp only [RV] at r; obtain ⟨a, vs, rfl, _⟩ := r; rfl
  | ins c ns l => simp only [RV] at r; obtain ⟨a, dx, vs, rfl, _⟩ := r; rfl
  | own t d => simp only [RV] at r
  | exn c ns d => simp only [RV] at r
  | dic ns => simp only [RV] at r; obtain ⟨a, rfl, _⟩ := r; rfl
  | exv c ns d => simp only [RV] at r; obtain ⟨a, dd, fs, rfl, _⟩ := r; rfl
  | scr ns => simp only [RV] at r; obtain ⟨a, rfl, _⟩ := r; rfl
theorem p_isN : P2 K oIsN (fun x y H Q => y = .non ∧ Q (.bl (decide (x = .non))) H) := by
  intro F H x y a b d Q ra rb e q
  unfold oIsN at e; split at e
  · split at e
    · cases e
    · cases e
      simp only [RV] at rb
      exact ⟨rb, by rw [ra.isN]; exact q _ F H Grow.refl (by simp only [RV])⟩
  · cases e
theorem p_notN : P2 K oNotN (fun x y H Q => y = .non ∧ Q (.bl (!decide (x = .non))) H) := by
  intro F H x y a b d Q ra rb e q
  unfold oNotN at e; split at e
  · split at e
    · cases e
    · cases e
      simp only [RV] at rb
      exact ⟨rb, by rw [ra.isN]; exact q _ F H Grow.refl (by simp only [RV])⟩
  · cases e
theorem p_inS : P2 K oInS (fun x y H Q => ∃ (c : Nat) (z : Str), x = .str ⟨#[c]⟩ ∧ y = .str z ∧ Q (.bl (decide (c ∈ z.cps.toList))) H) := by
  intro F H x y a b d Q ra rb e q
  unfold oInS at e; split at e
  · cases e; simp only [RV] at ra rb
    exact ⟨_, _, ra.1, rb.1, q _ F H Grow.refl (by simp only [RV]; rfl)⟩
  · cases e
theorem flat_of {v : V} {d : D} (r : RV K F H v d) (h : d.flat = true) : flatV v = true := by
  cases d with
  | non => simp only [RV] at r; subst r; rfl
  | bl b => simp only [RV] at r; subst r; rfl
  | int b => simp only [RV] at r; subst r; rfl
  | str b => simp only [RV] at r; rw [r.1]; rfl
  | _ => cases h
theorem eqV_of {v w : V} {a b : D} (ra : RV K F H v a) (rb : RV K F H w b) (ha : a.flat = true) (hb : b.flat = true) : eqV v w = a.eqv b := by
  cases a <;> cases b <;> first | (cases ha; done) | (cases hb; done) | skip
  all_goals simp only [RV] at ra rb
  all_goals first | (obtain ⟨rfl, _⟩ := ra) | subst ra
  all_goals first | (obtain ⟨rfl, _⟩ := rb) | subst rb
  all_goals first | rfl | (simp [eqV, D.eqv]; done) | (simp only [eqV, D.eqv]; exact S_beq _ _)
theorem inV_of {v : V} {a : D} (ra : RV K F H v a) (ha : a.flat = true) : ∀ {vs : List V} {ds : List D}, RVs K F H vs ds → ds.all D.flat = true → vs.all flatV = true ∧ inV v vs = inD a ds
  | [], [], _, _ => ⟨rfl, rfl⟩
  | w :: vs, d :: ds, r, h => by
    simp only [RVs] at r
    rw [List.all_cons, Bool.and_eq_true] at h
    obtain ⟨h1, h2⟩ := inV_of ra ha r.2 h.2
    refine ⟨by rw [List.all_cons, flat_of r.1 h.1, h1]; rfl, ?_⟩
    unfold inV inD at h2 ⊢
    rw [List.any_cons, List.any_cons, h2, eqV_of r.1 ra h.1 ha]
  | [], _ :: _, r, _ => by simp only [RVs] at r
  | _ :: _, [], r, _ => by simp only [RVs] at r
theorem p_inQ : P2 K oInQ (rIn K false) := by
  intro F H x y a b d Q ra rb e q
  unfold oInQ at e; split at e
  · split at e
    · rename_i h
      rw [Bool.and_eq_true] at h
      cases e; simp only [RV] at rb
      obtain ⟨p, vs, rfl, sq, rs⟩ := rb
      obtain ⟨h1, h2⟩ := inV_of ra h.1 rs h.2
      refine ⟨p, vs, rfl, .inr sq.seq, flat_of ra h.1, h1, ?_⟩
      rw [if_neg (by decide), h2]
      exact q _ F H Grow.refl (by simp only [RV])
    · cases e
  · split at e
    · rename_i h
      rw [Bool.and_eq_true] at h
      cases e; simp only [RV] at rb
      obtain ⟨p, vs, rfl, sq, rs⟩ := rb
      obtain ⟨h1, h2⟩ := inV_of ra h.1 rs h.2
      refine ⟨p, vs, rfl, .inl sq.seq, flat_of ra h.1, h1, ?_⟩
      rw [if_neg (by decide), h2]
      exact q _ F H Grow.refl (by simp only [RV])
    · cases e
  · cases e
theorem p_notInQ : P2 K oNotInQ (rIn K true) := by
  intro F H x y a b d Q ra rb e q
  unfold oNotInQ at e; split at e
  · split at e
    · rename_i h
      rw [Bool.and_eq_true] at h
      cases e; simp only [RV] at rb
      obtain ⟨p, vs, rfl, sq, rs⟩ := rb
      obtain ⟨h1, h2⟩ := inV_of ra h.1 rs h.2
      refine ⟨p, vs, rfl, .inr sq.seq, flat_of ra h.1, h1, ?_⟩
      rw [if_pos rfl, h2]
      exact q _ F H Grow.refl (by simp only [RV])
    · cases e
  · split at e
    · rename_i h
      rw [Bool.and_eq_true] at h
      cases e; simp only [RV] at rb
      obtain ⟨p, vs, rfl, sq, rs⟩ := rb
      obtain ⟨h1, h2⟩ := inV_of ra h.1 rs h.2
      refine ⟨p, vs, rfl, .inl sq.seq, flat_of ra h.1, h1, ?_⟩
      rw [if_pos rfl, h2]
      exact q _ F H Grow.refl (by simp only [RV])
    · cases e
  · cases e
theorem scr_sq {a : Addr} {ns : List Int} (h : (F a ∧ Rd H a (.lst (ns.map V.int))) ∨ SqL K (fun _ => none) a (ns.map V.int)) : SqL K H a (ns.map V.int) := by
  rcases h with h | (z | ⟨o, z⟩) | h
  · exact .inl h.2
  · cases z
  · cases z
  · exact .inr h
theorem p_neScr : P2 K oNeScr (rNeD K) := by
  intro F H x y a b d Q ra rb e q
  unfold oNeScr at e; split at e
  · cases e
    rename_i ns
    simp only [RV] at ra rb
    obtain ⟨p, rfl, sq⟩ := ra
    replace sq := scr_sq sq
    obtain ⟨p2, vs, rfl, sq2, rs⟩ := rb
    cases vs with
    | cons v vs => simp only [RVs] at rs
    | nil =>
      refine ⟨.list (ns.map PyData.int), .list [], .lst sq (_root_.Q.dpAll_ints ns), .lst sq2.seq .nil, PySem.W.ke_shaped_ints ns, rfl, ?_⟩
      have : PyData.eqv (.list (ns.map PyData.int)) (.list []) = ns.isEmpty := by cases ns <;> simp [PyData.eqv, PyData.eqvAll]
      rw [this]
      exact q _ F H Grow.refl (by simp only [RV])
  · cases e
theorem p_ixScr : P2 K oIxScr (rIxL K) := by
  intro F H x y a b d Q ra rb e q
  unfold oIxScr at e; split at e
  · rename_i ns i
    simp only [RV] at ra rb
    obtain ⟨p, rfl, sq⟩ := ra
    replace sq := scr_sq sq
    obtain ⟨k, h1, rfl⟩ := Option.map_eq_some_iff.mp e
    refine ⟨_, _, _, .int k, rfl, rb, sq, ?_, q _ F H Grow.refl (by simp only [RV])⟩
    unfold atD at h1
    obtain ⟨j, h2, h3⟩ := Option.bind_eq_some_iff.mp h1
    unfold atI
    rw [List.length_map, show ixN ns.length i = ixD ns.length i from rfl, h2, Option.bind_some, List.getElem?_map, h3]
    rfl
  · cases e
theorem p_lenScr : PN K oLenScr (fun xs H Q => ∃ p ys, xs = [.ref p] ∧ (SqL K H p ys ∨ SqT K H p ys) ∧ Q (.int ys.length) H) := by
  intro F H xs ds d Q r e q
  unfold oLenScr at e; split at e
  · cases e
    obtain ⟨v, rfl, rv⟩ := r.one
    simp only [RV] at rv
    obtain ⟨p, rfl, sq⟩ := rv
    replace sq := scr_sq sq
    exact ⟨p, _, rfl, .inl sq, by rw [List.length_map]; exact q _ F H Grow.refl (by simp only [RV])⟩
  · cases e
end
end U
namespace U
open PySem PySem.Spec PyProof.Rows L2
section
variable {K : PySem.W.Frag} {B : Bx} {F F' : Fz} {H H' : Hp} {W : WX}
theorem RV.newTup {p : Addr} {vs : List V} {ds : List D} (hp : H p = none) (r : RVs K F H vs ds) : RV K (fun a => F a ∨ a = p) (upd H p (.tup vs)) (.ref p) (.tup ds) := by
  simp only [RV]
  exact ⟨p, vs, rfl, .inl ⟨.inr rfl, .inl upd_same⟩, r.grow (Grow.new hp)⟩
def P2M (K : PySem.W.Frag) (o : D → D → Option D) (r : R2) : Prop := ∀ (F : Fz) (H : Hp) (x y : V) (a b d : D) (Q : VK), RV K F H x a → RV K F H y b → o a b = some d →
  (∀ p vs ds, d = .own 0 (.lst ds) → H p = none → RVs K F H vs ds → Q (.ref p) (upd H p (.lst vs))) → r x y H Q
def P1M (K : PySem.W.Frag) (o : D → Option D) (r : V → Hp → VK → Prop) : Prop := ∀ (F : Fz) (H : Hp) (x : V) (a d : D) (Q : VK), RV K F H x a → o a = some d →
  (∀ p vs ds, d = .own 0 (.lst ds) → H p = none → RVs K F H vs ds → Q (.ref p) (upd H p (.lst vs))) → r x H Q
def PNM (K : PySem.W.Frag) (o : List D → Option D) (r : List V → Hp → VK → Prop) : Prop := ∀ (F : Fz) (H : Hp) (x : List V) (a : List D) (d : D) (Q : VK), RVs K F H x a → o a = some d →
  (∀ p vs ds, d = .own 0 (.lst ds) → H p = none → RVs K F H vs ds → Q (.ref p) (upd H p (.lst vs))) → r x H Q
theorem new_lst {σ : L2.St} {ρ : Env} {A A1 : List Addr} {F1 : Fz} {H1 : Hp} {p : Addr} {vs : List V} {ds : List D} (s : Step A F H A1 F1 H1) (r : Rep K F1 H1 B σ ρ A1) (hp : H1 p = none) (rs : RVs K F1 H1 vs ds) :
    Rep K F1 (upd H1 p (.lst vs)) B σ ρ A1 ∧ OV K F1 (upd H1 p (.lst vs)) (.ref p) (.own 0 (.lst ds)) [p] ∧ (A1 ++ [p]).Nodup ∧ (∀ a ∈ [p], ¬ F1 a) ∧ Step A F H (A1 ++ [p]) F1 (upd H1 p (.lst vs)) := by
  have g : Grow F1 H1 F1 (upd H1 p (.lst vs)) := Grow.raw hp
  have hA : p ∉ A1 := fun z => by
    obtain ⟨o, q⟩ := r.sl.there p z
    rw [hp] at q; cases q
  have hF : ¬ F1 p := fun z => by
    obtain ⟨o, q⟩ := r.dm p z
    rw [hp] at q; cases q
  have s2 := s.trans (g.step (A := A1))
  refine ⟨r.grow g, ?_, ?_, fun a ha => ?_, ⟨s2.mono, s2.keep, s2.froz, fun a ha => ?_⟩⟩
  · simp only [OV]
    exact ⟨p, vs, [], rfl, upd_same, rfl, (rs.grow g).ovs⟩
  · rw [List.nodup_append]
    exact ⟨r.nd, by simp, fun a ha b hb z => hA (by rw [List.mem_singleton] at hb; rw [← hb, ← z]; exact ha)⟩
  · rw [List.mem_singleton] at ha; rw [ha]; exact hF
  · rcases List.mem_append.mp ha with z | z
    · exact s2.own a z
    · rw [List.mem_singleton] at z
      subst z
      by_cases q : a ∈ A
      · exact .inl q
      · refine .inr ?_
        cases z : H a with
        | none => rfl
        | some o => rw [s.keep a o z q] at hp; cases hp
theorem w_nM {o : List D → Option D} {r : List V → Hp → VK → Prop} {f : As} (p : PNM K o r) (σ : L2.St) (H : Hp) (Q : VK) (h : tDM K B W (eN o f) σ H Q) : tCB r (tDA K B W f) σ H Q := by
  obtain ⟨F, ρ, A, rp, h⟩ := h
  refine ⟨F, ρ, A, rp, ?_⟩
  unfold eN at h
  cases e1 : f ρ with
  | bad => rw [e1] at h; exact h
  | exc x ρ1 => rw [e1] at h; exact h
  | ok d1 ρ1 =>
    rw [e1] at h
    intro v1 F1 H1 A1 r1 v1r s1
    obtain ⟨d, ed, h⟩ := ok_inv h
    refine p F1 H1 v1 d1 d Q v1r ed fun q vs ds ed hq rs => ?_
    subst ed
    obtain ⟨k1, k2, k3, k4, k5⟩ := new_lst s1 r1 hq rs
    exact h _ _ _ _ _ k1 k2 k3 k4 k5
theorem w_tup {f : As} (σ : L2.St) (H : Hp) (Q : VK) (h : tDE K B W (eN mkTup f) σ H Q) : tTup (tDA K B W f) σ H Q := by
  refine w_n (r := fun xs H1 Q => xs.length ≤ sizeLine ∧ ∀ p, H1 p = none → Q (.ref p) (upd H1 p (.tup xs))) ?_ σ H Q h
  intro F H xs ds d Q r e q
  unfold mkTup at e; split at e
  · rename_i hl
    cases e
    exact ⟨by rw [r.len, sizeLine_eq]; exact hl, fun p hp => q _ _ _ (Grow.new hp) (RV.newTup hp r)⟩
  · cases e
theorem w_lst {f : As} (σ : L2.St) (H : Hp) (Q : VK) (h : tDM K B W (eN mkLst f) σ H Q) : tLst (tDA K B W f) σ H Q := by
  refine w_nM (r := fun xs H1 Q => xs.length ≤ sizeLine ∧ ∀ p, H1 p = none → Q (.ref p) (upd H1 p (.lst xs))) ?_ σ H Q h
  intro F H xs ds d Q r e q
  unfold mkLst at e; split at e
  · rename_i hl
    cases e
    exact ⟨by rw [r.len, sizeLine_eq]; exact hl, fun p hp => q p xs ds rfl hp r⟩
  · cases e
theorem S_append (l m : List Nat) : S l ++ S m = S (l ++ m) := by
  show Str.append (S l) (S m) = S (l ++ m)
  simp [Str.append, S]
theorem chars_app {l m : List Nat} (h : chars l) (h' : chars m) : chars (l ++ m) := fun c hc => (List.mem_append.mp hc).elim (h c) (h' c)
theorem RV.strS {l : List Nat} (h : chars l) : RV K F H (.str (S l)) (.str l) := by simp only [RV]; exact ⟨trivial, h⟩
theorem p_addS : P2 K oAddS (fun x y H Q => ∃ i j, x = .str i ∧ y = .str j ∧ i.length + j.length ≤ sizeLine ∧ Q (.str (i ++ j)) H) := by
  intro F H x y a b d Q ra rb e q
  unfold oAddS at e; split at e
  · split at e
    · rename_i h
      cases e; simp only [RV] at ra rb
      refine ⟨_, _, ra.1, rb.1, by rw [S_length, S_length, sizeLine_eq]; exact h, ?_⟩
      rw [S_append]
      exact q _ F H Grow.refl (RV.strS (chars_app ra.2 rb.2))
    · cases e
  · cases e
theorem chars_rep {l : List Nat} {n : Nat} (h : chars l) : chars (List.replicate n l).flatten := fun c hc => by
  obtain ⟨m, hm, hc⟩ := List.mem_flatten.mp hc
  rw [List.eq_of_mem_replicate hm] at hc
  exact h c hc
theorem p_mulS : P2 K oMulS (fun x y H Q => ∃ z n, x = .str z ∧ y = .int n ∧ -9223372036854775808 ≤ n ∧ n < 9223372036854775808 ∧ z.length * n.toNat ≤ 16777216 ∧ Q (.str (_root_.Q.mulS z n)) H) := by
  intro F H x y a b d Q ra rb e q
  unfold oMulS at e; split at e
  · split at e
    · rename_i h
      cases e; simp only [RV] at ra rb
      refine ⟨_, _, ra.1, rb, h.1, h.2.1, by rw [S_length]; exact h.2.2, ?_⟩
      exact q _ F H Grow.refl (RV.strS (chars_rep ra.2))
    · cases e
  · cases e
def rCatR : R2 := fun x y H Q => ∃ l b xs zs, x = .ref l ∧ y = .ref b ∧ H l = some (.lst xs) ∧ H b = some (.lst zs) ∧ xs.length + zs.length ≤ sizeLine ∧ ∀ p, H p = none → Q (.ref p) (upd H p (.lst (xs ++ zs)))
theorem RVs.app : ∀ {vs ws : List V} {ds es : List D}, RVs K F H vs ds → RVs K F H ws es → RVs K F H (vs ++ ws) (ds ++ es)
  | [], _, [], _, _, h => h
  | _ :: _, _, _ :: _, _, h, h' => by
    simp only [RVs] at h
    simp only [List.cons_append, RVs]
    exact ⟨h.1, RVs.app h.2 h'⟩
  | [], _, _ :: _, _, h, _ => by simp only [RVs] at h
  | _ :: _, _, [], _, h, _ => by simp only [RVs] at h
theorem RVs.rep {vs : List V} {ds : List D} (r : RVs K F H vs ds) : ∀ n : Nat, RVs K F H (List.replicate n vs).flatten (List.replicate n ds).flatten
  | 0 => by simp [RVs]
  | n + 1 => by
    rw [List.replicate_succ, List.replicate_succ, List.flatten_cons, List.flatten_cons]
    exact r.app (RVs.rep r n)
theorem RVs.drop : ∀ {vs : List V} {ds : List D} (n : Nat), RVs K F H vs ds → RVs K F H (vs.drop n) (ds.drop n)
  | _, _, 0, h => h
  | [], [], _ + 1, h => h
  | _ :: _, _ :: _, n + 1, h => by simp only [RVs] at h; exact RVs.drop n h.2
  | [], _ :: _, _, h => by simp only [RVs] at h
  | _ :: _, [], _, h => by simp only [RVs] at h
theorem RVs.take : ∀ {vs : List V} {ds : List D} (n : Nat), RVs K F H vs ds → RVs K F H (vs.take n) (ds.take n)
  | _, _, 0, _ => by simp only [List.take_zero, RVs]
  | [], [], _ + 1, h => h
  | _ :: _, _ :: _, n + 1, h => by simp only [RVs] at h; simp only [List.take_succ_cons, RVs]; exact ⟨h.1, RVs.take n h.2⟩
  | [], _ :: _, _, h => by simp only [RVs] at h
  | _ :: _, [], _, h => by simp only [RVs] at h
theorem RVs.reverse : ∀ {vs : List V} {ds : List D}, RVs K F H vs ds → RVs K F H vs.reverse ds.reverse
  | [], [], h => h
  | _ :: _, _ :: _, h => by
    simp only [RVs] at h
    rw [List.reverse_cons, List.reverse_cons]
    exact (RVs.reverse h.2).snoc h.1
  | [], _ :: _, h => by simp only [RVs] at h
  | _ :: _, [], h => by simp only [RVs] at h
theorem sIx_eq (n d : Nat) (o : Option Int) : HT.sIx n d o = sIxD n d o := by cases o <;> rfl
theorem ixN_eq (n : Nat) (i : Int) : ixN n i = ixD n i := rfl
theorem p_repT : P2 K oRepT (rRepT K) := by
  intro F H x y a b d Q ra rb e q
  unfold oRepT at e; split at e
  · split at e
    · rename_i h
      cases e
      simp only [RV] at ra rb
      obtain ⟨p, vs, rfl, sq, rs⟩ := ra
      refine ⟨_, _, _, rfl, rb, sq.seq, fun z => ?_, h.1, h.2.1, by rw [rs.len]; exact h.2.2.2, fun p hp => q _ _ _ (Grow.new hp) (RV.newTup hp (rs.rep _))⟩
      have := rs.len
      rw [z] at this
      have h3 := h.2.2.1
      rw [← this] at h3
      cases h3
    · cases e
  · cases e
theorem atD_RVs {vs : List V} {ds : List D} {i : Int} {d : D} (r : RVs K F H vs ds) (e : atD ds i = some d) : ∃ v, atI vs i = some v ∧ RV K F H v d := by
  unfold atD at e
  unfold atI
  rw [ixN_eq, r.len]
  obtain ⟨j, h1, h2⟩ := Option.bind_eq_some_iff.mp e
  obtain ⟨v, h3, h4⟩ := getElem?_RVs r h2
  exact ⟨v, by rw [h1]; exact h3, h4⟩
theorem p_ixL : P2 K oIxL (rIxL K) := by
  intro F H x y a b d Q ra rb e q
  unfold oIxL at e; split at e
  · simp only [RV] at ra rb
    obtain ⟨p, vs, rfl, sq, rs⟩ := ra
    obtain ⟨v, h1, h2⟩ := atD_RVs rs e
    exact ⟨_, _, _, _, rfl, rb, sq.seq, h1, q _ F H Grow.refl h2⟩
  · cases e
theorem p_ixT : P2 K oIxT (rIxT K) := by
  intro F H x y a b d Q ra rb e q
  unfold oIxT at e; split at e
  · simp only [RV] at ra rb
    obtain ⟨p, vs, rfl, sq, rs⟩ := ra
    obtain ⟨v, h1, h2⟩ := atD_RVs rs e
    exact ⟨_, _, _, _, rfl, rb, sq.seq, h1, q _ F H Grow.refl h2⟩
  · cases e
theorem atD_mem {α : Type} {l : List α} {i : Int} {x : α} (e : atD l i = some x) : x ∈ l := by
  unfold atD at e
  obtain ⟨j, _, h2⟩ := Option.bind_eq_some_iff.mp e
  exact List.mem_of_getElem? h2
theorem p_ixS : P2 K oIxS rIxS := by
  intro F H x y a b d Q ra rb e q
  unfold oIxS at e; split at e
  · split at e
    · rename_i h
      obtain ⟨c, h1, rfl⟩ := Option.map_eq_some_iff.mp e
      simp only [RV] at ra rb
      exact ⟨_, _, c, ra.1, rb, by rw [S_length, sizeLine_eq]; exact h, h1, q _ F H Grow.refl (RV.strS (chars_one ra.2 (atD_mem h1)))⟩
    · cases e
  · cases e
theorem p_lenS : PN K oLenS (fun xs H Q => ∃ z, xs = [.str z] ∧ z.length ≤ sizeLine ∧ Q (.int z.length) H) := by
  intro F H xs ds d Q r e q
  unfold oLenS at e; split at e
  · split at e
    · rename_i h
      cases e
      obtain ⟨v, rfl, rv⟩ := r.one
      simp only [RV] at rv
      exact ⟨_, by rw [rv.1], by rw [S_length, sizeLine_eq]; exact h, by rw [S_length]; exact q _ F H Grow.refl (by simp only [RV])⟩
    · cases e
  · cases e
theorem p_lenQ : PN K oLenQ (fun xs H Q => ∃ p ys, xs = [.ref p] ∧ (SqL K H p ys ∨ SqT K H p ys) ∧ Q (.int ys.length) H) := by
  intro F H xs ds d Q r e q
  unfold oLenQ at e; split at e
  · cases e
    obtain ⟨v, rfl, rv⟩ := r.one
    simp only [RV] at rv
    obtain ⟨p, vs, rfl, sq, rs⟩ := rv
    exact ⟨p, vs, rfl, .inl sq.seq, by rw [rs.len]; exact q _ F H Grow.refl (by simp only [RV])⟩
  · cases e
    obtain ⟨v, rfl, rv⟩ := r.one
    simp only [RV] at rv
    obtain ⟨p, vs, rfl, sq, rs⟩ := rv
    exact ⟨p, vs, rfl, .inr sq.seq, by rw [rs.len]; exact q _ F H Grow.refl (by simp only [RV])⟩
  · cases e
theorem p_max2 : PN K oMax2 (fun xs H Q => ∃ i j, xs = [.int i, .int j] ∧ Q (.int (if j > i then j else i)) H) := by
  intro F H xs ds d Q r e q
  unfold oMax2 at e; split at e
  · cases e
    obtain ⟨v, w, rfl, r1, r2⟩ := r.two
    simp only [RV] at r1 r2
    exact ⟨_, _, by rw [r1, r2], q _ F H Grow.refl (by simp only [RV])⟩
  · cases e
theorem p_min2 : PN K oMin2 (fun xs H Q => ∃ i j, xs = [.int i, .int j] ∧ Q (.int (if j < i then j else i)) H) := by
  intro F H xs ds d Q r e q
  unfold oMin2 at e; split at e
  · cases e
    obtain ⟨v, w, rfl, r1, r2⟩ := r.two
    simp only [RV] at r1 r2
    exact ⟨_, _, by rw [r1, r2], q _ F H Grow.refl (by simp only [RV])⟩
  · cases e
theorem p_abs : PN K oAbs (fun xs H Q => ∃ i, xs = [.int i] ∧ Q (.int (if i < 0 then -i else i)) H) := by
  intro F H xs ds d Q r e q
  unfold oAbs at e; split at e
  · cases e
    obtain ⟨v, rfl, r1⟩ := r.one
    simp only [RV] at r1
    exact ⟨_, by rw [r1], q _ F H Grow.refl (by simp only [RV])⟩
  · cases e
theorem bools_V : ∀ {ds : List D} {ns : List Bool} {vs : List V}, boolsD ds = some ns → RVs K F H vs ds → vs = ns.map V.bl
  | [], ns, [], e, _ => by simp only [boolsD] at e; cases e; rfl
  | .bl i :: ds, ns, v :: vs, e, r => by
    simp only [boolsD] at e
    obtain ⟨ns', h1, rfl⟩ := Option.map_eq_some_iff.mp e
    simp only [RVs, RV] at r
    rw [r.1, bools_V h1 r.2]; rfl
  | _ :: _, _, [], _, r => by simp only [RVs] at r
  | [], _, _ :: _, _, r => by simp only [RVs] at r
  | .non :: _, _, _ :: _, e, _ => by simp [boolsD] at e
  | .int _ :: _, _, _ :: _, e, _ => by simp [boolsD] at e
  | .str _ :: _, _, _ :: _, e, _ => by simp [boolsD] at e
  | .tup _ :: _, _, _ :: _, e, _ => by simp [boolsD] at e
  | .lst _ :: _, _, _ :: _, e, _ => by simp [boolsD] at e
  | .ins _ _ _ :: _, _, _ :: _, e, _ => by simp [boolsD] at e
  | .own _ _ :: _, _, _ :: _, e, _ => by simp [boolsD] at e
  | .exn _ _ _ :: _, _, _ :: _, e, _ => by simp [boolsD] at e
  | .dic _ :: _, _, _ :: _, e, _ => by simp [boolsD] at e
  | .exv _ _ _ :: _, _, _ :: _, e, _ => by simp [boolsD] at e
  | .scr _ :: _, _, _ :: _, e, _ => by simp [boolsD] at e
theorem strs_V : ∀ {ds : List D} {ns : List (List Nat)} {vs : List V}, strsD ds = some ns → RVs K F H vs ds → vs = (ns.map S).map V.str ∧ ∀ l ∈ ns, chars l
  | [], ns, [], e, _ => by simp only [strsD] at e; cases e; exact ⟨rfl, fun l h => by cases h⟩
  | .str i :: ds, ns, v :: vs, e, r => by
    simp only [strsD] at e
    obtain ⟨ns', h1, rfl⟩ := Option.map_eq_some_iff.mp e
    simp only [RVs, RV] at r
    obtain ⟨h2, h3⟩ := strs_V h1 r.2
    refine ⟨by rw [r.1.1, h2]; rfl, fun l hl => ?_⟩
    rcases List.mem_cons.mp hl with z | z
    · rw [z]; exact r.1.2
    · exact h3 l z
  | _ :: _, _, [], _, r => by simp only [RVs] at r
  | [], _, _ :: _, _, r => by simp only [RVs] at r
  | .non :: _, _, _ :: _, e, _ => by simp [strsD] at e
  | .int _ :: _, _, _ :: _, e, _ => by simp [strsD] at e
  | .bl _ :: _, _, _ :: _, e, _ => by simp [strsD] at e
  | .tup _ :: _, _, _ :: _, e, _ => by simp [strsD] at e
  | .lst _ :: _, _, _ :: _, e, _ => by simp [strsD] at e
  | .ins _ _ _ :: _, _, _ :: _, e, _ => by simp [strsD] at e
  | .own _ _ :: _, _, _ :: _, e, _ => by simp [strsD] at e
  | .exn _ _ _ :: _, _, _ :: _, e, _ => by simp [strsD] at e
  | .dic _ :: _, _, _ :: _, e, _ => by simp [strsD] at e
  | .exv _ _ _ :: _, _, _ :: _, e, _ => by simp [strsD] at e
  | .scr _ :: _, _, _ :: _, e, _ => by simp [strsD] at e
theorem p_all : PN K oAll (rAll K) := by
  intro F H xs ds d Q r e q
  unfold oAll at e; split at e
  · obtain ⟨ns, h1, rfl⟩ := Option.map_eq_some_iff.mp e
    obtain ⟨v, rfl, rv⟩ := r.one
    simp only [RV] at rv
    obtain ⟨p, vs, rfl, sq, rs⟩ := rv
    exact ⟨p, ns, rfl, by rw [← bools_V h1 rs]; exact sq.seq, q _ F H Grow.refl (by simp only [RV])⟩
  · cases e
theorem p_any : PN K oAny (rAny K) := by
  intro F H xs ds d Q r e q
  unfold oAny at e; split at e
  · obtain ⟨ns, h1, rfl⟩ := Option.map_eq_some_iff.mp e
    obtain ⟨v, rfl, rv⟩ := r.one
    simp only [RV] at rv
    obtain ⟨p, vs, rfl, sq, rs⟩ := rv
    exact ⟨p, ns, rfl, by rw [← bools_V h1 rs]; exact sq.seq, q _ F H Grow.refl (by simp only [RV])⟩
  · cases e
theorem p_int : PN K oInt (fun xs H Q => (∃ i, xs = [.int i] ∧ Q (.int i) H) ∨ ∃ k, xs = [.bl k] ∧ Q (.int (if k then 1 else 0)) H) := by
  intro F H xs ds d Q r e q
  unfold oInt at e; split at e
  · cases e
    obtain ⟨v, rfl, r1⟩ := r.one
    simp only [RV] at r1
    exact .inl ⟨_, by rw [r1], q _ F H Grow.refl (by simp only [RV])⟩
  · cases e
    obtain ⟨v, rfl, r1⟩ := r.one
    simp only [RV] at r1
    exact .inr ⟨_, by rw [r1], q _ F H Grow.refl (by simp only [RV])⟩
  · cases e
theorem p_tupOf : PN K oTupOf (fun xs H Q => ∃ p ys, xs = [.ref p] ∧ ((SqL K H p ys ∧ ∀ l, H l = none → Q (.ref l) (upd H l (.tup ys))) ∨ (SqT K H p ys ∧ Q (.ref p) H))) := by
  intro F H xs ds d Q r e q
  unfold oTupOf at e; split at e
  · cases e
    obtain ⟨v, rfl, rv⟩ := r.one
    simp only [RV] at rv
    obtain ⟨p, vs, rfl, sq, rs⟩ := rv
    exact ⟨p, vs, rfl, .inl ⟨sq.seq, fun l hl => q _ _ _ (Grow.new hl) (RV.newTup hl rs)⟩⟩
  · cases e
    obtain ⟨v, rfl, rv⟩ := r.one
    have rv' := rv
    simp only [RV] at rv
    obtain ⟨p, vs, rfl, sq, rs⟩ := rv
    exact ⟨p, vs, rfl, .inr ⟨sq.seq, q _ F H Grow.refl rv'⟩⟩
  · cases e
end
end U
namespace U
open PySem PySem.Spec PyProof.Rows L2
section
variable {K : PySem.W.Frag} {B : Bx} {F F' : Fz} {H H' : Hp} {W : WX}
def tDO (K : PySem.W.Frag) (B : Bx) (W : WX) (f : Env → OR) : TO := fun σ H Q => ∃ F ρ A, Rep K F H B σ ρ A ∧ match f ρ with
  | .ok o ρ' => ∀ F' H' A', Rep K F' H' B σ ρ' A' → Step A F H A' F' H' → Q o H'
  | .exc x ρ' => xendE K B W σ A F H x ρ'
  | .bad => False
theorem _root_.L2.PO.weak {X : Cx} {e : Option Expr} {t t' : TO} (h : PO X e t) (w : ∀ σ H Q, t' σ H Q → t σ H Q) : PO X e t' := ⟨fun pins s σ H Q I q => h.run pins s σ H Q I (w σ H Q q)⟩
theorem w_ponone (σ : L2.St) (H : Hp) (Q : Option Int → Hp → Prop) (h : tDO K B W (part none) σ H Q) : tNoPart σ H Q := by
  obtain ⟨F, ρ, A, rp, h⟩ := h
  exact h F H A rp Step.refl
theorem w_posome {f : E} (σ : L2.St) (H : Hp) (Q : Option Int → Hp → Prop) (h : tDO K B W (part (some f)) σ H Q) : tPart (tDE K B W f) σ H Q := by
  obtain ⟨F, ρ, A, rp, h⟩ := h
  refine ⟨F, ρ, A, rp, ?_⟩
  simp only [part] at h
  cases e1 : f ρ with
  | bad => rw [e1] at h; exact h
  | exc x ρ1 => rw [e1] at h; exact h
  | ok d1 ρ1 =>
    rw [e1] at h
    intro v1 F1 H1 A1 r1 v1r s1
    cases d1 with
    | int i => simp only [RV] at v1r; exact ⟨i, v1r, h F1 H1 A1 r1 s1⟩
    | _ => exact h.elim
def P3 (K : PySem.W.Frag) (o : D → Option Int → Option Int → Option D) (r : V → Option Int → Option Int → Hp → VK → Prop) : Prop := ∀ (F : Fz) (H : Hp) (x : V) (l u : Option Int) (a d : D) (Q : VK), RV K F H x a → o a l u = some d → (∀ v F' H', Grow F H F' H' → RV K F' H' v d → Q v H') → r x l u H Q
def P3M (K : PySem.W.Frag) (o : D → Option Int → Option Int → Option D) (r : V → Option Int → Option Int → Hp → VK → Prop) : Prop := ∀ (F : Fz) (H : Hp) (x : V) (l u : Option Int) (a d : D) (Q : VK), RV K F H x a → o a l u = some d →
  (∀ p vs ds, d = .own 0 (.lst ds) → H p = none → RVs K F H vs ds → Q (.ref p) (upd H p (.lst vs))) → r x l u H Q
theorem w_sl {o : D → Option Int → Option Int → Option D} {r : V → Option Int → Option Int → Hp → VK → Prop} {f : E} {lo hi : Option E} (p : P3 K o r) (σ : L2.St) (H : Hp) (Q : VK) (h : tDE K B W (eSl o f lo hi) σ H Q) : tSl r (tDE K B W f) (tDO K B W (part lo)) (tDO K B W (part hi)) σ H Q := by
  obtain ⟨F, ρ, A, rp, h⟩ := h
  refine ⟨F, ρ, A, rp, ?_⟩
  unfold eSl at h
  cases e1 : f ρ with
  | bad => rw [e1] at h; exact h
  | exc x ρ1 => rw [e1] at h; exact h
  | ok d1 ρ1 =>
    rw [e1] at h
    intro v1 F1 H1 A1 r1 v1r s1
    refine ⟨F1, ρ1, A1, r1, ?_⟩
    simp only [ER.bind] at h
    cases e2 : part lo ρ1 with
    | bad => rw [e2] at h; exact h
    | exc x ρ2 => rw [e2] at h; exact h.before s1
    | ok l ρ2 =>
      rw [e2] at h
      simp only at h
      intro F2 H2 A2 r2 s2
      refine ⟨F2, ρ2, A2, r2, ?_⟩
      cases e3 : part hi ρ2 with
      | bad => rw [e3] at h; exact h
      | exc x ρ3 => rw [e3] at h; exact h.before (s1.trans s2)
      | ok u ρ3 =>
        rw [e3] at h
        intro F3 H3 A3 r3 s3
        obtain ⟨d, ed, h⟩ := ok_inv h
        exact p F3 H3 v1 l u d1 d Q ((v1r.step r1 s2).step r2 s3) ed fun v F' H' g vr => h v F' H' A3 (r3.grow g) vr (((s1.trans s2).trans s3).trans g.step)
theorem mem_cut {α : Type} {l : List α} {lo hi : Option Int} {x : α} (h : x ∈ cutD l lo hi) : x ∈ l := List.mem_of_mem_drop (List.mem_of_mem_take h)
theorem p_slS : P3 K oSlS rSlS := by
  intro F H x l u a d Q ra e q
  unfold oSlS at e; split at e
  · split at e
    · rename_i ls h
      cases e; simp only [RV] at ra
      refine ⟨_, ra.1, by rw [S_length, sizeLine_eq]; exact h, ?_⟩
      have ec : cutS (S ls) l u = S (cutD ls l u) := by
        unfold cutS cutD S
        rw [sIx_eq, sIx_eq]
        simp [Str.length]
      rw [ec]
      exact q _ F H Grow.refl (RV.strS fun c hc => ra.2 c (mem_cut hc))
    · cases e
  · cases e
def PM1 (K : PySem.W.Frag) (o : D → D → Option D) (r : V → List V → Hp → VK → Prop) : Prop := ∀ (F : Fz) (H : Hp) (s : List Nat) (y : V) (b d : D) (Q : VK), chars s → RV K F H y b → o (.str s) b = some d → (∀ v F' H', Grow F H F' H' → RV K F' H' v d → Q v H') → r (.str (S s)) [y] H Q
theorem w_m1 {o : D → D → Option D} {r : V → List V → Hp → VK → Prop} {f g : E} (p : PM1 K o r) (σ : L2.St) (H : Hp) (Q : VK) (h : tDE K B W (eMs o f g) σ H Q) : tM1 r (tDE K B W f) (tDE K B W g) σ H Q := by
  obtain ⟨F, ρ, A, rp, h⟩ := h
  refine ⟨F, ρ, A, rp, ?_⟩
  unfold eMs at h
  cases e1 : f ρ with
  | bad => rw [e1] at h; exact h
  | exc x ρ1 => rw [e1] at h; exact h
  | ok d1 ρ1 =>
    rw [e1] at h
    intro v1 F1 H1 A1 r1 v1r s1
    cases d1 with
    | str s =>
      simp only [RV] at v1r
      obtain ⟨rfl, hc⟩ := v1r
      refine ⟨⟨_, rfl⟩, F1, ρ1, A1, r1, ?_⟩
      simp only [ER.bind] at h
      cases e2 : g ρ1 with
      | bad => rw [e2] at h; exact h
      | exc x ρ2 => rw [e2] at h; exact h.before s1
      | ok d2 ρ2 =>
        rw [e2] at h
        intro v2 F2 H2 A2 r2 v2r s2
        obtain ⟨d, ed, h⟩ := ok_inv h
        exact p F2 H2 s v2 d2 d Q hc v2r ed fun v F' H' g vr => h v F' H' A2 (r2.grow g) vr ((s1.trans s2).trans g.step)
    | _ => exact h.elim
theorem map_S_tl (ys : List (List Nat)) : (ys.map S).map TL.tl = ys := by
  rw [List.map_map]
  conv => rhs; rw [← List.map_id ys]
  exact List.map_congr_left fun l _ => by simp [TL.tl, S]
theorem joinL_eq (a : List Nat) : ∀ ys : List (List Nat), TL.joinL a ys = joinD a ys
  | [] => rfl
  | [p] => by simp [TL.joinL, joinD]
  | p :: q :: r => by simp [TL.joinL, joinD, joinL_eq a (q :: r)]
theorem join_S (a : List Nat) (ys : List (List Nat)) : Txt.join (S a) (ys.map S) = S (joinD a ys) := by
  rw [TL.join_eq]
  have h := TL.tl_join (S a) (ys.map S)
  rw [map_S_tl, show TL.tl (S a) = a by simp [TL.tl, S], joinL_eq] at h
  rw [← h]
  obtain ⟨c⟩ := Str.join (S a) (ys.map S)
  simp [S, TL.tl]
theorem chars_join {a : List Nat} (ha : chars a) : ∀ {ys : List (List Nat)}, (∀ l ∈ ys, chars l) → chars (joinD a ys)
  | [], _ => fun c hc => by simp [joinD] at hc
  | [p], h => by simp only [joinD]; exact h p List.mem_cons_self
  | p :: q :: r, h => by
    simp only [joinD]
    exact chars_app (chars_app (h p List.mem_cons_self) ha) (chars_join ha fun l hl => h l (List.mem_cons_of_mem _ hl))
theorem p_join : PM1 K oJoin (fun x xs H Q => ∃ a p, ∃ ys : List Str, x = .str a ∧ xs = [.ref p] ∧ (SqL K H p (ys.map V.str) ∨ SqT K H p (ys.map V.str)) ∧
      (ys.map (·.length)).sum + ys.length * a.length ≤ 16777216 ∧ Q (.str (Txt.join a ys)) H) := by
  intro F H s y b d Q hc rb e q
  have len : ∀ ys : List (List Nat), ((ys.map S).map (·.length)).sum + (ys.map S).length * (S s).length = (ys.map List.length).sum + ys.length * s.length := fun ys => by
    rw [List.map_map, List.length_map, S_length]
    have e : (ys.map ((fun x : Str => x.length) ∘ S)) = ys.map List.length := List.map_congr_left fun l _ => S_length l
    rw [← e]
  unfold oJoin at e; split at e
  · rename_i a l ea
    cases ea
    obtain ⟨ys, h1, h2⟩ := Option.bind_eq_some_iff.mp e
    split at h2
    · rename_i hz
      cases h2
      simp only [RV] at rb
      obtain ⟨p, vs, rfl, sq, rs⟩ := rb
      obtain ⟨h3, h4⟩ := strs_V h1 rs
      subst h3
      exact ⟨_, p, ys.map S, rfl, rfl, .inl sq.seq, by rw [len]; exact hz, by rw [join_S]; exact q _ F H Grow.refl (RV.strS (chars_join hc h4))⟩
    · cases h2
  · rename_i a l ea
    cases ea
    obtain ⟨ys, h1, h2⟩ := Option.bind_eq_some_iff.mp e
    split at h2
    · rename_i hz
      cases h2
      simp only [RV] at rb
      obtain ⟨p, vs, rfl, sq, rs⟩ := rb
      obtain ⟨h3, h4⟩ := strs_V h1 rs
      subst h3
      exact ⟨_, p, ys.map S, rfl, rfl, .inr sq.seq, by rw [len]; exact hz, by rw [join_S]; exact q _ F H Grow.refl (RV.strS (chars_join hc h4))⟩
    · cases h2
  · cases e
theorem ty_of {v : V} {d : D} {n : String} (r : RV K F H v d) (h : tyName d = some n) : TyX K H v (.type n) := by
  cases d with
  | non => simp only [tyName] at h; cases h; simp only [RV] at r; subst r; exact .base .non
  | bl b => simp only [tyName] at h; cases h; simp only [RV] at r; subst r; exact .base (.bl b)
  | int b => simp only [tyName] at h; cases h; simp only [RV] at r; subst r; exact .base (.int b)
  | str b => simp only [tyName] at h; cases h; simp only [RV] at r; rw [r.1]; exact .base (.str _)
  | tup l =>
    simp only [tyName] at h; cases h; simp only [RV] at r
    obtain ⟨a, vs, rfl, sq, _⟩ := r
    rcases sq with ⟨_, sq | ⟨o, sq⟩⟩ | ⟨o, its, n, h1, h2, _⟩
    · exact .base (.tup sq)
    · exact .fTuple sq
    · exact .kTuple h1 h2
  | lst l => simp only [tyName] at h; cases h; simp only [RV] at r; obtain ⟨a, vs, rfl, sq, _⟩ := r; exact .base (.lst sq.2)
  | dic l => simp only [tyName] at h; cases h; simp only [RV] at r; obtain ⟨a, rfl, _, e⟩ := r; exact .base (.dK e)
  | _ => simp only [tyName] at h; cases h
theorem own_at {σ : L2.St} {ρ : Env} {A : List Addr} {i t : Nat} {l : List D} (r : Rep K F H B σ ρ A) (e : ρ[i]? = some (some (.own t (.lst l)))) : ∃ a vs A', σ[i]? = some (some (.ref a)) ∧ H a = some (.lst vs) ∧ a ∈ A ∧ OVs K F H vs l A' := by
  obtain ⟨v, A1, h1, h2, h3⟩ := r.sl.get e
  obtain ⟨o, a, rfl, m, _⟩ := h2.root
  simp only [OV] at o
  obtain ⟨a', vs, A', ev, hs, eA, ro⟩ := o
  cases ev
  exact ⟨a, vs, A', h1, hs, h3 a m, ro⟩
theorem OVs.snoc : ∀ {vs : List V} {ds : List D} {A : List Addr} {v : V} {d : D}, OVs K F H vs ds A → RV K F H v d → OVs K F H (vs ++ [v]) (ds ++ [d]) A
  | [], [], A, _, _, h, r => by
    simp only [OVs] at h
    subst h
    simp only [List.nil_append, OVs]
    exact ⟨[], [], r.own, rfl, rfl⟩
  | _ :: _, _ :: _, _, _, _, h, r => by
    simp only [OVs] at h
    obtain ⟨A1, A2, h1, h2, e⟩ := h
    simp only [List.cons_append, OVs]
    exact ⟨A1, A2, h1, h2.snoc r, e⟩
  | [], _ :: _, _, _, _, h, _ => by simp only [OVs] at h
  | _ :: _, [], _, _, _, h, _ => by simp only [OVs] at h
theorem OVs.len : ∀ {vs : List V} {ds : List D} {A : List Addr}, OVs K F H vs ds A → vs.length = ds.length
  | [], [], _, _ => rfl
  | _ :: _, _ :: _, _, h => by
    simp only [OVs] at h
    obtain ⟨A1, A2, h1, h2, e⟩ := h
    simp [OVs.len h2]
  | [], _ :: _, _, h => by simp only [OVs] at h
  | _ :: _, [], _, h => by simp only [OVs] at h
theorem OVs.get : ∀ {vs : List V} {ds : List D} {A : List Addr} {j : Nat} {d : D}, OVs K F H vs ds A → ds[j]? = some d → ∃ v A1, vs[j]? = some v ∧ OV K F H v d A1
  | _ :: _, _ :: _, _, 0, _, h, e => by
    simp only [OVs] at h
    obtain ⟨A1, A2, h1, h2, _⟩ := h
    simp at e; subst e
    exact ⟨_, A1, rfl, h1⟩
  | _ :: _, _ :: _, _, j + 1, _, h, e => by
    simp only [OVs] at h
    obtain ⟨A1, A2, h1, h2, _⟩ := h
    obtain ⟨v, A3, h3, h4⟩ := OVs.get h2 (j := j) (by simpa using e)
    exact ⟨v, A3, by simpa using h3, h4⟩
  | [], [], _, _, _, _, e => by simp at e
  | [], _ :: _, _, _, _, h, _ => by simp only [OVs] at h
  | _ :: _, [], _, _, _, h, _ => by simp only [OVs] at h
theorem OVs.atD {vs : List V} {ds : List D} {A : List Addr} {i : Int} {d : D} (o : OVs K F H vs ds A) (e : U.atD ds i = some d) (hm : d.isMut = false) : ∃ v, atI vs i = some v ∧ RV K F H v d := by
  unfold U.atD at e
  unfold atI
  rw [ixN_eq, OVs.len o]
  obtain ⟨j, h1, h2⟩ := Option.bind_eq_some_iff.mp e
  obtain ⟨v, A1, h3, h4⟩ := OVs.get o h2
  exact ⟨v, by rw [h1]; exact h3, (h4.plain hm).2⟩
theorem Rep.chg {σ : L2.St} {ρ : Env} {A : List Addr} {i t : Nat} {l l' : List D} {a : Addr} {vs vs' : List V} (r : Rep K F H B σ ρ A) (e : ρ[i]? = some (some (.own t (.lst l)))) (es : σ[i]? = some (some (.ref a))) (ha : H a = some (.lst vs))
    (ho : ∀ A', OVs K F H vs l A' → OVs K F H vs' l' A') : Rep K F (upd H a (.lst vs')) B σ (ρ.set i (some (.own t (.lst l')))) A ∧ Step A F H A F (upd H a (.lst vs')) := by
  obtain ⟨v, A1, L, R, h1, h2, h3, h4⟩ := r.sl.split e
  subst h3
  rw [es] at h1
  cases h1
  simp only [OVo] at h2
  obtain ⟨o, a', ev, m, p⟩ := h2.root
  cases ev
  simp only [OV] at o
  obtain ⟨a', vs0, A', ev, hs, eA, ro⟩ := o
  cases ev
  rw [ha] at hs
  cases hs
  subst eA
  have nf : ¬ F a := r.nf a (by simp)
  have nd := r.nd
  simp only [List.nodup_append, List.nodup_cons, List.mem_append, List.mem_cons] at nd
  have off : ∀ b o, (F b ∨ b ∈ L ∨ b ∈ R) → H b = some o → upd H a (.lst vs') b = some o := fun b o hb he => by
    rw [upd_ne]; exact he
    intro z; subst z
    rcases hb with hb | hb | hb
    · exact nf hb
    · exact nd.1.2.2 b hb b (.inl rfl) rfl
    · exact nd.2.2 b (.inr (.inl rfl)) b hb rfl
  have q := h4 (F' := F) (H' := upd H a (.lst vs')) (v' := some (.ref a)) (d' := some (.own t (.lst l'))) (A' := a :: A') (fun _ h => h) off (by
    simp only [OVo]
    refine OVp.tag ?_ rfl p
    simp only [OV]
    exact ⟨a, vs', A', rfl, upd_same, rfl, (ho A' ro).stay (fun _ h => h) fun b o hb he => by
      rw [upd_ne]; exact he
      intro z; subst z
      rcases hb with hb | hb
      · exact nf hb
      · exact nd.1.2.1.1 hb⟩)
  have ez : σ.set i (some (.ref a)) = σ := by
    apply List.ext_getElem?
    intro j
    by_cases c : i = j
    · subst c
      rw [List.getElem?_set_self (List.getElem?_eq_some_iff.mp es).1, es]
    · rw [List.getElem?_set_ne c]
  rw [ez] at q
  refine ⟨⟨q, r.nd, r.nf, fun b hb => ?_⟩, ⟨fun _ h => h, fun b o he n => ?_, fun b h => .inl h, fun b h => .inl h⟩⟩
  · by_cases c : b = a
    · subst c; exact absurd hb nf
    · rw [upd_ne c]; exact r.dm b hb
  · rw [upd_ne]; exact he
    intro z; subst z
    exact n (by simp)
theorem isOL_some {o : Option (Option D)} (h : isOL o = true) : ∃ t l, o = some (some (.own t (.lst l))) := by
  unfold isOL at h
  split at h
  · exact ⟨_, _, rfl⟩
  · cases h
theorem w_ixO {i : Nat} {f : E} (σ : L2.St) (H : Hp) (Q : VK) (h : tDE K B W (eIxO i f) σ H Q) : tOp _root_.Q.rIxM (tVar i) (tDE K B W f) σ H Q := by
  obtain ⟨F, ρ, A, rp, h⟩ := h
  unfold eIxO at h
  by_cases c : isOL ρ[i]? = true
  case neg => rw [if_neg c] at h; exact h.elim
  case pos =>
    rw [if_pos c] at h
    obtain ⟨t0, l0, e0⟩ := isOL_some c
    obtain ⟨a, vs0, A0, s0, h0, _, _⟩ := own_at rp e0
    refine ⟨.ref a, s0, F, ρ, A, rp, ?_⟩
    cases e1 : f ρ with
    | bad => rw [e1] at h; exact h
    | exc x ρ1 => rw [e1] at h; exact h
    | ok d1 ρ1 =>
      rw [e1] at h
      simp only [ER.bind] at h
      intro v1 F1 H1 A1 r1 v1r s1
      split at h
      · rename_i h1
        split at h1
        · rename_i t l k e2
          split at h1
          · rename_i d e3
            split at h1
            · cases h1
            · rename_i hm
              cases h1
              obtain ⟨a', vs, A2, s2, h2, _, o2⟩ := own_at r1 e2
              rw [s0] at s2
              cases s2
              simp only [RV] at v1r
              obtain ⟨v, h3, h4⟩ := OVs.atD o2 e3 (by simpa using hm)
              exact ⟨a, vs, k, v, rfl, v1r, h2, h3, h v F1 H1 A1 r1 h4 s1⟩
          · cases h1
        · cases h1
      · rename_i h1
        split at h1
        · split at h1
          · split at h1 <;> cases h1
          · cases h1
        · cases h1
      · exact h.elim
theorem OVs.setP : ∀ {vs : List V} {l : List D} {A : List Addr} {m : Nat} {v : V} {d : D}, allPlain l = true → OVs K F H vs l A → RV K F H v d → OVs K F H (vs.set m v) (l.set m d) A
  | [], [], _, _, _, _, _, h, _ => h
  | w :: vs, e :: l, A, 0, v, d, hp, h, r => by
    simp only [OVs] at h
    obtain ⟨A1, A2, h1, h2, e⟩ := h
    simp only [allPlain, Bool.and_eq_true, Bool.not_eq_true'] at hp
    obtain ⟨z1, _⟩ := h1.plain hp.1
    subst z1
    simp only [List.set_cons_zero, OVs]
    exact ⟨[], A2, r.own, h2, e⟩
  | w :: vs, e :: l, A, m + 1, v, d, hp, h, r => by
    simp only [OVs] at h
    obtain ⟨A1, A2, h1, h2, e⟩ := h
    simp only [allPlain, Bool.and_eq_true] at hp
    simp only [List.set_cons_succ, OVs]
    exact ⟨A1, A2, h1, OVs.setP hp.2 h2 r, e⟩
  | [], _ :: _, _, _, _, _, _, h, _ => by simp only [OVs] at h
  | _ :: _, [], _, _, _, _, _, h, _ => by simp only [OVs] at h
theorem w_putO {i : Nat} {k f : E} (D : Ends) (σ : L2.St) (H : Hp) (h : tDS K B W (sPutO i k f) D σ H) : tAsg (tDE K B W f) (gSub (tVar i) (tDE K B W k) rSetL) D σ H := by
  obtain ⟨F, ρ, A, rp, h⟩ := h
  refine ⟨F, ρ, A, rp, ?_⟩
  unfold sPutO at h
  cases e1 : f ρ with
  | bad => rw [e1] at h; exact h
  | exc x ρ1 => rw [e1] at h; exact xend.expr h
  | ok d1 ρ1 =>
    rw [e1] at h
    intro v1 F1 H1 A1 r1 v1r s1
    simp only [ER.binds] at h
    by_cases c : isOL ρ1[i]? = true
    case neg => rw [if_neg c] at h; exact h.elim
    case pos =>
      rw [if_pos c] at h
      obtain ⟨t0, l0, e0⟩ := isOL_some c
      obtain ⟨a, vs0, A0, s0, h0, _, _⟩ := own_at r1 e0
      refine ⟨.ref a, s0, F1, ρ1, A1, r1, ?_⟩
      cases e2 : k ρ1 with
      | bad => rw [e2] at h; exact h
      | exc x ρ2 =>
        rw [e2] at h
        exact (xend.expr (send.before (D := D) (r := .ex x ρ2) h s1 rfl) : xendE K B W σ A1 F1 H1 x ρ2)
      | ok d2 ρ2 =>
        rw [e2] at h
        simp only at h
        intro v2 F2 H2 A2 r2 v2r s2
        split at h
        · rename_i h1
          split at h1
          · rename_i t l j e3
            split at h1
            · rename_i m e4
              split at h1
              · rename_i hp
                cases h1
                obtain ⟨a', vs, A3, s3, h3, _, o3⟩ := own_at r2 e3
                rw [s0] at s3
                cases s3
                simp only [RV] at v2r
                obtain ⟨r4, s4⟩ := r2.chg (l' := l.set m d1) (vs' := vs.set m v1) e3 s0 h3 fun A' o => o.setP hp (v1r.step r1 s2)
                exact ⟨a, vs, j, m, rfl, v2r, h3, by rw [OVs.len o3]; exact e4, h σ F2 _ A2 r4 ((s1.trans s2).trans s4) rfl⟩
              · cases h1
            · cases h1
          · cases h1
        all_goals first
          | exact h.elim
          | (rename_i h1
             split at h1
             · split at h1
               · split at h1 <;> cases h1
               · cases h1
             · cases h1)
end
end U
namespace U
open PySem PySem.Spec PyProof.Rows L2
section
variable {K : PySem.W.Frag} {B : Bx} {F F' : Fz} {H H' : Hp} {W : WX}
theorem OVps.len : ∀ {vs : List V} {ds : List D} {A : List Addr}, OVps K F H B vs ds A → vs.length = ds.length
  | [], [], _, _ => rfl
  | _ :: _, _ :: _, _, h => by
    simp only [OVps] at h
    obtain ⟨A1, A2, h1, h2, e⟩ := h
    simp [OVps.len h2]
  | [], _ :: _, _, h => by simp only [OVps] at h
  | _ :: _, [], _, h => by simp only [OVps] at h
theorem OVS.nones : ∀ m : Nat, OVS K F H B (List.replicate m none) (List.replicate m none) []
  | 0 => by simp only [List.replicate_zero, OVS]
  | m + 1 => by
    simp only [List.replicate_succ, OVS]
    exact ⟨[], [], by simp only [OVo], OVS.nones m, rfl⟩
theorem OVps.start (m : Nat) : ∀ {vs : List V} {ds : List D} {A : List Addr}, OVps K F H B vs ds A → OVS K F H B (vs.map some ++ List.replicate m none) (ds.map some ++ List.replicate m none) A
  | [], [], _, h => by
    simp only [OVps] at h
    subst h
    exact OVS.nones m
  | _ :: _, _ :: _, _, h => by
    simp only [OVps] at h
    obtain ⟨A1, A2, h1, h2, e⟩ := h
    simp only [List.map_cons, List.cons_append, OVS]
    exact ⟨A1, A2, by simp only [OVo]; exact h1, OVps.start m h2, e⟩
  | [], _ :: _, _, h => by simp only [OVps] at h
  | _ :: _, [], _, h => by simp only [OVps] at h
theorem OVS.take : ∀ {σ : L2.St} {ρ : Env} {A : List Addr} (n : Nat), OVS K F H B σ ρ A → ∃ A1 A2, A = A1 ++ A2 ∧ OVS K F H B (σ.take n) (ρ.take n) A1
  | _, _, A, 0, _ => ⟨[], A, rfl, by simp only [List.take_zero, OVS]⟩
  | [], [], A, n + 1, h => ⟨A, [], by simp, h⟩
  | _ :: _, _ :: _, _, n + 1, h => by
    simp only [OVS] at h
    obtain ⟨A1, A2, h1, h2, e⟩ := h
    obtain ⟨A3, A4, e2, h3⟩ := OVS.take n h2
    subst e e2
    refine ⟨A1 ++ A3, A4, by simp, ?_⟩
    simp only [List.take_succ_cons, OVS]
    exact ⟨A1, A3, h1, h3, rfl⟩
  | [], _ :: _, _, _, h => by simp only [OVS] at h
  | _ :: _, [], _, _, h => by simp only [OVS] at h
theorem fn_ok {CX : CXT} {P : Program} {w : World} {mg : Str → Option Value} {base : Heap} {x qual : Str} {params : Arguments} {body : List Stmt} {scope : Scope} {dvs : List V} {kws : List (Str × V)} {f : Addr} {fd : FuncData} {N ps : List Str} {k n m : Nat} {b : U.St}
    (Fd : FunD K x qual params body scope dvs kws f fd) (S : FnScope N ps scope) (hn : ps.length = n) (hN : N.length = n + m)
    (hb : ∀ (cdv : Value) (A : Around) (outer : List PySem.Env) (s : Shared) (H : Hp) (E : XK) (B : Bx), Room k (A.deeper (envOfC qual scope s.heap.objs.size f cdv)) →
      PSs (cxOf CX P w K mg base N qual scope f cdv A outer s H E) body (tDS K B (fun cls d _ H => E cls d H) b)) : FnOk P w K mg base CX (k + 1) f fd ps (spD K (fnOf n m b)) := by
  refine Fd.ok S (fun vs H Q E h => ?_) (fun cdv A outer s H vs Q E hr h => ?_)
  · obtain ⟨F, ds, A, B, o, nd, nf, dm, h⟩ := h
    unfold fnOf at h
    by_cases c : ds.length = n
    · rw [o.len, c, hn]
    · rw [if_neg c] at h; exact h.elim
  · obtain ⟨F, ds, A', B, o, nd, nf, dm, h⟩ := h
    refine ⟨_, hb cdv A outer s H E B hr, ?_⟩
    unfold fnOf at h
    by_cases c : ds.length = n
    case neg => rw [if_neg c] at h; exact h.elim
    case pos =>
      rw [if_pos c] at h
      have hl := o.len
      have es : L2.start N vs = vs.map some ++ List.replicate m none := by
        unfold L2.start
        rw [hN, hl, c, Nat.add_sub_cancel_left]
      refine ⟨F, ds.map some ++ List.replicate m none, A', ⟨by rw [es]; exact o.start m, nd, nf, dm⟩, ?_⟩
      have fin : ∀ {ρ : Env} {σ' : L2.St} {F' : Fz} {H' : Hp} {A2 : List Addr}, Rep K F' H' B σ' ρ A2 → ∃ A3 A4, A2 = A3 ++ A4 ∧ OVS K F' H' B (σ'.take n) (ρ.take n) A3 := fun r => r.sl.take n
      cases e : b (ds.map some ++ List.replicate m none) with
      | bad => rw [e] at h; exact h
      | bk ρ => rw [e] at h; exact h.elim
      | ct ρ => rw [e] at h; exact h.elim
      | nx ρ =>
        rw [e] at h
        intro σ' F' H' A2 r st _
        obtain ⟨A3, A4, rfl, o3⟩ := fin r
        have nd' := r.nd
        simp only [List.nodup_append] at nd'
        exact h .non F' H' _ A3 [] o3 (by simpa using nd'.1) (fun a ha => r.nf a (List.mem_append_left _ (by simpa using ha))) r.dm (by simp only [OV, RV]; exact ⟨trivial, trivial⟩) (st.sub fun a ha => List.mem_append_left _ (by simpa using ha))
      | rt d ρ =>
        rw [e] at h
        intro v σ' F' H' A2 Ar r ov nda nfa st _
        obtain ⟨A3, A4, rfl, o3⟩ := fin r
        simp only [List.nodup_append, List.mem_append] at nda
        refine h v F' H' _ A3 Ar o3 ?_ (fun a ha => ?_) r.dm ov (st.sub fun a ha => ?_)
        · simp only [List.nodup_append]
          exact ⟨nda.1.1, nda.2.1, fun a ha b hb => nda.2.2 a (.inl ha) b hb⟩
        · rcases List.mem_append.mp ha with z | z
          · exact r.nf a (List.mem_append_left _ z)
          · exact nfa a z
        · simp only [List.mem_append] at ha ⊢
          exact ha.elim (fun z => .inl (.inl z)) .inr
      | ex x ρ =>
        rw [e] at h
        intro cls dd σ' F' H' A2 r xv st _
        obtain ⟨A3, A4, rfl, o3⟩ := fin r
        have nd' := r.nd
        simp only [List.nodup_append] at nd'
        exact h cls dd F' H' _ A3 o3 nd'.1 (fun a ha => r.nf a (List.mem_append_left _ ha)) r.dm xv (st.sub fun a ha => List.mem_append_left _ ha)
theorem w_raise0 {c : String} {C : Addr} (hC : C = He.ga K (Str.ofString c)) (D : Ends) (σ : L2.St) (H : Hp) (h : tDS K B W (sRaise c [] aNil) D σ H) : (fun (_ : Ends) σ H => (fun (_ : L2.St) (H : Hp) (Q : XK) => Q (.ref C) none H) σ H fun cls d H' => W cls d σ H') D σ H := by
  obtain ⟨F, ρ, A, rp, h⟩ := h
  exact h (.ref C) none σ F H A rp ⟨by rw [hC], .inl ⟨rfl, rfl, rfl⟩⟩ Step.refl rfl
theorem w_raise1 {c fld : String} {C : Addr} {f : As} (hC : C = He.ga K (Str.ofString c)) (h1 : ∀ ρ ds ρ', f ρ = .ok ds ρ' → ds.length = 1) (D : Ends) (σ : L2.St) (H : Hp) (h : tDS K B W (sRaise c [fld] f) D σ H) :
    (fun (_ : Ends) σ H => _root_.Q.tMk1 C (Str.ofString fld) (tDA K B W f) σ H fun cls d H' => W cls d σ H') D σ H := by
  obtain ⟨F, ρ, A, rp, h⟩ := h
  refine ⟨F, ρ, A, rp, ?_⟩
  unfold sRaise at h
  cases e1 : f ρ with
  | bad => rw [e1] at h; exact h
  | exc x ρ1 => rw [e1] at h; exact xend.expr h
  | ok ds ρ1 =>
    rw [e1] at h
    have hl := h1 ρ ds ρ1 e1
    intro vs F1 H1 A1 r1 vr s1
    match ds, hl, vr with
    | [d], _, vr =>
      obtain ⟨v, rfl, rv⟩ := vr.one
      refine ⟨v, rfl, fun p hp => ?_⟩
      have g : Grow F1 H1 (fun a => F1 a ∨ a = p) (upd H1 p (.xd [(Str.ofString fld, v)])) := Grow.new hp
      exact h (.ref C) (some p) σ _ _ A1 (r1.grow g) ⟨by rw [hC], .inr ⟨p, _, rfl, .inr rfl, upd_same, rfl, by simp only [List.map_cons, List.map_nil, RVs]; exact ⟨rv.grow g, trivial⟩⟩⟩ (s1.trans g.step) rfl
inductive HdOk (K : PySem.W.Frag) (B : Bx) : List Hd → List (Value × Option Nat × (Addr → Value → Option Addr → TS)) → Prop
  | nil : HdOk K B [] []
  | plain {c : String} {C : Addr} {s : U.St} {hs : List Hd} {l : List (Value × Option Nat × (Addr → Value → Option Addr → TS))} (hC : C = He.ga K (Str.ofString c)) (r : HdOk K B hs l) : HdOk K B (⟨c, none, s⟩ :: hs) ((.ref C, none, fun _ _ _ => tDS K B W0 s) :: l)
  | named {c : String} {C : Addr} {i : Nat} {s : U.St} {hs : List Hd} {l : List (Value × Option Nat × (Addr → Value → Option Addr → TS))} (hC : C = He.ga K (Str.ofString c)) (r : HdOk K B hs l) : HdOk K B (⟨c, some i, s⟩ :: hs) ((.ref C, some i, fun a cls d => tDS K (B.1, some (a, cls, d)) W0 s) :: l)
def TbOk (K : PySem.W.Frag) (t : Tb) : Prop := ∀ p ∈ t, PySem.W.exmOne K (.ref (He.ga K (Str.ofString p.1))) (.ref (He.ga K (Str.ofString p.2.1))) = some p.2.2
theorem TbOk.at {t : Tb} (h : TbOk K t) {a b : String} {r : Bool} (e : t.at a b = some r) : PySem.W.exmOne K (.ref (He.ga K (Str.ofString a))) (.ref (He.ga K (Str.ofString b))) = some r := by
  induction t with
  | nil => simp only [Tb.at] at e; cases e
  | cons p t ih =>
    obtain ⟨x, y, z⟩ := p
    simp only [Tb.at] at e
    split at e
    · rename_i c
      cases e
      have := h (x, y, r) List.mem_cons_self
      rw [c.1, c.2] at this
      exact this
    · exact ih (fun p hp => h p (List.mem_cons_of_mem _ hp)) e
theorem OVS.exn {x : Option (Addr × Value × Option Addr)} : ∀ {σ : L2.St} {ρ : Env} {A : List Addr}, noExn ρ = true → OVS K F H B σ ρ A → OVS K F H (B.1, x) σ ρ A
  | [], [], _, _, h => by simp only [OVS] at h ⊢; exact h
  | v :: _, d :: _, _, hn, h => by
    simp only [OVS] at h ⊢
    obtain ⟨A1, A2, h1, h2, e⟩ := h
    cases d with
    | none =>
      simp only [noExn] at hn
      exact ⟨A1, A2, by simp only [OVo] at h1 ⊢; exact h1, OVS.exn hn h2, e⟩
    | some d =>
      simp only [noExn, Bool.and_eq_true, Bool.not_eq_true'] at hn
      refine ⟨A1, A2, ?_, OVS.exn hn.2 h2, e⟩
      cases v with
      | none => simp only [OVo] at h1
      | some v =>
        simp only [OVo] at h1 ⊢
        unfold OVp at h1 ⊢
        split at h1
        · exact h1
        · cases hn.1
        · exact h1
  | [], _ :: _, _, _, h => by simp only [OVS] at h
  | _ :: _, [], _, _, h => by simp only [OVS] at h
theorem Rep.exn {σ : L2.St} {ρ : Env} {A : List Addr} (x : Option (Addr × Value × Option Addr)) (hn : noExn ρ = true) (r : Rep K F H B σ ρ A) : Rep K F H (B.1, x) σ ρ A := ⟨r.sl.exn hn, r.nd, r.nf, r.dm⟩
theorem Rep.unset {σ : L2.St} {ρ : Env} {A : List Addr} {i : Nat} (r : Rep K F H B σ ρ A) : ∃ A', Rep K F H B (σ.set i none) (ρ.set i none) A' ∧ ∀ b ∈ A', b ∈ A := by
  have := r.wipe [i]
  exact this
end
end U
namespace U
open PySem PySem.Spec PyProof.Rows L2
section
variable {X : Cx} {e : Expr} {B : Bx} {W : WX} {f g k : E} {st : Stmt}
abbrev DE (X : Cx) (B : Bx) (W : WX) (e : Expr) (f : E) : Prop := PE X e (tDE X.K B W f)
abbrev DM (X : Cx) (B : Bx) (W : WX) (e : Expr) (f : E) : Prop := PE X e (tDM X.K B W f)
abbrev DT (X : Cx) (B : Bx) (W : WX) (e : Expr) (f : E) : Prop := PT X e (tDT X.K B W f)
abbrev DA (X : Cx) (B : Bx) (W : WX) (es : List Expr) (f : As) : Prop := PA X es (tDA X.K B W f)
abbrev DG (X : Cx) (B : Bx) (W : WX) (es : List Expr) (g : List Ag) : Prop := PA X es (tDG X.K B W g)
abbrev DI (X : Cx) (B : Bx) (W : WX) (tg e : Expr) (f : Is) : Prop := PI X tg e (tDI X.K B W f)
abbrev DS (X : Cx) (B : Bx) (W : WX) (st : Stmt) (f : U.St) : Prop := PS X st (tDS X.K B W f)
abbrev DSs (X : Cx) (B : Bx) (W : WX) (st : List Stmt) (f : U.St) : Prop := PSs X st (tDS X.K B W f)
theorem d_var {i : Nat} (h : PE X e (tVar i)) : DE X B W e (eVar i) := h.weak w_var
theorem d_c {v : V} {d : D} (p : ∀ F H, RV X.K F H v d) (h : PE X e (tC v)) : DE X B W e (eC d) := h.weak (w_c p)
theorem c_int {K : PySem.W.Frag} {i : Int} (F : Fz) (H : Hp) : RV K F H (.int i) (.int i) := by simp only [RV]
theorem c_bl {K : PySem.W.Frag} {i : Bool} (F : Fz) (H : Hp) : RV K F H (.bl i) (.bl i) := by simp only [RV]
theorem c_non {K : PySem.W.Frag} (F : Fz) (H : Hp) : RV K F H .non .non := by simp only [RV]
def strIs (x : Str) (l : List Nat) : Bool := decide (x.cps.toList = l) && l.all fun c => decide (c < 1114112)
theorem c_str {K : PySem.W.Frag} {x : Str} {l : List Nat} (h : strIs x l = true) (F : Fz) (H : Hp) : RV K F H (.str x) (.str l) := by
  unfold strIs at h
  rw [Bool.and_eq_true] at h
  have e := of_decide_eq_true h.1
  simp only [RV]
  refine ⟨?_, fun c hc => ?_⟩
  · obtain ⟨c⟩ := x
    subst e
    simp [S]
  · exact of_decide_eq_true (List.all_eq_true.mp h.2 c hc)
theorem c_tup {K : PySem.W.Frag} {a : Addr} {vs : List V} {ds : List D} (h : ∀ H, SqT K H a vs) (r : ∀ F H, RVs K F H vs ds) (F : Fz) (H : Hp) : RV K F H (.ref a) (.tup ds) := by
  simp only [RV]
  refine ⟨a, vs, rfl, ?_, r F H⟩
  rcases h (fun _ => none) with (z | ⟨o, z⟩) | z
  · cases z
  · cases z
  · exact .inr z
theorem c_nil {K : PySem.W.Frag} (F : Fz) (H : Hp) : RVs K F H [] [] := by simp only [RVs]
theorem c_cons {K : PySem.W.Frag} {v : V} {d : D} {vs : List V} {ds : List D} (h : ∀ F H, RV K F H v d) (r : ∀ F H, RVs K F H vs ds) (F : Fz) (H : Hp) : RVs K F H (v :: vs) (d :: ds) := by simp only [RVs]; exact ⟨h F H, r F H⟩
theorem d_op {o : D → D → Option D} {r : R2} (p : P2 X.K o r) (h : PE X e (tOp r (tDE X.K B W f) (tDE X.K B W g))) : DE X B W e (eOp o f g) := h.weak (w_op p)
theorem d_un {o : D → Option D} {r : V → Hp → VK → Prop} (p : P1 X.K o r) (h : PE X e (tUn r (tDE X.K B W f))) : DE X B W e (eUn o f) := h.weak (w_un p)
theorem d_n {o : List D → Option D} {r : List V → Hp → VK → Prop} {a : As} (p : PN X.K o r) (h : PE X e (tCB r (tDA X.K B W a))) : DE X B W e (eN o a) := h.weak (w_n p)
theorem d_nM {o : List D → Option D} {r : List V → Hp → VK → Prop} {a : As} (p : PNM X.K o r) (h : PE X e (tCB r (tDA X.K B W a))) : DM X B W e (eN o a) := h.weak (w_nM p)
theorem d_tup {a : As} (h : PE X e (tTup (tDA X.K B W a))) : DE X B W e (eN mkTup a) := h.weak w_tup
theorem d_lst {a : As} (h : PE X e (tLst (tDA X.K B W a))) : DM X B W e (eN mkLst a) := h.weak w_lst
theorem d_and (h : PE X e (tAndV (tDE X.K B W f) (tDE X.K B W g))) : DE X B W e (eAnd f g) := h.weak w_and
theorem d_or (h : PE X e (tOrV (tDE X.K B W f) (tDE X.K B W g))) : DE X B W e (eOr f g) := h.weak w_or
theorem d_not (h : PE X e (tNotV (tDE X.K B W f))) : DE X B W e (eUn oNot f) := h.weak w_not
theorem d_if (h : PE X e (tIf (tDT X.K B W k) (tDE X.K B W f) (tDE X.K B W g))) : DE X B W e (eIf k f g) := h.weak w_if
theorem d_frz (h : DM X B W e f) : DE X B W e (eFrz f) := h.weak w_frz
theorem d_dm (h : DE X B W e f) : DM X B W e f := h.weak w_dm
theorem d_sl {o : D → Option Int → Option Int → Option D} {r : V → Option Int → Option Int → Hp → VK → Prop} {lo hi : Option E} (p : P3 X.K o r) (h : PE X e (tSl r (tDE X.K B W f) (tDO X.K B W (part lo)) (tDO X.K B W (part hi)))) : DE X B W e (eSl o f lo hi) := h.weak (w_sl p)
theorem d_po0 : PO X none (tDO X.K B W (part none)) := po_none.weak w_ponone
theorem d_po {e : Expr} (h : DE X B W e f) : PO X (some e) (tDO X.K B W (part (some f))) := (po_some h).weak w_posome
theorem d_m1 {o : D → D → Option D} {r : V → List V → Hp → VK → Prop} (p : PM1 X.K o r) (h : PE X e (tM1 r (tDE X.K B W f) (tDE X.K B W g))) : DE X B W e (eMs o f g) := h.weak (w_m1 p)
theorem d_ixO {i : Nat} (h : PE X e (tOp _root_.Q.rIxM (tVar i) (tDE X.K B W f))) : DE X B W e (eIxO i f) := h.weak w_ixO
theorem a_nil : DA X B W [] aNil := pa_nil.weak w_anil
theorem a_cons {es : List Expr} {r : As} (h : DE X B W e f) (hr : DA X B W es r) (hs : starEach (e :: es) X.env = (false, eval e X.env) :: starEach es X.env := by rfl) : DA X B W (e :: es) (aCons f r) := (pa_cons h hr hs).weak w_acons
theorem g_nil : DG X B W [] [] := pa_nil.weak w_gnil
theorem g_v {es : List Expr} {g : List Ag} (h : DE X B W e f) (hr : DG X B W es g) (hs : starEach (e :: es) X.env = (false, eval e X.env) :: starEach es X.env := by rfl) : DG X B W (e :: es) (.v f :: g) := (pa_cons h hr hs).weak w_gv
theorem g_b {es : List Expr} {g : List Ag} {i : Nat} (h : PE X e (tVar i)) (hr : DG X B W es g) (hs : starEach (e :: es) X.env = (false, eval e X.env) :: starEach es X.env := by rfl) : DG X B W (e :: es) (.b i :: g) := (pa_cons h hr hs).weak w_gb
theorem d_call {fn : Fn} {g : List Ag} {dd : List D} {dvs : List V} (hd : ∀ F H, RVs X.K F H dvs dd) (h : PE X e (tCallSD (spD X.K fn) dvs (WE W) (tDG X.K B W g))) : DM X B W e (eCall fn g dd) := h.weak (w_call hd)
theorem t_val (h : PT X e (tTest (tDE X.K B W f))) : DT X B W e f := h.weak w_tv
theorem t_valB (h : PT X e (tB (tDE X.K B W f))) : DT X B W e f := h.weak w_tv
theorem t_and (h : PW X e (tAnd (tDT X.K B W f) (tDT X.K B W g))) : PW X e (tDT X.K B W (eAnd f g)) := h.weak w_tand
theorem t_or (h : PW X e (tOr (tDT X.K B W f) (tDT X.K B W g))) : PW X e (tDT X.K B W (eOr f g)) := h.weak w_tor
theorem t_not (h : PT X e (L2.tNot (tDT X.K B W f))) : DT X B W e (eUn oNot f) := h.weak w_tnot
theorem t_op {o : D → D → Option D} {r : R2} (p : P2 X.K o r) (h : PT X e (tTest (tOp r (tDE X.K B W f) (tDE X.K B W g)))) : DT X B W e (eOp o f g) := t_val (h.weak fun σ H Q q => w_op p σ H _ q)
variable {b c : U.St}
theorem s_nil : DSs X B W [] sNil := pss_nil.weak w_nil
theorem s_cons {sts : List Stmt} (h : DS X B W st b) (hr : DSs X B W sts c) : DSs X B W (st :: sts) (sSeq b c) := (pss_cons h hr).weak w_seq
theorem s_one (h : DS X B W st b) : DSs X B W [st] b := pss_one h
theorem s_ret (h : PS X st (tRet (tDM X.K B W f))) : DS X B W st (sRet f) := h.weak w_ret
theorem s_drop (h : PS X st (tDrop (tDM X.K B W f))) : DS X B W st (sDrop f) := h.weak w_drop
theorem s_if (h : PS X st (tIfS (tDT X.K B W k) (tDS X.K B W b) (tDS X.K B W c))) : DS X B W st (sIf k b c) := h.weak w_ifs
theorem s_set {i : Nat} (h : PS X st (tAsg (tDM X.K B W f) (gName i))) : DS X B W st (sSet i f) := h.weak w_set
theorem s_asg {gt : Tg} {tg : TG} {ks : List Nat} (hg : WG X.K B ks gt tg) (h : PS X st (tAsg (tDE X.K B W f) tg)) : DS X B W st (sAsg f gt) := h.weak (w_asg hg)
theorem s_par2 {i j : Nat} {a : As} (h : PS X st (tPar i j (tDA X.K B W a))) : DS X B W st (sPar [i, j] a) := h.weak w_par2
theorem s_putO {i : Nat} (h : PS X st (tAsg (tDE X.K B W f) (gSub (tVar i) (tDE X.K B W k) rSetL))) : DS X B W st (sPutO i k f) := h.weak w_putO
theorem s_for {it : Is} {gt : Tg} {tg : TG} {ks : List Nat} (hg : WG X.K B ks gt tg) (h : PS X st (tFor (tDI X.K B W it) tg (tDS X.K B W b))) : DS X B W st (sFor it gt b) := h.weak (w_for hg)
theorem s_while (h : PS X st (tWhile (tDT X.K B W k) (tDS X.K B W b))) : DS X B W st (sWhile k b) := h.weak w_while
theorem s_ct (h : PS X st tCont) : DS X B W st sCt := h.weak w_ct
theorem s_raise0 {c : String} {C : Addr} (hC : C = He.ga X.K (Str.ofString c)) (h : PS X st (fun _ σ H => (fun (_ : L2.St) (H : Hp) (Q : XK) => Q (.ref C) none H) σ H fun cls d H' => W cls d σ H')) : DS X B W st (sRaise c [] aNil) := h.weak (w_raise0 hC)
theorem s_raise1 {c fld : String} {C : Addr} {a : As} (hC : C = He.ga X.K (Str.ofString c)) (h1 : ∀ ρ ds ρ', a ρ = .ok ds ρ' → ds.length = 1) (h : PS X st (fun _ σ H => _root_.Q.tMk1 C (Str.ofString fld) (tDA X.K B W a) σ H fun cls d H' => W cls d σ H')) : DS X B W st (sRaise c [fld] a) := h.weak (w_raise1 hC h1)
variable {tg : Expr}
theorem _root_.L2.PI.weak {t t' : TI} (h : PI X tg e t) (w : ∀ σ H R, t' σ H R → t σ H R) : PI X tg e t' := ⟨fun pins s σ H R I q => h.run pins s σ H R I (w σ H R q)⟩
theorem i_list (h : DE X B W e f) : DI X B W tg e (iOf itL f) := (pi_list h).weak w_ilist
theorem i_tup (h : DE X B W e f) : DI X B W tg e (iOf itT f) := (pi_tup h).weak w_itup
theorem i_str (h : DE X B W e f) : DI X B W tg e (iOf itS f) := (pi_str h).weak w_istr
theorem i_rng1 {a : As} (h1 : ∀ ρ ds ρ', a ρ = .ok ds ρ' → ds.length = 1) (h : PI X tg e (iRng1 (tDA X.K B W a))) : DI X B W tg e (iOfA itR a) := h.weak fun σ H R q => w_irng1 σ H R q h1
theorem i_rng2 {a : As} (h1 : ∀ ρ ds ρ', a ρ = .ok ds ρ' → ds.length = 2) (h : PI X tg e (iRng2 (tDA X.K B W a))) : DI X B W tg e (iOfA itR a) := h.weak fun σ H R q => w_irng2 σ H R q h1
theorem _root_.L2.PTs.weak {ifs : List Expr} {t t' : TT} (h : PTs X ifs t) (w : ∀ σ H Q, t' σ H Q → t σ H Q) : PTs X ifs t' := ⟨fun pins s σ H Q I q => h.run pins s σ H Q I (w σ H Q q)⟩
theorem w_yes {K : PySem.W.Frag} (σ : L2.St) (H : Hp) (Q : Bool → Hp → Prop) (h : tDT K B W0 (eC (.bl true)) σ H Q) : tYes σ H Q := by
  obtain ⟨F, ρ, A, rp, b, eb, h⟩ := h
  cases eb
  exact h F H A rp Step.refl
theorem d_comp {it : Is} {gt : Tg} {tg : TG} {t : E} {vs ks : List Nat} (hg : WG X.K B ks gt tg) (hks : ∀ j ∈ ks, j ∈ vs) (h : PE X e (tLc (tDI X.K B W it) tg (tDT X.K B W0 t) (tDE X.K B W0 f) vs)) : DM X B W e (eComp it gt t f vs) := h.weak (w_comp (fun _ _ _ q => q) hg hks)
theorem d_comp1 {it : Is} {gt : Tg} {tg : TG} {vs ks : List Nat} (hg : WG X.K B ks gt tg) (hks : ∀ j ∈ ks, j ∈ vs) (h : PE X e (tLc (tDI X.K B W it) tg tYes (tDE X.K B W0 f) vs)) : DM X B W e (eComp it gt (eC (.bl true)) f vs) := h.weak (w_comp w_yes hg hks)
def rIsiB (K : PySem.W.Frag) : List V → Hp → VK → Prop := fun xs H Q => ∃ (v : V) (n T : String) (b : Bool), xs = [v, .ty T] ∧ TyX K H v (.type n) ∧ kitB n T = some b ∧ Q (.bl b) H
theorem call_isiB {X : Cx} : CallR X (.builtin "isinstance") (rIsiB X.K) := by
  intro pins s σ H xs us Q I r h
  obtain ⟨v, n, T, b, rfl, ty, kb, q⟩ := h
  exact call_isi pins s σ H _ us Q I r ⟨v, _, _, _, _, rfl, .ty _, ty, kit_ty kb, q⟩
theorem kit_all : ∀ n ∈ ["NoneType", "bool", "int", "str", "tuple", "list", "dict"], ∀ T ∈ ["bool", "int", "str", "tuple", "list"], kitB n T = some (n == T || (n == "bool" && T == "int")) := by decide +kernel
theorem tyName_mem {d : D} {n : String} (h : tyName d = some n) : n ∈ ["NoneType", "bool", "int", "str", "tuple", "list", "dict"] := by
  cases d <;> simp only [tyName] at h <;> first | cases h | skip
  all_goals simp
theorem d_isi {T : String} (hT : T ∈ ["bool", "int", "str", "tuple", "list"]) (h : PE X e (tCB (rIsiB X.K) (tCons (tDE X.K B W f) (tCons (tC (.ty T)) tNil)))) : DE X B W e (eIsi T f) := by
  refine h.weak fun σ H Q q => ?_
  refine w_un (r := fun v H Q => rIsiB X.K [v, .ty T] H Q) ?_ σ H Q q
  intro F H x a d Q ra e q
  unfold oIsi at e
  obtain ⟨n, h1, rfl⟩ := Option.map_eq_some_iff.mp e
  exact ⟨x, n, T, _, rfl, ty_of ra h1, kit_all n (tyName_mem h1) T hT, q _ F H Grow.refl (by simp only [RV])⟩
theorem p_strI {K : PySem.W.Frag} : PN K oStrI (fun xs H Q => ∃ i, xs = [.int i] ∧ i.natAbs.log2 < 1920 ∧ Q (.str (toString i)) H) := by
  intro F H xs ds d Q r e q
  unfold oStrI at e; split at e
  · rename_i i
    split at e
    · rename_i h
      cases e
      obtain ⟨v, rfl, r1⟩ := r.one
      simp only [RV] at r1
      refine ⟨i, by rw [r1], ?_, ?_⟩
      · by_cases c : i.natAbs = 0
        · rw [c]; decide
        · exact (Nat.log2_lt c).mpr (Nat.lt_of_lt_of_le h.2 (Nat.pow_le_pow_right (by decide) (by decide)))
      · obtain ⟨k, rfl⟩ : ∃ k : Nat, i = (k : Int) := ⟨i.toNat, by omega⟩
        rw [Int.natAbs_natCast] at q
        have e : Str.ofString (toString ((k : Nat) : Int)) = S (decL k) := by
          have h1 : (Str.ofString (toString ((k : Nat) : Int))).cps.toList = decL k := TL.tl_num k
          rw [← h1]
          exact _root_.Q.S_of _
        show Q (.str (Str.ofString (toString ((k : Nat) : Int)))) H
        rw [e]
        refine q _ F H Grow.refl (RV.strS fun c hc => ?_)
        unfold decL at hc
        obtain ⟨ch, h1, rfl⟩ := List.mem_map.mp hc
        have := ch.valid
        rcases this with z | z
        · exact Nat.lt_trans z (by decide)
        · exact z.2
    · cases e
  · cases e
theorem s_setLcF {it : Is} {gt : Tg} {tg : TG} {t : E} {vs ks : List Nat} {i : Nat} (hg : WG X.K B ks gt tg) (hks : ∀ j ∈ ks, j ∈ vs) (h : PS X st (tAsg (tLc (tDI X.K B W it) tg (tDT X.K B W0 t) (tDE X.K B W0 f) vs) (gName i))) : DS X B W st (sSet i (eFrz (eComp it gt t f vs))) :=
  (h.weak fun D σ H q => w_comp (fun _ _ _ q => q) hg hks σ H _ (w_frz σ H _ (w_dm σ H _ (w_set D σ H q))))
def CXa : CXT := fun outer H s E e s' => ∃ (P : Program) (w : World), L2.CX P w outer H s E e s'
theorem fn_a {P : Program} {w : World} {K : PySem.W.Frag} {mg : Str → Option Value} {base : Heap} {k : Nat} {f : Addr} {fd : FuncData} {ps : List Str} {sp : Sp} (F : FnOk P w K mg base (L2.CX P w) k f fd ps sp) : FnOk P w K mg base CXa k f fd ps sp :=
  ⟨F.len, fun A outer s H args us vs Q E hr e0 hb hv hs => codeAny_mono (F.run A outer s H args us vs Q E hr e0 hb hv hs) fun r s' h => by
    cases r with
    | error e => exact ⟨P, w, h⟩
    | ok fl => cases fl <;> exact h⟩
theorem cxa_end (H : Hp) (s : Shared) (e : Value) (s' : Shared) (h : CXa [] H s (fun _ _ _ => False) e s') : False := by
  obtain ⟨P, w, a, B, H', cls, d, _, _, _, _, _, _, _, z⟩ := h
  exact z
theorem law_sp {K : PySem.W.Frag} {f : Fn} (hf : ∀ ns : List Int, ns.length ≤ 63 → ∃ o, f [.scr ns] = .ok (.bl true) o) (H : Hp) (a : Addr) (ns : List Int) (hl : ns.length ≤ 63) (hS : SqL K H a (ns.map V.int)) : spD K f [.ref a] H (fun v _ => v = .bl true) fun _ _ _ => False := by
  obtain ⟨o, e⟩ := hf ns hl
  refine ⟨fun b => b = a ∧ ∃ o, H a = some o, [.scr ns], [], ([], none), ?_, List.nodup_nil, (fun b hb => by cases hb), (fun b hb => by rw [hb.1]; exact hb.2), ?_⟩
  · simp only [OVps]
    refine ⟨[], [], OV.op (RV.own ?_), rfl, rfl⟩
    simp only [RV]
    refine ⟨a, rfl, ?_⟩
    rcases hS with h | h
    · rcases h with h | ⟨o, h⟩
      · exact .inl ⟨⟨rfl, _, h⟩, .inl h⟩
      · exact .inl ⟨⟨rfl, _, h⟩, .inr ⟨o, h⟩⟩
    · exact .inr (.inr h)
  · rw [e]
    intro v F' H' σ' A' Ar _ _ _ _ ov _
    simp only [OV, RV] at ov
    exact ov.2
end
end U
namespace L2
open PySem PySem.Spec PyProof.Rows
section
variable {X : Cx} {CX : CXT} {k : Nat} {f C : Addr} {fd : FuncData} {ps : List Str} {sp : Sp} {dvs : List V} {ds : List Value} {E : St → XK} {x m : Str} {p pos apos : Pos} {e o : Expr} {es : List Expr} {ta : TE} {t : TA}
def tMethSD (C : Addr) (m : Str) (sp : Sp) (dvs : List V) (E : St → XK) (ta : TE) (t : TA) : TE := fun σ H Q => ta σ H fun x H1 => ∃ a dx fs, x = .ref a ∧ H1 a = some (.ins C dx fs) ∧ fs.lookup m = none ∧ t σ H1 fun vs H2 => sp (x :: (vs ++ dvs)) H2 Q (E σ)
def tMakeSD (C : Addr) (sp : Sp) (dvs : List V) (E : St → XK) (t : TA) : TE := fun σ H Q => t σ H fun vs H1 => ∀ x dx, H1 x = none → H1 dx = none → dx ≠ x →
  sp (.ref x :: (vs ++ dvs)) (upd (upd H1 dx (.own x)) x (.ins C dx [])) (fun v H2 => v = .non ∧ Q (.ref x) H2) (E σ)
theorem pe_methSD {pl : Sem Bool} (he : PE X o ta) (c : Cls X.K C) (hm : Meth X.K C m f) (F : FnOk X.prog X.w X.K X.mg X.base CX k f fd ps sp) (hr : Room k X.A) (hb : ∃ ds, Vals dvs ds ∧ Binds X.K fd ps ds) (hx : ∀ σ, PassesAt CX X σ (E σ)) (ha : PA X (e :: es) t)
    (hst : starEach (e :: es) X.env = (false, eval e X.env) :: starEach es X.env := by rfl) (hpl : (backTo pos (starEach es X.env)).any (·.1) = false := by rfl)
    (ht : eval (.Call (.Attribute o m apos) (e :: es) [] pos) X.env = (do
      let ov ← eval o X.env
      standAt apos.atName
      let (f, first) ← holding [ov] (getMethod ov m pl)
      callWith pos f first (backTo pos (starEach (e :: es) X.env)) (backToKw pos (keywordEach [] X.env))) := by rfl) :
    PE X (.Call (.Attribute o m apos) (e :: es) [] pos) (tMethSD C m sp dvs E ta t) := by
  obtain ⟨ds, hd, hb⟩ := hb
  refine ⟨fun pins s σ H Q I h => ?_⟩
  refine PySem.W.methodCall_KW (pl := pl) (thn (he.run pins s σ H _ I h) fun u s1 ⟨x, H1, I1, rx, a, dx, fs, ex, ea, l, q⟩ => ?_) ht
  subst ex
  obtain rfl : u = Value.ref a := rx
  refine getmeth_ok I1 ea c hm l ?_
  refine PySem.W.callWith_K (first := [.ref a]) (h₀ := X.base) I.ok.mod.kin hm.kp (thn (ha.run pos pins s1 σ H1 _ I1 q) fun us s2 ⟨vs, H2, I2, r, q2⟩ => ⟨I2.kIn, ?_⟩) hst hpl
  exact run_fnSD (us := .ref a :: us) (vs := .ref a :: vs) F hr hb hd (hx σ) I2 (.cons rfl r) q2
theorem pe_methSD0 {pl : Sem Bool} (he : PE X o ta) (c : Cls X.K C) (hm : Meth X.K C m f) (F : FnOk X.prog X.w X.K X.mg X.base CX k f fd ps sp) (hr : Room k X.A) (hb : ∃ ds, Vals dvs ds ∧ Binds X.K fd ps ds) (hx : ∀ σ, PassesAt CX X σ (E σ))
    (ht : eval (.Call (.Attribute o m apos) [] [] pos) X.env = (do
      let ov ← eval o X.env
      standAt apos.atName
      let (f, first) ← holding [ov] (getMethod ov m pl)
      callWith pos f first (backTo pos (starEach [] X.env)) (backToKw pos (keywordEach [] X.env))) := by rfl) :
    PE X (.Call (.Attribute o m apos) [] [] pos) (tMethSD C m sp dvs E ta tNil) := by
  obtain ⟨ds, hd, hb⟩ := hb
  refine ⟨fun pins s σ H Q I h => ?_⟩
  refine PySem.W.methodCall_KW (pl := pl) (thn (he.run pins s σ H _ I h) fun u s1 ⟨x, H1, I1, rx, a, dx, fs, ex, ea, l, q⟩ => ?_) ht
  subst ex
  obtain rfl : u = Value.ref a := rx
  refine getmeth_ok I1 ea c hm l ?_
  exact PySem.W.callWith_K0 (first := [.ref a]) I1.kIn hm.kp (run_fnSD (us := [.ref a]) (vs := [.ref a]) F hr hb hd (hx σ) I1 (.cons rfl .nil) q)
theorem run_makeSD {pins : List (Addr × Obj)} {σ : St} {H : Hp} {s : Shared} {Q : VK} {us : List Value} {vs : List V} (M : Mk X.K C f) (F : FnOk X.prog X.w X.K X.mg X.base CX k f fd ps sp) (hr : Room (k + 1) X.A) (hb : Binds X.K fd ps ds) (hd : Vals dvs ds)
    (hx : ∀ σ, PassesAt CX X σ (E σ)) (I : Inv X pins σ H s) (r : Vals vs us)
    (h : ∀ x dx, H x = none → H dx = none → dx ≠ x → sp (.ref x :: (vs ++ dvs)) (upd (upd H dx (.own x)) x (.ins C dx [])) (fun v H2 => v = .non ∧ Q (.ref x) H2) (E σ)) :
    wpAny (model X.prog X.w) X.A (call (.ref C) us) (EP X pins σ Q) X.xe s := by
  have hq := h (s.heap.objs.size + 1) s.heap.objs.size (I.hok.fresh (Nat.le_succ _)) (I.hok.fresh (Nat.le_refl _)) (Nat.ne_of_lt (Nat.lt_succ_self _))
  have I2 := Inv.made (C := C) I
  have r2 : Vals (V.ref (s.heap.objs.size + 1) :: (vs ++ dvs)) (Value.ref (s.heap.objs.size + 1) :: (us ++ ds)) := .cons rfl (r.append hd)
  have hl : (Value.ref (s.heap.objs.size + 1) :: us ++ ds).length = ps.length := by
    have e := r2.length
    rw [F.len _ _ _ _ hq] at e
    exact e.symm
  refine wpAny_call (make_map (f := f) I.kIn M.makes M.init (beq_iff_eq.mp M.fn) (codeAny_mono (F.run _ X.stack _ _ ⟨Value.ref (s.heap.objs.size + 1) :: us, []⟩ (Value.ref (s.heap.objs.size + 1) :: (us ++ ds)) _ _ (E σ) (hr.make C us [])
    (I2.env0.make C us []) (hb _ (Value.ref (s.heap.objs.size + 1) :: us) I2.kIn hl) r2 hq) fun r s' hq' => ?_))
  cases r with
  | error e => exact hx σ pins _ _ e s' I2 hq'
  | ok fl =>
    cases fl with
    | ret u =>
      obtain ⟨v, H', I3, rv, ev, q3⟩ := I2.after hq'
      subst ev
      exact ⟨rv, ⟨V.ref (s.heap.objs.size + 1), H', I3, rfl, q3⟩⟩
    | next => exact False.elim hq'
    | brk => exact False.elim hq'
    | cont => exact False.elim hq'
theorem pe_makeSD (M : Mk X.K C f) (F : FnOk X.prog X.w X.K X.mg X.base CX k f fd ps sp) (hr : Room (k + 1) X.A) (hg : Gl X x) (hm : X.mg x = some (.ref C)) (hb : ∃ ds, Vals dvs ds ∧ Binds X.K fd ps ds) (hx : ∀ σ, PassesAt CX X σ (E σ))
    (ha : PA X (e :: es) t) (hdb : (x == ("__debug__" : Str)) = false := by decide) (he : starEach (e :: es) X.env = (false, eval e X.env) :: starEach es X.env := by rfl) (hpl : (backTo pos (starEach es X.env)).any (·.1) = false := by rfl) :
    PE X (.Call (.Name x p) (e :: es) [] pos) (tMakeSD C sp dvs E t) := by
  obtain ⟨ds, hd, hb⟩ := hb
  refine ⟨fun pins s σ H Q I h => ?_⟩
  refine wpAny_Call_Name_kw (ld_glob I hg hm ?_ hdb)
  refine PySem.W.callWith_K (h₀ := X.base) I.ok.mod.kin M.kp (thn (ha.run pos pins s σ H _ I h) fun us s1 ⟨vs, H1, I1, r, q⟩ => ⟨I1.kIn, ?_⟩) he hpl
  exact run_makeSD M F hr hb hd hx I1 r q
end
end L2
namespace U
def putNs (f : String) : List String → List String
  | [] => [f]
  | n :: r => if n = f then n :: r else n :: putNs f r
def putDs (f : String) (d : D) : List String → List D → List D
  | [], _ => [d]
  | n :: r, x :: xs => if n = f then d :: xs else x :: putDs f d r xs
  | _ :: _, [] => []
def oFld (c f : String) : D → Option D
  | .ins c' ns ds => if c' = c then lookN f ns ds else none
  | _ => none
def fldO (c f : String) : Option (Option D) → Option D
  | some (some (.own _ (.ins c' ns ds))) => if c' = c then (match lookN f ns ds with
    | some d => if d.isMut then none else some d
    | none => none) else none
  | _ => none
def eFldO (i : Nat) (c f : String) : E := fun ρ => lift (fldO c f ρ[i]?) ρ
def putFO (c f : String) (d : D) : Option (Option D) → Option D
  | some (some (.own t (.ins c' ns ds))) => if c' = c ∧ ns.length < 1000 then some (.own t (.ins c (putNs f ns) (putDs f d ns ds))) else none
  | _ => none
def sFldO (i : Nat) (c f : String) (a : E) : St := fun ρ => (a ρ).binds fun d ρ1 => match putFO c f d ρ1[i]? with
  | some d' => .nx (ρ1.set i (some d'))
  | none => .bad
def eMake (c : String) (f : Fn) (a : As) (dd : List D) : E := fun ρ => match a ρ with
  | .ok ds ρ1 => (match f (.own 1 (.ins c [] []) :: (ds ++ dd)) with
    | .ok .non (some (.own 1 (.ins c' ns fs)) :: _) => if c' = c then .ok (.own 0 (.ins c ns fs)) ρ1 else .bad
    | .exc x _ => .exc x ρ1
    | _ => .bad)
  | .exc x ρ1 => .exc x ρ1
  | .bad => .bad
def oIns (c m : String) : D → Option D
  | .ins c' ns ds => if c' = c ∧ m ∉ ns then some (.ins c' ns ds) else none
  | _ => none
def eMeth (c m : String) (f : Fn) (o : E) (g : List Ag) (dd : List D) : E := eCall f (.v (eUn (oIns c m) o) :: g) dd
def isIO (c m : String) : Option (Option D) → Bool
  | some (some (.own _ (.ins c' ns _))) => decide (c' = c ∧ m ∉ ns)
  | _ => false
def eMethO (c m : String) (f : Fn) (i : Nat) (g : List Ag) (dd : List D) : E := fun ρ => if isIO c m ρ[i]? then eCall f (.b i :: g) dd ρ else .bad
def ER.calm : ER → ER
  | .ok d ρ => .ok d ρ
  | _ => .bad
end U
namespace U
def oProp (c : String) (f : Fn) : D → Option D
  | .ins c' ns ds => if c' = c then (match f [.ins c' ns ds] with
    | .ok d _ => if d.isMut then none else some d
    | _ => none) else none
  | _ => none
def ER.plain : ER → ER
  | .ok d ρ => if d.isMut then .bad else .ok d ρ
  | _ => .bad
def isI (c : String) : Option (Option D) → Bool
  | some (some (.own _ (.ins c' _ _))) => decide (c' = c)
  | _ => false
def ePropO (c : String) (f : Fn) (i : Nat) : E := fun ρ => if isI c ρ[i]? then (eCall f [.b i] [] ρ).plain else .bad
def oCon (c f : String) (d : D) : D → Option D
  | .ins c' ns _ => if c' = c ∧ f ∉ ns then some d else none
  | _ => none
def eConO (c f : String) (d : D) (i : Nat) : E := fun ρ => if isIO c f ρ[i]? then .ok d ρ else .bad
end U
namespace U
open PySem PySem.Spec PyProof.Rows L2
theorem ofS_inj {a b : String} : Str.ofString a = Str.ofString b ↔ a = b := by
  constructor
  · intro h
    rw [Str.ofString_eq_toList, Str.ofString_eq_toList] at h
    injection h with h
    have h2 : a.toList.map Char.toNat = b.toList.map Char.toNat := by simpa using congrArg Array.toList h
    have h3 : a.toList = b.toList := by
      have inj : ∀ {l r : List Char}, l.map Char.toNat = r.map Char.toNat → l = r := by
        intro l
        induction l with
        | nil => intro r h; cases r with
          | nil => rfl
          | cons => simp at h
        | cons x l ih => intro r h; cases r with
          | nil => simp at h
          | cons y r =>
            simp only [List.map_cons, List.cons.injEq] at h
            rw [ih h.2, show x = y from Char.ext (UInt32.toNat_inj.mp h.1)]
      exact inj h2
    exact String.toList_inj.mp h3
  · exact congrArg _
section
variable {K : PySem.W.Frag} {B : Bx} {F F' : Fz} {H H' : Hp} {W : WX} {σ : L2.St}
theorem lookN_rv {f : String} {d : D} : ∀ {ns : List String} {ds : List D} {fs : List (Str × V)}, fs.map (·.1) = ns.map Str.ofString → RVs K F H (fs.map (·.2)) ds → lookN f ns ds = some d → ∃ v, fs.lookup (Str.ofString f) = some v ∧ RV K F H v d
  | [], _, _, _, _, h => by simp only [lookN] at h; cases h
  | n :: ns, [], _, _, _, h => by simp only [lookN] at h; cases h
  | n :: ns, x :: ds, [], e, _, _ => by simp at e
  | n :: ns, x :: ds, (g, y) :: fs, e, o, h => by
    simp only [List.map_cons, List.cons.injEq] at e
    simp only [List.map_cons, RVs] at o
    simp only [lookN] at h
    by_cases c : n = f
    · rw [if_pos c] at h
      cases h
      exact ⟨y, by rw [List.lookup, e.1, c, beq_self_eq_true], o.1⟩
    · rw [if_neg c] at h
      obtain ⟨v, l, ov⟩ := lookN_rv e.2 o.2 h
      refine ⟨v, ?_, ov⟩
      have : (Str.ofString f == g) = false := by
        rw [e.1, beq_eq_false_iff_ne]
        exact fun z => c (ofS_inj.mp z).symm
      rw [List.lookup, this]; exact l
theorem look_none {m : String} : ∀ {ns : List String} {fs : List (Str × V)}, fs.map (·.1) = ns.map Str.ofString → m ∉ ns → fs.lookup (Str.ofString m) = none
  | [], [], _, _ => rfl
  | [], _ :: _, e, _ => by simp at e
  | _ :: _, [], e, _ => by simp at e
  | n :: ns, (g, y) :: fs, e, h => by
    simp only [List.map_cons, List.cons.injEq] at e
    have : (Str.ofString m == g) = false := by
      rw [e.1, beq_eq_false_iff_ne]
      exact fun z => h (by rw [ofS_inj.mp z]; exact List.mem_cons_self)
    rw [List.lookup, this]
    exact look_none e.2 fun z => h (List.mem_cons_of_mem _ z)
theorem w_fld {c f : String} {e : E} (hc : Cls K (He.ga K (Str.ofString c))) (hn : NoAttr K (He.ga K (Str.ofString c)) (Str.ofString f)) (σ : L2.St) (H : Hp) (Q : VK) (h : tDE K B W (eUn (oFld c f) e) σ H Q) : tFld K (tDE K B W e) (Str.ofString f) σ H Q := by
  refine w_un (r := fun x H1 Q => ∃ a C dx fs v, x = .ref a ∧ H1 a = some (.ins C dx fs) ∧ Cls K C ∧ NoAttr K C (Str.ofString f) ∧ fs.lookup (Str.ofString f) = some v ∧ Q v H1) ?_ σ H Q h
  intro F H x a d Q ra e q
  unfold oFld at e; split at e
  · rename_i c' ns ds
    split at e
    · rename_i hcc
      subst hcc
      simp only [RV] at ra
      obtain ⟨a, dx, fs, rfl, fa, ha, en, rs⟩ := ra
      obtain ⟨v, l, rv⟩ := lookN_rv en rs e
      exact ⟨a, _, dx, fs, v, rfl, ha, hc, hn, l, q v F H Grow.refl rv⟩
    · cases e
  · cases e
theorem putNs_map {f : String} {v : V} : ∀ {ns : List String} {fs : List (Str × V)}, fs.map (·.1) = ns.map Str.ofString → (putF (Str.ofString f) v fs).map (·.1) = (putNs f ns).map Str.ofString
  | [], [], _ => rfl
  | [], _ :: _, e => by simp at e
  | _ :: _, [], e => by simp at e
  | n :: ns, (g, y) :: fs, e => by
    simp only [List.map_cons, List.cons.injEq] at e
    simp only [putF, putNs]
    by_cases c : n = f
    · rw [if_pos c, if_pos (by rw [e.1, c])]
      simp only [List.map_cons, e.1, e.2]
    · rw [if_neg c, if_neg (by rw [e.1]; exact fun z => c (ofS_inj.mp z))]
      simp only [List.map_cons, e.1, putNs_map e.2]
theorem putDs_ov {f : String} {v : V} {d : D} {Av : List Addr} : ∀ {ns : List String} {ds : List D} {fs : List (Str × V)} {A : List Addr}, fs.map (·.1) = ns.map Str.ofString → OVs K F H (fs.map (·.2)) ds A → OV K F H v d Av → (A ++ Av).Nodup →
    ∃ A', OVs K F H ((putF (Str.ofString f) v fs).map (·.2)) (putDs f d ns ds) A' ∧ (∀ a ∈ A', a ∈ A ∨ a ∈ Av) ∧ A'.Nodup
  | [], [], [], A, _, o, ov, nd => by
    simp only [List.map_nil, OVs] at o
    subst o
    refine ⟨Av, ?_, fun a ha => .inr ha, by simpa using nd⟩
    simp only [putF, putDs, List.map_cons, List.map_nil, OVs]
    exact ⟨Av, [], ov, rfl, by simp⟩
  | [], _ :: _, [], _, _, o, _, _ => by simp only [List.map_nil, OVs] at o
  | [], _, _ :: _, _, e, _, _, _ => by simp at e
  | _ :: _, _, [], _, e, _, _, _ => by simp at e
  | n :: ns, [], (g, y) :: fs, _, _, o, _, _ => by simp only [List.map_cons, OVs] at o
  | n :: ns, x :: ds, (g, y) :: fs, A, e, o, ov, nd => by
    simp only [List.map_cons, List.cons.injEq] at e
    simp only [List.map_cons, OVs] at o
    obtain ⟨A1, A2, o1, o2, rfl⟩ := o
    simp only [List.nodup_append, List.mem_append] at nd
    simp only [putF, putDs]
    by_cases c : n = f
    · rw [if_pos c, if_pos (by rw [e.1, c])]
      refine ⟨Av ++ A2, ?_, fun a ha => ?_, ?_⟩
      · simp only [List.map_cons, OVs]
        exact ⟨Av, A2, ov, o2, rfl⟩
      · rcases List.mem_append.mp ha with z | z
        · exact .inr z
        · exact .inl (List.mem_append_right _ z)
      · simp only [List.nodup_append]
        exact ⟨nd.2.1, nd.1.2.1, fun a ha b hb z => nd.2.2 b (.inr hb) a ha z.symm⟩
    · rw [if_neg c, if_neg (by rw [e.1]; exact fun z => c (ofS_inj.mp z))]
      obtain ⟨A', o', s', n'⟩ := putDs_ov (f := f) e.2 o2 ov (by
        simp only [List.nodup_append]
        exact ⟨nd.1.2.1, nd.2.1, fun a ha b hb => nd.2.2 a (.inr ha) b hb⟩)
      refine ⟨A1 ++ A', ?_, fun a ha => ?_, ?_⟩
      · simp only [List.map_cons, OVs]
        exact ⟨A1, A', o1, o', rfl⟩
      · rcases List.mem_append.mp ha with z | z
        · exact .inl (List.mem_append_left _ z)
        · exact (s' a z).imp (List.mem_append_right _) id
      · simp only [List.nodup_append]
        refine ⟨nd.1.1, n', fun a ha b hb => ?_⟩
        rcases s' b hb with z | z
        · exact nd.1.2.2 a ha b z
        · exact nd.2.2 a (.inl ha) b z
theorem w_setF {i : Nat} {c f : String} {e : E} (hc : Cls K (He.ga K (Str.ofString c))) (hn : NoAttr K (He.ga K (Str.ofString c)) (Str.ofString f)) (D : Ends) (σ : L2.St) (H : Hp) (h : tDS K B W (sFldO i c f e) D σ H) : sFld K (tVar i) (tDM K B W e) (Str.ofString f) D σ H := by
  obtain ⟨F, ρ, A, rp, h⟩ := h
  refine ⟨F, ρ, A, rp, ?_⟩
  unfold sFldO at h
  cases e1 : e ρ with
  | bad => rw [e1] at h; exact h
  | exc x ρ1 => rw [e1] at h; exact xend.expr h
  | ok d ρ1 =>
    rw [e1] at h
    simp only [ER.binds] at h
    intro v F1 H1 A1 Ar r1 ov nd nfr s1
    cases e2 : putFO c f d ρ1[i]? with
    | none => rw [e2] at h; exact h.elim
    | some d' =>
      rw [e2] at h
      simp only at h
      unfold putFO at e2
      split at e2
      · rename_i t c' ns ds e0
        split at e2
        · rename_i hcc
          obtain ⟨hcc, hz⟩ := hcc
          subst hcc
          cases e2
          obtain ⟨a, Ai, Ao, sa, oi, tg, ro, ndi, sub⟩ := r1.take1 e0
          simp only [OV] at oi
          obtain ⟨a', dx, fs, A', ea, ha, en, eA, ofs⟩ := oi
          cases ea
          subst eA
          have nda := nd
          simp only [List.nodup_append] at nda ndi
          have hdis : ∀ b ∈ a :: A', b ∉ Ar := fun b hb z => nda.2.2 b (sub b (List.mem_append_left _ hb)) b z rfl
          have nAi := ndi.1
          rw [List.nodup_cons] at nAi
          obtain ⟨A2, o2, s2, n2⟩ := putDs_ov (f := f) en ofs ov (by
            simp only [List.nodup_append]
            exact ⟨nAi.2, nda.2.1, fun x hx y hy z => by subst z; exact hdis x (List.mem_cons_of_mem _ hx) hy⟩)
          have nfa : ¬ F1 a := r1.nf a (sub a (List.mem_append_left _ List.mem_cons_self))
          have na2 : a ∉ A2 := fun z => by
            rcases s2 a z with q | q
            · exact nAi.1 q
            · exact hdis a List.mem_cons_self q
          have off : ∀ b o, b ≠ a → H1 b = some o → upd H1 a (.ins (He.ga K (Str.ofString c')) dx (putF (Str.ofString f) v fs)) b = some o := fun b o hb he => by rw [upd_ne hb]; exact he
          have ro2 : Rep K F1 (upd H1 a (.ins (He.ga K (Str.ofString c')) dx (putF (Str.ofString f) v fs))) B σ (ρ1.set i none) Ao := by
            refine ⟨ro.sl.stay (fun _ h => h) fun b o hb he => off b o ?_ he, ro.nd, ro.nf, fun b fb => ?_⟩
            · intro z; subst z
              rcases hb with hb | hb
              · exact nfa hb
              · exact ndi.2.2 b List.mem_cons_self b hb rfl
            · obtain ⟨o, he⟩ := ro.dm b fb
              exact ⟨o, off b o (fun z => nfa (z ▸ fb)) he⟩
          have oa : OV K F1 (upd H1 a (.ins (He.ga K (Str.ofString c')) dx (putF (Str.ofString f) v fs))) (.ref a) (.own 0 (.ins c' (putNs f ns) (putDs f d ns ds))) (a :: A2) := by
            simp only [OV]
            refine ⟨a, dx, _, A2, rfl, upd_same, putNs_map en, rfl, o2.stay (fun _ h => h) fun b o hb he => off b o ?_ he⟩
            intro z; subst z
            rcases hb with hb | hb
            · exact nfa hb
            · exact na2 hb
          have hAo : ∀ b ∈ Ao, b ∈ A1 := fun b hb => sub b (List.mem_append_right _ hb)
          have nd3 : ((a :: A2) ++ Ao).Nodup := by
            simp only [List.nodup_append, List.nodup_cons]
            refine ⟨⟨na2, n2⟩, ndi.2.1, fun x hx y hy z => ?_⟩
            subst z
            rcases List.mem_cons.mp hx with q | q
            · subst q; exact ndi.2.2 x List.mem_cons_self x hy rfl
            · rcases s2 x q with w | w
              · exact ndi.2.2 x (List.mem_cons_of_mem _ w) x hy rfl
              · exact nda.2.2 x (hAo x hy) x w rfl
          have nf3 : ∀ b ∈ a :: A2, ¬ F1 b := fun b hb => by
            rcases List.mem_cons.mp hb with q | q
            · rw [q]; exact nfa
            · rcases s2 b q with w | w
              · exact r1.nf b (sub b (List.mem_append_left _ (List.mem_cons_of_mem _ w)))
              · exact nfr b w
          have ei : (ρ1.set i none)[i]? = some none := List.getElem?_set_self (List.getElem?_eq_some_iff.mp e0).1
          obtain ⟨A3, r3, s3⟩ := ro2.give1 ei sa (OVp.tag (t := t) oa rfl tg) nd3 nf3
          rw [List.set_set] at r3
          refine ⟨.ref a, sa, a, _, dx, fs, rfl, ha, hc, hn, ?_, ?_⟩
          · have := congrArg List.length en
            simp only [List.length_map] at this
            rw [this]; exact hz
          · have st : Step (A1 ++ Ar) F1 H1 A3 F1 (upd H1 a (.ins (He.ga K (Str.ofString c')) dx (putF (Str.ofString f) v fs))) := by
              refine ⟨fun _ h => h, fun b o he hb => off b o (fun z => hb ?_) he, fun b hb => .inl hb, fun b hb => .inl ?_⟩
              · subst z; exact List.mem_append_left _ (sub b (List.mem_append_left _ List.mem_cons_self))
              · rcases List.mem_append.mp (s3 b hb) with q | q
                · rcases List.mem_cons.mp q with q | q
                  · rw [q]; exact List.mem_append_left _ (sub a (List.mem_append_left _ List.mem_cons_self))
                  · rcases s2 b q with w | w
                    · exact List.mem_append_left _ (sub b (List.mem_append_left _ (List.mem_cons_of_mem _ w)))
                    · exact List.mem_append_right _ w
                · exact List.mem_append_left _ (hAo b q)
            exact h σ F1 _ A3 r3 (s1.trans st) rfl
        · cases e2
      · cases e2
theorem w_make {c : String} {f : Fn} {a : As} {dd : List D} {dvs : List V} (hd : ∀ F H, RVs K F H dvs dd) (σ : L2.St) (H : Hp) (Q : VK) (h : tDM K B W (eMake c f a dd) σ H Q) : tMakeSD (He.ga K (Str.ofString c)) (spD K f) dvs (WE W) (tDA K B W a) σ H Q := by
  obtain ⟨F, ρ, A, rp, h⟩ := h
  refine ⟨F, ρ, A, rp, ?_⟩
  unfold eMake at h
  cases e1 : a ρ with
  | bad => rw [e1] at h; exact h
  | exc x ρ1 => rw [e1] at h; exact h
  | ok ds ρ1 =>
    rw [e1] at h
    simp only at h
    intro vs F1 H1 A1 r1 vr s1 x dx hx hdx hne
    have g1 : Grow F1 H1 F1 (upd H1 dx (.own x)) := Grow.raw hdx
    have hx1 : upd H1 dx (.own x) x = none := by rw [upd_ne (fun z => hne z.symm)]; exact hx
    have g2 : Grow F1 (upd H1 dx (.own x)) F1 (upd (upd H1 dx (.own x)) x (.ins (He.ga K (Str.ofString c)) dx [])) := Grow.raw hx1
    have g := g1.trans g2
    generalize eH : upd (upd H1 dx (.own x)) x (.ins (He.ga K (Str.ofString c)) dx []) = H2 at g
    have h2x : H2 x = some (.ins (He.ga K (Str.ofString c)) dx []) := by rw [← eH, upd_same]
    have nfx : ¬ F1 x := fun z => by obtain ⟨o, e⟩ := r1.dm x z; rw [hx] at e; cases e
    refine ⟨F1, .own 1 (.ins c [] []) :: (ds ++ dd), [x], ([x], none), ?_, by simp, fun b hb => by rw [List.mem_singleton.mp hb]; exact nfx, g.dm r1.dm, ?_⟩
    · simp only [OVps]
      refine ⟨[x], [], ?_, ?_, rfl⟩
      · refine OVp.tag (t := 1) (a := x) ?_ rfl (fun k hk => by cases hk; rfl)
        simp only [OV]
        exact ⟨x, dx, [], [], rfl, h2x, rfl, rfl, by simp only [List.map_nil, OVs]⟩
      · have : OVps K F1 H2 ([x], none) ([] ++ (vs ++ dvs)) ([] ++ (ds ++ dd)) [] := OVps.snocP (by simp only [OVps]) (by
          have a1 := vr.grow g
          have a2 := hd F1 H2
          revert a1
          generalize vs = vs1
          generalize ds = ds1
          intro a1
          induction vs1 generalizing ds1 with
          | nil => cases ds1 with
            | nil => exact a2
            | cons => simp only [RVs] at a1
          | cons v vs ih => cases ds1 with
            | nil => simp only [RVs] at a1
            | cons d ds =>
              simp only [RVs] at a1
              simp only [List.cons_append, RVs]
              exact ⟨a1.1, ih ds a1.2⟩)
        exact this
    -- what the caller holds stays
    have stay : ∀ {F3 : Fz} {H3 : Hp} {A' : List Addr}, Step [x] F1 H2 A' F3 H3 → (∀ b, F3 b → ∃ o, H3 b = some o) → Rep K F3 H3 B σ ρ1 A1 ∧ (∀ b ∈ A1, b ∉ A') := fun {F3 H3 A'} s dm => by
      have out : ∀ b ∈ A1, b ≠ x := fun b hb z => by
        obtain ⟨o, e⟩ := r1.sl.there b hb
        rw [z, hx] at e; cases e
      have there : ∀ b ∈ A1, ∃ o, H2 b = some o := fun b hb => by
        obtain ⟨o, e⟩ := r1.sl.there b hb
        exact ⟨o, g.keep b o e⟩
      refine ⟨⟨r1.sl.stay s.mono fun b o hb e => s.keep b o (g.keep b o e) fun z => ?_, r1.nd, fun b hb fb => ?_, dm⟩, fun b hb z => ?_⟩
      · rw [List.mem_singleton.mp z] at e
        rw [hx] at e; cases e
      · rcases s.froz b fb with q | q | q
        · exact r1.nf b hb q
        · obtain ⟨o, e⟩ := there b hb
          rw [q] at e; cases e
        · exact out b hb (List.mem_singleton.mp q)
      · rcases s.own b z with q | q
        · exact out b hb (List.mem_singleton.mp q)
        · obtain ⟨o, e⟩ := there b hb
          rw [q] at e; cases e
    have whole : ∀ {F3 : Fz} {H3 : Hp} {A' A2 : List Addr}, Step [x] F1 H2 A' F3 H3 → (∀ b ∈ A2, b ∈ A1 ∨ b ∈ A') → Step A1 F1 H1 A2 F3 H3 := fun {F3 H3 A' A2} s sub =>
      ⟨s.mono, fun b o e n => s.keep b o (g.keep b o e) fun z => (by rw [List.mem_singleton.mp z, hx] at e; cases e), fun b fb => by
        have no : ∀ b, H2 b = none → H1 b = none := fun b hb => by
          cases e : H1 b with
          | none => rfl
          | some o => rw [g.keep b o e] at hb; cases hb
        rcases s.froz b fb with q | q | q
        · exact .inl q
        · exact .inr (.inl (no b q))
        · exact .inr (.inl (by rw [List.mem_singleton.mp q]; exact hx)), fun b hb => by
        rcases sub b hb with q | q
        · exact .inl q
        · rcases s.own b q with z | z
          · exact .inr (by rw [List.mem_singleton.mp z]; exact hx)
          · refine .inr ?_
            cases e : H1 b with
            | none => rfl
            | some o => rw [g.keep b o e] at z; cases z⟩
    cases e3 : f (.own 1 (.ins c [] []) :: (ds ++ dd)) with
    | bad => rw [e3] at h; exact h
    | exc y o =>
      rw [e3] at h
      simp only at h
      intro cls d2 F3 H3 σ3 A3 o3 n3 nf3 dm3 xv s3
      obtain ⟨k1, k2⟩ := stay s3 dm3
      exact h cls d2 F3 H3 A1 k1 xv (s1.trans (whole s3 fun b hb => .inl hb))
    | ok d o =>
      rw [e3] at h
      split at h
      · rename_i d0 ρ9 z1
        split at z1
        · rename_i c' ns fs rest q2
          split at z1
          · rename_i hcc
            subst hcc
            cases z1
            cases q2
            intro v F3 H3 σ3 A3 Ar o3 n3 nf3 dm3 ov s3
            simp only [OV, RV] at ov
            obtain ⟨rfl, rfl⟩ := ov
            refine ⟨rfl, ?_⟩
            obtain ⟨k1, k2⟩ := stay s3 dm3
            match σ3, o3 with
            | [], o3 => simp only [OVS] at o3
            | w :: σ4, o3 =>
              simp only [OVS] at o3
              obtain ⟨A5, A6, oo, _, rfl⟩ := o3
              match w, oo with
              | none, oo => simp only [OVo] at oo
              | some w, oo =>
                simp only [OVo] at oo
                obtain ⟨ow, a', rfl, _, tg⟩ := oo.root
                have ea : a' = x := by
                  have := tg 0 rfl
                  simpa using this.symm
                subst ea
                simp only [List.append_nil] at n3 nf3
                have n3' := n3
                simp only [List.nodup_append] at n3'
                refine h (.ref a') F3 H3 A1 A5 k1 ow ?_ (fun b hb => nf3 b (List.mem_append_left _ hb)) (s1.trans (whole s3 fun b hb => ?_))
                · simp only [List.nodup_append]
                  exact ⟨r1.nd, n3'.1, fun y hy z hz e => k2 y hy (by rw [e]; simp only [List.append_nil]; exact List.mem_append_left _ hz)⟩
                · rcases List.mem_append.mp hb with q | q
                  · exact .inl q
                  · exact .inr (by simp only [List.append_nil]; exact List.mem_append_left _ q)
          · cases z1
        · rename_i q2
          cases q2
        · cases z1
      · rename_i x0 ρ9 z1
        split at z1
        · split at z1 <;> cases z1
        · rename_i q2; cases q2
        · cases z1
      · exact h.elim
end
end U
namespace U
open PySem PySem.Spec PyProof.Rows L2
section
variable {K : PySem.W.Frag} {B : Bx} {F F' : Fz} {H H' : Hp} {W : WX} {σ : L2.St}
theorem w_meth {c m : String} {f : Fn} {o : E} {g : List Ag} {dd : List D} {dvs : List V} (hd : ∀ F H, RVs K F H dvs dd) (σ : L2.St) (H : Hp) (Q : VK) (h : tDM K B W (eMeth c m f o g dd) σ H Q) : tMethSD (He.ga K (Str.ofString c)) (Str.ofString m) (spD K f) dvs (WE W) (tDE K B W o) (tDG K B W g) σ H Q := by
  have h1 := w_gv σ H _ (w_call hd σ H Q h)
  refine w_un (r := fun x H1 Q => ∃ a dx fs, x = .ref a ∧ H1 a = some (.ins (He.ga K (Str.ofString c)) dx fs) ∧ fs.lookup (Str.ofString m) = none ∧ Q x H1) ?_ σ H _ h1
  intro F H x a d Q ra e q
  unfold oIns at e; split at e
  · rename_i c' ns ds
    split at e
    · rename_i hcc
      obtain ⟨hcc, hm⟩ := hcc
      subst hcc
      cases e
      have rb := ra
      simp only [RV] at ra
      obtain ⟨a, dx, fs, rfl, fa, ha, en, rs⟩ := ra
      exact ⟨a, dx, fs, rfl, ha, look_none en hm, q _ F H Grow.refl rb⟩
    · cases e
  · cases e
theorem w_prop {c : String} {f : Fn} {o : E} (σ : L2.St) (H : Hp) (Q : VK) (h : tDE K B W (eUn (oProp c f) o) σ H Q) : tProp (He.ga K (Str.ofString c)) (spD K f) [] (fun _ _ _ => False) (tDE K B W o) σ H Q := by
  obtain ⟨F, ρ, A, rp, h⟩ := h
  refine ⟨F, ρ, A, rp, ?_⟩
  unfold eUn at h
  cases e1 : o ρ with
  | bad => rw [e1] at h; exact h
  | exc x ρ1 => rw [e1] at h; exact h
  | ok d1 ρ1 =>
    rw [e1] at h
    intro v1 F1 H1 A1 r1 v1r s1
    simp only [ER.bind] at h
    cases ed : oProp c f d1 with
    | none => rw [ed] at h; exact h.elim
    | some d =>
    rw [ed] at h
    simp only [lift] at h
    unfold oProp at ed; split at ed
    · rename_i c' ns ds
      split at ed
      · rename_i hcc
        subst hcc
        have rb := v1r
        simp only [RV] at v1r
        obtain ⟨a, dx, fs, rfl, fa, ha, en, rs⟩ := v1r
        refine ⟨a, dx, fs, rfl, ha, F1, [.ins c' ns ds], [], ([], none), ?_, List.nodup_nil, (fun b hb => by cases hb), r1.dm, ?_⟩
        · simp only [OVps]
          exact ⟨[], [], rb.own.op, rfl, rfl⟩
        · split at ed
          · rename_i d0 o0 ef
            rw [ef]
            split at ed
            · cases ed
            · rename_i hm
              cases ed
              intro v F2 H2 σ2 A2 Ar o2 n2 nf2 dm2 ov s2
              have hm' : d.isMut = false := by simpa using hm
              obtain ⟨rfl, rv⟩ := ov.plain hm'
              have g : Grow F1 H1 F2 H2 := ⟨s2.mono, fun b o e => s2.keep b o e (by simp), fun b hb => by
                rcases s2.froz b hb with q | q | q
                · exact .inl q
                · exact .inr q
                · exact absurd q (by simp), fun _ => dm2⟩
              exact h v F2 H2 A1 (r1.grow g) rv (s1.trans g.step)
          · cases ed
      · cases ed
    · cases ed
end
theorem passes_nox {X : Cx} : Passes (L2.CX X.prog X.w) X.nox (fun _ _ _ => False) := fun pins σ H s e s' I h => by
  obtain ⟨a, B, H', cls, d, _, _, _, _, _, _, _, z⟩ := h
  exact z
section
variable {X : Cx} {B : Bx} {W : WX} {e : Expr} {st : Stmt} {f g : E}
theorem d_fld {c n : String} (hc : Cls X.K (He.ga X.K (Str.ofString c))) (hn : NoAttr X.K (He.ga X.K (Str.ofString c)) (Str.ofString n)) (h : PE X e (tFld X.K (tDE X.K B W f) (Str.ofString n))) : DE X B W e (eUn (oFld c n) f) := h.weak (w_fld hc hn)
theorem s_fldO {i : Nat} {c n : String} (hc : Cls X.K (He.ga X.K (Str.ofString c))) (hn : NoAttr X.K (He.ga X.K (Str.ofString c)) (Str.ofString n)) (h : PS X st (sFld X.K (tVar i) (tDM X.K B W f) (Str.ofString n))) : DS X B W st (sFldO i c n f) := h.weak (w_setF hc hn)
theorem d_make {c : String} {fn : Fn} {a : As} {dd : List D} {dvs : List V} (hd : ∀ F H, RVs X.K F H dvs dd) (h : PE X e (tMakeSD (He.ga X.K (Str.ofString c)) (spD X.K fn) dvs (WE W) (tDA X.K B W a))) : DM X B W e (eMake c fn a dd) := h.weak (w_make hd)
theorem d_meth {c m : String} {fn : Fn} {g : List Ag} {dd : List D} {dvs : List V} (hd : ∀ F H, RVs X.K F H dvs dd) (h : PE X e (tMethSD (He.ga X.K (Str.ofString c)) (Str.ofString m) (spD X.K fn) dvs (WE W) (tDE X.K B W f) (tDG X.K B W g))) : DM X B W e (eMeth c m fn f g dd) := h.weak (w_meth hd)
theorem d_meth0 {c m : String} {fn : Fn} {dd : List D} {dvs : List V} (hd : ∀ F H, RVs X.K F H dvs dd) (h : PE X e (tMethSD (He.ga X.K (Str.ofString c)) (Str.ofString m) (spD X.K fn) dvs (WE W) (tDE X.K B W f) tNil)) : DM X B W e (eMeth c m fn f [] dd) := by
  refine h.weak fun σ H Q q => ?_
  obtain ⟨F, ρ, A, r, q⟩ := w_meth hd σ H Q q
  refine ⟨F, ρ, A, r, ?_⟩
  cases e1 : f ρ with
  | bad => rw [e1] at q; exact q
  | exc x ρ1 => rw [e1] at q; exact q
  | ok d1 ρ1 =>
    rw [e1] at q
    intro v1 F1 H1 A1 r1 v1r s1
    obtain ⟨a, dx, fs, e2, e3, e4, q⟩ := q v1 F1 H1 A1 r1 v1r s1
    exact ⟨a, dx, fs, e2, e3, e4, w_gnil σ H1 _ q⟩
theorem d_prop {c : String} {fn : Fn} (h : PE X e (tProp (He.ga X.K (Str.ofString c)) (spD X.K fn) [] (fun _ _ _ => False) (tDE X.K B W f))) : DE X B W e (eUn (oProp c fn) f) := h.weak w_prop
end
end U
namespace U
open PySem PySem.Spec PyProof.Rows L2
def itEQ : List D → Option (List D)
  | [.lst l] => some (enumD l)
  | [.tup l] => some (enumD l)
  | _ => none
def sBad : St := fun _ => .bad
def lookB (c : String) : List (String × Bool) → Option Bool
  | [] => none
  | (x, b) :: r => if x = c then some b else lookB c r
def oIsiC (tb : List (String × Bool)) : D → Option D
  | .ins c _ _ => (lookB c tb).map .bl
  | d => (tyName d).map fun _ => .bl false
def oIsi2 (S T : String) (d : D) : Option D := (tyName d).map fun n => .bl ((n == S || (n == "bool" && S == "int")) || (n == T || (n == "bool" && T == "int")))
section
variable {K : PySem.W.Frag} {B : Bx} {F F' : Fz} {H H' : Hp} {W : WX} {σ : L2.St}
theorem yl_enumT {a : Addr} {vs : List V} {ds : List D} (s : SqTF K F H a vs) (r : RVs K F H vs ds) : Yl K (IteT K a) F H (enumD ds) := fun F' H' m k => by
  have s' := (s.step m k).seq
  have r' := r.stay m k
  refine ⟨fun i d e => ?_, fun i hi => ⟨vs, s', by rw [r.len]; rw [enumD_len] at hi; exact hi⟩⟩
  obtain ⟨x, ex, rfl⟩ := enumD_get e
  obtain ⟨v, h1, h2⟩ := getElem?_RVs r' ex
  refine ⟨⟨vs, v, s', h1⟩, ?_⟩
  rintro y H'' ⟨T, z, rfl, hT, rfl, hz⟩
  have := hz vs s'
  rw [h1] at this
  cases this
  exact ⟨_, Grow.new hT, RV.tup2 (.inr rfl) upd_same (by simp only [RV]) (h2.grow (Grow.new hT))⟩
theorem w_ienumQ {f : As} (σ : L2.St) (H : Hp) (R : It → Hp → Prop) (h : tDI K B W (iOfA itEQ f) σ H R) : iEnumQ K (tDA K B W f) σ H R := by
  refine w_iofA h fun F H v d ds r e k => ?_
  match d, r, e with
  | [.lst l], r, e =>
    simp only [itEQ] at e
    cases e
    obtain ⟨w, rfl, rw_⟩ := r.one
    simp only [RV] at rw_
    obtain ⟨a, vs, rfl, sq, rs⟩ := rw_
    exact .inl ⟨a, vs, rfl, sq.seq, k _ (yl_enumL sq rs)⟩
  | [.tup l], r, e =>
    simp only [itEQ] at e
    cases e
    obtain ⟨w, rfl, rw_⟩ := r.one
    simp only [RV] at rw_
    obtain ⟨a, vs, rfl, sq, rs⟩ := rw_
    exact .inr ⟨a, vs, rfl, sq.seq, k _ (yl_enumT sq rs)⟩
  | [], _, e => simp [itEQ] at e
  | _ :: _ :: _, _, e => simp [itEQ] at e
  | [.non], _, e => simp [itEQ] at e
  | [.bl _], _, e => simp [itEQ] at e
  | [.int _], _, e => simp [itEQ] at e
  | [.str _], _, e => simp [itEQ] at e
  | [.ins _ _ _], _, e => simp [itEQ] at e
  | [.own _ _], _, e => simp [itEQ] at e
  | [.exn _ _ _], _, e => simp [itEQ] at e
  | [.dic _], _, e => simp [itEQ] at e
  | [.exv _ _ _], _, e => simp [itEQ] at e
  | [.scr _], _, e => simp [itEQ] at e
theorem lookB_mem {c : String} {b : Bool} : ∀ {tb : List (String × Bool)}, lookB c tb = some b → (c, b) ∈ tb
  | [], h => by simp [lookB] at h
  | (x, y) :: r, h => by
    simp only [lookB] at h
    split at h
    · rename_i e; subst e; cases h; exact List.mem_cons_self
    · exact List.mem_cons_of_mem _ (lookB_mem h)
end
section
variable {X : Cx} {B : Bx} {W : WX} {e : Expr} {st : Stmt} {f g : E} {tg : Expr}
theorem s_raiseO {c : String} {C : Addr} {bmB : List Value} {Bn newId initId : String} {x m : Str} {j : Nat} {p p2 pos pos' : Pos} (Fb : ExcBaseFacts Bn newId initId bmB) (q : PySem.W.excIn X.K C bmB newId = true) (gC : X.mg x = some (.ref C)) (kC : PySem.W.keepIn X.K (.ref C) = true) (r : Raises X (.ref C)) (hC : C = He.ga X.K (Str.ofString c))
    (hc : X.calm = true) (tk : Takes X W) (hg : Gl X x) (hdb : (x == ("__debug__" : Str)) = false := by decide) : DS X B W (.Raise (some (.Call (.Name x p) [.Constant (.str m) j p2] [] pos)) none pos') (sRaise c [] aNil) := s_raise0 hC (ps_raise hc tk (pmk_own Fb q gC kC r hg hdb))
theorem i_enumQ {a : As} (h : PI X tg e (iEnumQ X.K (tDA X.K B W a))) : DI X B W tg e (iOfA itEQ a) := h.weak w_ienumQ
theorem d_isiC {C : Addr} {tb : List (String × Bool)} (h6 : ∀ n ∈ ["NoneType", "bool", "int", "str", "tuple", "list", "dict"], PySem.W.kitOne X.K (.type n) (.ref C) = some false)
    (ht : ∀ p ∈ tb, InsTy X.K (He.ga X.K (Str.ofString p.1)) ∧ PySem.W.kitOne X.K (.ref (He.ga X.K (Str.ofString p.1))) (.ref C) = some p.2)
    (h : PE X e (tCB (rIsi X.K) (tCons (tDE X.K B W f) (tCons (tC (.ref C)) tNil)))) : DE X B W e (eUn (oIsiC tb) f) := by
  refine h.weak fun σ H Q q => ?_
  refine w_un (r := fun v H Q => rIsi X.K [v, .ref C] H Q) ?_ σ H Q q
  intro F H x a d Q ra e q
  unfold oIsiC at e; split at e
  · rename_i c ns ds
    obtain ⟨b, h1, rfl⟩ := Option.map_eq_some_iff.mp e
    obtain ⟨it, hk⟩ := ht _ (lookB_mem h1)
    simp only [RV] at ra
    obtain ⟨a, dx, fs, rfl, fa, ha, en, rs⟩ := ra
    exact ⟨.ref a, .ref C, _, _, b, rfl, .own C, .base (.ins ha it.cl it.ha it.hn it.htk it.hm), hk, q _ F H Grow.refl (by simp only [RV])⟩
  · obtain ⟨n, h1, rfl⟩ := Option.map_eq_some_iff.mp e
    exact ⟨x, .ref C, _, _, false, rfl, .own C, ty_of ra h1, h6 n (tyName_mem h1), q _ F H Grow.refl (by simp only [RV])⟩
theorem d_isi2 {S T : String} (hS : S ∈ ["bool", "int", "str", "tuple", "list"]) (hT : T ∈ ["bool", "int", "str", "tuple", "list"]) (h : PE X e (tCB (rIsiT X.K) (tCons (tDE X.K B W f) (tCons (tTup (tCons (tC (.ty S)) (tCons (tC (.ty T)) tNil))) tNil)))) : DE X B W e (eUn (oIsi2 S T) f) := by
  refine h.weak fun σ H Q q => ?_
  refine w_un (r := fun v H Q => [V.ty S, .ty T].length ≤ sizeLine ∧ ∀ p, H p = none → rIsiT X.K [v, .ref p] (upd H p (.tup [.ty S, .ty T])) Q) ?_ σ H Q q
  intro F H x a d Q ra e q
  refine ⟨by rw [sizeLine_eq]; simp, fun p hp => ?_⟩
  unfold oIsi2 at e
  obtain ⟨n, h1, rfl⟩ := Option.map_eq_some_iff.mp e
  have g : Grow F H F (upd H p (.tup [.ty S, .ty T])) := Grow.raw hp
  have k1 := kit_all n (tyName_mem h1) S hS
  have k2 := kit_all n (tyName_mem h1) T hT
  refine ⟨x, p, [.ty S, .ty T], _, [.type S, .type T], _, rfl, upd_same, .cons (.ty S) (.cons (.ty T) .nil), ty_of (ra.grow g) h1, ?_, q _ F _ g (by simp only [RV]; rfl)⟩
  refine kitAny_cons (kit_ty k1) (fun hb => ?_) (fun hb => by rw [hb]; rfl)
  rw [hb]
  exact kitAny_cons (kit_ty k2) (fun hb2 => by rw [hb2]; exact kitAny_nil) (fun hb2 => by rw [hb2]; rfl)
theorem pe_propU {k : Nat} {C p g : Addr} {n : Str} {fd : FuncData} {ps : List Str} {sp : Sp} {ta : TE} {pos : Pos} (he : PE X e ta) (c : Cls X.K C) (hp : PropOf X.K C n p g) (F : FnOk X.prog X.w X.K X.mg X.base (L2.CX X.prog X.w) k g fd ps sp) (hr : Room (k + 1) X.A) (hb : ∃ ds, Vals [] ds ∧ Binds X.K fd ps ds)
    (hab : attributeBase e n X.env (eval e X.env) = eval e X.env) : PE X (.Attribute e n pos) (tProp C sp [] (fun _ _ _ => False) ta) := by
  obtain ⟨ds, hd, hb⟩ := hb
  exact pe_prop he c hp F hr hb hd passes_nox hab
end
end U
namespace PySem.W
open Lean Elab Tactic Meta PySem PySem.Spec PySem.Calls PyProof.Rows
section
variable {prog : Program} {w : World} {A : Around} {E : Value → Shared → Prop} {s : Shared} {K : Frag} {x C L f : Addr} {h₀ : Heap} {m : Str → Option Value} {ox : Obj} {od : Option Obj}
end
end PySem.W
namespace PySem.W
open Lean Elab Tactic Meta PySem PySem.Spec PySem.Calls PyProof.Rows
section
variable {prog : Program} {w : World} {A A₀ : Around} {E : Value → Shared → Prop} {s : Shared} {K : Frag} {x C L f : Addr} {h₀ : Heap} {m : Str → Option Value} {ox : Obj} {od : Option Obj} {name : Str} {b tb : Value}
open Builtin in
end
end PySem.W
namespace L2
open PySem PySem.Spec PyProof.Rows
theorem passAt_no {X : Cx} {σ : St} : PassesAt (L2.CX X.prog X.w) X σ (fun _ _ _ => False) := fun pins H s e s' I h => by
  obtain ⟨a, B, H', cls, d, _, _, _, _, _, _, _, z⟩ := h
  exact z.elim
theorem rel_ni {v : V} {u : Value} (r : RelV v u) : u ≠ .notImplemented := by
  intro e
  subst e
  cases v with
  | non => cases (show Value.notImplemented = Value.none from r)
  | bl b => cases (show Value.notImplemented = Value.bool b from r)
  | int i => obtain ⟨t, e⟩ := (show ∃ t, Value.notImplemented = Value.int i t from r); cases e
  | str x => obtain ⟨t, e⟩ := (show ∃ t, Value.notImplemented = Value.str x t from r); cases e
  | byt b => obtain ⟨t, e⟩ := (show ∃ t, Value.notImplemented = Value.bytes b t from r); cases e
  | flt b => obtain ⟨t, e⟩ := (show ∃ t, Value.notImplemented = Value.float b t from r); cases e
  | ref a => cases (show Value.notImplemented = Value.ref a from r)
  | ty n => cases (show Value.notImplemented = Value.type n from r)
theorem cmp_back {X : Cx} {pins : List (Addr × Obj)} {σ : St} {Q : VK} {r : Value} {s' : Shared} (h : EP X pins σ Q r s') : PySem.W.CmpBack (EP X pins σ Q) r s' := by
  have hn : r ≠ .notImplemented := by
    obtain ⟨z, H', I', rz, qz⟩ := h
    exact rel_ni rz
  unfold PySem.W.CmpBack
  split
  · exact hn rfl
  · exact h
def rOwn2 (C : Addr) (sp : Sp) : R2 := fun x y H Q => ∃ a b dx dy fs gs, x = .ref a ∧ y = .ref b ∧ H a = some (.ins C dx fs) ∧ H b = some (.ins C dy gs) ∧ sp [x, y] H Q (fun _ _ _ => False)
def rOwnN (C : Addr) (sp : Sp) : R2 := fun x y H Q => ∃ a b dx dy fs gs, x = .ref a ∧ y = .ref b ∧ H a = some (.ins C dx fs) ∧ H b = some (.ins C dy gs) ∧ sp [x, y] H (fun v H' => ∃ r, v = .bl r ∧ Q (.bl (!r)) H') (fun _ _ _ => False)
section
variable {X : Cx} {k : Nat} {C f : Addr} {fd : FuncData} {ps : List Str} {sp : Sp}
theorem op_own2 (F : FnOk X.prog X.w X.K X.mg X.base (L2.CX X.prog X.w) k f fd ps sp) (hs : PySem.W.findIn X.K (.ref C) "__eq__" = some (some (.ref f))) (hf : PySem.W.isFn X.K (.ref f) = true) (hb : ∃ ds, Vals [] ds ∧ Binds X.K fd ps ds) (hr : Room (k + 1) X.A) : OpR X (compareOp .Eq) (rOwn2 C sp) := by
  intro pins s σ H x y v u Q I rx ry hq
  obtain ⟨a, b, dx, dy, fs, gs, rfl, rfl, ha, hb', q⟩ := hq
  cases rx
  cases ry
  obtain ⟨ds, hd, hb⟩ := hb
  obtain ⟨mA, J, _⟩ := ins_get I.hok ha
  obtain ⟨mB, J', _⟩ := ins_get I.hok hb'
  obtain ⟨od, J, _⟩ := J.look
  obtain ⟨od', J', _⟩ := J'.look
  obtain ⟨m, hF⟩ := I.fr
  show wpAny (model X.prog X.w) X.A (richCompare .Eq (.ref a) (.ref b)) (EP X pins σ Q) X.xe s
  refine PySem.W.cmp_K (op := .Eq) (tb := .ref C) hr.units0 hF I.ok.mod.kin J J'.type (by simp [PySem.W.notFirst]) hs hf ?_
  refine wpAny_mono (run_fnSD (E := fun _ _ _ _ => False) (us := [.ref a, .ref b]) (vs := [.ref a, .ref b]) F (hr.mono (by omega)) hb hd passAt_no I (.cons rfl (.cons rfl .nil)) q) (fun r s' z => ?_) fun _ _ e => e
  exact cmp_back z
def tBinSD (C : Addr) (sp : Sp) (E : St → XK) (ta tb : TE) : TE := fun σ H Q => ta σ H fun x H1 => tb σ H1 fun y H2 => ∃ a b dx dy fs gs, x = .ref a ∧ y = .ref b ∧ H2 a = some (.ins C dx fs) ∧ H2 b = some (.ins C dy gs) ∧ sp [x, y] H2 Q (E σ)
def tBinISD (C : Addr) (sp : Sp) (E : St → XK) (ta tb : TE) : TE := fun σ H Q => ta σ H fun x H1 => tb σ H1 fun y H2 => ∃ a i dx fs, x = .ref a ∧ y = .int i ∧ H2 a = some (.ins C dx fs) ∧ sp [x, y] H2 Q (E σ)
end
end L2
namespace U
open PySem PySem.Spec PyProof.Rows L2
def oEqC (c : String) (f : Fn) : D → D → Option D
  | .ins c1 n1 d1, .ins c2 n2 d2 => if c1 = c ∧ c2 = c then (match f [.ins c1 n1 d1, .ins c2 n2 d2] with
    | .ok (.bl b) _ => some (.bl b)
    | _ => none) else none
  | _, _ => none
def oNeC (c : String) (f : Fn) : D → D → Option D
  | .ins c1 n1 d1, .ins c2 n2 d2 => if c1 = c ∧ c2 = c then (match f [.ins c1 n1 d1, .ins c2 n2 d2] with
    | .ok (.bl b) _ => some (.bl !b)
    | _ => none) else none
  | _, _ => none
def oIn (c : String) : D → Option D
  | .ins c' ns ds => if c' = c then some (.ins c' ns ds) else none
  | _ => none
def isIn (c : String) : D → Bool
  | .ins c' _ _ => decide (c' = c)
  | _ => false
def valK (ρ : Env) : ER → ER
  | .ok d _ => .ok d ρ
  | .exc x _ => .exc x ρ
  | .bad => .bad
def eBin (c : String) (f : Fn) (a b : E) : E := fun ρ => (a ρ).bind fun x ρ1 => (b ρ1).bind fun y ρ2 => if isIn c x && isIn c y then valK ρ2 (f [x, y]) else .bad
def isInt : D → Bool
  | .int _ => true
  | _ => false
def eBinI (c : String) (f : Fn) (a b : E) : E := fun ρ => (a ρ).bind fun x ρ1 => (b ρ1).bind fun y ρ2 => if isIn c x && isInt y then valK ρ2 (f [x, y]) else .bad
section
variable {K : PySem.W.Frag} {B : Bx} {F F' : Fz} {H H' : Hp} {W : WX} {σ : L2.St}
theorem grow0 {A' Ar : List Addr} (s : Step [] F H (A' ++ Ar) F' H') (dm : ∀ a, F' a → ∃ o, H' a = some o) : Grow F H F' H' :=
  ⟨s.mono, fun b o e => s.keep b o e (by simp), fun b hb => (by
    rcases s.froz b hb with q | q | q
    · exact .inl q
    · exact .inr q
    · exact absurd q (by simp)), fun _ => dm⟩
def P2D (K : PySem.W.Frag) (o : D → D → Option D) (r : R2) : Prop := ∀ (F : Fz) (H : Hp) (x y : V) (a b d : D) (Q : VK), (∀ a, F a → ∃ o, H a = some o) → RV K F H x a → RV K F H y b → o a b = some d → (∀ v F' H', Grow F H F' H' → RV K F' H' v d → Q v H') → r x y H Q
theorem w_opD {o : D → D → Option D} {r : R2} {f g : E} (p : P2D K o r) (σ : L2.St) (H : Hp) (Q : VK) (h : tDE K B W (eOp o f g) σ H Q) : tOp r (tDE K B W f) (tDE K B W g) σ H Q := by
  obtain ⟨F, ρ, A, rp, h⟩ := h
  refine ⟨F, ρ, A, rp, ?_⟩
  unfold eOp at h
  cases e1 : f ρ with
  | bad => rw [e1] at h; exact h
  | exc x ρ1 => rw [e1] at h; exact h
  | ok d1 ρ1 =>
    rw [e1] at h
    intro v1 F1 H1 A1 r1 v1r s1
    refine ⟨F1, ρ1, A1, r1, ?_⟩
    simp only [ER.bind] at h
    cases e2 : g ρ1 with
    | bad => rw [e2] at h; exact h
    | exc x ρ2 => rw [e2] at h; exact h.before s1
    | ok d2 ρ2 =>
      rw [e2] at h
      intro v2 F2 H2 A2 r2 v2r s2
      obtain ⟨d, ed, h⟩ := ok_inv h
      refine p F2 H2 v1 v2 d1 d2 d Q r2.dm (v1r.step r1 s2) v2r ed fun v F' H' g vr => h v F' H' A2 (r2.grow g) vr ((s1.trans s2).trans g.step)
theorem sp2 {f : Fn} {v w : V} {a b : D} {Q : VK} (dm : ∀ a, F a → ∃ o, H a = some o) (ra : RV K F H v a) (rb : RV K F H w b) {d : D} {o : Env} (e : f [a, b] = .ok d o) (hm : d.isMut = false) (q : ∀ v F' H', Grow F H F' H' → RV K F' H' v d → Q v H') : spD K f [v, w] H Q (fun _ _ _ => False) := by
  refine ⟨F, [a, b], [], ([], none), ?_, List.nodup_nil, (fun b hb => by cases hb), dm, ?_⟩
  · simp only [OVps]
    exact ⟨[], [], ra.own.op, ⟨[], [], rb.own.op, rfl, rfl⟩, rfl⟩
  · rw [e]
    intro v F2 H2 σ2 A2 Ar o2 n2 nf2 dm2 ov s2
    obtain ⟨rfl, rv⟩ := ov.plain hm
    exact q v F2 H2 (grow0 s2 dm2) rv
theorem p_eqC {c : String} {f : Fn} : P2D K (oEqC c f) (rOwn2 (He.ga K (Str.ofString c)) (spD K f)) := by
  intro F H x y a b d Q dm ra rb e q
  unfold oEqC at e
  split at e
  · rename_i c1 n1 d1 c2 n2 d2
    split at e
    · rename_i hc
      obtain ⟨rfl, hc2⟩ := hc
      subst hc2
      split at e
      · rename_i b0 o0 ef
        cases e
        have h := sp2 dm ra rb ef rfl q
        simp only [RV] at ra rb
        obtain ⟨a, dx, fs, rfl, fa, ha, en, rs⟩ := ra
        obtain ⟨b, dy, gs, rfl, fb, hb, en', rs'⟩ := rb
        exact ⟨a, b, dx, dy, fs, gs, rfl, rfl, ha, hb, h⟩
      · cases e
    · cases e
  · cases e
theorem OVps.ofRVs : ∀ {vs : List V} {ds : List D}, RVs K F H vs ds → OVps K F H B vs ds []
  | [], [], _ => by simp only [OVps]
  | _ :: _, _ :: _, h => by
    simp only [RVs] at h
    simp only [OVps]
    exact ⟨[], [], h.1.own.op, OVps.ofRVs h.2, rfl⟩
  | [], _ :: _, h => by simp only [RVs] at h
  | _ :: _, [], h => by simp only [RVs] at h
end
section
variable {X : Cx} {B : Bx} {W : WX} {e : Expr} {st : Stmt} {f g : E}
theorem t_opD {o : D → D → Option D} {r : R2} (p : P2D X.K o r) (h : PT X e (tTest (tOp r (tDE X.K B W f) (tDE X.K B W g)))) : DT X B W e (eOp o f g) := t_val (h.weak fun σ H Q q => w_opD p σ H _ q)
theorem w_par3 {K : PySem.W.Frag} {i j l : Nat} {f : As} (D : Ends) (σ : L2.St) (H : Hp) (h : tDS K B W (sPar [i, j, l] f) D σ H) : tPar3 i j l (tDA K B W f) D σ H := by
  obtain ⟨F, ρ, A, rp, h⟩ := h
  refine ⟨F, ρ, A, rp, ?_⟩
  unfold sPar at h
  cases e1 : f ρ with
  | bad => rw [e1] at h; exact h
  | exc x ρ1 => rw [e1] at h; exact xend.expr h
  | ok ds ρ1 =>
    rw [e1] at h
    intro vs F' H' A' r o s
    simp only at h
    cases e2 : putAll [i, j, l] ds ρ1 with
    | none => rw [e2] at h; exact h.elim
    | some ρ4 =>
      rw [e2] at h
      simp only at h
      match ds, e2 with
      | [], e2 => simp [putAll] at e2
      | [_], e2 => simp [putAll] at e2
      | [_, _], e2 => simp [putAll] at e2
      | _ :: _ :: _ :: _ :: _, e2 => simp [putAll] at e2
      | [d1, d2, d3], e2 =>
        simp only [putAll, Option.bind_eq_some_iff] at e2
        obtain ⟨ρ2, p1, ρ3, p2, ρ5, p3, e5⟩ := e2
        cases e5
        match vs, o with
        | [], o => simp only [RVs] at o
        | [_], o => simp only [RVs] at o; exact o.2.elim
        | [_, _], o => simp only [RVs] at o; exact o.2.2.elim
        | _ :: _ :: _ :: _ :: _, o => simp only [RVs] at o; exact o.2.2.2.elim
        | [v1, v2, v3], o =>
          simp only [RVs] at o
          obtain ⟨A2, r2, sub2⟩ := r.putP o.1 p1
          obtain ⟨A3, r3, sub3⟩ := r2.putP o.2.1 p2
          obtain ⟨A4, r4, sub4⟩ := r3.putP o.2.2.1 p3
          exact ⟨v1, v2, v3, rfl, h _ F' H' A4 r4 (s.sub fun a ha => sub2 a (sub3 a (sub4 a ha))) (by simp)⟩
theorem s_par3 {i j l : Nat} {a : As} (h : PS X st (tPar3 i j l (tDA X.K B W a))) : DS X B W st (sPar [i, j, l] a) := h.weak w_par3
end
end U
namespace ClX
open PySem PySem.Spec PyProof.Rows L2
section
variable {X : Cx} {k : Nat} {C p g : Addr} {mc : Value} {fd : FuncData} {ps : List Str} {sp : Sp} {E : L2.St → XK} {o e : Expr} {es : List Expr} {f m : Str} {pos apos : Pos} {ta : TE} {t : TA} {pl : Sem Bool} {dvs : List V}
theorem run_codeSD {pins : List (Addr × Obj)} {σ : L2.St} {H : Hp} {s : Shared} {Q : VK} {E : L2.St → XK} {us : List Value} {vs : List V} {ds : List Value} (F : FnOk X.prog X.w X.K X.mg X.base (L2.CX X.prog X.w) k g fd ps sp) (hr : Room k X.A) (hb : Binds X.K fd ps ds) (hd : Vals dvs ds) (hx : PassesAt (L2.CX X.prog X.w) X σ (E σ))
    (I : Inv X pins σ H s) (r : Vals vs us) (h : sp (vs ++ dvs) H Q (E σ)) : codeAny (model X.prog X.w) X.A (.call (.ref g) ⟨us, []⟩) (fun r s' => match r with
      | .ok (.ret v) => EP X pins σ Q v s'
      | .ok _ => False
      | .error e => X.xe e s') s := by
  have r2 : Vals (vs ++ dvs) (us ++ ds) := r.append hd
  have hl : (us ++ ds).length = ps.length := by rw [← r2.length]; exact F.len _ _ _ _ h
  refine codeAny_mono (F.run X.A X.stack s H ⟨us, []⟩ (us ++ ds) (vs ++ dvs) Q (E σ) hr I.env0 (hb s us I.kIn hl) r2 h) fun r s' hq => ?_
  cases r with
  | error e => exact hx pins H s e s' I hq
  | ok fl =>
    cases fl with
    | ret u => exact I.after hq
    | next => exact False.elim hq
    | brk => exact False.elim hq
    | cont => exact False.elim hq
def tCMethSD (C : Addr) (sp : Sp) (dvs : List V) (E : L2.St → XK) (t : TA) : TE := fun σ H Q => t σ H fun vs H2 => sp (.ref C :: (vs ++ dvs)) H2 Q (E σ)
theorem pe_cmethSD (he : PE X o (tC (.ref C))) (r : CRead X.K C mc) (c : CMet X.K C mc m p g) (F : FnOk X.prog X.w X.K X.mg X.base (L2.CX X.prog X.w) k g fd ps sp) (hr : Room k X.A) (hb : ∃ ds, Vals dvs ds ∧ Binds X.K fd ps ds) (hx : ∀ σ, PassesAt (L2.CX X.prog X.w) X σ (E σ)) (ha : PA X (e :: es) t)
    (hst : starEach (e :: es) X.env = (false, eval e X.env) :: starEach es X.env := by rfl) (hpl : (backTo pos (starEach es X.env)).any (·.1) = false := by rfl)
    (ht : eval (.Call (.Attribute o m apos) (e :: es) [] pos) X.env = (do
      let ov ← eval o X.env
      standAt apos.atName
      let (f, first) ← holding [ov] (getMethod ov m pl)
      callWith pos f first (backTo pos (starEach (e :: es) X.env)) (backToKw pos (keywordEach [] X.env))) := by rfl) :
    PE X (.Call (.Attribute o m apos) (e :: es) [] pos) (tCMethSD C sp dvs E t) := by
  obtain ⟨ds, hd, hb⟩ := hb
  refine ⟨fun pins s σ H Q I h => ?_⟩
  refine PySem.W.methodCall_KW (pl := pl) (thn (he.run pins s σ H (fun x H1 => x = .ref C ∧ t σ H1 fun vs H2 => sp (.ref C :: (vs ++ dvs)) H2 Q (E σ)) I ⟨rfl, h⟩) fun u s1 ⟨x, H1, I1, rx, ex, q⟩ => ?_) ht
  subst ex
  obtain rfl : u = Value.ref C := rx
  refine getmethcm_ok I1 r c fun s2 I2 => ?_
  refine callwith_cm I2 (base_none I1 (Nat.le_refl _)) c.fi (thn (ha.run pos _ s2 σ H1 _ I2 q) fun us s3 ⟨vs, H2, I3, rv, q2⟩ => ⟨⟨pin_at I3, I3.kIn⟩, ?_⟩) hst hpl
  have z : wpAny (model X.prog X.w) X.A (call (.ref s1.heap.objs.size) us) (EP X ((s1.heap.objs.size, PySem.W.methodObj (.ref g) (.ref C)) :: pins) σ Q) X.xe s3 :=
    wpAny_call (PySem.W.method_call (pin_at I3) (run_codeSD (us := .ref C :: us) (vs := .ref C :: vs) F hr hb hd (hx σ) I3 (.cons rfl rv) q2))
  exact thn z fun _ _ y => unpinE y
end
end ClX
namespace L2
open PySem PySem.Spec PyProof.Rows
section
variable {X : Cx} {CX : CXT} {k i : Nat} {f C : Addr} {fd : FuncData} {ps : List Str} {sp : Sp} {dvs : List V} {E : St → XK} {x : Str} {p pos : Pos} {e : Expr} {es : List Expr} {t : TA}
def tMakeL (i : Nat) (C : Addr) (sp : Sp) (dvs : List V) (E : St → XK) (t : TA) : TE := fun σ H Q => σ[i]? = some (some (.ref C)) ∧ tMakeSD C sp dvs E t σ H Q
theorem pe_makeL (M : Mk X.K C f) (F : FnOk X.prog X.w X.K X.mg X.base CX k f fd ps sp) (hr : Room (k + 1) X.A) (hN : X.N[i]? = some x) (hv : Vis X.env.scope x) (hb : ∃ ds, Vals dvs ds ∧ Binds X.K fd ps ds) (hx : ∀ σ, PassesAt CX X σ (E σ)) (ha : PA X (e :: es) t)
    (hdb : (x == ("__debug__" : Str)) = false := by decide) (hcd : (x == ("__classdict__" : Str)) = false := by decide)
    (he : starEach (e :: es) X.env = (false, eval e X.env) :: starEach es X.env := by rfl) (hpl : (backTo pos (starEach es X.env)).any (·.1) = false := by rfl) : PE X (.Call (.Name x p) (e :: es) [] pos) (tMakeL i C sp dvs E t) := by
  obtain ⟨ds, hd, hb⟩ := hb
  refine ⟨fun pins s σ H Q I h => ?_⟩
  obtain ⟨hs, ht⟩ := h
  refine wpAny_Call_Name_kw (thn ((pe_var (pos := p) hN hv hdb hcd).run pins s σ H (fun v H1 => v = .ref C ∧ H1 = H) I ⟨.ref C, hs, rfl, rfl⟩) fun u s1 ⟨v, H1, I1, r1, q1⟩ => ?_)
  obtain ⟨rfl, rfl⟩ := q1
  cases r1
  refine PySem.W.callWith_K (h₀ := X.base) I.ok.mod.kin M.kp (thn (ha.run pos pins s1 σ _ _ I1 ht) fun us s2 ⟨vs, H2, I2, r, q⟩ => ⟨I2.kIn, ?_⟩) he hpl
  exact run_makeSD M F hr hb hd hx I2 r q
end
end L2
namespace U
open PySem PySem.Spec PyProof.Rows L2
def fnOfC (n m : Nat) (c : String) (b : St) : Fn := fun ds => if ds.length = n ∧ allPlain ds = true then (match b (some (.exn c [] []) :: (ds.map some ++ List.replicate m none)) with
  | .rt d _ => .ok d []
  | .nx _ => .ok .non []
  | .ex x _ => .exc x []
  | _ => .bad) else .bad
def isC (c : String) : Option (Option D) → Bool
  | some (some (.exn c' [] [])) => decide (c' = c)
  | _ => false
def eMakeL (i : Nat) (c : String) (f : Fn) (a : As) (dd : List D) : E := fun ρ => if isC c ρ[i]? then eMake c f a dd ρ else .bad
def spC (K : PySem.W.Frag) (c : String) (f : Fn) : Sp := fun vs H Q E => ∃ vs', vs = .ref (He.ga K (Str.ofString c)) :: vs' ∧ spD K f vs' H Q E
section
variable {K : PySem.W.Frag} {B : Bx} {F F' : Fz} {H H' : Hp} {W : WX} {σ : L2.St}
theorem allPlain_mem : ∀ {l : List D}, allPlain l = true → ∀ d ∈ l, d.isMut = false
  | [], _, d, h => by cases h
  | x :: l, h, d, hd => by
    simp only [allPlain, Bool.and_eq_true, Bool.not_eq_true'] at h
    rcases List.mem_cons.mp hd with z | z
    · rw [z]; exact h.1
    · exact allPlain_mem h.2 d z
theorem OVps.allP : ∀ {vs : List V} {ds : List D} {A : List Addr}, OVps K F H B vs ds A → (∀ d ∈ ds, d.isMut = false) → A = [] ∧ RVs K F H vs ds
  | [], [], A, h, _ => by simp only [OVps] at h; exact ⟨h, by simp only [RVs]⟩
  | v :: vs, d :: ds, A, h, m => by
    simp only [OVps] at h
    obtain ⟨A1, A2, h1, h2, rfl⟩ := h
    obtain ⟨rfl, r⟩ := h1.plain (m d List.mem_cons_self)
    obtain ⟨rfl, rs⟩ := OVps.allP h2 fun x hx => m x (List.mem_cons_of_mem _ hx)
    exact ⟨rfl, by simp only [RVs]; exact ⟨r, rs⟩⟩
  | [], _ :: _, _, h, _ => by simp only [OVps] at h
  | _ :: _, [], _, h, _ => by simp only [OVps] at h
theorem OVS.ofRVs (m : Nat) : ∀ {vs : List V} {ds : List D}, RVs K F H vs ds → OVS K F H B (vs.map some ++ List.replicate m none) (ds.map some ++ List.replicate m none) []
  | [], [], _ => OVS.nones m
  | _ :: _, _ :: _, h => by
    simp only [RVs] at h
    simp only [List.map_cons, List.cons_append, OVS]
    exact ⟨[], [], by simp only [OVo]; exact h.1.own.op, OVS.ofRVs m h.2, rfl⟩
  | [], _ :: _, h => by simp only [RVs] at h
  | _ :: _, [], h => by simp only [RVs] at h
theorem fnC_ok {P : Program} {w : World} {mg : Str → Option Value} {base : Heap} {x qual : Str} {params : Arguments} {body : List Stmt} {scope : Scope} {dvs : List V} {kws : List (Str × V)} {f : Addr} {fd : FuncData} {N ps : List Str} {k n m : Nat} {b : U.St} {c : String}
    (Fd : FunD K x qual params body scope dvs kws f fd) (S : FnScope N ps scope) (hn : ps.length = n + 1) (hN : N.length = n + 1 + m)
    (hb : ∀ (cdv : Value) (A : Around) (outer : List PySem.Env) (s : Shared) (H : Hp) (E : XK), Room k (A.deeper (envOfC qual scope s.heap.objs.size f cdv)) →
      PSs (cxOf (L2.CX P w) P w K mg base N qual scope f cdv A outer s H E) body (tDS K ([], some (He.ga K (Str.ofString c), .ref (He.ga K (Str.ofString c)), none)) (fun cls d _ H => E cls d H) b)) : FnOk P w K mg base (L2.CX P w) (k + 1) f fd ps (spC K c (fnOfC n m c b)) := by
  refine Fd.ok S (fun vs H Q E h => ?_) (fun cdv A outer s H vs Q E hr h => ?_)
  · obtain ⟨vs', rfl, F, ds, A, B, o, nd, nf, dm, h⟩ := h
    unfold fnOfC at h
    by_cases c : ds.length = n ∧ allPlain ds = true
    · rw [List.length_cons, o.len, c.1, hn]
    · rw [if_neg c] at h; exact h.elim
  · obtain ⟨vs', rfl, F, ds, A', B, o, nd, nf, dm, h⟩ := h
    refine ⟨_, hb cdv A outer s H E hr, ?_⟩
    unfold fnOfC at h
    by_cases hc : ds.length = n ∧ allPlain ds = true
    case neg => rw [if_neg hc] at h; exact h.elim
    rw [if_pos hc] at h
    have hl := o.len
    obtain ⟨rfl, rs⟩ := o.allP (allPlain_mem hc.2)
    have es : L2.start N (.ref (He.ga K (Str.ofString c)) :: vs') = some (.ref (He.ga K (Str.ofString c))) :: (vs'.map some ++ List.replicate m none) := by
      unfold L2.start
      rw [hN, List.length_cons, hl, hc.1, Nat.add_sub_cancel_left]
      rfl
    refine ⟨F, some (.exn c [] []) :: (ds.map some ++ List.replicate m none), [], ⟨?_, List.nodup_nil, (fun a ha => by cases ha), dm⟩, ?_⟩
    · rw [es]
      simp only [OVS]
      refine ⟨[], [], ?_, OVS.ofRVs m rs, rfl⟩
      simp only [OVo, OVp]
      exact ⟨trivial, _, _, _, rfl, rfl, rfl, .inl ⟨rfl, rfl, rfl⟩⟩
    · cases e : b (some (.exn c [] []) :: (ds.map some ++ List.replicate m none)) with
      | bad => rw [e] at h; exact h
      | bk ρ => rw [e] at h; exact h.elim
      | ct ρ => rw [e] at h; exact h.elim
      | nx ρ =>
        rw [e] at h
        intro σ' F' H' A2 r st _
        exact h .non F' H' [] [] [] (by simp only [OVS]) List.nodup_nil (fun a ha => by cases ha) r.dm (by simp only [OV, RV]; exact ⟨trivial, trivial⟩) (st.sub fun a ha => by cases ha)
      | rt d ρ =>
        rw [e] at h
        intro v σ' F' H' A2 Ar r ov nda nfa st _
        simp only [List.nodup_append] at nda
        exact h v F' H' [] [] Ar (by simp only [OVS]) (by simpa using nda.2.1) (fun a ha => nfa a (by simpa using ha)) r.dm ov (st.sub fun a ha => List.mem_append_right _ (by simpa using ha))
      | ex y ρ =>
        rw [e] at h
        intro cls dd σ' F' H' A2 r xv st _
        exact h cls dd F' H' [] [] (by simp only [OVS]) List.nodup_nil (fun a ha => by cases ha) r.dm xv (st.sub fun a ha => by cases ha)
theorem w_makeL {i : Nat} {c : String} {f : Fn} {a : As} {dd : List D} {dvs : List V} {pins : List Addr} {cls : Value} {ddx : Option Addr} (hd : ∀ F H, RVs K F H dvs dd) (σ : L2.St) (H : Hp) (Q : VK) (h : tDM K (pins, some (He.ga K (Str.ofString c), cls, ddx)) W (eMakeL i c f a dd) σ H Q) :
    tMakeL i (He.ga K (Str.ofString c)) (spD K f) dvs (WE W) (tDA K (pins, some (He.ga K (Str.ofString c), cls, ddx)) W a) σ H Q := by
  obtain ⟨F, ρ, A, rp, h⟩ := h
  unfold eMakeL at h
  by_cases z : isC c ρ[i]? = true
  case neg => rw [if_neg z] at h; exact h.elim
  rw [if_pos z] at h
  refine ⟨?_, w_make hd σ H Q ⟨F, ρ, A, rp, h⟩⟩
  unfold isC at z
  split at z
  · rename_i c' e0
    obtain ⟨v, A1, hv, ov, _⟩ := rp.sl.get e0
    simp only [OVp] at ov
    obtain ⟨_, a', cls', dd', rfl, eb, xv⟩ := ov
    cases eb
    exact hv
  · cases z
theorem w_cmeth {c : String} {f : Fn} {g : List Ag} {dd : List D} {dvs : List V} (hd : ∀ F H, RVs K F H dvs dd) (σ : L2.St) (H : Hp) (Q : VK) (h : tDM K B W (eCall f g dd) σ H Q) : ClX.tCMethSD (He.ga K (Str.ofString c)) (spC K c f) dvs (WE W) (tDG K B W g) σ H Q := by
  have h1 := w_call hd σ H Q h
  obtain ⟨F, ρ, A, rp, h1⟩ := h1
  refine ⟨F, ρ, A, rp, ?_⟩
  cases e1 : evAg g ρ with
  | bad => rw [e1] at h1; exact h1
  | exc x ρ1 => rw [e1] at h1; exact h1
  | ok l ρ1 =>
    rw [e1] at h1
    exact fun vs F' H' A' r av s => ⟨_, rfl, h1 vs F' H' A' r av s⟩
end
section
variable {X : Cx} {B : Bx} {W : WX} {e : Expr} {st : Stmt} {f g : E}
theorem d_makeL {i : Nat} {c : String} {fn : Fn} {a : As} {dd : List D} {dvs : List V} {pins : List Addr} {cls : Value} {ddx : Option Addr} (hd : ∀ F H, RVs X.K F H dvs dd) (h : PE X e (tMakeL i (He.ga X.K (Str.ofString c)) (spD X.K fn) dvs (WE W) (tDA X.K (pins, some (He.ga X.K (Str.ofString c), cls, ddx)) W a))) : DM X (pins, some (He.ga X.K (Str.ofString c), cls, ddx)) W e (eMakeL i c fn a dd) := h.weak (w_makeL hd)
theorem d_cmeth {c : String} {fn : Fn} {g : List Ag} {dd : List D} {dvs : List V} (hd : ∀ F H, RVs X.K F H dvs dd) (h : PE X e (ClX.tCMethSD (He.ga X.K (Str.ofString c)) (spC X.K c fn) dvs (WE W) (tDG X.K B W g))) : DM X B W e (eCall fn g dd) := h.weak (w_cmeth hd)
end
end U
namespace L2
open PySem PySem.Spec PyProof.Rows
section
variable {X : Cx} {CX : CXT} {k : Nat} {f C : Addr} {fd : FuncData} {ps : List Str} {sp : Sp} {dvs : List V} {E : St → XK} {x : Str} {p pos : Pos} {e : Expr} {es : List Expr} {ta : TE} {t : TA}
def tOCall (C : Addr) (sp : Sp) (dvs : List V) (E : St → XK) (ta : TE) (t : TA) : TE := fun σ H Q => ta σ H fun x H1 => (∃ a dx fs, x = .ref a ∧ H1 a = some (.ins C dx fs)) ∧ t σ H1 fun vs H2 => (∃ a dx fs, x = .ref a ∧ H2 a = some (.ins C dx fs)) ∧ sp (x :: (vs ++ dvs)) H2 Q (E σ)
end
end L2
namespace U
open PySem PySem.Spec PyProof.Rows L2
def fI (c : String) (f : Fn) : Fn := fun ds => if isI1 c ds then f ds else .bad
where isI1 (c : String) : List D → Bool
  | .ins c' _ _ :: _ => decide (c' = c)
  | _ => false
def eOCall (c : String) (f : Fn) (o : E) (g : List Ag) (dd : List D) : E := eCall (fI c f) (.v (eUn (oIn c) o) :: g) dd
section
variable {K : PySem.W.Frag} {B : Bx} {F F' : Fz} {H H' : Hp} {W : WX} {σ : L2.St}
theorem tDG_mono {g : List Ag} {σ : L2.St} {H : Hp} {P Q : List V → Hp → Prop} (h : tDG K B W g σ H P) (m : ∀ vs H', P vs H' → Q vs H') : tDG K B W g σ H Q := by
  obtain ⟨F, ρ, A, rp, h⟩ := h
  refine ⟨F, ρ, A, rp, ?_⟩
  cases e : evAg g ρ with
  | bad => rw [e] at h; exact h
  | exc x ρ1 => rw [e] at h; exact h
  | ok l ρ1 =>
    rw [e] at h
    exact fun vs F' H' A' r a s => m _ _ (h vs F' H' A' r a s)
end
section
variable {X : Cx} {B : Bx} {W : WX} {e : Expr} {st : Stmt} {f g : E}
end
section
variable {c : String} {fn : Fn} {a : E} {dd ds : List D} {ρ : Env} {ns : List String} {r : List D}
theorem v_ocall {g : List Ag} : eOCall c fn a g dd ρ = eCall (fI c fn) (.v (eUn (oIn c) a) :: g) dd ρ := id rfl
theorem v_fI : fI c fn (.ins c ns ds :: r) = fn (.ins c ns ds :: r) := by simp [fI, fI.isI1]
theorem v_oInO : oIn c (.ins c ns ds) = some (.ins c ns ds) := by simp [oIn]
end
end U
namespace U
theorem atD_nat {α : Type} {l : List α} {j : Nat} : atD l (j : Int) = l[j]? := by
  unfold atD ixD
  rw [if_pos (by omega)]
  by_cases h : j < l.length
  · rw [if_pos (by omega)]; simp
  · rw [if_neg (by omega)]; simp; omega
theorem at_0 {α : Type} {x : α} {xs : List α} : atD (x :: xs) 0 = some x := atD_nat (j := 0)
theorem at_1 {α : Type} {x y : α} {xs : List α} : atD (x :: y :: xs) 1 = some y := atD_nat (j := 1)
theorem at_2 {α : Type} {x y z : α} {xs : List α} : atD (x :: y :: z :: xs) 2 = some z := atD_nat (j := 2)
theorem at_3 {α : Type} {w x y z : α} {xs : List α} : atD (w :: x :: y :: z :: xs) 3 = some z := atD_nat (j := 3)
theorem at_neg {α : Type} {x : α} {xs : List α} : atD (xs ++ [x]) (-1) = some x := by
  unfold atD ixD
  rw [if_neg (by omega), if_pos (by simp; omega)]
  simp only [Option.bind_some]
  rw [show ((-1 : Int) + ((xs ++ [x]).length : Nat)).toNat = xs.length by simp; omega]
  simp
theorem ixD_nat {n j : Nat} (h : j < n) : ixD n (j : Int) = some j := by
  unfold ixD
  rw [if_pos (by omega), if_pos (by omega)]; simp
theorem ix_0 {n : Nat} : ixD (n + 1) 0 = some 0 := ixD_nat (j := 0) (by omega)
theorem ix_1 {n : Nat} : ixD (n + 1 + 1) 1 = some 1 := ixD_nat (j := 1) (by omega)
theorem ix_2 {n : Nat} : ixD (n + 1 + 1 + 1) 2 = some 2 := ixD_nat (j := 2) (by omega)
theorem cap_le {n : Nat} : (n ≤ cap) = (n ≤ 16777216) := rfl
theorem small_lim {n : Nat} : (n < lim64) = (n < 18446744073709551616) := rfl
end U
namespace U
section
variable {d x y : D} {ρ ρ1 : Env} {e : Ex} {k : D → Env → ER} {kf : D → Env → Fl} {ka : D → Env → AR} {kl : List D → Env → ER} {kla : List D → Env → AR} {kn : Env → Fl} {ds : List D} {a b c : E} {s t : St} {g : Tg} {i : Nat}
theorem v_bind : (ER.ok d ρ).bind k = k d ρ := id rfl
theorem v_bindX : (ER.exc e ρ).bind k = .exc e ρ := id rfl
theorem v_bindB : ER.bad.bind k = .bad := id rfl
theorem v_binds : (ER.ok d ρ).binds kf = kf d ρ := id rfl
theorem v_bindsX : (ER.exc e ρ).binds kf = .ex e ρ := id rfl
theorem v_bindsB : ER.bad.binds kf = .bad := id rfl
theorem v_bindA : (ER.ok d ρ).bindA ka = ka d ρ := id rfl
theorem v_bindAX : (ER.exc e ρ).bindA ka = .exc e ρ := id rfl
theorem v_bindAB : ER.bad.bindA ka = .bad := id rfl
theorem v_abind : (AR.ok ds ρ).bind kl = kl ds ρ := id rfl
theorem v_abindX : (AR.exc e ρ).bind kl = .exc e ρ := id rfl
theorem v_abindB : AR.bad.bind kl = .bad := id rfl
theorem v_abindA : (AR.ok ds ρ).bindA kla = kla ds ρ := id rfl
theorem v_abindAX : (AR.exc e ρ).bindA kla = .exc e ρ := id rfl
theorem v_abindAB : AR.bad.bindA kla = .bad := id rfl
theorem v_nx : (Fl.nx ρ).bind kn = kn ρ := id rfl
theorem v_rt : (Fl.rt d ρ).bind kn = .rt d ρ := id rfl
theorem v_bk : (Fl.bk ρ).bind kn = .bk ρ := id rfl
theorem v_ct : (Fl.ct ρ).bind kn = .ct ρ := id rfl
theorem v_ex : (Fl.ex e ρ).bind kn = .ex e ρ := id rfl
theorem v_bad : Fl.bad.bind kn = .bad := id rfl
theorem v_c : eC d ρ = .ok d ρ := id rfl
theorem v_var : eVar i ρ = lift (rd ρ[i]?) ρ := id rfl
theorem v_some : lift (some d) ρ = .ok d ρ := id rfl
theorem v_none : lift none ρ = .bad := id rfl
theorem v_rd (h : d.isMut = false) : rd (some (some d)) = some d := by
  cases d <;> first | rfl | cases h
theorem v_rdN : rd (some none) = none := id rfl
theorem m_non : D.isMut .non = false := id rfl
theorem m_bl {z : Bool} : D.isMut (.bl z) = false := id rfl
theorem m_int {z : Int} : D.isMut (.int z) = false := id rfl
theorem m_str {z : List Nat} : D.isMut (.str z) = false := id rfl
theorem m_tup {z : List D} : D.isMut (.tup z) = false := id rfl
theorem m_lst {z : List D} : D.isMut (.lst z) = false := id rfl
theorem m_scr {z : List Int} : D.isMut (.scr z) = false := id rfl
theorem m_exv {c : String} {ns : List String} {z : List D} : D.isMut (.exv c ns z) = false := id rfl
theorem m_ins {z : List D} {n : String} {ns : List String} : D.isMut (.ins n ns z) = false := id rfl
def kOp2 (o : D → D → Option D) (x : D) : D → Env → ER := fun y ρ2 => lift (o x y) ρ2
def kOp1 (o : D → D → Option D) (b : E) : D → Env → ER := fun x ρ1 => (b ρ1).bind (kOp2 o x)
theorem v_kOp2 {o : D → D → Option D} : kOp2 o x y ρ = lift (o x y) ρ := id rfl
theorem v_kOp1 {o : D → D → Option D} : kOp1 o b x ρ = (b ρ).bind (kOp2 o x) := id rfl
theorem v_op {o : D → D → Option D} : eOp o a b ρ = (a ρ).bind (kOp1 o b) := id rfl
def kUn (o : D → Option D) : D → Env → ER := fun x ρ1 => lift (o x) ρ1
theorem v_kUn {o : D → Option D} : kUn o x ρ = lift (o x) ρ := id rfl
theorem v_un {o : D → Option D} : eUn o a ρ = (a ρ).bind (kUn o) := id rfl
theorem v_anil : aNil ρ = .ok [] ρ := id rfl
def kA2 (x : D) : List D → Env → AR := fun xs ρ2 => .ok (x :: xs) ρ2
def kA1 (r : As) : D → Env → AR := fun x ρ1 => (r ρ1).bindA (kA2 x)
theorem v_kA2 : kA2 x ds ρ = .ok (x :: ds) ρ := id rfl
theorem v_kA1 {r : As} : kA1 r x ρ = (r ρ).bindA (kA2 x) := id rfl
theorem v_acons {r : As} : aCons a r ρ = (a ρ).bindA (kA1 r) := id rfl
def kN (o : List D → Option D) : List D → Env → ER := fun xs ρ1 => lift (o xs) ρ1
theorem v_kN {o : List D → Option D} : kN o ds ρ = lift (o ds) ρ := id rfl
theorem v_n {o : List D → Option D} {r : As} : eN o r ρ = (r ρ).bind (kN o) := id rfl
def andK (b : E) (x : D) (ρ1 : Env) : ER := match x with
  | .bl true => b ρ1
  | .bl false => .ok (.bl false) ρ1
  | _ => .bad
theorem v_and : eAnd a b ρ = (a ρ).bind (andK b) := id rfl
theorem v_andT : andK b (.bl true) ρ = b ρ := id rfl
theorem v_andF : andK b (.bl false) ρ = .ok (.bl false) ρ := id rfl
def orK (b : E) (x : D) (ρ1 : Env) : ER := match x with
  | .bl false => b ρ1
  | .bl true => .ok (.bl true) ρ1
  | _ => .bad
theorem v_or : eOr a b ρ = (a ρ).bind (orK b) := id rfl
theorem v_orT : orK b (.bl true) ρ = .ok (.bl true) ρ := id rfl
theorem v_orF : orK b (.bl false) ρ = b ρ := id rfl
def ifE (a b : E) (x : D) (ρ1 : Env) : ER := match x with
  | .bl true => a ρ1
  | .bl false => b ρ1
  | _ => .bad
theorem v_ife : eIf c a b ρ = (c ρ).bind (ifE a b) := id rfl
theorem v_ifeT : ifE a b (.bl true) ρ = a ρ := id rfl
theorem v_ifeF : ifE a b (.bl false) ρ = b ρ := id rfl
def chK (o' : D → D → Option D) (c : E) (y : D) (ρ2 : Env) (r : Option D) : ER := match r with
  | some (.bl true) => (c ρ2).bind fun z ρ3 => lift (o' y z) ρ3
  | some (.bl false) => .ok (.bl false) ρ2
  | _ => .bad
def kC2 (o o' : D → D → Option D) (c : E) (x : D) : D → Env → ER := fun y ρ2 => chK o' c y ρ2 (o x y)
def kC1 (o o' : D → D → Option D) (b c : E) : D → Env → ER := fun x ρ1 => (b ρ1).bind (kC2 o o' c x)
theorem v_kC2 {o o' : D → D → Option D} : kC2 o o' c x y ρ = chK o' c y ρ (o x y) := id rfl
theorem v_kC1 {o o' : D → D → Option D} : kC1 o o' b c x ρ = (b ρ).bind (kC2 o o' c x) := id rfl
theorem v_ch {o o' : D → D → Option D} : eChain o o' a b c ρ = (a ρ).bind (kC1 o o' b c) := id rfl
theorem v_chT {o' : D → D → Option D} : chK o' c y ρ (some (.bl true)) = (c ρ).bind (kOp2 o' y) := id rfl
theorem v_chF {o' : D → D → Option D} : chK o' c y ρ (some (.bl false)) = .ok (.bl false) ρ := id rfl
def kFrz : D → Env → ER := fun x ρ1 => lift (frzD x) ρ1
theorem v_kFrz : kFrz x ρ = lift (frzD x) ρ := id rfl
theorem v_frz : eFrz a ρ = (a ρ).bind kFrz := id rfl
theorem v_frzP (h : d.isMut = false) : frzD d = some d := by cases d <;> first | rfl | cases h
theorem v_frzL {l : List D} : frzD (.own 0 (.lst l)) = if allPlain l then some (.lst l) else none := id rfl
theorem v_plN : allPlain [] = true := id rfl
theorem v_plC {l : List D} : allPlain (d :: l) = (!d.isMut && allPlain l) := id rfl
def giveK (i : Nat) (ρ : Env) (o : Option (Option D)) : ER := match o with
  | some (some d) => (match frzD d with
    | some d' => .ok d' (ρ.set i (some d'))
    | none => .bad)
  | _ => .bad
theorem v_give : eGive i ρ = giveK i ρ ρ[i]? := id rfl
theorem v_giveO {l : List D} (h : allPlain l = true) : giveK i ρ (some (some (.own 0 (.lst l)))) = .ok (.lst l) (ρ.set i (some (.lst l))) := by simp [giveK, frzD, h]
theorem v_giveP (h : d.isMut = false) : giveK i ρ (some (some d)) = .ok d (ρ.set i (some d)) := by simp [giveK, v_frzP h]
theorem v_isOL {t : Nat} {l : List D} : isOL (some (some (.own t (.lst l)))) = true := id rfl
def appK (i : Nat) (x : D) (ρ1 : Env) (o : Option (Option D)) : ER := match o with
  | some (some (.own t (.lst l))) => if l.length < cap then .ok .non (ρ1.set i (some (.own t (.lst (l ++ [x]))))) else .bad
  | _ => .bad
def kApp (i : Nat) : D → Env → ER := fun x ρ1 => appK i x ρ1 ρ1[i]?
theorem v_kApp : kApp i x ρ = appK i x ρ ρ[i]? := id rfl
theorem v_app : eApp i a ρ = if isOL ρ[i]? then (a ρ).bind (kApp i) else .bad := id rfl
theorem v_appL {t : Nat} {l : List D} (h : l.length < 16777216) : appK i x ρ (some (some (.own t (.lst l)))) = .ok .non (ρ.set i (some (.own t (.lst (l ++ [x]))))) := by simp [appK, cap, h]
def ixK (ρ1 : Env) (x : D) (o : Option (Option D)) : ER := match o, x with
  | some (some (.own _ (.lst l))), .int k => (match atD l k with
    | some d => if d.isMut then .bad else .ok d ρ1
    | none => .bad)
  | _, _ => .bad
def kIx (i : Nat) : D → Env → ER := fun x ρ1 => ixK ρ1 x ρ1[i]?
theorem v_kIx : kIx i x ρ = ixK ρ x ρ[i]? := id rfl
theorem v_ixO : eIxO i a ρ = if isOL ρ[i]? then (a ρ).bind (kIx i) else .bad := by
  unfold kIx
  unfold eIxO
  congr 2
theorem v_ixL {t : Nat} {l : List D} {k : Int} : ixK ρ (.int k) (some (some (.own t (.lst l)))) = match atD l k with
    | some d => if d.isMut then .bad else .ok d ρ
    | none => .bad := rfl
def putK (i : Nat) (x y : D) (ρ2 : Env) (o : Option (Option D)) : Fl := match o, y with
  | some (some (.own t (.lst l))), .int j => (match ixD l.length j with
    | some m => if allPlain l then .nx (ρ2.set i (some (.own t (.lst (l.set m x))))) else .bad
    | none => .bad)
  | _, _ => .bad
def kPO2 (i : Nat) (x : D) : D → Env → Fl := fun y ρ2 => putK i x y ρ2 ρ2[i]?
def kPO1 (i : Nat) (b : E) : D → Env → Fl := fun x ρ1 => if isOL ρ1[i]? then (b ρ1).binds (kPO2 i x) else .bad
theorem v_kPO2 : kPO2 i x y ρ = putK i x y ρ ρ[i]? := id rfl
theorem v_kPO1 : kPO1 i b x ρ = if isOL ρ[i]? then (b ρ).binds (kPO2 i x) else .bad := id rfl
theorem v_putO : sPutO i b a ρ = (a ρ).binds (kPO1 i b) := by
  unfold kPO1 kPO2
  unfold sPutO
  congr 1
theorem v_putL {t : Nat} {l : List D} {k : Int} : putK i x (.int k) ρ (some (some (.own t (.lst l)))) = match ixD l.length k with
    | some m => if allPlain l then .nx (ρ.set i (some (.own t (.lst (l.set m x))))) else .bad
    | none => .bad := rfl
def lenK (ρ : Env) (o : Option (Option D)) : ER := match o with
  | some (some (.own _ (.lst l))) => .ok (.int l.length) ρ
  | _ => .bad
theorem v_lenO : eLenO i ρ = lenK ρ ρ[i]? := id rfl
theorem v_lenL {t : Nat} {l : List D} : lenK ρ (some (some (.own t (.lst l)))) = .ok (.int l.length) ρ := id rfl
def msK (o : D → D → Option D) (b : E) (x : D) (ρ1 : Env) : ER := match x with
  | .str s => (b ρ1).bind fun y ρ2 => lift (o (.str s) y) ρ2
  | _ => .bad
theorem v_ms {o : D → D → Option D} : eMs o a b ρ = (a ρ).bind (msK o b) := id rfl
theorem v_msS {o : D → D → Option D} {z : List Nat} : msK o b (.str z) ρ = (b ρ).bind (kOp2 o (.str z)) := id rfl
def slK1 (o : D → Option Int → Option Int → Option D) (x : D) (hi : Option E) (r : OR) : ER := match r with
  | .ok l ρ2 => (match part hi ρ2 with
    | .ok h ρ3 => lift (o x l h) ρ3
    | .exc x ρ3 => .exc x ρ3
    | .bad => .bad)
  | .exc x ρ2 => .exc x ρ2
  | .bad => .bad
def slK2 (o : D → Option Int → Option Int → Option D) (x : D) (l : Option Int) (r : OR) : ER := match r with
  | .ok h ρ3 => lift (o x l h) ρ3
  | .exc x ρ3 => .exc x ρ3
  | .bad => .bad
def kSl (o : D → Option Int → Option Int → Option D) (lo hi : Option E) : D → Env → ER := fun x ρ1 => slK1 o x hi (part lo ρ1)
theorem v_kSl {o : D → Option Int → Option Int → Option D} {lo hi : Option E} : kSl o lo hi x ρ = slK1 o x hi (part lo ρ) := id rfl
theorem v_sl {o : D → Option Int → Option Int → Option D} {lo hi : Option E} : eSl o a lo hi ρ = (a ρ).bind (kSl o lo hi) := id rfl
theorem v_sl1 {o : D → Option Int → Option Int → Option D} {hi : Option E} {l : Option Int} : slK1 o x hi (.ok l ρ) = slK2 o x l (part hi ρ) := id rfl
theorem v_sl2 {o : D → Option Int → Option Int → Option D} {l h : Option Int} : slK2 o x l (.ok h ρ) = lift (o x l h) ρ := id rfl
def partK (r : ER) : OR := match r with
  | .ok (.int i) ρ1 => .ok (some i) ρ1
  | .ok _ _ => .bad
  | .exc x ρ1 => .exc x ρ1
  | .bad => .bad
theorem v_part0 : part none ρ = .ok none ρ := id rfl
theorem v_part : part (some a) ρ = partK (a ρ) := id rfl
theorem v_partI {z : Int} : partK (.ok (.int z) ρ) = .ok (some z) ρ := id rfl
theorem v_seq : sSeq s t ρ = (s ρ).bind t := id rfl
theorem v_nil : sNil ρ = .nx ρ := id rfl
theorem v_ret : sRet a ρ = (a ρ).binds Fl.rt := id rfl
theorem v_retN : sRetN ρ = .rt .non ρ := id rfl
def kDrop : D → Env → Fl := fun _ ρ1 => .nx ρ1
theorem v_kDrop : kDrop x ρ = .nx ρ := id rfl
theorem v_drop : sDrop a ρ = (a ρ).binds kDrop := id rfl
theorem v_bkS : sBk ρ = .bk ρ := id rfl
theorem v_ctS : sCt ρ = .ct ρ := id rfl
def ifK (s t : St) (x : D) (ρ1 : Env) : Fl := match x with
  | .bl true => s ρ1
  | .bl false => t ρ1
  | _ => .bad
theorem v_if : sIf c s t ρ = (c ρ).binds (ifK s t) := id rfl
theorem v_ifT : ifK s t (.bl true) ρ = s ρ := id rfl
theorem v_ifF : ifK s t (.bl false) ρ = t ρ := id rfl
def toFl (o : Option Env) : Fl := match o with
  | some ρ => .nx ρ
  | none => .bad
theorem v_toS : toFl (some ρ) = .nx ρ := id rfl
def kSet (i : Nat) : D → Env → Fl := fun d ρ1 => toFl (put i d ρ1)
theorem v_kSet : kSet i d ρ = toFl (put i d ρ) := id rfl
theorem v_set : sSet i a ρ = (a ρ).binds (kSet i) := id rfl
def kAsg (g : Tg) : D → Env → Fl := fun d ρ1 => toFl (g d ρ1)
theorem v_kAsg : kAsg g d ρ = toFl (g d ρ) := id rfl
theorem v_asg : sAsg a g ρ = (a ρ).binds (kAsg g) := id rfl
def putQ (i : Nat) (d : D) (ρ : Env) (o : Option (Option D)) : Option Env := match o with
  | some (some (.own (_ + 1) _)) => none
  | some _ => some (ρ.set i (some d))
  | none => none
theorem v_put : put i d ρ = putQ i d ρ ρ[i]? := id rfl
theorem v_putN : putQ i d ρ (some none) = some (ρ.set i (some d)) := id rfl
theorem v_putP (h : x.isMut = false) : putQ i d ρ (some (some x)) = some (ρ.set i (some d)) := by cases x <;> first | rfl | cases h
theorem v_putOwn : putQ i d ρ (some (some (.own 0 x))) = some (ρ.set i (some d)) := id rfl
def pln (o : Option D) : Prop := ∀ d, o = some d → d.isMut = false
theorem pln_none : pln none := fun _ h => by cases h
theorem pln_some (h : d.isMut = false) : pln (some d) := fun _ e => by cases e; exact h
theorem v_putV {v : Option D} (h : pln v) : putQ i d ρ (some v) = some (ρ.set i (some d)) := by
  cases v with
  | none => rfl
  | some x => exact v_putP (h x rfl)
def Fre (v : Option D) : Prop := ∀ t z, v ≠ some (.own (t + 1) z)
theorem v_putF {v : Option D} (h : Fre v) : putQ i d ρ (some v) = some (ρ.set i (some d)) := by
  cases v with
  | none => rfl
  | some e =>
    cases e with
    | own t z =>
      cases t with
      | zero => rfl
      | succ t => exact absurd rfl (h t z)
    | _ => rfl
theorem fre_none : Fre none := fun _ _ z => by cases z
theorem fre_own {z : D} : Fre (some (.own 0 z)) := fun _ _ e => by cases e
theorem fre_pl (h : d.isMut = false) : Fre (some d) := fun _ _ e => by cases e; cases h
def FreL : Env → Prop
  | [] => True
  | v :: r => Fre v ∧ FreL r
theorem v_gvar : gVar i d ρ = put i d ρ := id rfl
theorem v_gtup {gs : List Tg} : gTup gs (.tup ds) ρ = gAll gs ds ρ := id rfl
theorem v_gnil : gAll [] [] ρ = some ρ := id rfl
theorem v_gcons {gs : List Tg} : gAll (g :: gs) (d :: ds) ρ = (g d ρ).bind (gAll gs ds) := id rfl
def parK (is : List Nat) (r : AR) : Fl := match r with
  | .ok ds ρ1 => toFl (putAll is ds ρ1)
  | .exc x ρ1 => .ex x ρ1
  | .bad => .bad
theorem v_par {is : List Nat} {r : As} : sPar is r ρ = parK is (r ρ) := by
  unfold sPar parK
  cases r ρ <;> rfl
theorem v_parO {is : List Nat} : parK is (.ok ds ρ) = toFl (putAll is ds ρ) := id rfl
theorem v_pa0 : putAll [] [] ρ = some ρ := id rfl
theorem v_pa1 {is : List Nat} : putAll (i :: is) (d :: ds) ρ = (put i d ρ).bind (putAll is ds) := id rfl
def augK (i : Nat) (o : D → D → Option D) (a : E) (ρ : Env) (r : Option D) : Fl := match r with
  | none => .bad
  | some x => (a ρ).binds fun y ρ1 => toFl ((o x y).bind fun z => put i z ρ1)
theorem v_aug {o : D → D → Option D} : sAug i o a ρ = augK i o a ρ (rd ρ[i]?) := by
  unfold sAug augK
  cases rd ρ[i]? with
  | none => rfl
  | some x =>
    show (a ρ).binds _ = (a ρ).binds _
    congr 1
    funext y ρ1
    cases o x y with
    | none => rfl
    | some z => rfl
def kPut (i : Nat) (ρ : Env) : D → Option Env := fun z => put i z ρ
theorem v_kPut : kPut i ρ d = put i d ρ := id rfl
def kAug (i : Nat) (o : D → D → Option D) (x : D) : D → Env → Fl := fun y ρ1 => toFl ((o x y).bind (kPut i ρ1))
theorem v_kAug {o : D → D → Option D} : kAug i o x y ρ = toFl ((o x y).bind (kPut i ρ)) := id rfl
theorem v_augS {o : D → D → Option D} : augK i o a ρ (some x) = (a ρ).binds (kAug i o x) := id rfl
def itK (o : D → Option (List D)) (r : ER) : AR := match r with
  | .ok d ρ1 => (match o d with
    | some ds => .ok ds ρ1
    | none => .bad)
  | .exc x ρ1 => .exc x ρ1
  | .bad => .bad
theorem v_iof {o : D → Option (List D)} : iOf o a ρ = itK o (a ρ) := by unfold iOf itK; cases a ρ <;> rfl
theorem v_itL {l : List D} : itK itL (.ok (.lst l) ρ) = .ok l ρ := id rfl
theorem v_itT {l : List D} : itK itT (.ok (.tup l) ρ) = .ok l ρ := id rfl
theorem v_itS {l : List Nat} : itK itS (.ok (.str l) ρ) = .ok (l.map fun c => .str [c]) ρ := id rfl
def itA (o : List D → Option (List D)) (r : AR) : AR := match r with
  | .ok xs ρ1 => (match o xs with
    | some ds => .ok ds ρ1
    | none => .bad)
  | .exc x ρ1 => .exc x ρ1
  | .bad => .bad
theorem v_ioa {o : List D → Option (List D)} {r : As} : iOfA o r ρ = itA o (r ρ) := by unfold iOfA itA; cases r ρ <;> rfl
theorem v_itR1 {z : Int} (h : okR z = true) : itA itR (.ok [.int z] ρ) = .ok (rangeD 0 z.toNat) ρ := by simp [itA, itR, h]
theorem v_itR2 {y z : Int} (h : okR y = true) (h' : okR z = true) : itA itR (.ok [.int y, .int z] ρ) = .ok (rangeD y (z - y).toNat) ρ := by simp [itA, itR, h, h']
theorem v_itES {l : List Nat} : itA itES (.ok [.str l] ρ) = .ok (enumD (l.map fun c => .str [c])) ρ := id rfl
theorem v_itEL {l : List D} : itA itEL (.ok [.lst l] ρ) = .ok (enumD l) ρ := id rfl
def forA (g : Tg) (b : St) (r : AR) : Fl := match r with
  | .ok ds ρ1 => forL g b ds ρ1
  | .exc x ρ1 => .ex x ρ1
  | .bad => .bad
theorem v_for {it : Is} : sFor it g s ρ = forA g s (it ρ) := by unfold sFor forA; cases it ρ <;> rfl
theorem v_forO : forA g s (.ok ds ρ) = forL g s ds ρ := id rfl
theorem v_fl0 : forL g s [] ρ = .nx ρ := id rfl
def forK (g : Tg) (b : St) (ds : List D) (r : Fl) : Fl := match r with
  | .nx ρ2 => forL g b ds ρ2
  | .ct ρ2 => forL g b ds ρ2
  | .bk ρ2 => .nx ρ2
  | .rt d ρ2 => .rt d ρ2
  | .ex x ρ2 => .ex x ρ2
  | .bad => .bad
theorem v_fl1 : forL g s (d :: ds) ρ = forK g s ds ((toFl (g d ρ)).bind s) := by
  unfold forK
  simp only [forL]
  cases g d ρ with
  | none => rfl
  | some ρ1 => show _ = (match s ρ1 with | _ => _); cases s ρ1 <;> rfl
theorem v_fkN : forK g s ds (.nx ρ) = forL g s ds ρ := id rfl
theorem v_fkC : forK g s ds (.ct ρ) = forL g s ds ρ := id rfl
theorem v_fkB : forK g s ds (.bk ρ) = .nx ρ := id rfl
theorem v_fkR : forK g s ds (.rt d ρ) = .rt d ρ := id rfl
theorem v_fkX : forK g s ds (.ex e ρ) = .ex e ρ := id rfl
def cpA (g : Tg) (t e : E) (vs : List Nat) (r : AR) : ER := match r with
  | .ok ds ρ1 => (match compL g t e vs ds (wipeE vs ρ1) [] with
    | .ok l ρ2 => .ok (.own 0 (.lst l)) ρ2
    | .exc x ρ2 => .exc x ρ2
    | .bad => .bad)
  | .exc x ρ1 => .exc x ρ1
  | .bad => .bad
def cpB (r : AR) : ER := match r with
    | .ok l ρ2 => .ok (.own 0 (.lst l)) ρ2
    | .exc x ρ2 => .exc x ρ2
    | .bad => .bad
theorem v_cp {it : Is} {vs : List Nat} : eComp it g a b vs ρ = cpA g a b vs (it ρ) := by unfold eComp cpA; cases it ρ <;> rfl
theorem v_cpO {vs : List Nat} : cpA g a b vs (.ok ds ρ) = cpB (compL g a b vs ds (wipeE vs ρ) []) := id rfl
theorem v_cpB : cpB (.ok ds ρ) = .ok (.own 0 (.lst ds)) ρ := id rfl
def clE (g : Tg) (t e : E) (vs : List Nat) (ds acc : List D) (r : ER) : AR := match r with
  | .ok x ρ3 => if acc.length < 16777216 then compL g t e vs ds (wipeE vs ρ3) (acc ++ [x]) else .bad
  | _ => .bad
def clT (g : Tg) (t e : E) (vs : List Nat) (ds acc : List D) (r : ER) : AR := match r with
  | .ok (.bl true) ρ2 => clE g t e vs ds acc (e ρ2)
  | .ok (.bl false) ρ2 => compL g t e vs ds (wipeE vs ρ2) acc
  | _ => .bad
def clG (g : Tg) (t e : E) (vs : List Nat) (ds acc : List D) (o : Option Env) : AR := match o with
  | none => .bad
  | some ρ1 => clT g t e vs ds acc (t ρ1)
theorem v_cl0 {vs : List Nat} {acc : List D} : compL g a b vs [] ρ acc = .ok acc ρ := by rw [compL]
theorem v_cl1 {vs : List Nat} {acc : List D} : compL g a b vs (d :: ds) ρ acc = clG g a b vs ds acc (g d ρ) := by
  rw [compL]
  unfold clG
  generalize g d ρ = o
  cases o with
  | none => rfl
  | some ρ1 =>
    show _ = clT g a b vs ds acc (a ρ1)
    simp only []
    generalize a ρ1 = r
    cases r with
    | ok x ρ2 => cases x with
      | bl z => cases z with
        | true =>
          show _ = clE g a b vs ds acc (b ρ2)
          simp only []
          generalize b ρ2 = r2
          cases r2 <;> rfl
        | false => rfl
      | _ => rfl
    | _ => rfl
theorem v_clG {vs : List Nat} {acc : List D} : clG g a b vs ds acc (some ρ) = clT g a b vs ds acc (a ρ) := id rfl
theorem v_clT {vs : List Nat} {acc : List D} : clT g a b vs ds acc (.ok (.bl true) ρ) = clE g a b vs ds acc (b ρ) := id rfl
theorem v_clF {vs : List Nat} {acc : List D} : clT g a b vs ds acc (.ok (.bl false) ρ) = compL g a b vs ds (wipeE vs ρ) acc := id rfl
theorem v_clE {vs : List Nat} {acc : List D} : clE g a b vs ds acc (.ok x ρ) = if acc.length < 16777216 then compL g a b vs ds (wipeE vs ρ) (acc ++ [x]) else .bad := id rfl
def rsK (c : String) (ns : List String) (r : AR) : Fl := match r with
  | .ok ds ρ1 => .ex ⟨c, ns, ds⟩ ρ1
  | .exc x ρ1 => .ex x ρ1
  | .bad => .bad
theorem v_raise {c : String} {ns : List String} {r : As} : sRaise c ns r ρ = rsK c ns (r ρ) := by unfold sRaise rsK; cases r ρ <;> rfl
theorem v_rsO {c : String} {ns : List String} : rsK c ns (.ok ds ρ) = .ex ⟨c, ns, ds⟩ ρ := id rfl
def tryK (tb : Tb) (hs : List Hd) (t : St) (r : Fl) : Fl := match r with
  | .nx ρ1 => t ρ1
  | .ex x ρ1 => catch_ tb x ρ1 hs
  | r => r
theorem v_try {tb : Tb} {hs : List Hd} : sTry tb s hs t ρ = tryK tb hs t (s ρ) := by unfold sTry tryK; cases s ρ <;> rfl
theorem v_tryN {tb : Tb} {hs : List Hd} : tryK tb hs t (.nx ρ) = t ρ := id rfl
theorem v_tryX {tb : Tb} {hs : List Hd} : tryK tb hs t (.ex e ρ) = catch_ tb e ρ hs := id rfl
theorem v_tryR {tb : Tb} {hs : List Hd} : tryK tb hs t (.rt d ρ) = .rt d ρ := id rfl
theorem v_tryB {tb : Tb} {hs : List Hd} : tryK tb hs t (.bk ρ) = .bk ρ := id rfl
theorem v_tryC {tb : Tb} {hs : List Hd} : tryK tb hs t (.ct ρ) = .ct ρ := id rfl
def endF_ (n : Nat) (r : Fl) : ER := match r with
  | .rt d ρ => .ok d (ρ.take n)
  | .nx ρ => .ok .non (ρ.take n)
  | .ex x ρ => .exc x (ρ.take n)
  | _ => .bad
theorem v_fn {n m : Nat} : fnOf n m s ds = if ds.length = n then endF_ n (s (ds.map some ++ List.replicate m none)) else .bad := by
  unfold fnOf endF_
  split
  · cases s (ds.map some ++ List.replicate m none) <;> rfl
  · rfl
theorem v_fnR {n : Nat} : endF_ n (.rt d ρ) = .ok d (ρ.take n) := id rfl
theorem v_fnN {n : Nat} : endF_ n (.nx ρ) = .ok .non (ρ.take n) := id rfl
theorem v_fnX {n : Nat} : endF_ n (.ex e ρ) = .exc e (ρ.take n) := id rfl
def agK (r : GR) (z : Arg) : GR := match r with
  | .ok l ρ2 => .ok (z :: l) ρ2
  | .exc x ρ2 => .exc x ρ2
  | .bad => .bad
def agV (r : List Ag) (q : ER) : GR := match q with
  | .ok d ρ1 => agK (evAg r ρ1) (.v d)
  | .exc x ρ1 => .exc x ρ1
  | .bad => .bad
theorem v_ag0 : evAg [] ρ = .ok [] ρ := id rfl
theorem v_agV {r : List Ag} : evAg (.v a :: r) ρ = agV r (a ρ) := by
  simp only [evAg, agV, agK]
  all_goals
    cases a ρ with
    | ok d ρ1 => cases evAg r ρ1 <;> rfl
    | exc x ρ1 => rfl
    | bad => rfl
theorem v_agO {r : List Ag} : agV r (.ok d ρ) = agK (evAg r ρ) (.v d) := id rfl
theorem v_agX {r : List Ag} : agV r (.exc e ρ) = .exc e ρ := id rfl
def agB (r : List Ag) (i : Nat) (ρ : Env) (o : Option (Option D)) : GR := match o with
  | some (some (.own _ _)) => agK (evAg r ρ) (.b i)
  | _ => .bad
theorem v_agB {r : List Ag} : evAg (.b i :: r) ρ = agB r i ρ ρ[i]? := by
  simp only [evAg]
  unfold agB agK
  generalize ρ[i]? = o
  rcases o with _ | _ | d
  · rfl
  · rfl
  · cases d <;> first | rfl | (cases evAg r ρ <;> rfl)
theorem v_agBO {r : List Ag} {t : Nat} : agB r i ρ (some (some (.own t x))) = agK (evAg r ρ) (.b i) := id rfl
theorem v_agK {l : List Arg} {z : Arg} : agK (.ok l ρ) z = .ok (z :: l) ρ := id rfl
def callK (f : Fn) (dd : List D) (r : GR) : ER := match r with
  | .ok l ρ1 => (match hand ρ1 0 l with
    | some ds => if (lent l).Nodup then (match f (ds ++ dd) with
      | .ok d o => (match back 0 l o ρ1 with
        | some ρ2 => .ok d ρ2
        | none => .bad)
      | .exc x o => (match back 0 l o ρ1 with
        | some ρ2 => .exc x ρ2
        | none => .bad)
      | .bad => .bad) else .bad
    | none => .bad)
  | .exc x ρ1 => .exc x ρ1
  | .bad => .bad
theorem v_call {f : Fn} {g : List Ag} {dd : List D} : eCall f g dd ρ = callK f dd (evAg g ρ) := by unfold eCall callK; cases evAg g ρ <;> rfl
theorem v_callX {f : Fn} {dd : List D} : callK f dd (.exc e ρ) = .exc e ρ := id rfl
def retK (l : List Arg) (ρ1 : Env) (r : ER) : ER := match r with
  | .ok d o => (match back 0 l o ρ1 with
        | some ρ2 => .ok d ρ2
        | none => .bad)
  | .exc x o => (match back 0 l o ρ1 with
        | some ρ2 => .exc x ρ2
        | none => .bad)
  | .bad => .bad
theorem v_callO {f : Fn} {dd : List D} {l : List Arg} (h : hand ρ 0 l = some ds) (hn : (lent l).Nodup) : callK f dd (.ok l ρ) = retK l ρ (f (ds ++ dd)) := by
  simp only [callK, h, if_pos hn]
  unfold retK
  cases f (ds ++ dd) <;> rfl
theorem v_call0 {f : Fn} {dd : List D} : callK f dd (.ok [] ρ) = retK [] ρ (f dd) := v_callO (ds := []) rfl List.nodup_nil
theorem v_call1 {f : Fn} {dd : List D} {d1 : D} : callK f dd (.ok [.v d1] ρ) = retK [.v d1] ρ (f (d1 :: dd)) := v_callO (ds := [d1]) rfl List.nodup_nil
theorem v_call2 {f : Fn} {dd : List D} {d1 d2 : D} : callK f dd (.ok [.v d1, .v d2] ρ) = retK [.v d1, .v d2] ρ (f (d1 :: d2 :: dd)) := v_callO (ds := [d1, d2]) rfl List.nodup_nil
theorem v_call3 {f : Fn} {dd : List D} {d1 d2 d3 : D} : callK f dd (.ok [.v d1, .v d2, .v d3] ρ) = retK [.v d1, .v d2, .v d3] ρ (f (d1 :: d2 :: d3 :: dd)) := v_callO (ds := [d1, d2, d3]) rfl List.nodup_nil
theorem v_call4 {f : Fn} {dd : List D} {d1 d2 d3 d4 : D} : callK f dd (.ok [.v d1, .v d2, .v d3, .v d4] ρ) = retK [.v d1, .v d2, .v d3, .v d4] ρ (f (d1 :: d2 :: d3 :: d4 :: dd)) := v_callO (ds := [d1, d2, d3, d4]) rfl List.nodup_nil
theorem v_ret0 {o : Env} : retK [] ρ (.ok d o) = .ok d ρ := id rfl
theorem v_ret1 {o : Env} {d1 : D} : retK [.v d1] ρ (.ok d o) = .ok d ρ := id rfl
theorem v_ret2 {o : Env} {d1 d2 : D} : retK [.v d1, .v d2] ρ (.ok d o) = .ok d ρ := id rfl
theorem v_ret3 {o : Env} {d1 d2 d3 : D} : retK [.v d1, .v d2, .v d3] ρ (.ok d o) = .ok d ρ := id rfl
theorem v_ret4 {o : Env} {d1 d2 d3 d4 : D} : retK [.v d1, .v d2, .v d3, .v d4] ρ (.ok d o) = .ok d ρ := id rfl
theorem v_retX0 {o : Env} : retK [] ρ (.exc e o) = .exc e ρ := id rfl
theorem v_retX1 {o : Env} {d1 : D} : retK [.v d1] ρ (.exc e o) = .exc e ρ := id rfl
theorem v_retX2 {o : Env} {d1 d2 : D} : retK [.v d1, .v d2] ρ (.exc e o) = .exc e ρ := id rfl
theorem v_retX3 {o : Env} {d1 d2 d3 : D} : retK [.v d1, .v d2, .v d3] ρ (.exc e o) = .exc e ρ := id rfl
theorem v_retX4 {o : Env} {d1 d2 d3 d4 : D} : retK [.v d1, .v d2, .v d3, .v d4] ρ (.exc e o) = .exc e ρ := id rfl
def retB (i t : Nat) (ρ : Env) (r : ER) : ER := match r with
  | .ok d (some (.own 1 p') :: _) => .ok d (ρ.set i (some (.own t p')))
  | .exc x (some (.own 1 p') :: _) => .exc x (ρ.set i (some (.own t p')))
  | _ => .bad
def lendK (f : Fn) (i : Nat) (ρ : Env) (args : List D) (o : Option (Option D)) : ER := match o with
  | some (some (.own t p)) => retB i t ρ (f (.own 1 p :: args))
  | _ => .bad
theorem back_vs {i t : Nat} {ρ : Env} {p' : D} {o : Env} (h : ∃ q, ρ[i]? = some (some (.own t q))) : ∀ {l : List Arg}, lent l = [] → back 0 (.b i :: l) (some (.own 1 p') :: o) ρ = some (ρ.set i (some (.own t p'))) := by
  intro l hl
  obtain ⟨q, hq⟩ := h
  simp only [back, List.head?_cons, hq, List.tail_cons, if_true]
  have : ∀ (l : List Arg) (j : Nat) (o ρ : Env), lent l = [] → back j l o ρ = some ρ := by
    intro l
    induction l with
    | nil => intros; rfl
    | cons z l ih =>
      intro j o ρ h
      cases z with
      | v d => simp only [back]; exact ih _ _ _ (by simpa [lent] using h)
      | b i => simp [lent] at h
  exact this l _ _ _ hl
theorem lend_of {f : Fn} {dd : List D} {l : List Arg} {ds : List D} (hl : lent l = []) (hh : ∀ ρ, hand ρ 1 l = some ds) : callK f dd (.ok (.b i :: l) ρ) = lendK f i ρ (ds ++ dd) ρ[i]? := by
  unfold lendK
  rcases e : ρ[i]? with _ | _ | d0
  · simp [callK, hand, e]
  · simp [callK, hand, e]
  · cases d0 with
    | own t p =>
      have h1 : hand ρ 0 (.b i :: l) = some (.own 1 p :: ds) := by simp [hand, e, hh]
      rw [v_callO h1 (by simp [lent, hl])]
      simp only [List.cons_append]
      unfold retK retB
      cases f (.own 1 p :: (ds ++ dd)) with
      | bad => rfl
      | ok d o =>
        match o with
        | some (.own 1 p') :: o => simp only [back_vs ⟨p, e⟩ hl]
        | [] => simp [back]
        | none :: _ => simp [back]
        | some .non :: _ => simp [back]
        | some (.bl _) :: _ => simp [back]
        | some (.int _) :: _ => simp [back]
        | some (.str _) :: _ => simp [back]
        | some (.tup _) :: _ => simp [back]
        | some (.lst _) :: _ => simp [back]
        | some (.ins _ _ _) :: _ => simp [back]
        | some (.exn _ _ _) :: _ => simp [back]
        | some (.scr _) :: _ => simp [back]
        | some (.dic _) :: _ => simp [back]
        | some (.exv _ _ _) :: _ => simp [back]
        | some (.own 0 _) :: _ => simp [back]
        | some (.own (n + 2) _) :: _ => simp [back, e]
      | exc x o =>
        match o with
        | some (.own 1 p') :: o => simp only [back_vs ⟨p, e⟩ hl]
        | [] => simp [back]
        | none :: _ => simp [back]
        | some .non :: _ => simp [back]
        | some (.bl _) :: _ => simp [back]
        | some (.int _) :: _ => simp [back]
        | some (.str _) :: _ => simp [back]
        | some (.tup _) :: _ => simp [back]
        | some (.lst _) :: _ => simp [back]
        | some (.ins _ _ _) :: _ => simp [back]
        | some (.exn _ _ _) :: _ => simp [back]
        | some (.scr _) :: _ => simp [back]
        | some (.dic _) :: _ => simp [back]
        | some (.exv _ _ _) :: _ => simp [back]
        | some (.own 0 _) :: _ => simp [back]
        | some (.own (n + 2) _) :: _ => simp [back, e]
    | _ => simp [callK, hand, e]
theorem v_b1 {f : Fn} {dd : List D} : callK f dd (.ok [.b i] ρ) = lendK f i ρ dd ρ[i]? := lend_of (ds := []) rfl fun _ => rfl
theorem v_b2 {f : Fn} {dd : List D} {d1 : D} : callK f dd (.ok [.b i, .v d1] ρ) = lendK f i ρ (d1 :: dd) ρ[i]? := lend_of (ds := [d1]) rfl fun _ => rfl
theorem v_b3 {f : Fn} {dd : List D} {d1 d2 : D} : callK f dd (.ok [.b i, .v d1, .v d2] ρ) = lendK f i ρ (d1 :: d2 :: dd) ρ[i]? := lend_of (ds := [d1, d2]) rfl fun _ => rfl
theorem v_b4 {f : Fn} {dd : List D} {d1 d2 d3 : D} : callK f dd (.ok [.b i, .v d1, .v d2, .v d3] ρ) = lendK f i ρ (d1 :: d2 :: d3 :: dd) ρ[i]? := lend_of (ds := [d1, d2, d3]) rfl fun _ => rfl
theorem v_b5 {f : Fn} {dd : List D} {d1 d2 d3 d4 : D} : callK f dd (.ok [.b i, .v d1, .v d2, .v d3, .v d4] ρ) = lendK f i ρ (d1 :: d2 :: d3 :: d4 :: dd) ρ[i]? := lend_of (ds := [d1, d2, d3, d4]) rfl fun _ => rfl
theorem v_lend {f : Fn} {args : List D} {t : Nat} {p : D} : lendK f i ρ args (some (some (.own t p))) = retB i t ρ (f (.own 1 p :: args)) := id rfl
theorem v_retB {t : Nat} {p : D} {o : Env} : retB i t ρ (.ok d (some (.own 1 p) :: o)) = .ok d (ρ.set i (some (.own t p))) := id rfl
theorem v_retBX {t : Nat} {p : D} {o : Env} : retB i t ρ (.exc e (some (.own 1 p) :: o)) = .exc e (ρ.set i (some (.own t p))) := id rfl
end
end U
namespace U
section
variable {d x y : D} {ρ ρ1 o : Env} {e : Ex} {ds fs : List D} {a b : E} {i t : Nat} {c f m : String} {ns : List String} {fn : Fn} {dd : List D} {as : As}
def okPl : Option D → Option D
  | some d => if d.isMut then none else some d
  | none => none
theorem v_okPl (h : d.isMut = false) : okPl (some d) = some d := by simp [okPl, h]
theorem v_fldO : eFldO i c f ρ = lift (fldO c f ρ[i]?) ρ := id rfl
theorem v_fldI : fldO c f (some (some (.own t (.ins c ns ds)))) = okPl (lookN f ns ds) := by
  simp only [fldO, okPl, if_true]
  all_goals (cases lookN f ns ds <;> rfl)
def setFK (i : Nat) (ρ : Env) : Option D → Fl
  | some d => .nx (ρ.set i (some d))
  | none => .bad
def kFld (i : Nat) (c f : String) : D → Env → Fl := fun d ρ => setFK i ρ (putFO c f d ρ[i]?)
theorem v_sfld : sFldO i c f a ρ = (a ρ).binds (kFld i c f) := by
  unfold sFldO kFld setFK; cases a ρ <;> simp only [ER.binds]
  all_goals (rename_i d ρ1; cases putFO c f d ρ1[i]? <;> rfl)
theorem v_kFld : kFld i c f d ρ = setFK i ρ (putFO c f d ρ[i]?) := id rfl
theorem v_setFK : setFK i ρ (some d) = .nx (ρ.set i (some d)) := id rfl
theorem v_putFO (h : ns.length < 1000) : putFO c f d (some (some (.own t (.ins c ns ds)))) = some (.own t (.ins c (putNs f ns) (putDs f d ns ds))) := by simp [putFO, h]
def mkR (c : String) (ρ : Env) : ER → ER
  | .ok .non (some (.own 1 (.ins c' ns fs)) :: _) => if c' = c then .ok (.own 0 (.ins c ns fs)) ρ else .bad
  | .exc x _ => .exc x ρ
  | _ => .bad
def mkK (c : String) (fn : Fn) (dd : List D) : AR → ER
  | .ok ds ρ => mkR c ρ (fn (.own 1 (.ins c [] []) :: (ds ++ dd)))
  | .exc x ρ => .exc x ρ
  | .bad => .bad
theorem v_make : eMake c fn as dd ρ = mkK c fn dd (as ρ) := by
  unfold eMake mkK
  cases as ρ <;> simp only
  rename_i ds ρ1
  unfold mkR
  rfl
theorem v_mkK : mkK c fn dd (.ok ds ρ) = mkR c ρ (fn (.own 1 (.ins c [] []) :: (ds ++ dd))) := id rfl
theorem v_mkKX : mkK c fn dd (.exc e ρ) = .exc e ρ := id rfl
theorem v_mkKB : mkK c fn dd .bad = .bad := id rfl
theorem v_mkR : mkR c ρ (.ok .non (some (.own 1 (.ins c ns fs)) :: o)) = .ok (.own 0 (.ins c ns fs)) ρ := by simp [mkR]
theorem v_mkRX : mkR c ρ (.exc e o) = .exc e ρ := id rfl
theorem v_meth {g : List Ag} : eMeth c m fn a g dd ρ = eCall fn (.v (eUn (oIns c m) a) :: g) dd ρ := id rfl
theorem v_oIns (h : m ∉ ns) : oIns c m (.ins c ns ds) = some (.ins c ns ds) := by simp [oIns, h]
theorem v_methO {g : List Ag} : eMethO c m fn i g dd ρ = if isIO c m ρ[i]? then eCall fn (.b i :: g) dd ρ else .bad := id rfl
theorem v_isIO (h : m ∉ ns) : isIO c m (some (some (.own t (.ins c ns ds)))) = true := by simp [isIO, h]
theorem v_propO : ePropO c fn i ρ = if isI c ρ[i]? then (eCall fn [.b i] [] ρ).plain else .bad := id rfl
theorem v_isI : isI c (some (some (.own t (.ins c ns ds)))) = true := by simp [isI]
theorem v_plain (h : d.isMut = false) : (ER.ok d ρ).plain = .ok d ρ := by simp [ER.plain, h]
def prK : ER → Option D
  | .ok d _ => if d.isMut then none else some d
  | _ => none
theorem v_oProp : oProp c fn (.ins c ns ds) = prK (fn [.ins c ns ds]) := by
  simp only [oProp, prK, if_true]
  all_goals (cases fn [.ins c ns ds] <;> rfl)
theorem v_prK (h : d.isMut = false) : prK (.ok d o) = some d := by simp [prK, h]
theorem v_oCon (h : f ∉ ns) : oCon c f d (.ins c ns ds) = some d := by simp [oCon, h]
theorem v_conO : eConO c f d i ρ = if isIO c f ρ[i]? then .ok d ρ else .bad := id rfl
theorem v_oFld : oFld c f (.ins c ns ds) = lookN f ns ds := by simp [oFld]
theorem v_look : lookN f (m :: ns) (d :: ds) = if m = f then some d else lookN f ns ds := id rfl
theorem v_frzI (h : allPlain ds = true) : frzD (.own 0 (.ins c ns ds)) = some (.ins c ns ds) := by simp [frzD, h]
theorem v_itAL : itA itEQ (.ok [.lst ds] ρ) = .ok (enumD ds) ρ := id rfl
theorem v_itAT : itA itEQ (.ok [.tup ds] ρ) = .ok (enumD ds) ρ := id rfl
theorem v_itEQL : itEQ [.lst ds] = some (enumD ds) := id rfl
theorem v_itEQT : itEQ [.tup ds] = some (enumD ds) := id rfl
def eqK : ER → Option D
  | .ok (.bl b) _ => some (.bl b)
  | _ => none
def neK : ER → Option D
  | .ok (.bl b) _ => some (.bl !b)
  | _ => none
theorem v_eqC {n1 n2 : List String} {d1 d2 : List D} : oEqC c fn (.ins c n1 d1) (.ins c n2 d2) = eqK (fn [.ins c n1 d1, .ins c n2 d2]) := by
  simp only [oEqC, and_self, if_true]; unfold eqK; rfl
theorem v_neC {n1 n2 : List String} {d1 d2 : List D} : oNeC c fn (.ins c n1 d1) (.ins c n2 d2) = neK (fn [.ins c n1 d1, .ins c n2 d2]) := by
  simp only [oNeC, and_self, if_true]; unfold neK; rfl
theorem v_eqK {z : Bool} : eqK (.ok (.bl z) o) = some (.bl z) := id rfl
theorem v_neK {z : Bool} : neK (.ok (.bl z) o) = some (.bl !z) := id rfl
def kB2 (c : String) (fn : Fn) (x : D) : D → Env → ER := fun y ρ2 => if isIn c x && isIn c y then valK ρ2 (fn [x, y]) else .bad
def kB1 (c : String) (fn : Fn) (b : E) : D → Env → ER := fun x ρ1 => (b ρ1).bind (kB2 c fn x)
theorem v_bin : eBin c fn a b ρ = (a ρ).bind (kB1 c fn b) := id rfl
theorem v_kB1 : kB1 c fn b x ρ = (b ρ).bind (kB2 c fn x) := id rfl
theorem v_kB2 : kB2 c fn x y ρ = if isIn c x && isIn c y then valK ρ (fn [x, y]) else .bad := id rfl
theorem v_isIn : isIn c (.ins c ns ds) = true := by simp [isIn]
theorem v_isInt {z : Int} : isInt (.int z) = true := id rfl
def kBI2 (c : String) (fn : Fn) (x : D) : D → Env → ER := fun y ρ2 => if isIn c x && isInt y then valK ρ2 (fn [x, y]) else .bad
def kBI1 (c : String) (fn : Fn) (b : E) : D → Env → ER := fun x ρ1 => (b ρ1).bind (kBI2 c fn x)
theorem v_binI : eBinI c fn a b ρ = (a ρ).bind (kBI1 c fn b) := id rfl
theorem v_kBI1 : kBI1 c fn b x ρ = (b ρ).bind (kBI2 c fn x) := id rfl
theorem v_kBI2 : kBI2 c fn x y ρ = if isIn c x && isInt y then valK ρ (fn [x, y]) else .bad := id rfl
theorem v_valK : valK ρ (.ok d o) = .ok d ρ := id rfl
theorem v_valKX : valK ρ (.exc e o) = .exc e ρ := id rfl
theorem v_makeL : eMakeL i c fn as dd ρ = if isC c ρ[i]? then eMake c fn as dd ρ else .bad := id rfl
theorem v_isC : isC c (some (some (.exn c [] []))) = true := by simp [isC]
end
end U
local macro_rules | `(tactic| walk_at "ev") => `(tactic| simp only [U.v_bind, U.v_kOp2, U.v_kOp1, U.v_kUn, U.v_kA2, U.v_kA1, U.v_kN, U.v_kC2, U.v_kC1, U.v_kFrz, U.v_kApp, U.v_kIx, U.v_kPO2, U.v_kPO1, U.v_kSl, U.v_kDrop, U.v_kSet, U.v_kAsg, U.v_kPut, U.v_kAug, U.v_cl0, U.v_cl1, U.v_clG, U.v_clT, U.v_clF, U.v_clE, U.v_bindX, U.v_bindB, U.v_binds, U.v_bindsX, U.v_bindsB, U.v_bindA, U.v_bindAX, U.v_bindAB, U.v_abind, U.v_abindX, U.v_abindB, U.v_abindA, U.v_abindAX, U.v_abindAB, U.v_nx, U.v_rt, U.v_bk, U.v_ct, U.v_ex, U.v_bad, U.v_c, U.v_var, U.v_some, U.v_none, U.v_rd, U.v_rdN, U.m_non, U.m_bl, U.m_int, U.m_str, U.m_exv, U.m_tup, U.m_lst, U.m_scr, U.m_ins, U.v_op, U.v_un, U.v_anil, U.v_acons, U.v_n, U.v_and, U.v_andT, U.v_andF, U.v_or, U.v_orT, U.v_orF, U.v_ife, U.v_ifeT, U.v_ifeF, U.v_ch, U.v_chT, U.v_chF, U.v_frz, U.v_frzP, U.v_frzL, U.v_plN, U.v_plC, U.v_give, U.v_giveO, U.v_giveP, U.v_isOL, U.v_app, U.v_appL, U.v_ixO, U.v_ixL, U.v_putO, U.v_putL, U.v_lenO, U.v_lenL, U.v_ms, U.v_msS, U.v_sl, U.v_sl1, U.v_sl2, U.v_part0, U.v_part, U.v_partI, U.v_seq, U.v_nil, U.v_ret, U.v_retN, U.v_drop, U.v_bkS, U.v_ctS, U.v_if, U.v_ifT, U.v_ifF, U.v_toS, U.v_set, U.v_asg, U.v_put, U.v_putN, U.v_putP, U.v_putOwn, U.v_putV, U.v_putF, U.fre_none, U.fre_own, U.fre_pl, U.pln_none, U.pln_some, U.v_gvar, U.v_gtup, U.v_gnil, U.v_gcons, U.v_par, U.v_parO, U.v_pa0, U.v_pa1, U.v_aug, U.v_augS, U.v_iof, U.v_itL, U.v_itT, U.v_itS, U.v_ioa, U.v_itR1, U.v_itR2, U.v_itES, U.v_itEL, U.v_for, U.v_forO, U.v_fl0, U.v_fl1, U.v_fkN, U.v_fkC, U.v_fkB, U.v_fkR, U.v_fkX, U.v_cp, U.v_cpO, U.v_cpB, U.v_raise, U.v_rsO, U.v_try, U.v_tryN, U.v_tryX, U.v_tryR, U.v_tryB, U.v_tryC, U.v_fn, U.v_fnR, U.v_fnN, U.v_fnX, U.v_ag0, U.v_agV, U.v_agO, U.v_agX, U.v_agB, U.v_agBO, U.v_agK, U.v_call, U.v_callX, U.v_call0, U.v_call1, U.v_call2, U.v_call3, U.v_call4, U.v_ret0, U.v_ret1, U.v_ret2, U.v_ret3, U.v_ret4, U.v_retX0, U.v_retX1, U.v_retX2, U.v_retX3, U.v_retX4, U.v_b1, U.v_b2, U.v_b3, U.v_b4, U.v_b5, U.v_lend, U.v_retB, U.v_retBX, U.oNot, U.oAdd, U.oSub, U.oMul, U.oMulW, U.oDiv, U.oMod, U.oPow, U.oNeg, U.oLt, U.oLe, U.oGt, U.oGe, U.oEq, U.oNe, U.okD, U.D.eqv, U.eqvs, U.oNeScr, U.oIxScr, U.oLenScr, U.oIsN, U.oNotN, U.D.isN, U.oInS, U.oNotInS, U.oInQ, U.oNotInQ, U.D.flat, U.inD, U.oAddS, U.oMulS, U.oCatL, U.oRepL, U.oCatT, U.oRepT, U.oIxL, U.oIxT, U.oIxS, U.oLenS, U.oLenQ, U.oMax2, U.oMin2, U.oMax3, U.oAbs, U.oSum, U.oAll, U.oAny, U.intsD, U.boolsD, U.strsD, U.oInt, U.oStrI, U.oTupOf, U.oLstOf, U.oSlS, U.oSlL, U.oSlT, U.oRev, U.mkTup, U.mkLst, U.eIsi, U.oIsi, U.tyName, U.v_okPl, U.v_fldO, U.v_fldI, U.v_sfld, U.v_kFld, U.v_setFK, U.v_putFO, U.v_make, U.v_mkK, U.v_mkKX, U.v_mkKB, U.v_mkR, U.v_mkRX, U.v_meth, U.v_oIns, U.v_methO, U.v_isIO, U.v_propO, U.v_isI, U.v_plain, U.v_oProp, U.v_prK, U.v_oCon, U.v_conO, U.v_oFld, U.v_look, U.v_frzI, U.v_itAL, U.v_itAT, U.v_itEQL, U.v_itEQT, U.putNs, U.putDs, U.okPl, U.oIsiC, U.oIsi2, U.lookB, U.lookN, List.mem_cons, List.not_mem_nil, not_false_eq_true, U.v_eqC, U.v_neC, U.v_eqK, U.v_neK, U.v_bin, U.v_kB1, U.v_kB2, U.v_isIn, U.v_isInt, U.v_binI, U.v_kBI1, U.v_kBI2, U.v_valK, U.v_valKX, U.v_makeL, U.v_isC, U.v_ocall, U.v_fI, U.v_oInO, U.wipeE, U.at_0, U.at_1, U.at_2, U.at_3, U.at_neg, U.ix_0, U.ix_1, U.ix_2, List.map_cons, List.map_nil, List.length_cons, List.length_nil, List.length_map, List.length_append, List.getElem?_cons_zero, List.getElem?_cons_succ, List.getElem?_nil, List.cons_append, List.nil_append, List.append_nil, List.set_cons_zero, List.set_cons_succ, List.set_nil, List.all_cons, List.all_nil, List.any_cons, List.any_nil, List.reduceReplicate, List.take_succ_cons, List.take_zero, List.take_nil, Option.bind_some, Option.bind_none, Option.map_some, Option.map_none, Bool.and_true, Bool.true_and, Bool.and_false, Bool.false_and, Bool.or_true, Bool.true_or, Bool.or_false, Bool.false_or, Bool.not_true, Bool.not_false, Bool.not_not, Nat.reduceAdd, Nat.reduceLeDiff, Nat.reduceLT, Nat.zero_le, Nat.reduceEqDiff, Int.reducePow, Int.reduceToNat, Int.reduceNeg, Int.reduceLE, Int.reduceLT, Int.reduceAdd, Int.reduceSub, Int.reduceMul, Int.reduceEq, ite_true, ite_false, if_true, if_false, decide_true, decide_false, and_self, true_and, and_true, false_and, and_false, or_true, true_or, or_self, or_false, false_or, List.cons.injEq, reduceCtorEq, String.reduceEq, Bool.false_eq_true, Bool.true_eq_false, beq_self_eq_true, U.cap_le, U.small_lim])
local macro_rules | `(tactic| walk_at "evh") => `(tactic| simp only [U.v_bind, U.v_kOp2, U.v_kOp1, U.v_kUn, U.v_kA2, U.v_kA1, U.v_kN, U.v_kC2, U.v_kC1, U.v_kFrz, U.v_kApp, U.v_kIx, U.v_kPO2, U.v_kPO1, U.v_kSl, U.v_kDrop, U.v_kSet, U.v_kAsg, U.v_kPut, U.v_kAug, U.v_cl0, U.v_cl1, U.v_clG, U.v_clT, U.v_clF, U.v_clE, U.v_bindX, U.v_bindB, U.v_binds, U.v_bindsX, U.v_bindsB, U.v_bindA, U.v_bindAX, U.v_bindAB, U.v_abind, U.v_abindX, U.v_abindB, U.v_abindA, U.v_abindAX, U.v_abindAB, U.v_nx, U.v_rt, U.v_bk, U.v_ct, U.v_ex, U.v_bad, U.v_c, U.v_var, U.v_some, U.v_none, U.v_rd, U.v_rdN, U.m_non, U.m_bl, U.m_int, U.m_str, U.m_exv, U.m_tup, U.m_lst, U.m_scr, U.m_ins, U.v_op, U.v_un, U.v_anil, U.v_acons, U.v_n, U.v_and, U.v_andT, U.v_andF, U.v_or, U.v_orT, U.v_orF, U.v_ife, U.v_ifeT, U.v_ifeF, U.v_ch, U.v_chT, U.v_chF, U.v_frz, U.v_frzP, U.v_frzL, U.v_plN, U.v_plC, U.v_give, U.v_giveO, U.v_giveP, U.v_isOL, U.v_app, U.v_appL, U.v_ixO, U.v_ixL, U.v_putO, U.v_putL, U.v_lenO, U.v_lenL, U.v_ms, U.v_msS, U.v_sl, U.v_sl1, U.v_sl2, U.v_part0, U.v_part, U.v_partI, U.v_seq, U.v_nil, U.v_ret, U.v_retN, U.v_drop, U.v_bkS, U.v_ctS, U.v_if, U.v_ifT, U.v_ifF, U.v_toS, U.v_set, U.v_asg, U.v_put, U.v_putN, U.v_putP, U.v_putOwn, U.v_putV, U.v_putF, U.fre_none, U.fre_own, U.fre_pl, U.pln_none, U.pln_some, U.v_gvar, U.v_gtup, U.v_gnil, U.v_gcons, U.v_par, U.v_parO, U.v_pa0, U.v_pa1, U.v_aug, U.v_augS, U.v_iof, U.v_itL, U.v_itT, U.v_itS, U.v_ioa, U.v_itR1, U.v_itR2, U.v_itES, U.v_itEL, U.v_for, U.v_forO, U.v_fl0, U.v_fl1, U.v_fkN, U.v_fkC, U.v_fkB, U.v_fkR, U.v_fkX, U.v_cp, U.v_cpO, U.v_cpB, U.v_raise, U.v_rsO, U.v_try, U.v_tryN, U.v_tryX, U.v_tryR, U.v_tryB, U.v_tryC, U.v_fn, U.v_fnR, U.v_fnN, U.v_fnX, U.v_ag0, U.v_agV, U.v_agO, U.v_agX, U.v_agB, U.v_agBO, U.v_agK, U.v_call, U.v_callX, U.v_call0, U.v_call1, U.v_call2, U.v_call3, U.v_call4, U.v_ret0, U.v_ret1, U.v_ret2, U.v_ret3, U.v_ret4, U.v_retX0, U.v_retX1, U.v_retX2, U.v_retX3, U.v_retX4, U.v_b1, U.v_b2, U.v_b3, U.v_b4, U.v_b5, U.v_lend, U.v_retB, U.v_retBX, U.oNot, U.oAdd, U.oSub, U.oMul, U.oMulW, U.oDiv, U.oMod, U.oPow, U.oNeg, U.oLt, U.oLe, U.oGt, U.oGe, U.oEq, U.oNe, U.okD, U.D.eqv, U.eqvs, U.oNeScr, U.oIxScr, U.oLenScr, U.oIsN, U.oNotN, U.D.isN, U.oInS, U.oNotInS, U.oInQ, U.oNotInQ, U.D.flat, U.inD, U.oAddS, U.oMulS, U.oCatL, U.oRepL, U.oCatT, U.oRepT, U.oIxL, U.oIxT, U.oIxS, U.oLenS, U.oLenQ, U.oMax2, U.oMin2, U.oMax3, U.oAbs, U.oSum, U.oAll, U.oAny, U.intsD, U.boolsD, U.strsD, U.oInt, U.oStrI, U.oTupOf, U.oLstOf, U.oSlS, U.oSlL, U.oSlT, U.oRev, U.mkTup, U.mkLst, U.eIsi, U.oIsi, U.tyName, U.v_okPl, U.v_fldO, U.v_fldI, U.v_sfld, U.v_kFld, U.v_setFK, U.v_putFO, U.v_make, U.v_mkK, U.v_mkKX, U.v_mkKB, U.v_mkR, U.v_mkRX, U.v_meth, U.v_oIns, U.v_methO, U.v_isIO, U.v_propO, U.v_isI, U.v_plain, U.v_oProp, U.v_prK, U.v_oCon, U.v_conO, U.v_oFld, U.v_look, U.v_frzI, U.v_itAL, U.v_itAT, U.v_itEQL, U.v_itEQT, U.putNs, U.putDs, U.okPl, U.oIsiC, U.oIsi2, U.lookB, U.lookN, List.mem_cons, List.not_mem_nil, not_false_eq_true, U.v_eqC, U.v_neC, U.v_eqK, U.v_neK, U.v_bin, U.v_kB1, U.v_kB2, U.v_isIn, U.v_isInt, U.v_binI, U.v_kBI1, U.v_kBI2, U.v_valK, U.v_valKX, U.v_makeL, U.v_isC, U.v_ocall, U.v_fI, U.v_oInO, U.wipeE, U.at_0, U.at_1, U.at_2, U.at_3, U.at_neg, U.ix_0, U.ix_1, U.ix_2, List.map_cons, List.map_nil, List.length_cons, List.length_nil, List.length_map, List.length_append, List.getElem?_cons_zero, List.getElem?_cons_succ, List.getElem?_nil, List.cons_append, List.nil_append, List.append_nil, List.set_cons_zero, List.set_cons_succ, List.set_nil, List.all_cons, List.all_nil, List.any_cons, List.any_nil, List.reduceReplicate, List.take_succ_cons, List.take_zero, List.take_nil, Option.bind_some, Option.bind_none, Option.map_some, Option.map_none, Bool.and_true, Bool.true_and, Bool.and_false, Bool.false_and, Bool.or_true, Bool.true_or, Bool.or_false, Bool.false_or, Bool.not_true, Bool.not_false, Bool.not_not, Nat.reduceAdd, Nat.reduceLeDiff, Nat.reduceLT, Nat.zero_le, Nat.reduceEqDiff, Int.reducePow, Int.reduceToNat, Int.reduceNeg, Int.reduceLE, Int.reduceLT, Int.reduceAdd, Int.reduceSub, Int.reduceMul, Int.reduceEq, ite_true, ite_false, if_true, if_false, decide_true, decide_false, and_self, true_and, and_true, false_and, and_false, or_true, true_or, or_self, or_false, false_or, List.cons.injEq, reduceCtorEq, String.reduceEq, Bool.false_eq_true, Bool.true_eq_false, beq_self_eq_true, U.cap_le, U.small_lim, *])
local macro_rules | `(tactic| walk_at "fre") => `(tactic| simp only [U.FreL, U.fre_none, U.fre_own, U.fre_pl, U.m_non, U.m_bl, U.m_int, U.m_str, U.m_exv, U.m_tup, U.m_lst, U.m_scr, U.m_ins, and_self, and_true, true_and, *])
namespace L2
open PySem PySem.Spec PyProof.Rows
section
variable {X : Cx} {k : Nat} {f C : Addr} {fd : FuncData} {ps : List Str} {sp : Sp} {E : St → XK} {a b : Expr} {pos : Pos} {ta tb : TE}
def tOSub (C : Addr) (sp : Sp) (E : St → XK) (ta tb : TE) : TE := fun σ H Q => ta σ H fun x H1 => tb σ H1 fun y H2 => (∃ a dx fs, x = .ref a ∧ H2 a = some (.ins C dx fs)) ∧ sp [x, y] H2 Q (E σ)
theorem pe_count {o e : Expr} {to te : TE} {apos pos : Pos} (ho : PE X o to) (he : PE X e te) (hs : starEach [e] X.env = [(false, eval e X.env)] := by rfl) (hbase : attributeBase o "count" X.env (eval o X.env) = eval o X.env := by rfl) (hline : (apos.endLine == pos.line) = true := by rfl) :
    PE X (.Call (.Attribute o "count" apos) [e] [] pos) (tM1 (fun x xs H Q => ∃ a b, x = .str a ∧ xs = [.str b] ∧ Q (.int (Txt.count a b)) H) to te) :=
  pe_m1 F.slot_str_count F.type_str_count mt_count ho he hs hbase hline
end
end L2
namespace U
open PySem PySem.Spec PyProof.Rows L2
def eOSub (c : String) (f : Fn) (a b : E) : E := eCall (fI c f) [.v (eUn (oIn c) a), .v b] []
def oCount : D → D → Option D
  | .str l, .str [c] => some (.int (l.count c : Nat))
  | _, _ => none
section
variable {K : PySem.W.Frag} {B : Bx} {F F' : Fz} {H H' : Hp} {W : WX} {σ : L2.St}
theorem cnt_count (c : Nat) : ∀ l : List Nat, PyProof.Rows.cnt c l = (l.count c : Nat)
  | [] => rfl
  | n :: r => by
    rw [PyProof.Rows.cnt_cons, cnt_count c r, List.count_cons]
    by_cases h : n = c
    · subst h; simp; omega
    · have : (n == c) = false := by simpa using h
      rw [if_neg h, this]; simp
theorem p_count : PM1 K oCount (fun x xs H Q => ∃ a b, x = .str a ∧ xs = [.str b] ∧ Q (.int (Txt.count a b)) H) := by
  intro F H s y b d Q hc rb e q
  cases b with
  | str t =>
    cases t with
    | nil => cases e
    | cons c t =>
      cases t with
      | cons c' t => cases e
      | nil =>
        simp only [oCount, Option.some.injEq] at e
        subst e
        simp only [RV] at rb
        refine ⟨_, S [c], rfl, by rw [rb.1], ?_⟩
        have ec : Txt.count (S s) (S [c]) = ((s.count c : Nat) : Int) := (count_is (S s) c).trans (cnt_count c s)
        rw [ec]
        exact q _ F H Grow.refl (by simp only [RV])
  | _ => cases e
end
section
variable {X : Cx} {B : Bx} {W : WX} {e : Expr} {st : Stmt} {f g : E}
end
end U
namespace U
open PySem PySem.Spec PyProof.Rows L2
def eMove (i : Nat) : E := fun ρ => match ρ[i]? with
  | some (some (.own 0 d)) => .ok (.own 0 d) (ρ.set i none)
  | _ => .bad
def lookO : Option (Option D) → Option (List D)
  | some (some (.own 0 (.lst l))) => if allPlain l then some l else none
  | _ => none
def cmpO (o : D → D → Option D) (l : List D) (y : D) : Option Bool := match o (.lst l) y with
  | some (.bl r) => some r
  | _ => none
def eCmpO (i : Nat) (o : D → D → Option D) (b : E) : E := fun ρ => if (lookO ρ[i]?).isSome then (b ρ).bind fun y ρ1 => (match lookO ρ1[i]? with
  | some l => (match cmpO o l y with
    | some r => .ok (.bl r) ρ1
    | none => .bad)
  | none => .bad) else .bad
section
variable {K : PySem.W.Frag} {B : Bx} {F F' : Fz} {H H' : Hp} {W : WX} {σ : L2.St}
end
section
variable {X : Cx} {B : Bx} {W : WX} {e : Expr} {f g : E}
end
section
variable {K : PySem.W.Frag} {B : Bx} {F F' : Fz} {H H' : Hp} {W : WX} {σ : L2.St}
def tDAM (K : PySem.W.Frag) (B : Bx) (W : WX) (f : As) : TA := fun σ H Q => ∃ F ρ A, Rep K F H B σ ρ A ∧ match f ρ with
  | .ok ds ρ' => ∀ vs F' H' A' Ar, Rep K F' H' B σ ρ' A' → OVs K F' H' vs ds Ar → (A' ++ Ar).Nodup → (∀ a ∈ Ar, ¬ F' a) → Step A F H (A' ++ Ar) F' H' → Q vs H'
  | .exc x ρ' => xendE K B W σ A F H x ρ'
  | .bad => False
end
section
variable {X : Cx} {B : Bx} {W : WX} {e : Expr} {f g : E} {st : Stmt}
abbrev DAM (X : Cx) (B : Bx) (W : WX) (es : List Expr) (a : As) : Prop := PA X es (tDAM X.K B W a)
end
end U
namespace U
section
variable {i : Nat} {ρ : Env} {o : D → D → Option D} {b : E} {y d : D} {l : List D} {r : Bool} {k : Nat}
def moveK (i : Nat) (ρ : Env) (o : Option (Option D)) : ER := match o with
  | some (some (.own 0 d)) => .ok (.own 0 d) (ρ.set i none)
  | _ => .bad
theorem v_move : eMove i ρ = moveK i ρ ρ[i]? := id rfl
theorem v_moveK : moveK i ρ (some (some (.own 0 d))) = .ok (.own 0 d) (ρ.set i none) := id rfl
def cmpS (ρ : Env) (o : Option D) : ER := match o with
  | some (.bl r) => .ok (.bl r) ρ
  | _ => .bad
def cmpR (ρ : Env) (o : D → D → Option D) (y : D) (l : Option (List D)) : ER := match l with
  | some l => cmpS ρ (o (.lst l) y)
  | none => .bad
def kCmp (i : Nat) (o : D → D → Option D) : D → Env → ER := fun y ρ1 => cmpR ρ1 o y (lookO ρ1[i]?)
theorem v_cmpO : eCmpO i o b ρ = if (lookO ρ[i]?).isSome then (b ρ).bind (kCmp i o) else .bad := by
  unfold eCmpO
  congr 1
  congr 1
  funext y ρ1
  unfold kCmp cmpR
  cases lookO ρ1[i]? with
  | none => rfl
  | some l =>
    simp only [cmpO, cmpS]
    cases o (.lst l) y with
    | none => rfl
    | some d => cases d <;> rfl
theorem v_kCmp : kCmp i o y ρ = cmpR ρ o y (lookO ρ[i]?) := id rfl
theorem v_cmpR : cmpR ρ o y (some l) = cmpS ρ (o (.lst l) y) := id rfl
theorem v_cmpS : cmpS ρ (some (.bl r)) = .ok (.bl r) ρ := id rfl
theorem v_lookO (h : allPlain l = true) : lookO (some (some (.own 0 (.lst l)))) = some l := by simp [lookO, h]
end
end U
namespace U
open PySem PySem.Spec PyProof.Rows L2
def eXf2 (i : Nat) (c f1 f2 f : String) : E := fun ρ => match ρ[i]? with
  | some (some (.exn c' ns [d1, d2])) => if c' = c ∧ ns = [f1, f2] ∧ f1 ≠ f2 then (if f = f1 then .ok d1 ρ else if f = f2 then .ok d2 ρ else .bad) else .bad
  | _ => .bad
def gLst (gs : List Tg) : Tg := fun d ρ => match d with
  | .lst ds => gAll gs ds ρ
  | _ => none
def zipD : List D → List D → List D
  | a :: as, b :: bs => .tup [a, b] :: zipD as bs
  | _, _ => []
def itZ : List D → Option (List D)
  | [.tup a, .tup b] => some (zipD a b)
  | [.lst a, .lst b] => some (zipD a b)
  | _ => none
section
variable {K : PySem.W.Frag} {B : Bx} {F F' : Fz} {H H' : Hp} {W : WX} {σ : L2.St}
end
section
variable {X : Cx} {B : Bx} {W : WX} {e tg : Expr} {f g : E} {st : Stmt} {a : As}
end
section
variable {i : Nat} {ρ : Env} {c f1 f2 f : String} {d1 d2 d : D} {ds es : List D} {gs : List Tg}
def xf2K (c f1 f2 f : String) (ρ : Env) (o : Option (Option D)) : ER := match o with
  | some (some (.exn c' ns [d1, d2])) => if c' = c ∧ ns = [f1, f2] ∧ f1 ≠ f2 then (if f = f1 then .ok d1 ρ else if f = f2 then .ok d2 ρ else .bad) else .bad
  | _ => .bad
theorem v_xf2 : eXf2 i c f1 f2 f ρ = xf2K c f1 f2 f ρ ρ[i]? := id rfl
theorem v_xf2K (h : f1 ≠ f2) : xf2K c f1 f2 f ρ (some (some (.exn c [f1, f2] [d1, d2]))) = if f = f1 then .ok d1 ρ else if f = f2 then .ok d2 ρ else .bad := by simp [xf2K, h]
theorem v_glst : gLst gs (.lst ds) ρ = gAll gs ds ρ := id rfl
theorem v_itZT : itA itZ (.ok [.tup ds, .tup es] ρ) = .ok (zipD ds es) ρ := id rfl
theorem v_itZL : itA itZ (.ok [.lst ds, .lst es] ρ) = .ok (zipD ds es) ρ := id rfl
end
end U
namespace GQ
open PySem PySem.SeqAt
open AutoSeq1 (wpAny_loadPart')
open MeetsSeq MeetsSeq2 MeetsSeq3 SeqRoads2
section
variable {prog : Program} {w : World} {A : Around} {R : Result → Shared → Prop}
end
section
variable {prog : Program} {w : World} {A : Around} {E : Value → Shared → Prop} {s : Shared}
end
end GQ
namespace L2
open PySem PySem.Spec PyProof.Rows
section
variable {X : Cx} {n : Nat} {D : Eqv}
def rNeG (D : Eqv) : R2 := fun x y H Q => DList D x y H ∧ ∀ H', Ext H H' → Q (.bl false) H'
end
def rOwnI (C : Addr) (sp : Sp) : R2 := fun x y H Q => ∃ b dy gs, y = .ref b ∧ H b = some (.ins C dy gs) ∧ sp [y, x] H (fun v H' => ∃ r, v = .bl r ∧ Q (.bl r) H') (fun _ _ _ => False)
def rOwnNI (C : Addr) (sp : Sp) : R2 := fun x y H Q => ∃ b dy gs, y = .ref b ∧ H b = some (.ins C dy gs) ∧ sp [y, x] H (fun v H' => ∃ r, v = .bl r ∧ Q (.bl (!r)) H') (fun _ _ _ => False)
def tOwnB (C : Addr) (sp : Sp) (t : TE) : TT := fun σ H Q => t σ H fun x H1 => ∃ a dx fs, x = .ref a ∧ H1 a = some (.ins C dx fs) ∧ sp [x] H1 (fun v H' => ∃ r, v = .bl r ∧ Q r H') (fun _ _ _ => False)
def rOwnL (C : Addr) (sp : Sp) : List V → Hp → VK → Prop := fun xs H Q => ∃ a dx fs, xs = [.ref a] ∧ H a = some (.ins C dx fs) ∧ sp [.ref a] H (fun v H' => ∃ i, v = .int i ∧ 0 ≤ i ∧ i < 2 ^ 62 ∧ Q (.int i) H') (fun _ _ _ => False)
section
variable {X : Cx} {k : Nat} {C f : Addr} {fd : FuncData} {ps : List Str} {sp : Sp}
theorem pt_ownB {e : Expr} {t : TE} (F : FnOk X.prog X.w X.K X.mg X.base (L2.CX X.prog X.w) k f fd ps sp) (hs : PySem.W.findIn X.K (.ref C) "__bool__" = some (some (.ref f))) (hf : PySem.W.isFn X.K (.ref f) = true) (hb : ∃ ds, Vals [] ds ∧ Binds X.K fd ps ds) (hr : Room (k + 1) X.A) (h : PE X e t)
    (he : ∀ whole, isTrue e X.env whole = (do let v ← whole; standAt e.pos; holding [v] (truthy v)) := by intro _; rfl) : PT X e (tOwnB C sp t) := by
  refine ⟨fun pins s σ H Q I hw => ?_⟩
  refine isTrue_plain (thn (h.run pins s σ H _ I hw) fun v s1 ⟨x, H1, I1, r1, q1⟩ => ?_) (he _)
  obtain ⟨a, dx, fs, rfl, ha, q⟩ := q1
  cases r1
  obtain ⟨ds, hd, hb⟩ := hb
  obtain ⟨mA, J, _⟩ := ins_get I1.hok ha
  obtain ⟨od, J, _⟩ := J.look
  obtain ⟨m, hF⟩ := I1.fr
  refine PySem.W.truthy_K hF I1.ok.mod.kin J hs hf ?_
  refine wpAny_mono (run_fnSD (E := fun _ _ _ _ => False) (us := [.ref a]) (vs := [.ref a]) F (hr.mono (by omega)) hb hd passAt_no I1 (.cons rfl .nil) q) (fun r s' z => ?_) fun _ _ e => e
  obtain ⟨zv, H', I', rz, k, rfl, qz⟩ := z
  cases rz
  exact ⟨H', I', qz⟩
end
end L2
namespace U
open PySem PySem.Spec PyProof.Rows L2
def oInC (c : String) (f : Fn) : D → D → Option D
  | a, .ins c' ns ds => if c' = c then (match f [.ins c' ns ds, a] with
    | .ok (.bl r) _ => some (.bl r)
    | _ => none) else none
  | _, _ => none
def oNotInC (c : String) (f : Fn) : D → D → Option D
  | a, .ins c' ns ds => if c' = c then (match f [.ins c' ns ds, a] with
    | .ok (.bl r) _ => some (.bl (!r))
    | _ => none) else none
  | _, _ => none
def oBoolC (c : String) (f : Fn) : D → Option D
  | .ins c' ns ds => if c' = c then (match f [.ins c' ns ds] with
    | .ok (.bl r) _ => some (.bl r)
    | _ => none) else none
  | _ => none
def oLenC (c : String) (f : Fn) : List D → Option D
  | [.ins c' ns ds] => if c' = c then (match f [.ins c' ns ds] with
    | .ok (.int i) _ => if 0 ≤ i ∧ i < 4611686018427387904 then some (.int i) else none
    | _ => none) else none
  | _ => none
def eqPrs (c : String) (f : Fn) : List D → List D → Bool
  | [], [] => true
  | a :: as, b :: bs => isIn c a && isIn c b && (match f [a, b] with
    | .ok (.bl true) _ => true
    | _ => false) && eqPrs c f as bs
  | _, _ => false
def oNeI (c : String) (f : Fn) : D → D → Option D
  | .lst as, .lst bs => if eqPrs c f as bs then some (.bl false) else none
  | _, _ => none
section
variable {K : PySem.W.Frag} {B : Bx} {F F' : Fz} {H H' : Hp} {W : WX} {σ : L2.St}
theorem sp1 {f : Fn} {v : V} {a : D} {Q : VK} (dm : ∀ a, F a → ∃ o, H a = some o) (ra : RV K F H v a) {d : D} {o : Env} (e : f [a] = .ok d o) (hm : d.isMut = false) (q : ∀ v F' H', Grow F H F' H' → RV K F' H' v d → Q v H') : spD K f [v] H Q (fun _ _ _ => False) := by
  refine ⟨F, [a], [], ([], none), ?_, List.nodup_nil, (fun b hb => by cases hb), dm, ?_⟩
  · simp only [OVps]
    exact ⟨[], [], ra.own.op, rfl, rfl⟩
  · rw [e]
    intro v F2 H2 σ2 A2 Ar o2 n2 nf2 dm2 ov s2
    obtain ⟨rfl, rv⟩ := ov.plain hm
    exact q v F2 H2 (grow0 s2 dm2) rv
theorem w_boolC {c : String} {f : Fn} {e : E} (σ : L2.St) (H : Hp) (Q : Bool → Hp → Prop) (h : tDT K B W (eUn (oBoolC c f) e) σ H Q) : tOwnB (He.ga K (Str.ofString c)) (spD K f) (tDE K B W e) σ H Q := by
  obtain ⟨F, ρ, A, rp, h⟩ := h
  refine ⟨F, ρ, A, rp, ?_⟩
  unfold eUn at h
  cases e1 : e ρ with
  | bad => rw [e1] at h; exact h
  | exc x ρ1 => rw [e1] at h; exact h
  | ok d1 ρ1 =>
    rw [e1] at h
    simp only [ER.bind] at h
    intro v1 F1 H1 A1 r1 v1r s1
    cases e2 : oBoolC c f d1 with
    | none => rw [e2] at h; exact h.elim
    | some d =>
      rw [e2] at h
      simp only [lift] at h
      obtain ⟨b, rfl, h⟩ := h
      unfold oBoolC at e2
      split at e2
      · rename_i c1 n1 d1
        split at e2
        · rename_i hc
          subst hc
          split at e2
          · rename_i b0 o0 ef
            cases e2
            have hsp := sp1 (Q := fun v H' => ∃ r, v = .bl r ∧ Q r H') r1.dm v1r ef rfl fun v F' H' g rv => by
              simp only [RV] at rv
              exact ⟨b, rv, h F' H' A1 (r1.grow g) (s1.trans g.step)⟩
            simp only [RV] at v1r
            obtain ⟨a, dx, fs, rfl, fa, ha, en, rs⟩ := v1r
            exact ⟨a, dx, fs, rfl, ha, hsp⟩
          · cases e2
        · cases e2
      · cases e2
def PND (K : PySem.W.Frag) (o : List D → Option D) (r : List V → Hp → VK → Prop) : Prop := ∀ (F : Fz) (H : Hp) (xs : List V) (ds : List D) (d : D) (Q : VK), (∀ a, F a → ∃ o, H a = some o) → RVs K F H xs ds → o ds = some d → (∀ v F' H', Grow F H F' H' → RV K F' H' v d → Q v H') → r xs H Q
def EqR (K : PySem.W.Frag) (f : Fn) : Addr → Addr → Hp → Prop := fun a b H => ∃ (F : Fz) (da db : D) (o : Env), (∀ a, F a → ∃ o, H a = some o) ∧ RV K F H (.ref a) da ∧ RV K F H (.ref b) db ∧ f [da, db] = .ok (.bl true) o
end
section
variable {X : Cx} {B : Bx} {W : WX} {e : Expr} {f g : E} {st : Stmt} {a : As} {k : Nat} {C fa : Addr} {fd : FuncData} {ps : List Str}
theorem t_boolC {c : String} {fn : Fn} (h : PT X e (tOwnB (He.ga X.K (Str.ofString c)) (spD X.K fn) (tDE X.K B W f))) : DT X B W e (eUn (oBoolC c fn) f) := h.weak w_boolC
end
section
variable {c : String} {fn : Fn} {ns : List String} {ds as bs : List D} {a : D} {o : Env} {r : Bool} {i : Int}
def blK : ER → Option D
  | .ok (.bl r) _ => some (.bl r)
  | _ => none
def nblK : ER → Option D
  | .ok (.bl r) _ => some (.bl (!r))
  | _ => none
def inK : ER → Option D
  | .ok (.int i) _ => if 0 ≤ i ∧ i < 4611686018427387904 then some (.int i) else none
  | _ => none
theorem v_inC : oInC c fn a (.ins c ns ds) = blK (fn [.ins c ns ds, a]) := by simp only [oInC, if_true]; rfl
theorem v_notInC : oNotInC c fn a (.ins c ns ds) = nblK (fn [.ins c ns ds, a]) := by simp only [oNotInC, if_true]; rfl
theorem v_boolC : oBoolC c fn (.ins c ns ds) = blK (fn [.ins c ns ds]) := by simp only [oBoolC, if_true]; rfl
theorem v_lenC : oLenC c fn [.ins c ns ds] = inK (fn [.ins c ns ds]) := by simp only [oLenC, if_true]; rfl
theorem v_blK : blK (.ok (.bl r) o) = some (.bl r) := id rfl
theorem v_nblK : nblK (.ok (.bl r) o) = some (.bl (!r)) := id rfl
theorem v_inK (h : 0 ≤ i ∧ i < 4611686018427387904) : inK (.ok (.int i) o) = some (.int i) := by simp [inK, h]
theorem v_neI (h : eqPrs c fn as bs = true) : oNeI c fn (.lst as) (.lst bs) = some (.bl false) := by simp [oNeI, h]
theorem v_prs0 : eqPrs c fn [] [] = true := id rfl
def trK : ER → Bool
  | .ok (.bl true) _ => true
  | _ => false
theorem v_prs {b : D} : eqPrs c fn (a :: as) (b :: bs) = (isIn c a && isIn c b && trK (fn [a, b]) && eqPrs c fn as bs) := by
  simp only [eqPrs]; rfl
theorem v_trK : trK (.ok (.bl true) o) = true := id rfl
end
end U
local macro_rules | `(tactic| walk_at "evx") => `(tactic| simp only [U.v_bind, U.v_kOp2, U.v_kOp1, U.v_kUn, U.v_kA2, U.v_kA1, U.v_kN, U.v_kC2, U.v_kC1, U.v_kFrz, U.v_kApp, U.v_kIx, U.v_kPO2, U.v_kPO1, U.v_kSl, U.v_kDrop, U.v_kSet, U.v_kAsg, U.v_kPut, U.v_kAug, U.v_cl0, U.v_cl1, U.v_clG, U.v_clT, U.v_clF, U.v_clE, U.v_bindX, U.v_bindB, U.v_binds, U.v_bindsX, U.v_bindsB, U.v_bindA, U.v_bindAX, U.v_bindAB, U.v_abind, U.v_abindX, U.v_abindB, U.v_abindA, U.v_abindAX, U.v_abindAB, U.v_nx, U.v_rt, U.v_bk, U.v_ct, U.v_ex, U.v_bad, U.v_c, U.v_var, U.v_some, U.v_none, U.v_rd, U.v_rdN, U.m_non, U.m_bl, U.m_int, U.m_str, U.m_exv, U.m_tup, U.m_lst, U.m_scr, U.m_ins, U.v_op, U.v_un, U.v_anil, U.v_acons, U.v_n, U.v_and, U.v_andT, U.v_andF, U.v_or, U.v_orT, U.v_orF, U.v_ife, U.v_ifeT, U.v_ifeF, U.v_ch, U.v_chT, U.v_chF, U.v_frz, U.v_frzP, U.v_frzL, U.v_plN, U.v_plC, U.v_give, U.v_giveO, U.v_giveP, U.v_isOL, U.v_app, U.v_appL, U.v_ixO, U.v_ixL, U.v_putO, U.v_putL, U.v_lenO, U.v_lenL, U.v_ms, U.v_msS, U.v_sl, U.v_sl1, U.v_sl2, U.v_part0, U.v_part, U.v_partI, U.v_seq, U.v_nil, U.v_ret, U.v_retN, U.v_drop, U.v_bkS, U.v_ctS, U.v_if, U.v_ifT, U.v_ifF, U.v_toS, U.v_set, U.v_asg, U.v_put, U.v_putN, U.v_putP, U.v_putOwn, U.v_putV, U.v_putF, U.fre_none, U.fre_own, U.fre_pl, U.pln_none, U.pln_some, U.v_gvar, U.v_gtup, U.v_gnil, U.v_gcons, U.v_par, U.v_parO, U.v_pa0, U.v_pa1, U.v_aug, U.v_augS, U.v_iof, U.v_itL, U.v_itT, U.v_itS, U.v_ioa, U.v_itR1, U.v_itR2, U.v_itES, U.v_itEL, U.v_for, U.v_forO, U.v_fl0, U.v_fl1, U.v_fkN, U.v_fkC, U.v_fkB, U.v_fkR, U.v_fkX, U.v_cp, U.v_cpO, U.v_cpB, U.v_raise, U.v_rsO, U.v_try, U.v_tryN, U.v_tryX, U.v_tryR, U.v_tryB, U.v_tryC, U.v_fn, U.v_fnR, U.v_fnN, U.v_fnX, U.v_ag0, U.v_agV, U.v_agO, U.v_agX, U.v_agB, U.v_agBO, U.v_agK, U.v_call, U.v_callX, U.v_call0, U.v_call1, U.v_call2, U.v_call3, U.v_call4, U.v_ret0, U.v_ret1, U.v_ret2, U.v_ret3, U.v_ret4, U.v_retX0, U.v_retX1, U.v_retX2, U.v_retX3, U.v_retX4, U.v_b1, U.v_b2, U.v_b3, U.v_b4, U.v_b5, U.v_lend, U.v_retB, U.v_retBX, U.oNot, U.oAdd, U.oSub, U.oMul, U.oMulW, U.oDiv, U.oMod, U.oPow, U.oNeg, U.oLt, U.oLe, U.oGt, U.oGe, U.oEq, U.oNe, U.okD, U.D.eqv, U.eqvs, U.oNeScr, U.oIxScr, U.oLenScr, U.oIsN, U.oNotN, U.D.isN, U.oInS, U.oNotInS, U.oInQ, U.oNotInQ, U.D.flat, U.inD, U.oAddS, U.oMulS, U.oCatL, U.oRepL, U.oCatT, U.oRepT, U.oIxL, U.oIxT, U.oIxS, U.oLenS, U.oLenQ, U.oMax2, U.oMin2, U.oMax3, U.oAbs, U.oSum, U.oAll, U.oAny, U.intsD, U.boolsD, U.strsD, U.oInt, U.oStrI, U.oTupOf, U.oLstOf, U.oSlS, U.oSlL, U.oSlT, U.oRev, U.mkTup, U.mkLst, U.eIsi, U.oIsi, U.tyName, U.v_okPl, U.v_fldO, U.v_fldI, U.v_sfld, U.v_kFld, U.v_setFK, U.v_putFO, U.v_make, U.v_mkK, U.v_mkKX, U.v_mkKB, U.v_mkR, U.v_mkRX, U.v_meth, U.v_oIns, U.v_methO, U.v_isIO, U.v_propO, U.v_isI, U.v_plain, U.v_oProp, U.v_prK, U.v_oCon, U.v_conO, U.v_oFld, U.v_look, U.v_frzI, U.v_itAL, U.v_itAT, U.v_itEQL, U.v_itEQT, U.putNs, U.putDs, U.okPl, U.oIsiC, U.oIsi2, U.lookB, U.lookN, List.mem_cons, List.not_mem_nil, not_false_eq_true, U.v_eqC, U.v_neC, U.v_eqK, U.v_neK, U.v_bin, U.v_kB1, U.v_kB2, U.v_isIn, U.v_isInt, U.v_binI, U.v_kBI1, U.v_kBI2, U.v_valK, U.v_valKX, U.v_makeL, U.v_isC, U.v_ocall, U.v_fI, U.v_oInO, U.wipeE, U.at_0, U.at_1, U.at_2, U.at_3, U.at_neg, U.ix_0, U.ix_1, U.ix_2, List.map_cons, List.map_nil, List.length_cons, List.length_nil, List.length_map, List.length_append, List.getElem?_cons_zero, List.getElem?_cons_succ, List.getElem?_nil, List.cons_append, List.nil_append, List.append_nil, List.set_cons_zero, List.set_cons_succ, List.set_nil, List.all_cons, List.all_nil, List.any_cons, List.any_nil, List.reduceReplicate, List.take_succ_cons, List.take_zero, List.take_nil, Option.bind_some, Option.bind_none, Option.map_some, Option.map_none, Bool.and_true, Bool.true_and, Bool.and_false, Bool.false_and, Bool.or_true, Bool.true_or, Bool.or_false, Bool.false_or, Bool.not_true, Bool.not_false, Bool.not_not, Nat.reduceAdd, Nat.reduceLeDiff, Nat.reduceLT, Nat.zero_le, Nat.reduceEqDiff, Int.reducePow, Int.reduceToNat, Int.reduceNeg, Int.reduceLE, Int.reduceLT, Int.reduceAdd, Int.reduceSub, Int.reduceMul, Int.reduceEq, ite_true, ite_false, if_true, if_false, decide_true, decide_false, and_self, true_and, and_true, false_and, and_false, or_true, true_or, or_self, or_false, false_or, List.cons.injEq, reduceCtorEq, String.reduceEq, Bool.false_eq_true, Bool.true_eq_false, beq_self_eq_true, U.cap_le, U.small_lim, U.v_move, U.v_moveK, U.v_cmpO, U.v_kCmp, U.v_cmpR, U.v_cmpS, U.v_lookO, Option.isSome_some, U.v_xf2, U.v_xf2K, U.v_glst, U.v_itZT, U.v_itZL, ne_eq, U.v_inC, U.v_notInC, U.v_boolC, U.v_lenC, U.v_blK, U.v_nblK, U.v_inK, U.v_neI, U.v_prs0, U.v_prs, U.v_trK, *])
namespace U
noncomputable def body_law_draws : St := (sSeq (sSet 2 (eC (.int 0)))
    (sSeq (sIf (eOp oNeScr (eVar 0) (eFrz (eN mkLst aNil)))
    (sSet 2 (eOp oIxScr (eVar 0) (eOp oMod (eVar 1) (eN oLenScr (aCons (eVar 0) aNil)))))
    sNil)
    (sSeq (sIf (eOp oGe (eVar 1) (eN oLenScr (aCons (eVar 0) aNil)))
    (sSet 2 (eOp oMod (eVar 2) (eC (.int 1000003))))
    sNil)
    (sSeq (sSet 3 (eOp oMod (eOp oMul (eOp oAdd (eOp oAdd (eOp oMod (eVar 2) (eC (.int 2147483629))) (eOp oMul (eC (.int 104729)) (eVar 1))) (eC (.int 11))) (eC (.int 48271))) (eC (.int 2147483647))))
    (sRet (eN mkLst (aCons (eOp oMul (eVar 2) (eN oInt (aCons (eOp oGe (eVar 2) (eOp oPow (eC (.int 10)) (eC (.int 18)))) aNil))) (aCons (eVar 3) aNil))))))))
noncomputable def fn_law_draws : Fn := fnOf 2 2 body_law_draws
noncomputable def body_law_draw : St := (sSeq (sIf (eOp oGt (eIxO 0 (eC (.int 0))) (eC (.int 0)))
    (sSeq (sSet 2 (eOp oMod (eIxO 0 (eC (.int 0))) (eVar 1)))
    (sSeq (sPutO 0 (eC (.int 0)) (eOp oDiv (eIxO 0 (eC (.int 0))) (eVar 1)))
    (sRet (eVar 2))))
    sNil)
    (sSeq (sPutO 0 (eC (.int 1)) (eOp oMod (eOp oAdd (eOp oMul (eIxO 0 (eC (.int 1))) (eC (.int 48271))) (eC (.int 11))) (eC (.int 2147483647))))
    (sRet (eOp oMod (eOp oDiv (eOp oMod (eOp oMul (eIxO 0 (eC (.int 1))) (eIxO 0 (eC (.int 1)))) (eC (.int 2147483629))) (eC (.int 64))) (eVar 1)))))
noncomputable def fn_law_draw : Fn := fnOf 2 1 body_law_draw
noncomputable def body_law_letter : St := (sRet (eOp oIxS (eC (.str [97, 98, 99, 120, 121, 122])) (eFrz (eCall fn_law_draw [.b 0, .v (eC (.int 6))] []))))
noncomputable def fn_law_letter : Fn := fnOf 1 0 body_law_letter
noncomputable def body_law_sequence : St := (sSeq (sSet 2 (eN mkLst aNil))
    (sSeq (sSet 3 (eOp oAdd (eC (.int 1)) (eFrz (eCall fn_law_draw [.b 0, .v (eC (.int 4))] []))))
    (sSeq (sFor (iOfA itR (aCons (eFrz (eCall fn_law_draw [.b 0, .v (eOp oAdd (eVar 1) (eC (.int 1)))] [])) aNil)) (gVar 4)
    (sDrop (eApp 2 (eOp oIxL (eFrz (eN mkLst (aCons (eFrz (eCall fn_law_letter [.b 0] [])) (aCons (eC (.str [45])) aNil)))) (eN oInt (aCons (eOp oLt (eFrz (eCall fn_law_draw [.b 0, .v (eC (.int 5))] [])) (eVar 3)) aNil))))))
    (sRet (eMs oJoin (eC (.str [])) (eGive 2))))))
noncomputable def fn_law_sequence : Fn := fnOf 2 3 body_law_sequence
noncomputable def fn_law_program : Nat → Fn
  | 0 => fun _ => .bad
  | n + 1 => fnOf 2 7 (sSeq (sAsg (eN mkTup (aCons (eC (.str [])) (aCons (eC (.str [])) aNil))) (gTup [(gVar 2), (gVar 3)]))
    (sSeq (sFor (iOfA itR (aCons (eOp oAdd (eC (.int 1)) (eFrz (eCall fn_law_draw [.b 0, .v (eC (.int 3))] []))) aNil)) (gVar 4)
    (sSeq (sSet 5 (eFrz (eCall fn_law_sequence [.b 0, .v (eC (.int 3))] [])))
    (sSeq (sPar [2, 3] (aCons (eOp oAddS (eVar 2) (eVar 5)) (aCons (eOp oAddS (eVar 3) (eVar 5)) aNil)))
    (sIf (eAnd (eOp oGt (eVar 1) (eC (.int 0))) (eOp oEq (eFrz (eCall fn_law_draw [.b 0, .v (eC (.int 2))] [])) (eC (.int 0))))
    (sSeq (sAsg (eFrz (eCall (fn_law_program n) [.b 0, .v (eOp oSub (eVar 1) (eC (.int 1)))] [])) (gTup [(gVar 6), (gVar 7)]))
    (sSeq (sSet 8 (eFrz (eCall fn_law_draw [.b 0, .v (eC (.int 5))] [])))
    (sSeq (sSet 2 (eOp oAddS (eOp oAddS (eOp oAddS (eOp oAddS (eVar 2) (eC (.str [40]))) (eVar 6)) (eC (.str [41]))) (eN oStrI (aCons (eVar 8) aNil))))
    (sSet 3 (eOp oAddS (eVar 3) (eOp oMulS (eVar 7) (eVar 8)))))))
    sNil))))
    (sRet (eN mkTup (aCons (eVar 2) (aCons (eVar 3) aNil))))))
noncomputable def body_law_run : St := (sSeq (sAsg (eN mkTup (aCons (eC (.str [])) (aCons (eC (.str [])) aNil))) (gTup [(gVar 4), (gVar 5)]))
    (sSeq (sFor (iOfA itES (aCons (eVar 1) aNil)) (gTup [(gVar 6), (gVar 7)])
    (sIf (eOp oEq (eVar 7) (eC (.str [45])))
    (sSeq (sIf (eOp oEq (eVar 0) (eC (.str [])))
    (sRet (eFrz (eN mkLst (aCons (eC (.str [102, 97, 105, 108, 101, 100])) (aCons (eVar 6) aNil)))))
    sNil)
    (sPar [4, 0] (aCons (eOp oAddS (eVar 4) (eOp oIxS (eVar 0) (eC (.int 0)))) (aCons (eSl oSlS (eVar 0) (some (eC (.int 1))) none) aNil))))
    (sIf (eOp oLt (eN oLenS (aCons (eVar 0) aNil)) (eVar 2))
    (sSet 0 (eOp oAddS (eVar 0) (eVar 7)))
    (sIf (eOp oEq (eVar 3) (eC (.str [111, 108, 100, 101, 115, 116])))
    (sPar [5, 0] (aCons (eOp oAddS (eVar 5) (eOp oIxS (eVar 0) (eC (.int 0)))) (aCons (eOp oAddS (eSl oSlS (eVar 0) (some (eC (.int 1))) none) (eVar 7)) aNil)))
    (sIf (eOp oEq (eVar 3) (eC (.str [110, 101, 119, 101, 115, 116])))
    (sSet 5 (eOp oAddS (eVar 5) (eVar 7)))
    (sRet (eFrz (eN mkLst (aCons (eC (.str [102, 97, 105, 108, 101, 100])) (aCons (eVar 6) aNil))))))))))
    (sRet (eFrz (eN mkLst (aCons (eC (.str [100, 111, 110, 101])) (aCons (eVar 0) (aCons (eVar 4) (aCons (eVar 5) aNil)))))))))
noncomputable def fn_law_run : Fn := fnOf 4 4 body_law_run
end U
namespace U
def Pool (p : D) : Prop := ∃ a b : Int, p = .lst [.int a, .int b] ∧ 0 ≤ a ∧ 0 ≤ b ∧ b < 2147483647
def outP (r : ER) : D := match r with
  | .ok _ (some (.own _ p) :: _) => p
  | _ => .non
def outV (r : ER) : D := match r with
  | .ok d _ => d
  | _ => .non
noncomputable def drawR (p : D) (n : Int) : ER := fn_law_draw [.own 1 p, .int n]
noncomputable def drawV (p : D) (n : Int) : Int := match outV (drawR p n) with
  | .int r => r
  | _ => 0
noncomputable def drawP (p : D) (n : Int) : D := outP (drawR p n)
theorem draw_all {p : D} {n : Int} (hp : Pool p) (h1 : 1 ≤ n) (h2 : n.natAbs < lim4k) : drawR p n = .ok (.int (drawV p n)) [some (.own 1 (drawP p n)), some (.int n)] ∧ Pool (drawP p n) ∧ 0 ≤ drawV p n ∧ drawV p n < n := by
  obtain ⟨a, b, rfl, ha, hb, hb2⟩ := hp
  have key : ∃ (r a' b' : Int), drawR (.lst [.int a, .int b]) n = .ok (.int r) [some (.own 1 (.lst [.int a', .int b'])), some (.int n)] ∧ 0 ≤ r ∧ r < n ∧ 0 ≤ a' ∧ 0 ≤ b' ∧ b' < 2147483647 := by
    have hn : 0 < n := by omega
    unfold drawR fn_law_draw body_law_draw
    by_cases c : 0 < a
    · walk_at "evh"
      refine ⟨a % n, a / n, b, rfl, Int.emod_nonneg _ (by omega), Int.emod_lt_of_pos _ hn, Int.ediv_nonneg ha (by omega), hb, hb2⟩
    · walk_at "evh"
      have m1 := Int.emod_nonneg (b * 48271 + 11) (show (2147483647 : Int) ≠ 0 by decide)
      have m2 := Int.emod_lt_of_pos (b * 48271 + 11) (show (0 : Int) < 2147483647 by decide)
      have q1 : b.natAbs < 18446744073709551616 := by omega
      have q2 : ((b * 48271 + 11) % 2147483647).natAbs < 18446744073709551616 := by omega
      have q3 : (64 : Int).natAbs < lim4k := by unfold lim4k; exact Nat.lt_of_lt_of_le (show 64 < 2 ^ 7 by decide) (Nat.pow_le_pow_right (by decide) (by decide))
      walk_at "evh"
      exact ⟨_, _, _, rfl, Int.emod_nonneg _ (by omega), Int.emod_lt_of_pos _ hn, ha, m1, m2⟩
  obtain ⟨r, a', b', e, h3, h4, h5, h6, h7⟩ := key
  have eV : drawV (.lst [.int a, .int b]) n = r := by unfold drawV; rw [e]; rfl
  have eP : drawP (.lst [.int a, .int b]) n = .lst [.int a', .int b'] := by unfold drawP; rw [e]; rfl
  rw [eV, eP]
  exact ⟨e, ⟨a', b', rfl, h5, h6, h7⟩, h3, h4⟩
theorem lim_of {n : Int} (h1 : 1 ≤ n) (h2 : n ≤ 1000000000000000000000000000000) : n.natAbs < lim4k := by
  have h : n.natAbs < 2 ^ 100 := Nat.lt_of_le_of_lt (m := 1000000000000000000000000000000) (by omega) (by decide)
  exact Nat.lt_of_lt_of_le h (Nat.pow_le_pow_right (by decide) (by decide))
theorem f_draw {p : D} {n : Int} (hp : Pool p) (h1 : 1 ≤ n) (h2 : n ≤ 1000000000000000000000000000000) : fn_law_draw [.own 1 p, .int n] = .ok (.int (drawV p n)) [some (.own 1 (drawP p n)), some (.int n)] := (draw_all hp h1 (lim_of h1 h2)).1
theorem pool_draw {p : D} {n : Int} (hp : Pool p) (h1 : 1 ≤ n) (h2 : n ≤ 1000000000000000000000000000000) : Pool (drawP p n) := (draw_all hp h1 (lim_of h1 h2)).2.1
theorem draw_lo {p : D} {n : Int} (hp : Pool p) (h1 : 1 ≤ n) (h2 : n ≤ 1000000000000000000000000000000) : 0 ≤ drawV p n := (draw_all hp h1 (lim_of h1 h2)).2.2.1
theorem draw_hi {p : D} {n : Int} (hp : Pool p) (h1 : 1 ≤ n) (h2 : n ≤ 1000000000000000000000000000000) : drawV p n < n := (draw_all hp h1 (lim_of h1 h2)).2.2.2
noncomputable def letC (p : D) : Nat := ([97, 98, 99, 120, 121, 122] : List Nat)[(drawV p 6).toNat]?.getD 0
theorem pick {α : Type} {l : List α} {p : D} {n : Int} (hp : Pool p) (h1 : 1 ≤ n) (h2 : n ≤ 1000000000000000000000000000000) (hl : (l.length : Int) = n) : ∃ x, atD l (drawV p n) = some x ∧ x ∈ l := by
  have a := draw_lo hp h1 h2
  have b := draw_hi hp h1 h2
  obtain ⟨j, hj⟩ : ∃ j : Nat, drawV p n = j := ⟨(drawV p n).toNat, by omega⟩
  rw [hj, atD_nat]
  have : j < l.length := by omega
  exact ⟨l[j], List.getElem?_eq_getElem this, List.getElem_mem this⟩
theorem let_at {p : D} (hp : Pool p) : atD ([97, 98, 99, 120, 121, 122] : List Nat) (drawV p 6) = some (letC p) ∧ letC p ∈ ([97, 98, 99, 120, 121, 122] : List Nat) := by
  have a := draw_lo hp (n := 6) (by decide) (by decide)
  obtain ⟨x, h1, h2⟩ := pick (l := ([97, 98, 99, 120, 121, 122] : List Nat)) hp (n := 6) (by decide) (by decide) rfl
  have : letC p = x := by
    unfold letC
    rw [show drawV p 6 = ((drawV p 6).toNat : Int) by omega, atD_nat] at h1
    rw [h1]; rfl
  rw [this]
  exact ⟨h1, h2⟩
theorem f_letter {p : D} (hp : Pool p) : fn_law_letter [.own 1 p] = .ok (.str [letC p]) [some (.own 1 (drawP p 6))] := by
  have h1 := f_draw (n := 6) hp (by decide) (by decide)
  have h2 := (let_at hp).1
  unfold fn_law_letter body_law_letter
  walk_at "evh"
abbrev sg (c : Nat) : D := .str [c]
theorem strs_sg (l : List Nat) : strsD (l.map sg) = some (l.map fun c => [c]) := by
  induction l with
  | nil => rfl
  | cons c l ih => simp only [List.map_cons, strsD, ih, Option.map_some]
theorem join_sg : ∀ l : List Nat, joinD [] (l.map fun c => [c]) = l
  | [] => rfl
  | [c] => rfl
  | c :: d :: l => by
    have := join_sg (d :: l)
    simp only [List.map_cons] at this ⊢
    simp only [joinD, List.append_nil, List.singleton_append, this]
theorem sum_sg (l : List Nat) : ((l.map fun c => [c]).map List.length).sum = l.length := by
  induction l with
  | nil => rfl
  | cons c l ih => simp only [List.map_cons, List.sum_cons, ih, List.length_cons, List.length_nil]; omega
theorem plain_sg (l : List Nat) : allPlain (l.map sg) = true := by
  induction l with
  | nil => rfl
  | cons c l ih => simp only [List.map_cons, allPlain, ih]; rfl
theorem o_join {l : List Nat} (h : l.length ≤ 16777216) : oJoin (.str []) (.lst (l.map sg)) = some (.str l) := by
  simp only [oJoin, strs_sg, Option.bind_some, sum_sg, List.length_nil, Nat.mul_zero, Nat.add_zero, join_sg, cap]
  rw [if_pos h]
def sgs : List Nat := [97, 98, 99, 120, 121, 122, 45]
noncomputable def seqB : St := sDrop (eApp 2 (eOp oIxL (eFrz (eN mkLst (aCons (eFrz (eCall fn_law_letter [.b 0] [])) (aCons (eC (.str [45])) aNil)))) (eN oInt (aCons (eOp oLt (eFrz (eCall fn_law_draw [.b 0, .v (eC (.int 5))] [])) (eVar 3)) aNil))))
theorem range_plain {lo : Int} {n : Nat} : ∀ d ∈ rangeD lo n, d.isMut = false := fun d hd => by
  obtain ⟨i, _, rfl⟩ := List.mem_map.mp hd
  rfl
noncomputable def seqR (p : D) (m : Int) : ER := fn_law_sequence [.own 1 p, .int m]
def strV (d : D) : List Nat := match d with
  | .str l => l
  | _ => []
noncomputable def seqV (p : D) (m : Int) : List Nat := strV (outV (seqR p m))
noncomputable def seqP (p : D) (m : Int) : D := outP (seqR p m)
end U
namespace U
noncomputable def poolR (ns : List Int) (k : Int) : ER := fn_law_draws [.scr ns, .int k]
noncomputable def poolOf (ns : List Int) (k : Int) : D := match outV (poolR ns k) with
  | .own _ p => p
  | _ => .non
def wMost : Nat → Nat
  | 0 => 9
  | n + 1 => 9 + 12 * wMost n
def tMost : Nat → Nat
  | 0 => 9
  | n + 1 => 9 + 3 * (tMost n + 3)
noncomputable def prgB (f : Fn) : St := (sSeq (sSet 5 (eFrz (eCall fn_law_sequence [.b 0, .v (eC (.int 3))] [])))
    (sSeq (sPar [2, 3] (aCons (eOp oAddS (eVar 2) (eVar 5)) (aCons (eOp oAddS (eVar 3) (eVar 5)) aNil)))
    (sIf (eAnd (eOp oGt (eVar 1) (eC (.int 0))) (eOp oEq (eFrz (eCall fn_law_draw [.b 0, .v (eC (.int 2))] [])) (eC (.int 0))))
    (sSeq (sAsg (eFrz (eCall f [.b 0, .v (eOp oSub (eVar 1) (eC (.int 1)))] [])) (gTup [(gVar 6), (gVar 7)]))
    (sSeq (sSet 8 (eFrz (eCall fn_law_draw [.b 0, .v (eC (.int 5))] [])))
    (sSeq (sSet 2 (eOp oAddS (eOp oAddS (eOp oAddS (eOp oAddS (eVar 2) (eC (.str [40]))) (eVar 6)) (eC (.str [41]))) (eN oStrI (aCons (eVar 8) aNil))))
    (sSet 3 (eOp oAddS (eVar 3) (eOp oMulS (eVar 7) (eVar 8)))))))
    sNil)))
def PrgOk (f : Fn) (m : Nat) : Prop := ∀ p, Pool p → ∃ tx fl p', f [.own 1 p, .int (m : Nat)] = .ok (.tup [.str tx, .str fl]) [some (.own 1 p'), some (.int (m : Nat))] ∧ Pool p' ∧ Q.Spells m tx fl ∧ tx.length ≤ tMost m ∧ fl.length ≤ wMost m
noncomputable def prgR (p : D) (m : Int) : ER := fn_law_program 4 [.own 1 p, .int m]
def tupV (d : D) (i : Nat) : D := match d with
  | .tup l => l[i]?.getD .non
  | _ => .non
noncomputable def prgT (p : D) (m : Int) : List Nat := strV (tupV (outV (prgR p m)) 0)
noncomputable def prgW (p : D) (m : Int) : List Nat := strV (tupV (outV (prgR p m)) 1)
noncomputable def prgP (p : D) (m : Int) : D := outP (prgR p m)
end U
namespace U
theorem for_inv {g : Tg} {b : St} (I : Env → Prop) : ∀ {ds : List D}, (∀ d ∈ ds, ∀ ρ, I ρ → ∃ ρ', (toFl (g d ρ)).bind b = .nx ρ' ∧ I ρ') → ∀ {ρ : Env}, I ρ → ∃ ρ', forL g b ds ρ = .nx ρ' ∧ I ρ'
  | [], _, ρ, h => ⟨ρ, rfl, h⟩
  | d :: ds, ht, ρ, h => by
    obtain ⟨ρ1, e, h1⟩ := ht d List.mem_cons_self ρ h
    obtain ⟨ρ2, e2, h2⟩ := for_inv (g := g) (b := b) I (ds := ds) (fun x hx => ht x (List.mem_cons_of_mem _ hx)) h1
    exact ⟨ρ2, by rw [v_fl1, e, v_fkN, e2], h2⟩
theorem for_at {g : Tg} {b : St} {lo : Int} (I : Nat → Env → Prop) : ∀ (n k : Nat) {ρ : Env}, (∀ i, k ≤ i → i < k + n → ∀ ρ, I i ρ → ∃ ρ', (toFl (g (.int (lo + (i : Nat))) ρ)).bind b = .nx ρ' ∧ I (i + 1) ρ') → I k ρ → ∃ ρ', forL g b ((List.range' k n).map fun (i : Nat) => D.int (lo + i)) ρ = .nx ρ' ∧ I (k + n) ρ'
  | 0, k, ρ, _, h => ⟨ρ, rfl, h⟩
  | n + 1, k, ρ, ht, h => by
    obtain ⟨ρ1, e, h1⟩ := ht k (Nat.le_refl _) (by omega) ρ h
    obtain ⟨ρ2, e2, h2⟩ := for_at (g := g) (b := b) (lo := lo) I n (k + 1) (fun i a c => ht i (by omega) (by omega)) h1
    refine ⟨ρ2, ?_, by rw [show k + (n + 1) = k + 1 + n by omega]; exact h2⟩
    rw [List.range'_succ, List.map_cons, v_fl1, e, v_fkN, e2]
theorem for_rng {g : Tg} {b : St} {lo : Int} {n : Nat} (I : Nat → Env → Prop) {ρ : Env} (ht : ∀ i, i < n → ∀ ρ, I i ρ → ∃ ρ', (toFl (g (.int (lo + (i : Nat))) ρ)).bind b = .nx ρ' ∧ I (i + 1) ρ') (h : I 0 ρ) : ∃ ρ', forL g b (rangeD lo n) ρ = .nx ρ' ∧ I n ρ' := by
  have := for_at (g := g) (b := b) (lo := lo) I n 0 (ρ := ρ) (fun i _ c => ht i (by omega)) h
  rw [← List.range_eq_range', Nat.zero_add] at this
  exact this
def Okv (v : Option D) : Prop := ∀ d, v = some d → d.isMut = false
theorem okv_some {d : D} (h : d.isMut = false) : Okv (some d) := fun e z => by cases z; exact h
theorem okv_none : Okv none := fun e z => by cases z
theorem putQ_ok {v : Option D} (hv : Okv v) (i : Nat) (d : D) (ρ : Env) : putQ i d ρ (some v) = some (ρ.set i (some d)) := by
  cases v with
  | none => rfl
  | some e =>
    have := hv e rfl
    cases e with
    | own t d => cases this
    | _ => rfl
theorem put_ok {i : Nat} {d : D} {ρ : Env} {v : Option D} (h : ρ[i]? = some v) (hv : Okv v) : put i d ρ = some (ρ.set i (some d)) := by
  unfold put
  rw [h]
  cases v with
  | none => rfl
  | some e =>
    have := hv e rfl
    cases e with
    | own t d => cases this
    | _ => rfl
def Oko (v : Option D) : Prop := v = none ∨ ∃ p, v = some (.own 0 p)
def cellN (m : Int) (ns : List Int) : Int := if (if ((ns.length : Nat) : Int) < m then ((ns.length : Nat) : Int) else m) > 1 then (if ((ns.length : Nat) : Int) < m then ((ns.length : Nat) : Int) else m) else 1
theorem cells_for {m : Int} (hm : m ≤ 1000) {i : Nat} {g : Tg} {b : St} {ns : List Int} {ρ : Env} (h : ρ[i]? = some (some (.scr ns))) : sFor (iOfA itR (aCons (eN oMax2 (aCons (eC (.int 1)) (aCons (eN oMin2 (aCons (eC (.int m)) (aCons (eN oLenScr (aCons (eVar i) aNil)) aNil))) aNil))) aNil)) g b ρ = forL g b (rangeD 0 (cellN m ns).toNat) ρ ∧ (cellN m ns).toNat ≤ 1000 := by
  have hb : cellN m ns ≤ 1000 := by unfold cellN; split <;> split <;> omega
  have hb2 : 1 ≤ cellN m ns := by unfold cellN; split <;> split <;> omega
  have hR : okR (cellN m ns) = true := by unfold okR; refine decide_eq_true (by omega)
  refine ⟨?_, by omega⟩
  have e1 : eVar i ρ = .ok (.scr ns) ρ := by unfold eVar; rw [h]; rfl
  have e : (iOfA itR (aCons (eN oMax2 (aCons (eC (.int 1)) (aCons (eN oMin2 (aCons (eC (.int m)) (aCons (eN oLenScr (aCons (eVar i) aNil)) aNil))) aNil))) aNil)) ρ = .ok (rangeD 0 (cellN m ns).toNat) ρ := by
    have e2 : aCons (eN oMax2 (aCons (eC (.int 1)) (aCons (eN oMin2 (aCons (eC (.int m)) (aCons (eN oLenScr (aCons (eVar i) aNil)) aNil))) aNil))) aNil ρ = .ok [.int (cellN m ns)] ρ := by
      simp only [aCons, eN, eC, ER.bindA, AR.bind, AR.bindA, e1, aNil, oLenScr, lift, oMin2, oMax2, cellN]
    simp only [iOfA, e2, itR]
    rw [if_pos hR]
  unfold sFor
  rw [e]
theorem law_end {b : St} {m : Nat} {ns : List Int} {ρ' : Env} (h : b (some (.scr ns) :: List.replicate m none) = .nx ρ') : ∃ o, fnOf 1 m (sSeq b (sRet (eC (.bl true)))) [.scr ns] = .ok (.bl true) o := by
  refine ⟨ρ'.take 1, ?_⟩
  rw [v_fn, if_pos (show [D.scr ns].length = 1 from rfl)]
  have e : sSeq b (sRet (eC (.bl true))) ([D.scr ns].map some ++ List.replicate m none) = .rt (.bl true) ρ' := by
    show (b (some (.scr ns) :: List.replicate m none)).bind _ = _
    rw [h]
    rfl
  rw [e, v_fnR]
end U
namespace Q
open PySem PySem.Spec PyProof.Rows L2
def simQ (c : Int) (z : Str) : List Nat → List Nat → List Nat → List Nat → Option (List Nat × List Nat × List Nat)
  | [], q, tk, lo => some (q, tk, lo)
  | x :: l, q, tk, lo => if x = 45 then (match q with
      | [] => none
      | a :: q' => simQ c z l q' (tk ++ [a]) lo)
    else if (q.length : Int) < c then simQ c z l (q ++ [x]) tk lo
    else if z = "oldest" then (match q with
      | [] => none
      | a :: q' => simQ c z l (q' ++ [x]) tk (lo ++ [a]))
    else if z = "newest" then simQ c z l q tk (lo ++ [x]) else none
theorem simQ_nil (c : Int) (z : Str) (q tk lo : List Nat) : simQ c z [] q tk lo = some (q, tk, lo) := by rw [simQ.eq_def]
theorem simQ_take0 (c : Int) (z : Str) (l tk lo : List Nat) : simQ c z (45 :: l) [] tk lo = none := by rw [simQ.eq_def]; simp
theorem simQ_take (c : Int) (z : Str) (l tk lo : List Nat) (a : Nat) (q : List Nat) : simQ c z (45 :: l) (a :: q) tk lo = simQ c z l q (tk ++ [a]) lo := by rw [simQ.eq_def]; simp
theorem simQ_put {c : Int} {z : Str} {x : Nat} {l q tk lo : List Nat} (h : x ≠ 45) (hq : (q.length : Int) < c) : simQ c z (x :: l) q tk lo = simQ c z l (q ++ [x]) tk lo := by
  rw [simQ.eq_def]; simp only [if_neg h, if_pos hq]
theorem simQ_old {c : Int} {z : Str} {x a : Nat} {l q tk lo : List Nat} (h : x ≠ 45) (hq : ¬ ((a :: q).length : Int) < c) (hz : z = "oldest") : simQ c z (x :: l) (a :: q) tk lo = simQ c z l (q ++ [x]) tk (lo ++ [a]) := by
  rw [simQ.eq_def]; simp only [if_neg h, if_neg hq, if_pos hz]
theorem simQ_new {c : Int} {z : Str} {x : Nat} {l q tk lo : List Nat} (h : x ≠ 45) (hq : ¬ (q.length : Int) < c) (hz : ¬ z = "oldest") (hz2 : z = "newest") : simQ c z (x :: l) q tk lo = simQ c z l q tk (lo ++ [x]) := by
  rw [simQ.eq_def]; simp only [if_neg h, if_neg hq, if_neg hz, if_pos hz2]
theorem simQ_no {c : Int} {z : Str} {x : Nat} {l q tk lo : List Nat} (h : x ≠ 45) (hq : ¬ (q.length : Int) < c) (hz : ¬ z = "oldest") (hz2 : ¬ z = "newest") : simQ c z (x :: l) q tk lo = none := by
  rw [simQ.eq_def]; simp only [if_neg h, if_neg hq, if_neg hz, if_neg hz2]
end Q
namespace U
open PySem
open Q (simQ simQ_nil simQ_take0 simQ_take simQ_put simQ_old simQ_new simQ_no)
abbrev oldC : List Nat := [111, 108, 100, 101, 115, 116]
abbrev newC : List Nat := [110, 101, 119, 101, 115, 116]
abbrev strC : List Nat := [115, 116, 114, 105, 99, 116]
abbrev doneC : List Nat := [100, 111, 110, 101]
abbrev failC : List Nat := [102, 97, 105, 108, 101, 100]
noncomputable def runB : St := (sIf (eOp oEq (eVar 7) (eC (.str [45])))
    (sSeq (sIf (eOp oEq (eVar 0) (eC (.str [])))
    (sRet (eFrz (eN mkLst (aCons (eC (.str [102, 97, 105, 108, 101, 100])) (aCons (eVar 6) aNil)))))
    sNil)
    (sPar [4, 0] (aCons (eOp oAddS (eVar 4) (eOp oIxS (eVar 0) (eC (.int 0)))) (aCons (eSl oSlS (eVar 0) (some (eC (.int 1))) none) aNil))))
    (sIf (eOp oLt (eN oLenS (aCons (eVar 0) aNil)) (eVar 2))
    (sSet 0 (eOp oAddS (eVar 0) (eVar 7)))
    (sIf (eOp oEq (eVar 3) (eC (.str [111, 108, 100, 101, 115, 116])))
    (sPar [5, 0] (aCons (eOp oAddS (eVar 5) (eOp oIxS (eVar 0) (eC (.int 0)))) (aCons (eOp oAddS (eSl oSlS (eVar 0) (some (eC (.int 1))) none) (eVar 7)) aNil)))
    (sIf (eOp oEq (eVar 3) (eC (.str [110, 101, 119, 101, 115, 116])))
    (sSet 5 (eOp oAddS (eVar 5) (eVar 7)))
    (sRet (eFrz (eN mkLst (aCons (eC (.str [102, 97, 105, 108, 101, 100])) (aCons (eVar 6) aNil)))))))))
def runE (q l : List Nat) (c : Int) (z tk lo : List Nat) (v6 v7 : Option D) : Env := [some (.str q), some (.str l), some (.int c), some (.str z), some (.str tk), some (.str lo), v6, v7]
def enS (l : List Nat) (k : Nat) : List D := ((l.map sg).zipIdx k).map fun p => D.tup [.int (p.2 : Nat), p.1]
def RunG (s : Option (List Nat × List Nat × List Nat)) (l0 : List Nat) (c : Int) (z : List Nat) (r : Fl) : Prop :=
  (s = none → ∃ (j : Int) (ρ : Env), r = .rt (.lst [.str failC, .int j]) ρ) ∧ (∀ q2 tk2 lo2, s = some (q2, tk2, lo2) → ∃ v6' v7', r = .nx (runE q2 l0 c z tk2 lo2 v6' v7'))
end U
namespace U
open PySem
open Q (progF fiveF runs endF lostF rangeF mx)
inductive PR where
  | val (d : D) | exc (c : String) | bad
def fnP (g : List D → PR) : Fn := fun ds => match g ds with
  | .val d => if d.isMut = false then .ok d [] else .bad
  | .exc c => .exc ⟨c, [], []⟩ []
  | .bad => .bad
theorem fnP_val {g : List D → PR} {ds : List D} {d : D} (h : g ds = .val d) (hm : d.isMut = false) : fnP g ds = .ok d [] := by
  simp only [fnP, h]; rw [if_pos hm]
def prD : D → Option (List Nat)
  | .str l => progF l
  | _ => none
def mdD : D → Bool
  | .str z => decide (z ∈ [oldC, newC, strC])
  | _ => false
def stD : D → Bool
  | .str z => decide (z = strC)
  | _ => false
def atom : D → Bool
  | .non => true
  | .bl _ => true
  | .int _ => true
  | .str l => decide (l.length ≤ 100000)
  | _ => false
def atomX : D → Bool
  | .lst _ => true
  | .tup _ => true
  | .dic _ => true
  | .non => true
  | .bl _ => true
  | .int _ => true
  | .str l => decide (l.length ≤ 100000)
  | _ => false
def geD (l : Int) : D → Bool
  | .int i => decide (l ≤ i)
  | _ => false
def cpD : D → Bool
  | .int i => decide (1 ≤ i) && decide (i ≤ 100)
  | _ => false
def leD : D → D → Bool
  | .int i, .int c => decide (i ≤ c)
  | _, _ => true
def inD_ (d : D) : Int := match d with
  | .int i => i
  | _ => 0
def chk (b : Bool) (c : String) (k : PR) : PR := if b then k else .exc c
def g_end (F : Option (List Nat) → Int → Bool → Int → D) (ds : List D) : PR := match ds with
  | [v, c, m, n] => if atom v && atom c && atom m && atom n then
      chk (prD v).isSome "InvalidProgram" (chk (cpD c) "InvalidCapacity" (chk (mdD m) "InvalidMode" (chk (geD 0 n && leD n c) "InvalidInteger" (.val (F (prD v) (inD_ c) (stD m) (inD_ n)))))) else .bad
  | _ => .bad
noncomputable def endR (f : Option (List Nat)) (c : Int) (s : Bool) (n : Int) : D := if runs (fiveF (f.getD [])) c s n = true then .int (endF (fiveF (f.getD [])) c n) else .non
noncomputable def lostR (f : Option (List Nat)) (c : Int) (s : Bool) (n : Int) : D := if runs (fiveF (f.getD [])) c s n = true then .int (lostF (fiveF (f.getD [])) c n) else .non
noncomputable def fn_end_length : Fn := fnP (g_end endR)
noncomputable def fn_lost_letters : Fn := fnP (g_end lostR)
noncomputable def startR (f : Option (List Nat)) (c : Int) (s : Bool) : D := match rangeF (fiveF (f.getD [])) c s with
  | none => .non
  | some (x, y) => .tup [.int x, .int y]
noncomputable def g_start (ds : List D) : PR := match ds with
  | [v, c, m] => if atomX v && atom c && atom m then
      chk (prD v).isSome "InvalidProgram" (chk (cpD c) "InvalidCapacity" (chk (mdD m) "InvalidMode" (.val (startR (prD v) (inD_ c) (stD m))))) else .bad
  | _ => .bad
noncomputable def fn_start_lengths : Fn := fnP g_start
noncomputable def leastR (f : Option (List Nat)) (s : Bool) (j : Int) : D := if j < -(fiveF (f.getD [])).l then .non else .int (if s = true then mx 1 (j + (fiveF (f.getD [])).h) else mx (mx 1 j) (fiveF (f.getD [])).f)
noncomputable def g_least (ds : List D) : PR := match ds with
  | [v, m, n] => if atom v && atom m && atom n then
      chk (prD v).isSome "InvalidProgram" (chk (mdD m) "InvalidMode" (chk (geD 0 n) "InvalidInteger" (.val (leastR (prD v) (stD m) (inD_ n))))) else .bad
  | _ => .bad
noncomputable def fn_least_capacity : Fn := fnP g_least
noncomputable def lossR (f : Option (List Nat)) (j : Int) : D := if -(fiveF (f.getD [])).l ≤ j then .int (mx 1 (j + (fiveF (f.getD [])).h)) else .non
noncomputable def g_loss (ds : List D) : PR := match ds with
  | [v, n] => if atom v && atom n then
      chk (prD v).isSome "InvalidProgram" (chk (geD 0 n) "InvalidInteger" (.val (lossR (prD v) (inD_ n)))) else .bad
  | _ => .bad
noncomputable def fn_lossless_capacity : Fn := fnP g_loss
def repT (l : List Nat) (k : Nat) : List Nat := [40] ++ l ++ [41] ++ TL.numL k
open Classical in
noncomputable def g_repeat (ds : List D) : PR := match ds with
  | [.str l, .int k] => if l.length ≤ 100000 ∧ (progF l).isSome = true ∧ 0 ≤ k ∧ k ≤ 1000000000000000000000000000000 ∧ ((repT l k.toNat).foldl Q.dstep (0, 0)).2 ≤ 20 then .val (.str (repT l k.toNat)) else .bad
  | _ => .bad
noncomputable def fn_repeat : Fn := fnP g_repeat
end U
namespace U
open Q (progF fiveF runs endF lostF rangeF mx)
structure GoodA (t f : List Nat) (c : Int) (z : List Nat) : Prop where
  pr : progF t = some f
  tl : t.length ≤ 100000
  c1 : 1 ≤ c
  c2 : c ≤ 100
  md : z ∈ [oldC, newC, strC]
section
variable {t f : List Nat} {c n : Int} {z : List Nat}
end
end U
namespace U
open PySem PySem.Spec PyProof.Rows L2
section
variable {K : PySem.W.Frag} {B : Bx} {F : Fz} {H : Hp}
theorem Grow.step0 {F' : Fz} {H' : Hp} (g : Grow F H F' H') : Step [] F H [] F' H' :=
  ⟨g.mono, fun a o h _ => g.keep a o h, fun a h => (g.froz a h).imp id .inl, fun a h => by cases h⟩
theorem spP {g : List D → PR} {vs : List V} {Q : VK} {E : XK} (hp : ∀ ds, g ds ≠ .bad → ∀ d ∈ ds, d.isMut = false) (h : spD K (fnP g) vs H Q E) : ∃ (F : Fz) (ds : List D), RVs K F H vs ds ∧ (match g ds with
    | .val d => ∀ v F' H', RV K F' H' v d → Grow F H F' H' → Q v H'
    | .exc c => ∀ F' H', Grow F H F' H' → E (.ref (He.ga K (Str.ofString c))) none H'
    | .bad => False) := by
  obtain ⟨F, ds, A, B, ov, nd, nf, dm, hm⟩ := h
  refine ⟨F, ds, ?_⟩
  unfold fnP at hm
  cases hg : g ds with
  | bad => rw [hg] at hm; exact hm.elim
  | exc c =>
    obtain ⟨rfl, rs⟩ := ov.allP (hp ds (by rw [hg]; intro z; cases z))
    rw [hg] at hm
    refine ⟨rs, fun F' H' gr => ?_⟩
    exact hm (.ref (He.ga K (Str.ofString c))) none F' H' [] [] (by simp only [OVS]) List.nodup_nil (fun a h => by cases h) (gr.dm dm) ⟨rfl, .inl ⟨rfl, rfl, rfl⟩⟩ gr.step0
  | val d =>
    obtain ⟨rfl, rs⟩ := ov.allP (hp ds (by rw [hg]; intro z; cases z))
    rw [hg] at hm
    refine ⟨rs, fun v F' H' rv gr => ?_⟩
    simp only [] at hm
    rw [if_pos rv.notMut] at hm
    exact hm v F' H' [] [] [] (by simp only [OVS]) List.nodup_nil (fun a h => by cases h) (gr.dm dm) rv.own gr.step0
theorem Grow.same {H' : Hp} (s : Same H H') : Grow F H F H' := ⟨fun _ h => h, s, fun _ h => .inl h, fun dm a h => by obtain ⟨o, e⟩ := dm a h; exact ⟨o, s a o e⟩⟩
theorem atom_v {v : V} {d : D} (h : RV K F H v d) (ha : atom d = true) : _root_.Q.AnyV K H v ∧ _root_.Q.Short v ∧ _root_.Q.progV v = prD d := by
  cases d with
  | non => simp only [RV] at h; subst h; exact ⟨.non, Q.short_no rfl, rfl⟩
  | bl b => simp only [RV] at h; subst h; exact ⟨.bl, Q.short_no rfl, rfl⟩
  | int b => simp only [RV] at h; subst h; exact ⟨.int, Q.short_no rfl, rfl⟩
  | str l => 
    simp only [RV] at h
    have ha : l.length ≤ 100000 := of_decide_eq_true ha
    rw [h.1]
    exact ⟨.str, Q.short_of rfl (by rw [show (U.S l).length = l.length from Q.S_length l]; exact ha), Q.progV_S l⟩
  | _ => cases ha
theorem atomX_v {v : V} {d : D} (h : RV K F H v d) (ha : atomX d = true) : _root_.Q.AnyV K H v ∧ _root_.Q.Short v ∧ _root_.Q.progV v = prD d := by
  have key : ∀ {n : String} {a : Addr}, v = .ref a → tyName d = some n → (n == "str" || (n == "bool" && "str" == "int")) = false → (n == "int" || (n == "bool" && "int" == "int")) = false → (n == "bool" || (n == "bool" && "bool" == "int")) = false → prD d = none → _root_.Q.AnyV K H v ∧ _root_.Q.Short v ∧ _root_.Q.progV v = prD d := by
    intro n a e h1 h2 h3 h4 h5
    subst e
    have m := tyName_mem h1
    refine ⟨⟨_, ty_of h h1, ?_, ?_, ?_⟩, Q.short_no rfl, by rw [h5]; rfl⟩
    · exact kit_ty ((kit_all n m "str" (by decide)).trans (congrArg some h2))
    · exact kit_ty ((kit_all n m "int" (by decide)).trans (congrArg some h3))
    · exact kit_ty ((kit_all n m "bool" (by decide)).trans (congrArg some h4))
  cases d with
  | lst l =>
    have h' := h
    simp only [RV] at h'
    obtain ⟨a, _, e, _⟩ := h'
    exact key e rfl (by decide) (by decide) (by decide) rfl
  | tup l =>
    have h' := h
    simp only [RV] at h'
    obtain ⟨a, _, e, _⟩ := h'
    exact key e rfl (by decide) (by decide) (by decide) rfl
  | dic l =>
    have h' := h
    simp only [RV] at h'
    obtain ⟨a, e, _⟩ := h'
    exact key e rfl (by decide) (by decide) (by decide) rfl
  | _ => exact atom_v h ha
end
end U
namespace U
open PySem
open Q (Pg progP)
def pgD : Pg → List D
  | .nil => []
  | .seq l r => .str l :: pgD r
  | .rep b n r => .tup [.lst (pgD b), .int (n : Nat)] :: pgD r
def prP : D → Option Pg
  | .str l => progP l
  | _ => none
def g_items (ds : List D) : PR := match ds with
  | [v] => if atomX v then (match prP v with
    | some p => .val (.lst (pgD p))
    | none => .exc "InvalidProgram") else .bad
  | _ => .bad
def fn_items_of : Fn := fnP g_items
theorem f_items {l : List Nat} {p : Pg} (h : l.length ≤ 100000) (hp : progP l = some p) : fn_items_of [.str l] = .ok (.lst (pgD p)) [] := by
  refine fnP_val ?_ rfl
  have e : atomX (.str l) = true := decide_eq_true h
  simp only [g_items, e, if_true, prP, hp]
end U
namespace U
abbrev Row := Option (Nat × List Nat)
def oldC' : List Nat := [111, 108, 100, 101, 115, 116]
def newC' : List Nat := [110, 101, 119, 101, 115, 116]
def stepR (c : Nat) (z : List Nat) (x : Nat) : Row → Row
  | none => none
  | some (k, w) => if x = 45 then (if k + w.length = 0 then none else if 0 < k then some (k - 1, w) else some (0, w.drop 1))
    else if k + w.length < c then some (k, w ++ [x])
    else if z = oldC' then (if 0 < k then some (k - 1, w ++ [x]) else some (0, w.drop 1 ++ [x]))
    else if z = newC' then some (k, w) else none
def runR (c : Nat) (z : List Nat) (fl : List Nat) (r : Row) : Row := fl.foldl (fun r x => stepR c z x r) r
def glueR (w : List Nat) : Row → Row
  | none => none
  | some (k, v) => if k ≤ w.length then some (0, w.drop (w.length - k) ++ v) else some (k - w.length, w ++ v)
def joinR (g : Nat → Row) : Row → Row
  | none => none
  | some (k, w) => glueR w (g (k + w.length))
def effR (c : Nat) (z : List Nat) (fl : List Nat) : Nat → Row := fun n => runR c z fl (some (n, []))
theorem stepR_none {c : Nat} {z : List Nat} {x : Nat} : stepR c z x none = none := rfl
theorem runR_none {c : Nat} {z : List Nat} : ∀ fl : List Nat, runR c z fl none = none
  | [] => rfl
  | x :: fl => by
    show runR c z fl (stepR c z x none) = none
    exact runR_none fl
theorem runR_cons {c : Nat} {z : List Nat} {x : Nat} {fl : List Nat} {r : Row} : runR c z (x :: fl) r = runR c z fl (stepR c z x r) := rfl
theorem runR_app {c : Nat} {z : List Nat} {a b : List Nat} {r : Row} : runR c z (a ++ b) r = runR c z b (runR c z a r) := by
  unfold runR; rw [List.foldl_append]
theorem glue_step {c : Nat} {z : List Nat} {x : Nat} {w : List Nat} (r : Row) : stepR c z x (glueR w r) = glueR w (stepR c z x r) := by
  match r with
  | none => rfl
  | some (k, v) =>
    have hd : ∀ j, 0 < j → j ≤ w.length → (w.drop (w.length - j) ++ v).drop 1 = w.drop (w.length - (j - 1)) ++ v := fun j h1 h2 => by
      rw [List.drop_append_of_le_length (by rw [List.length_drop]; omega), List.drop_drop]
      congr 2; omega
    by_cases hk : k ≤ w.length
    · have e1 : glueR w (some (k, v)) = some (0, w.drop (w.length - k) ++ v) := by simp only [glueR, if_pos hk]
      rw [e1]
      have hl : 0 + (w.drop (w.length - k) ++ v).length = k + v.length := by rw [List.length_append, List.length_drop]; omega
      simp only [stepR]
      rw [hl]
      by_cases hx : x = 45
      · rw [if_pos hx, if_pos hx]
        by_cases h0 : k + v.length = 0
        · rw [if_pos h0, if_pos h0]; rfl
        · rw [if_neg h0, if_neg h0, if_neg (by omega)]
          by_cases hk0 : 0 < k
          · rw [if_pos hk0]
            simp only [glueR]
            rw [if_pos (by omega), hd k hk0 hk]
          · have : k = 0 := by omega
            subst this
            rw [if_neg (by omega)]
            simp only [glueR]
            rw [if_pos (Nat.zero_le _), Nat.sub_zero, List.drop_length, List.nil_append, List.nil_append]
      · rw [if_neg hx, if_neg hx]
        by_cases hc : k + v.length < c
        · rw [if_pos hc, if_pos hc]
          simp only [glueR]
          rw [if_pos hk, List.append_assoc]
        · rw [if_neg hc, if_neg hc]
          by_cases ho : z = oldC'
          · rw [if_pos ho, if_pos ho, if_neg (by omega)]
            by_cases hk0 : 0 < k
            · rw [if_pos hk0]
              simp only [glueR]
              rw [if_pos (by omega), hd k hk0 hk, List.append_assoc]
            · have : k = 0 := by omega
              subst this
              rw [if_neg (by omega)]
              simp only [glueR]
              rw [if_pos (Nat.zero_le _), Nat.sub_zero, List.drop_length, List.nil_append, List.nil_append]
          · rw [if_neg ho, if_neg ho]
            by_cases hn : z = newC'
            · rw [if_pos hn, if_pos hn, e1]
            · rw [if_neg hn, if_neg hn]; rfl
    · have e1 : glueR w (some (k, v)) = some (k - w.length, w ++ v) := by simp only [glueR, if_neg hk]
      rw [e1]
      have hl : k - w.length + (w ++ v).length = k + v.length := by rw [List.length_append]; omega
      have hg : glueR w (some (k - 1, v)) = some (k - w.length - 1, w ++ v) := by
        simp only [glueR]
        by_cases hz : k - 1 ≤ w.length
        · rw [if_pos hz, show w.length - (k - 1) = 0 by omega, List.drop_zero, show k - w.length - 1 = 0 by omega]
        · rw [if_neg hz, show k - 1 - w.length = k - w.length - 1 by omega]
      have hg2 : glueR w (some (k - 1, v ++ [x])) = some (k - w.length - 1, w ++ v ++ [x]) := by
        simp only [glueR]
        by_cases hz : k - 1 ≤ w.length
        · rw [if_pos hz, show w.length - (k - 1) = 0 by omega, List.drop_zero, show k - w.length - 1 = 0 by omega, List.append_assoc]
        · rw [if_neg hz, show k - 1 - w.length = k - w.length - 1 by omega, List.append_assoc]
      simp only [stepR]
      rw [hl]
      by_cases hx : x = 45
      · rw [if_pos hx, if_pos hx]
        by_cases h0 : k + v.length = 0
        · omega
        · rw [if_neg h0, if_neg h0, if_pos (show 0 < k - w.length by omega), if_pos (show 0 < k by omega), hg]
      · rw [if_neg hx, if_neg hx]
        by_cases hc : k + v.length < c
        · rw [if_pos hc, if_pos hc]
          simp only [glueR]
          rw [if_neg hk, List.append_assoc]
        · rw [if_neg hc, if_neg hc]
          by_cases ho : z = oldC'
          · rw [if_pos ho, if_pos ho, if_pos (show 0 < k - w.length by omega), if_pos (show 0 < k by omega), hg2]
          · rw [if_neg ho, if_neg ho]
            by_cases hn : z = newC'
            · rw [if_pos hn, if_pos hn, e1]
            · rw [if_neg hn, if_neg hn]; rfl
theorem glue_run {c : Nat} {z w : List Nat} : ∀ (fl : List Nat) (r : Row), runR c z fl (glueR w r) = glueR w (runR c z fl r)
  | [], _ => rfl
  | x :: fl, r => by rw [runR_cons, runR_cons, glue_step, glue_run fl]
theorem join_run {c : Nat} {z : List Nat} {fl : List Nat} (r : Row) : joinR (effR c z fl) r = runR c z fl r := by
  match r with
  | none => exact (runR_none fl).symm
  | some (k, w) =>
    simp only [joinR, effR]
    rw [← glue_run]
    congr 1
    simp only [glueR]
    by_cases h : k + w.length ≤ w.length
    · have : k = 0 := by omega
      subst this
      rw [if_pos h, Nat.zero_add, Nat.sub_self, List.drop_zero, List.append_nil]
    · rw [if_neg h, Nat.add_sub_cancel, List.append_nil]
theorem join_eff {c : Nat} {z a b : List Nat} (n : Nat) : joinR (effR c z b) (effR c z a n) = effR c z (a ++ b) n := by
  rw [join_run]; exact runR_app.symm
def rept (n : Nat) (fl : List Nat) : List Nat := (List.replicate n fl).flatten
theorem rept_zero {fl : List Nat} : rept 0 fl = [] := rfl
theorem rept_succ {n : Nat} {fl : List Nat} : rept (n + 1) fl = fl ++ rept n fl := by simp [rept, List.replicate_succ]
theorem rept_add {n m : Nat} {fl : List Nat} : rept (n + m) fl = rept n fl ++ rept m fl := by
  simp [rept, ← List.replicate_append_replicate]
theorem rept_mul {n m : Nat} {fl : List Nat} : rept n (rept m fl) = rept (m * n) fl := by
  induction n with
  | zero => simp [rept_zero, Nat.mul_zero]
  | succ n ih => rw [rept_succ, ih, Nat.mul_succ, Nat.add_comm, rept_add]
def rowOk (c n : Nat) : Row → Prop
  | none => True
  | some (k, w) => k ≤ n ∧ k + w.length ≤ c ∧ ∀ x ∈ w, 97 ≤ x ∧ x ≤ 122
def stpOk (x : Nat) : Prop := x = 45 ∨ (97 ≤ x ∧ x ≤ 122)
theorem stepR_ok {c n : Nat} {z : List Nat} {x : Nat} {r : Row} (hc : 1 ≤ c) (hx : stpOk x) (h : rowOk c n r) : rowOk c n (stepR c z x r) := by
  match r, h with
  | none, _ => exact trivial
  | some (k, w), h =>
    obtain ⟨h1, h2, h3⟩ := h
    have lx : ∀ {l : List Nat}, (∀ y ∈ l, 97 ≤ y ∧ y ≤ 122) → x ≠ 45 → ∀ y ∈ l ++ [x], 97 ≤ y ∧ y ≤ 122 := fun {l} hl hx' y hy => by
      rcases List.mem_append.mp hy with q | q
      · exact hl y q
      · rw [List.mem_singleton.mp q]; exact hx.resolve_left hx'
    simp only [stepR]
    split
    · split
      · exact trivial
      · split
        · exact ⟨by omega, by omega, h3⟩
        · exact ⟨by omega, by rw [List.length_drop]; omega, fun y hy => h3 y (List.mem_of_mem_drop hy)⟩
    · rename_i hx'
      split
      · exact ⟨h1, by rw [List.length_append, List.length_singleton]; omega, lx h3 hx'⟩
      · split
        · split
          · exact ⟨by omega, by rw [List.length_append, List.length_singleton]; omega, lx h3 hx'⟩
          · refine ⟨by omega, ?_, lx (fun y hy => h3 y (List.mem_of_mem_drop hy)) hx'⟩
            rw [List.length_append, List.length_singleton, List.length_drop]; omega
        · split
          · exact ⟨h1, h2, h3⟩
          · exact trivial
theorem runR_ok {c n : Nat} {z : List Nat} (hc : 1 ≤ c) : ∀ {fl : List Nat} {r : Row}, (∀ x ∈ fl, stpOk x) → rowOk c n r → rowOk c n (runR c z fl r)
  | [], _, _, h => h
  | x :: fl, r, hf, h => by
    rw [runR_cons]
    exact runR_ok hc (fun y hy => hf y (List.mem_cons_of_mem _ hy)) (stepR_ok hc (hf x List.mem_cons_self) h)
theorem eff_ok {c n : Nat} {z fl : List Nat} (hc : 1 ≤ c) (hn : n ≤ c) (hf : ∀ x ∈ fl, stpOk x) : rowOk c n (effR c z fl n) :=
  runR_ok hc hf ⟨Nat.le_refl _, by simpa using hn, fun x hx => by cases hx⟩
end U
namespace U
noncomputable def body_is_integer : St := (sRet (eAnd (eIsi "int" (eVar 0)) (eAnd (eUn oNot (eIsi "bool" (eVar 0))) (eOp oGe (eVar 0) (eVar 1)))))
noncomputable def fn_is_integer : Fn := fnOf 2 0 body_is_integer
noncomputable def body_is_capacity : St := (sRet (eAnd (eFrz (eCall fn_is_integer [.v (eVar 0), .v (eC (.int 1))] [])) (eOp oLe (eVar 0) (eC (.int 100)))))
noncomputable def fn_is_capacity : Fn := fnOf 1 0 body_is_capacity
noncomputable def body_check_capacity : St := (sIf (eUn oNot (eFrz (eCall fn_is_capacity [.v (eVar 0)] [])))
    (sRaise "InvalidCapacity" [] aNil)
    sNil)
noncomputable def fn_check_capacity : Fn := fnOf 1 0 body_check_capacity
noncomputable def body_is_mode : St := (sRet (eAnd (eIsi "str" (eVar 0)) (eOp oInQ (eVar 0) (eC (.tup [(.str [111, 108, 100, 101, 115, 116]), (.str [110, 101, 119, 101, 115, 116]), (.str [115, 116, 114, 105, 99, 116])])))))
noncomputable def fn_is_mode : Fn := fnOf 1 0 body_is_mode
noncomputable def body_check_mode : St := (sIf (eUn oNot (eFrz (eCall fn_is_mode [.v (eVar 0)] [])))
    (sRaise "InvalidMode" [] aNil)
    sNil)
noncomputable def fn_check_mode : Fn := fnOf 1 0 body_check_mode
noncomputable def body_is_text_of : St := (sRet (eAnd (eIsi "str" (eVar 0)) (eN oAll (aCons (eFrz (eComp (iOf itS (eVar 0)) (gVar 2) (eC (.bl true)) (eOp oInS (eVar 2) (eVar 1)) [2])) aNil))))
noncomputable def fn_is_text_of : Fn := fnOf 2 1 body_is_text_of
noncomputable def body_is_queue : St := (sSeq (sDrop (eCall fn_check_capacity [.v (eVar 1)] []))
    (sRet (eAnd (eFrz (eCall fn_is_text_of [.v (eVar 0), .v (eC (.str [97, 98, 99, 100, 101, 102, 103, 104, 105, 106, 107, 108, 109, 110, 111, 112, 113, 114, 115, 116, 117, 118, 119, 120, 121, 122]))] [])) (eOp oLe (eN oLenS (aCons (eVar 0) aNil)) (eVar 1)))))
noncomputable def fn_is_queue : Fn := fnOf 2 0 body_is_queue
noncomputable def body_is_row : St := (sSeq (sIf (eOp oIsN (eVar 0) (eC .non))
    (sRet (eC (.bl true)))
    sNil)
    (sSeq (sIf (eOr (eUn oNot (eIsi "tuple" (eVar 0))) (eOr (eOp oNe (eN oLenQ (aCons (eVar 0) aNil)) (eC (.int 2))) (eOr (eUn oNot (eFrz (eCall fn_is_integer [.v (eOp oIxT (eVar 0) (eC (.int 0)))] [(.int 0)]))) (eOp oGt (eOp oIxT (eVar 0) (eC (.int 0))) (eVar 1)))))
    (sRet (eC (.bl false)))
    sNil)
    (sRet (eAnd (eFrz (eCall fn_is_queue [.v (eOp oIxT (eVar 0) (eC (.int 1))), .v (eVar 2)] [])) (eOp oLe (eOp oAdd (eOp oIxT (eVar 0) (eC (.int 0))) (eN oLenS (aCons (eOp oIxT (eVar 0) (eC (.int 1))) aNil))) (eVar 2))))))
noncomputable def fn_is_row : Fn := fnOf 3 0 body_is_row
noncomputable def turn_Effect_init_1 : St := (sIf (eUn oNot (eFrz (eCall fn_is_row [.v (eVar 4), .v (eVar 3), .v (eVar 1)] [])))
    (sRaise "InvalidEffect" ["position"] (aCons (eVar 3) aNil))
    sNil)
noncomputable def body_Effect_init : St := (sSeq (sDrop (eCall fn_check_capacity [.v (eVar 1)] []))
    (sSeq (sIf (eOr (eUn oNot (eUn (oIsi2 "list" "tuple") (eVar 2))) (eOp oNe (eN oLenQ (aCons (eVar 2) aNil)) (eOp oAdd (eVar 1) (eC (.int 1)))))
    (sRaise "InvalidEffect" ["position"] (aCons (eC .non) aNil))
    sNil)
    (sSeq (sFor (iOfA itEQ (aCons (eVar 2) aNil)) (gTup [(gVar 3), (gVar 4)]) turn_Effect_init_1)
    (sFldO 0 "Effect" "all_rows" (eN oTupOf (aCons (eVar 2) aNil))))))
noncomputable def fn_Effect_init : Fn := fnOf 3 2 body_Effect_init
noncomputable def body_identity_rows : St := (sRet (eN oTupOf (aCons (eFrz (eComp (iOfA itR (aCons (eOp oAdd (eVar 0) (eC (.int 1))) aNil)) (gVar 1) (eC (.bl true)) (eN mkTup (aCons (eVar 1) (aCons (eC (.str [])) aNil))) [1])) aNil)))
noncomputable def fn_identity_rows : Fn := fnOf 1 1 body_identity_rows
noncomputable def body_row_after : St := (sSeq (sIf (eOp oIsN (eVar 0) (eC .non))
    (sRet (eC .non))
    sNil)
    (sSeq (sAsg (eVar 0) (gTup [(gVar 4), (gVar 5)]))
    (sSeq (sSet 6 (eOp oAdd (eVar 4) (eN oLenS (aCons (eVar 5) aNil))))
    (sSeq (sIf (eOp oEq (eVar 1) (eC (.str [45])))
    (sSeq (sIf (eOp oEq (eVar 6) (eC (.int 0)))
    (sRet (eC .non))
    sNil)
    (sRet (eIf (eOp oGt (eVar 4) (eC (.int 0))) (eN mkTup (aCons (eOp oSub (eVar 4) (eC (.int 1))) (aCons (eVar 5) aNil))) (eN mkTup (aCons (eC (.int 0)) (aCons (eSl oSlS (eVar 5) (some (eC (.int 1))) none) aNil))))))
    sNil)
    (sSeq (sIf (eOp oLt (eVar 6) (eVar 2))
    (sRet (eN mkTup (aCons (eVar 4) (aCons (eOp oAddS (eVar 5) (eVar 1)) aNil))))
    sNil)
    (sSeq (sIf (eOp oEq (eVar 3) (eC (.str [111, 108, 100, 101, 115, 116])))
    (sRet (eIf (eOp oGt (eVar 4) (eC (.int 0))) (eN mkTup (aCons (eOp oSub (eVar 4) (eC (.int 1))) (aCons (eOp oAddS (eVar 5) (eVar 1)) aNil))) (eN mkTup (aCons (eC (.int 0)) (aCons (eOp oAddS (eSl oSlS (eVar 5) (some (eC (.int 1))) none) (eVar 1)) aNil)))))
    sNil)
    (sRet (eIf (eOp oEq (eVar 3) (eC (.str [110, 101, 119, 101, 115, 116]))) (eVar 0) (eC .non)))))))))
noncomputable def fn_row_after : Fn := fnOf 4 3 body_row_after
noncomputable def body_joined_row : St := (sSeq (sIf (eOp oIsN (eVar 0) (eC .non))
    (sRet (eC .non))
    sNil)
    (sSeq (sAsg (eVar 0) (gTup [(gVar 2), (gVar 3)]))
    (sSeq (sSet 4 (eOp oIxT (eVar 1) (eOp oAdd (eVar 2) (eN oLenS (aCons (eVar 3) aNil)))))
    (sSeq (sIf (eOp oIsN (eVar 4) (eC .non))
    (sRet (eC .non))
    sNil)
    (sSeq (sIf (eOp oLe (eOp oIxT (eVar 4) (eC (.int 0))) (eN oLenS (aCons (eVar 3) aNil)))
    (sRet (eN mkTup (aCons (eC (.int 0)) (aCons (eOp oAddS (eSl oSlS (eVar 3) (some (eOp oSub (eN oLenS (aCons (eVar 3) aNil)) (eOp oIxT (eVar 4) (eC (.int 0))))) none) (eOp oIxT (eVar 4) (eC (.int 1)))) aNil))))
    sNil)
    (sRet (eN mkTup (aCons (eOp oSub (eOp oIxT (eVar 4) (eC (.int 0))) (eN oLenS (aCons (eVar 3) aNil))) (aCons (eOp oAddS (eVar 3) (eOp oIxT (eVar 4) (eC (.int 1)))) aNil)))))))))
noncomputable def fn_joined_row : Fn := fnOf 2 3 body_joined_row
noncomputable def body_joined_rows : St := (sRet (eN oTupOf (aCons (eFrz (eComp (iOf itT (eVar 0)) (gVar 2) (eC (.bl true)) (eFrz (eCall fn_joined_row [.v (eVar 2), .v (eVar 1)] [])) [2])) aNil)))
noncomputable def fn_joined_rows : Fn := fnOf 2 1 body_joined_rows
noncomputable def body_power_rows : St := (sSeq (sPar [2, 3, 4] (aCons (eFrz (eCall fn_identity_rows [.v (eOp oSub (eN oLenQ (aCons (eVar 0) aNil)) (eC (.int 1)))] [])) (aCons (eVar 0) (aCons (eVar 1) aNil))))
    (sSeq (sWhile (eOp oGt (eVar 4) (eC (.int 0)))
    (sSeq (sIf (eOp oEq (eOp oMod (eVar 4) (eC (.int 2))) (eC (.int 1)))
    (sSet 2 (eFrz (eCall fn_joined_rows [.v (eVar 2), .v (eVar 3)] [])))
    sNil)
    (sSeq (sSet 3 (eFrz (eCall fn_joined_rows [.v (eVar 3), .v (eVar 3)] [])))
    (sSet 4 (eOp oDiv (eVar 4) (eC (.int 2)))))))
    (sRet (eVar 2))))
noncomputable def fn_power_rows : Fn := fnOf 2 3 body_power_rows
noncomputable def fn_rows_of : Nat → Fn
  | 0 => fun _ => .bad
  | n + 1 => fnOf 3 4 (sSeq (sSet 3 (eFrz (eCall fn_identity_rows [.v (eVar 1)] [])))
    (sSeq (sFor (iOf itL (eVar 0)) (gVar 4) 
    (sIf (eIsi "str" (eVar 4))
    (sFor (iOf itS (eVar 4)) (gVar 5) 
    (sSet 3 (eN oTupOf (aCons (eFrz (eComp (iOf itT (eVar 3)) (gVar 6) (eC (.bl true)) (eFrz (eCall fn_row_after [.v (eVar 6), .v (eVar 5), .v (eVar 1), .v (eVar 2)] [])) [6])) aNil))))
    (sSet 3 (eFrz (eCall fn_joined_rows [.v (eVar 3), .v (eFrz (eCall fn_power_rows [.v (eFrz (eCall (fn_rows_of n) [.v (eOp oIxT (eVar 4) (eC (.int 0))), .v (eVar 1), .v (eVar 2)] [])), .v (eOp oIxT (eVar 4) (eC (.int 1)))] []))] [])))))
    (sRet (eVar 3))))
noncomputable def body_effect_of : St := (sSeq (sSet 3 (eFrz (eCall fn_items_of [.v (eVar 0)] [])))
    (sSeq (sDrop (eCall fn_check_capacity [.v (eVar 1)] []))
    (sSeq (sDrop (eCall fn_check_mode [.v (eVar 2)] []))
    (sRet (eFrz (eMake "Effect" fn_Effect_init (aCons (eVar 1) (aCons (eFrz (eCall (fn_rows_of 21) [.v (eVar 3), .v (eVar 1), .v (eVar 2)] [])) aNil)) []))))))
noncomputable def fn_effect_of : Fn := fnOf 3 1 body_effect_of
noncomputable def body_Effect_capacity : St := (sRet (eOp oSub (eN oLenQ (aCons (eUn (oFld "Effect" "all_rows") (eVar 0)) aNil)) (eC (.int 1))))
noncomputable def fn_Effect_capacity : Fn := fnOf 1 0 body_Effect_capacity
noncomputable def body_check_same : St := (sIf (eOp oNe (eUn (oProp "Effect" fn_Effect_capacity) (eVar 0)) (eUn (oProp "Effect" fn_Effect_capacity) (eVar 1)))
    (sRaise "CapacityMismatch" ["first", "second"] (aCons (eUn (oProp "Effect" fn_Effect_capacity) (eVar 0)) (aCons (eUn (oProp "Effect" fn_Effect_capacity) (eVar 1)) aNil)))
    sNil)
noncomputable def fn_check_same : Fn := fnOf 2 0 body_check_same
noncomputable def body_Effect_rows : St := (sRet (eUn (oFld "Effect" "all_rows") (eVar 0)))
noncomputable def fn_Effect_rows : Fn := fnOf 1 0 body_Effect_rows
noncomputable def body_Effect_mul : St := (sSeq (sIf (eUn oNot (eUn (oIsiC [("Effect", true)]) (eVar 1)))
    sBad
    sNil)
    (sSeq (sDrop (eCall fn_check_same [.v (eVar 0), .v (eVar 1)] []))
    (sRet (eFrz (eMake "Effect" fn_Effect_init (aCons (eUn (oProp "Effect" fn_Effect_capacity) (eVar 0)) (aCons (eFrz (eCall fn_joined_rows [.v (eUn (oFld "Effect" "all_rows") (eVar 0)), .v (eUn (oProp "Effect" fn_Effect_rows) (eVar 1))] [])) aNil)) [])))))
noncomputable def fn_Effect_mul : Fn := fnOf 2 0 body_Effect_mul
noncomputable def body_Effect_eq : St := (sRet (eAnd (eUn (oIsiC [("Effect", true)]) (eVar 1)) (eOp oEq (eUn (oFld "Effect" "all_rows") (eVar 0)) (eUn (oFld "Effect" "all_rows") (eVar 1)))))
noncomputable def fn_Effect_eq : Fn := fnOf 2 0 body_Effect_eq
noncomputable def body_Effect_identity : St := (sSeq (sDrop (eCall fn_check_capacity [.v (eVar 1)] []))
    (sRet (eFrz (eMakeL 0 "Effect" fn_Effect_init (aCons (eVar 1) (aCons (eFrz (eCall fn_identity_rows [.v (eVar 1)] [])) aNil)) []))))
noncomputable def fn_Effect_identity : Fn := fnOfC 1 0 "Effect" body_Effect_identity
noncomputable def body_check_integer : St := (sIf (eOr (eUn oNot (eFrz (eCall fn_is_integer [.v (eVar 0), .v (eVar 1)] []))) (eAnd (eOp oNotN (eVar 2) (eC .non)) (eOp oGt (eVar 0) (eVar 2))))
    (sRaise "InvalidInteger" [] aNil)
    sNil)
noncomputable def fn_check_integer : Fn := fnOf 3 0 body_check_integer
noncomputable def body_Effect_power : St := (sSeq (sDrop (eCall fn_check_integer [.v (eVar 1), .v (eC (.int 0)), .v (eC (.int 1000000000000000000000000000000))] []))
    (sRet (eFrz (eMake "Effect" fn_Effect_init (aCons (eUn (oProp "Effect" fn_Effect_capacity) (eVar 0)) (aCons (eFrz (eCall fn_power_rows [.v (eUn (oFld "Effect" "all_rows") (eVar 0)), .v (eVar 1)] [])) aNil)) []))))
noncomputable def fn_Effect_power : Fn := fnOf 2 0 body_Effect_power
noncomputable def body_Effect_pow : St := (sRet (eFrz (eMeth "Effect" "power" fn_Effect_power (eVar 0) [.v (eVar 1)] [])))
noncomputable def fn_Effect_pow : Fn := fnOf 2 0 body_Effect_pow
end U
namespace U
open PySem
open Q (Pg progP)
def DepS : List Pg → Prop
  | [] => True
  | f :: fs => f.depth + fs.length ≤ 20 ∧ DepS fs
theorem isStp_mem {c : Nat} (h : Q.isStp c = true) : c ∈ Q.stp := by
  first
    | exact of_decide_eq_true h
    | simpa [Q.isStp] using h
theorem goP_ok : ∀ (n : Nat) (t : List Nat) (st : List Pg) (p : Pg), t.length ≤ n → (∀ f ∈ st, f.ok) → DepS st → Q.goP t st = some p → p.ok ∧ p.depth ≤ 20
  | n, [], [], p, _, _, _, h => by rw [Q.goP.eq_def] at h; cases h
  | n, [], [f], p, _, ho, hd, h => by
    rw [Q.goP.eq_def] at h
    cases h
    exact ⟨ho f List.mem_cons_self, by have := hd.1; simpa using this⟩
  | n, [], f :: g :: fs, p, _, _, _, h => by rw [Q.goP.eq_def] at h; cases h
  | n, c :: t, [], p, _, _, _, h => by rw [Q.goP.eq_def] at h; cases h
  | 0, c :: t, f :: fs, p, hl, _, _, _ => by simp at hl
  | n + 1, c :: t, f :: fs, p, hl, ho, hd, h => by
    rw [List.length_cons] at hl
    have hof := ho f List.mem_cons_self
    have hos : ∀ g ∈ fs, g.ok := fun g hg => ho g (List.mem_cons_of_mem _ hg)
    cases hs : Q.isStp c with
    | true =>
      rw [Q.goP_step hs] at h
      have h1 := (List.dropWhile_suffix (l := t) Q.isStp).length_le
      refine goP_ok n _ _ p (by omega) (fun g hg => ?_) ?_ h
      · rcases List.mem_cons.mp hg with z | z
        · rw [z]
          refine Pg.ok_app hof ⟨fun x hx => ?_, trivial⟩
          rcases List.mem_cons.mp hx with q | q
          · rw [q]; exact isStp_mem hs
          · exact isStp_mem (List.all_eq_true.mp List.all_takeWhile x q)
        · exact hos g z
      · refine And.intro ?_ hd.2
        rw [Pg.depth_app]
        have := hd.1
        simp only [Pg.depth]
        omega
    | false =>
      by_cases h40 : c = 40
      · subst h40
        rw [Q.goP_open] at h
        split at h
        · rename_i hf
          refine goP_ok n _ _ p (by omega) (fun g hg => ?_) ?_ h
          · rcases List.mem_cons.mp hg with z | z
            · rw [z]; exact trivial
            · exact ho g z
          · refine And.intro ?_ hd
            simp only [Pg.depth, List.length_cons]; omega
        · cases h
      · by_cases h41 : c = 41
        · subst h41
          cases fs with
          | nil => rw [Q.goP_close0] at h; cases h
          | cons g gs =>
            rw [Q.goP_close] at h
            split at h
            · rename_i hk
              have h1 := (List.dropWhile_suffix (l := t) Q.isDig).length_le
              refine goP_ok n _ _ p (by omega) (fun u hu => ?_) ?_ h
              · rcases List.mem_cons.mp hu with z | z
                · rw [z]
                  refine Pg.ok_app (hos g List.mem_cons_self) ⟨hof, ?_, trivial⟩
                  unfold Q.okCount at hk
                  simp only [Bool.and_eq_true, decide_eq_true_eq] at hk
                  exact hk.2.2.2
                · exact hos u (List.mem_cons_of_mem _ z)
              · refine And.intro ?_ hd.2.2
                rw [Pg.depth_app]
                have a := hd.1
                have b := hd.2.1
                simp only [Pg.depth, List.length_cons] at a b ⊢
                omega
            · cases h
        · rw [Q.goP_other hs h40 h41] at h; cases h
theorem progP_ok {l : List Nat} {p : Pg} (h : progP l = some p) : p.ok ∧ p.depth ≤ 20 :=
  goP_ok l.length l [.nil] p (Nat.le_refl _) (fun f hf => by rw [List.mem_singleton.mp hf]; exact trivial) ⟨by simp [Pg.depth], trivial⟩ h
def rowD : Row → D
  | none => .non
  | some (k, w) => .tup [.int (k : Nat), .str w]
def rowsL (c : Nat) (f : Nat → Row) : List D := (List.range (c + 1)).map fun n => rowD (f n)
def rowsD (c : Nat) (f : Nat → Row) : D := .tup (rowsL c f)
theorem rowD_pl {r : Row} : (rowD r).isMut = false := by cases r <;> rfl
theorem comp_map {g : Tg} {e : E} {vs : List Nat} {ρ : Env} (F : D → D) : ∀ {ds acc : List D}, (∀ d ∈ ds, ∃ ρ1 ρ2, g d ρ = some ρ1 ∧ e ρ1 = .ok (F d) ρ2 ∧ wipeE vs ρ2 = ρ) → acc.length + ds.length ≤ 16777216 → compL g (eC (.bl true)) e vs ds ρ acc = .ok (acc ++ ds.map F) ρ
  | [], acc, _, _ => by simp [compL]
  | d :: ds, acc, h, hl => by
    obtain ⟨ρ1, ρ2, h1, h2, h3⟩ := h d List.mem_cons_self
    rw [List.length_cons] at hl
    simp only [compL, h1, eC, h2]
    rw [if_pos (by omega), h3, comp_map F (fun x hx => h x (List.mem_cons_of_mem _ hx)) (by rw [List.length_append, List.length_singleton]; omega)]
    simp
theorem cut_drop {α : Type} {l : List α} {i : Nat} : cutD l (some (i : Int)) none = l.drop i := by
  simp only [cutD, sIxD]
  rw [if_neg (by omega)]
  simp only [Int.toNat_natCast]
  by_cases h : i ≤ l.length
  · rw [Nat.min_eq_left h, List.take_of_length_le (by rw [List.length_drop]; omega)]
  · rw [Nat.min_eq_right (by omega), List.drop_length, List.drop_of_length_le (by omega)]; simp
theorem cut_drop1 {α : Type} {l : List α} : cutD l (some 1) none = l.drop 1 := cut_drop (i := 1)
theorem f_row_after {c n x : Nat} {z : List Nat} {r : Row} (hc : c ≤ 100) (h : rowOk c n r) : ∃ o, fn_row_after [rowD r, .str [x], .int (c : Nat), .str z] = .ok (rowD (stepR c z x r)) o := by
  match r, h with
  | none, _ =>
    unfold fn_row_after body_row_after
    simp only [rowD, stepR]
    walk_at "ev"
    exact ⟨_, rfl⟩
  | some (k, w), h =>
    obtain ⟨h1, h2, h3⟩ := h
    have hw : w.length ≤ 16777216 := by omega
    have hw1 : w.length ≤ 16777215 := by omega
    have hw2 : (w.drop 1).length ≤ 16777215 := by rw [List.length_drop]; omega
    have ec : cutD w (some 1) none = w.drop 1 := cut_drop1
    have ek : 0 < k → ((k : Int) - 1) = ((k - 1 : Nat) : Int) := fun _ => by omega
    unfold fn_row_after body_row_after
    simp only [rowD, stepR]
    by_cases hx : x = 45
    · subst hx
      by_cases h0 : k + w.length = 0
      · have e1 : ((k : Int) + (w.length : Int) == 0) = true := by simp only [beq_iff_eq]; omega
        walk_at "evh"
        exact ⟨_, rfl⟩
      · have e1 : ((k : Int) + (w.length : Int) == 0) = false := by simp only [beq_eq_false_iff_ne]; omega
        by_cases hk : 0 < k
        · have hk' : (0 : Int) < (k : Int) := by omega
          have ek := ek hk
          walk_at "evh"
          exact ⟨_, rfl⟩
        · have hk' : ¬ (0 : Int) < (k : Int) := by omega
          walk_at "evh"
          exact ⟨_, rfl⟩
    · have e2 : ([x] == [45]) = false := by simpa using hx
      by_cases hk : k + w.length < c
      · have hk' : (k : Int) + (w.length : Int) < (c : Int) := by omega
        walk_at "evh"
        exact ⟨_, rfl⟩
      · have hk' : ¬ (k : Int) + (w.length : Int) < (c : Int) := by omega
        by_cases ho : z = oldC'
        · subst ho
          have eo : (oldC' == [111, 108, 100, 101, 115, 116]) = true := by decide
          by_cases hk : 0 < k
          · have hk' : (0 : Int) < (k : Int) := by omega
            have ek := ek hk
            walk_at "evh"
            exact ⟨_, rfl⟩
          · have hk' : ¬ (0 : Int) < (k : Int) := by omega
            walk_at "evh"
            exact ⟨_, rfl⟩
        · have eo : (z == [111, 108, 100, 101, 115, 116]) = false := by simpa [oldC'] using ho
          by_cases hn : z = newC'
          · subst hn
            have en : (newC' == [110, 101, 119, 101, 115, 116]) = true := by decide
            walk_at "evh"
            exact ⟨_, rfl⟩
          · have en : (z == [110, 101, 119, 101, 115, 116]) = false := by simpa [newC'] using hn
            walk_at "evh"
            exact ⟨_, rfl⟩
theorem rowsL_len {c : Nat} {g : Nat → Row} : (rowsL c g).length = c + 1 := by simp [rowsL]
theorem rows_at {c i : Nat} {g : Nat → Row} (h : i ≤ c) : atD (rowsL c g) ((i : Nat) : Int) = some (rowD (g i)) := by
  rw [atD_nat]
  unfold rowsL
  rw [List.getElem?_map, List.getElem?_range (by omega)]
  rfl
theorem f_joined_row {c n m : Nat} {r : Row} {g : Nat → Row} (hc : c ≤ 100) (h : rowOk c n r) (hg : ∀ i, i ≤ c → rowOk c i (g i)) : ∃ o, fn_joined_row [rowD r, rowsD c g] = .ok (rowD (joinR g r)) o := by
  match r, h with
  | none, _ =>
    unfold fn_joined_row body_joined_row
    simp only [rowD, joinR, rowsD]
    walk_at "ev"
    exact ⟨_, rfl⟩
  | some (k, w), h =>
    obtain ⟨h1, h2, h3⟩ := h
    have hw : w.length ≤ 16777216 := by omega
    have ei : atD (rowsL c g) ((k : Int) + (w.length : Int)) = some (rowD (g (k + w.length))) := by
      have := rows_at (c := c) (g := g) h2
      rw [← this]; congr 1
    have hgi := hg _ h2
    unfold fn_joined_row body_joined_row
    simp only [joinR, rowsD]
    generalize g (k + w.length) = r2 at ei hgi
    match r2, hgi with
    | none, _ =>
      simp only [rowD, glueR] at ei ⊢
      walk_at "evh"
      exact ⟨_, rfl⟩
    | some (k2, w2), hgi =>
      obtain ⟨g1, g2, g3⟩ := hgi
      simp only [rowD, glueR] at ei ⊢
      have hw2 : w2.length ≤ 16777216 := by omega
      by_cases hk : k2 ≤ w.length
      · have hk' : (k2 : Int) ≤ (w.length : Int) := by omega
        have es : ((w.length : Int) - (k2 : Int)) = ((w.length - k2 : Nat) : Int) := by omega
        have ec : cutD w (some ((w.length - k2 : Nat) : Int)) none = w.drop (w.length - k2) := cut_drop
        have hl : (w.drop (w.length - k2)).length + w2.length ≤ 16777216 := by rw [List.length_drop]; omega
        walk_at "evh"
        exact ⟨_, rfl⟩
      · have hk' : ¬ (k2 : Int) ≤ (w.length : Int) := by omega
        have es : ((k2 : Int) - (w.length : Int)) = ((k2 - w.length : Nat) : Int) := by omega
        have hl : w.length + w2.length ≤ 16777216 := by omega
        walk_at "evh"
        exact ⟨_, rfl⟩
theorem map_rowsL {c : Nat} {f : Nat → Row} {G : D → D} {g : Nat → Row} (h : ∀ n, n ≤ c → G (rowD (f n)) = rowD (g n)) : (rowsL c f).map G = rowsL c g := by
  unfold rowsL
  rw [List.map_map]
  apply List.map_congr_left
  intro n hn
  exact h n (by have := List.mem_range.mp hn; omega)
theorem mem_rowsL {c : Nat} {f : Nat → Row} {d : D} (h : d ∈ rowsL c f) : ∃ n, n ≤ c ∧ d = rowD (f n) := by
  unfold rowsL at h
  obtain ⟨n, hn, rfl⟩ := List.mem_map.mp h
  exact ⟨n, by have := List.mem_range.mp hn; omega, rfl⟩
def valF (f : Fn) (ds : List D) : D := match f ds with
  | .ok d _ => d
  | _ => .non
theorem pl_rowsL {c : Nat} {f : Nat → Row} : allPlain (rowsL c f) = true := by
  have : ∀ l : List D, (∀ d ∈ l, d.isMut = false) → allPlain l = true := by
    intro l
    induction l with
    | nil => intro _; rfl
    | cons x l ih => intro h; simp only [allPlain, h x List.mem_cons_self, ih (fun d hd => h d (List.mem_cons_of_mem _ hd)), Bool.not_false, Bool.and_self]
  refine this _ fun d hd => ?_
  obtain ⟨n, _, rfl⟩ := mem_rowsL hd
  exact rowD_pl
theorem f_joined_rows {c : Nat} {f g : Nat → Row} (hc : c ≤ 100) (hf : ∀ i, i ≤ c → rowOk c i (f i)) (hg : ∀ i, i ≤ c → rowOk c i (g i)) : ∃ o, fn_joined_rows [rowsD c f, rowsD c g] = .ok (rowsD c fun n => joinR g (f n)) o := by
  unfold fn_joined_rows body_joined_rows
  simp only [rowsD]
  have hm := comp_map (g := gVar 2) (e := eFrz (eCall fn_joined_row [.v (eVar 2), .v (eVar 1)] [])) (vs := [2]) (ρ := [some (D.tup (rowsL c f)), some (D.tup (rowsL c g)), none]) (fun d => valF fn_joined_row [d, rowsD c g]) (ds := rowsL c f) (acc := []) (fun d hd => by
    obtain ⟨n, hn, rfl⟩ := mem_rowsL hd
    obtain ⟨o, e⟩ := f_joined_row (m := 0) hc (hf n hn) hg
    have e' : fn_joined_row [rowD (f n), D.tup (rowsL c g)] = .ok (rowD (joinR g (f n))) o := e
    have hp : (rowD (f n)).isMut = false := rowD_pl
    have hp2 : (rowD (joinR g (f n))).isMut = false := rowD_pl
    have ev : valF fn_joined_row [rowD (f n), rowsD c g] = rowD (joinR g (f n)) := by unfold valF; rw [e]
    rw [ev]
    refine ⟨[some (D.tup (rowsL c f)), some (D.tup (rowsL c g)), some (rowD (f n))], [some (D.tup (rowsL c f)), some (D.tup (rowsL c g)), some (rowD (f n))], rfl, ?_, rfl⟩
    walk_at "evh") (by rw [rowsL_len]; simp; omega)
  rw [List.nil_append, map_rowsL (g := fun n => joinR g (f n)) (fun n hn => by
    obtain ⟨o, e⟩ := f_joined_row (m := 0) hc (hf n hn) hg
    unfold valF; rw [e])] at hm
  have hp := pl_rowsL (c := c) (f := fun n => joinR g (f n))
  walk_at "evh"
  exact ⟨_, rfl⟩
theorem f_identity_rows {c : Nat} (hc : c ≤ 1000) : ∃ o, fn_identity_rows [.int (c : Nat)] = .ok (rowsD c fun n => some (n, [])) o := by
  unfold fn_identity_rows body_identity_rows
  simp only [rowsD]
  have er : okR ((c : Int) + 1) = true := by unfold okR; exact decide_eq_true (by omega)
  have et : ((c : Int) + 1).toNat = c + 1 := by omega
  have hm := comp_map (g := gVar 1) (e := eN mkTup (aCons (eVar 1) (aCons (eC (.str [])) aNil))) (vs := [1]) (ρ := [some (D.int (c : Nat)), none]) (fun d => .tup [d, .str []]) (ds := rangeD 0 (c + 1)) (acc := []) (fun d hd => by
    unfold rangeD at hd
    obtain ⟨n, hn, rfl⟩ := List.mem_map.mp hd
    refine ⟨[some (D.int (c : Nat)), some (.int (0 + (n : Int)))], [some (D.int (c : Nat)), some (.int (0 + (n : Int)))], rfl, ?_, rfl⟩
    walk_at "evh") (by simp [rangeD]; omega)
  have e2 : (rangeD 0 (c + 1)).map (fun d => D.tup [d, .str []]) = rowsL c fun n => some (n, []) := by
    unfold rangeD rowsL
    rw [List.map_map]
    apply List.map_congr_left
    intro n _
    simp [rowD]
  rw [List.nil_append, e2] at hm
  have hp := pl_rowsL (c := c) (f := fun n => some (n, []))
  walk_at "evh"
  exact ⟨_, rfl⟩
theorem whileN_mono {c : E} {b : St} : ∀ {n m : Nat} {ρ : Env}, n ≤ m → whileN c b n ρ ≠ .bad → whileN c b m ρ = whileN c b n ρ
  | 0, _, ρ, _, h => absurd rfl h
  | n + 1, 0, ρ, hm, _ => by omega
  | n + 1, m + 1, ρ, hm, h => by
    simp only [whileN] at h ⊢
    cases e : c ρ with
    | bad => rfl
    | exc x ρ1 => rfl
    | ok d ρ1 =>
      rw [e] at h
      simp only [ER.binds] at h ⊢
      split
      · rename_i hd
        simp only at h
        cases e2 : b ρ1 with
        | nx ρ2 => rw [e2] at h; simp only at h ⊢; exact whileN_mono (by omega) h
        | ct ρ2 => rw [e2] at h; simp only at h ⊢; exact whileN_mono (by omega) h
        | _ => rfl
      · rfl
      · rfl
theorem while_eq {c : E} {b : St} {n : Nat} {ρ : Env} {r : Fl} (h : whileN c b n ρ = r) (hr : r ≠ .bad) : sWhile c b ρ = r := by
  have hx : ∃ n, whileN c b n ρ ≠ .bad := ⟨n, by rw [h]; exact hr⟩
  unfold sWhile
  rw [dif_pos hx]
  have h1 := Classical.choose_spec hx
  rcases Nat.le_total n (Classical.choose hx) with q | q
  · rw [whileN_mono q (by rw [h]; exact hr), h]
  · rw [← whileN_mono q h1, h]
def powC : E := eOp oGt (eVar 4) (eC (.int 0))
noncomputable def powB : St := sSeq (sIf (eOp oEq (eOp oMod (eVar 4) (eC (.int 2))) (eC (.int 1)))
    (sSet 2 (eFrz (eCall fn_joined_rows [.v (eVar 2), .v (eVar 3)] [])))
    sNil)
    (sSeq (sSet 3 (eFrz (eCall fn_joined_rows [.v (eVar 3), .v (eVar 3)] [])))
    (sSet 4 (eOp oDiv (eVar 4) (eC (.int 2)))))
theorem effs_ok {c : Nat} {z fl : List Nat} (hc : 1 ≤ c) (hf : ∀ x ∈ fl, stpOk x) : ∀ i, i ≤ c → rowOk c i (effR c z fl i) := fun i hi => eff_ok hc hi hf
theorem f_joined_eff {c : Nat} {z a b : List Nat} (hc : 1 ≤ c) (hc2 : c ≤ 100) (ha : ∀ x ∈ a, stpOk x) (hb : ∀ x ∈ b, stpOk x) : ∃ o, fn_joined_rows [.tup (rowsL c (effR c z a)), .tup (rowsL c (effR c z b))] = .ok (.tup (rowsL c (effR c z (a ++ b)))) o := by
  obtain ⟨o, e⟩ := f_joined_rows hc2 (effs_ok (z := z) hc ha) (effs_ok (z := z) hc hb)
  refine ⟨o, ?_⟩
  have : (fun n => joinR (effR c z b) (effR c z a n)) = effR c z (a ++ b) := funext fun n => join_eff n
  rw [this] at e
  exact e
theorem app_ok {a b : List Nat} (ha : ∀ x ∈ a, stpOk x) (hb : ∀ x ∈ b, stpOk x) : ∀ x ∈ a ++ b, stpOk x := fun x hx => (List.mem_append.mp hx).elim (ha x) (hb x)
theorem rept_ok {n : Nat} {a : List Nat} (ha : ∀ x ∈ a, stpOk x) : ∀ x ∈ rept n a, stpOk x := by
  induction n with
  | zero => intro x hx; cases hx
  | succ n ih => rw [rept_succ]; exact app_ok ha ih
theorem rept_half {m : Nat} {b : List Nat} : rept m b = rept (m % 2) b ++ rept (m / 2) (b ++ b) := by
  have e : b ++ b = rept 2 b := by simp [rept]
  rw [e, rept_mul, ← rept_add]
  congr 1
  omega
theorem pow_loop {c : Nat} {z : List Nat} {d0 d1 : D} (hc : 1 ≤ c) (hc2 : c ≤ 100) : ∀ (m : Nat) (a b : List Nat), (∀ x ∈ a, stpOk x) → (∀ x ∈ b, stpOk x) →
    ∃ d3 d4, whileN powC powB (m + 1) [some d0, some d1, some (.tup (rowsL c (effR c z a))), some (.tup (rowsL c (effR c z b))), some (.int (m : Nat))] = .nx [some d0, some d1, some (.tup (rowsL c (effR c z (a ++ rept m b)))), some d3, some d4] := by
  intro m
  induction m using Nat.strongRecOn with
  | ind m ih =>
    intro a b ha hb
    by_cases hm : m = 0
    · subst hm
      refine ⟨.tup (rowsL c (effR c z b)), .int 0, ?_⟩
      simp only [whileN, powC]
      walk_at "evh"
      simp only [rept_zero, List.append_nil]
      rfl
    · have hm' : (0 : Int) < (m : Int) := by omega
      obtain ⟨o1, e1⟩ := f_joined_eff (z := z) hc hc2 hb hb
      obtain ⟨o2, e2⟩ := f_joined_eff (z := z) hc hc2 ha hb
      have ed : (m : Int) / 2 = ((m / 2 : Nat) : Int) := by omega
      have hl : (2 : Int).natAbs < lim4k := by decide +kernel
      have turn : powB [some d0, some d1, some (.tup (rowsL c (effR c z a))), some (.tup (rowsL c (effR c z b))), some (.int (m : Nat))] = .nx [some d0, some d1, some (.tup (rowsL c (effR c z (a ++ rept (m % 2) b)))), some (.tup (rowsL c (effR c z (b ++ b)))), some (.int (m / 2 : Nat))] := by
        unfold powB
        by_cases h2 : m % 2 = 1
        · have eo : ((m : Int) % 2 == 1) = true := by simp only [beq_iff_eq]; omega
          have er : rept (m % 2) b = b := by rw [h2]; simp [rept]
          rw [er]
          walk_at "evh"
        · have eo : ((m : Int) % 2 == 1) = false := by simp only [beq_eq_false_iff_ne]; omega
          have er : rept (m % 2) b = [] := by rw [show m % 2 = 0 by omega]; rfl
          rw [er, List.append_nil]
          walk_at "evh"
      obtain ⟨d3, d4, h⟩ := ih (m / 2) (by omega) (a ++ rept (m % 2) b) (b ++ b) (app_ok ha (rept_ok hb)) (app_ok hb hb)
      refine ⟨d3, d4, ?_⟩
      have hn : whileN powC powB m [some d0, some d1, some (.tup (rowsL c (effR c z (a ++ rept (m % 2) b)))), some (.tup (rowsL c (effR c z (b ++ b)))), some (.int (m / 2 : Nat))] = .nx [some d0, some d1, some (.tup (rowsL c (effR c z (a ++ rept m b)))), some d3, some d4] := by
        rw [whileN_mono (n := m / 2 + 1) (by omega) (by rw [h]; exact fun z => nomatch z), h, List.append_assoc, ← rept_half]
      simp only [whileN]
      have hcnd : powC [some d0, some d1, some (.tup (rowsL c (effR c z a))), some (.tup (rowsL c (effR c z b))), some (.int (m : Nat))] = .ok (.bl true) [some d0, some d1, some (.tup (rowsL c (effR c z a))), some (.tup (rowsL c (effR c z b))), some (.int (m : Nat))] := by
        unfold powC
        walk_at "evh"
      rw [hcnd]
      simp only [ER.binds]
      rw [turn]
      exact hn
theorem f_power_rows {c n : Nat} {z fl : List Nat} (hc : 1 ≤ c) (hc2 : c ≤ 100) (hf : ∀ x ∈ fl, stpOk x) : ∃ o, fn_power_rows [.tup (rowsL c (effR c z fl)), .int (n : Nat)] = .ok (.tup (rowsL c (effR c z (rept n fl)))) o := by
  obtain ⟨o1, e1⟩ := f_identity_rows (c := c) (by omega)
  obtain ⟨d3, d4, h⟩ := pow_loop (c := c) (z := z) (d0 := .tup (rowsL c (effR c z fl))) (d1 := .int (n : Nat)) hc hc2 n [] fl (fun x hx => by cases hx) hf
  have hw := while_eq h (fun z => nomatch z)
  have el : (((rowsL c (effR c z fl)).length : Int) - 1) = (c : Int) := by rw [rowsL_len]; omega
  have e1' : fn_identity_rows [.int (c : Nat)] = .ok (.tup (rowsL c (effR c z []))) o1 := e1
  have eb : body_power_rows = sSeq (sPar [2, 3, 4] (aCons (eFrz (eCall fn_identity_rows [.v (eOp oSub (eN oLenQ (aCons (eVar 0) aNil)) (eC (.int 1)))] [])) (aCons (eVar 0) (aCons (eVar 1) aNil)))) (sSeq (sWhile powC powB) (sRet (eVar 2))) := rfl
  unfold fn_power_rows
  rw [eb]
  rw [List.nil_append] at hw
  clear e1 h eb
  walk_at "evh"
  exact ⟨_, rfl⟩
theorem eff_snoc {c : Nat} {z fl : List Nat} {x n : Nat} : effR c z (fl ++ [x]) n = stepR c z x (effR c z fl n) := by
  unfold effR
  rw [runR_app]
  rfl
noncomputable def stepSt : St := sSet 3 (eN oTupOf (aCons (eFrz (eComp (iOf itT (eVar 3)) (gVar 6) (eC (.bl true)) (eFrz (eCall fn_row_after [.v (eVar 6), .v (eVar 5), .v (eVar 1), .v (eVar 2)] [])) [6])) aNil))
theorem rows_step {c x : Nat} {z fl : List Nat} {v0 v4 : Option D} (hc : 1 ≤ c) (hc2 : c ≤ 100) (hf : ∀ x ∈ fl, stpOk x) :
    stepSt [v0, some (.int (c : Nat)), some (.str z), some (.tup (rowsL c (effR c z fl))), v4, some (.str [x]), none] = .nx [v0, some (.int (c : Nat)), some (.str z), some (.tup (rowsL c (effR c z (fl ++ [x])))), v4, some (.str [x]), none] := by
  have hm := comp_map (g := gVar 6) (e := eFrz (eCall fn_row_after [.v (eVar 6), .v (eVar 5), .v (eVar 1), .v (eVar 2)] [])) (vs := [6]) (ρ := [v0, some (.int (c : Nat)), some (.str z), some (.tup (rowsL c (effR c z fl))), v4, some (.str [x]), none]) (fun d => valF fn_row_after [d, .str [x], .int (c : Nat), .str z]) (ds := rowsL c (effR c z fl)) (acc := []) (fun d hd => by
    obtain ⟨n, hn, rfl⟩ := mem_rowsL hd
    obtain ⟨o, e⟩ := f_row_after (x := x) (z := z) hc2 (effs_ok (z := z) hc hf n hn)
    have hp : (rowD (effR c z fl n)).isMut = false := rowD_pl
    have hp2 : (rowD (stepR c z x (effR c z fl n))).isMut = false := rowD_pl
    have ev : valF fn_row_after [rowD (effR c z fl n), .str [x], .int (c : Nat), .str z] = rowD (stepR c z x (effR c z fl n)) := by unfold valF; rw [e]
    rw [ev]
    refine ⟨[v0, some (.int (c : Nat)), some (.str z), some (.tup (rowsL c (effR c z fl))), v4, some (.str [x]), some (rowD (effR c z fl n))], [v0, some (.int (c : Nat)), some (.str z), some (.tup (rowsL c (effR c z fl))), v4, some (.str [x]), some (rowD (effR c z fl n))], rfl, ?_, rfl⟩
    walk_at "evh") (by rw [rowsL_len]; simp; omega)
  rw [List.nil_append, map_rowsL (g := effR c z (fl ++ [x])) (fun n hn => by
    obtain ⟨o, e⟩ := f_row_after (x := x) (z := z) hc2 (effs_ok (z := z) hc hf n hn)
    unfold valF; rw [e, eff_snoc])] at hm
  have hp := pl_rowsL (c := c) (f := effR c z (fl ++ [x]))
  unfold stepSt
  walk_at "evh"
theorem steps_loop {c : Nat} {z : List Nat} {v0 v4 : Option D} (hc : 1 ≤ c) (hc2 : c ≤ 100) : ∀ (l fl : List Nat) (v5 : Option D), (∀ x ∈ l, stpOk x) → (∀ x ∈ fl, stpOk x) → Okv v5 →
    ∃ v5', forL (gVar 5) stepSt (l.map fun c => .str [c]) [v0, some (.int (c : Nat)), some (.str z), some (.tup (rowsL c (effR c z fl))), v4, v5, none] = .nx [v0, some (.int (c : Nat)), some (.str z), some (.tup (rowsL c (effR c z (fl ++ l)))), v4, v5', none] ∧ Okv v5'
  | [], fl, v5, _, _, h5 => ⟨v5, by rw [List.append_nil]; rfl, h5⟩
  | x :: l, fl, v5, hl, hf, h5 => by
    obtain ⟨v5', e, h5'⟩ := steps_loop (c := c) (z := z) (v0 := v0) (v4 := v4) hc hc2 l (fl ++ [x]) (some (.str [x])) (fun y hy => hl y (List.mem_cons_of_mem _ hy)) (app_ok hf fun y hy => by rw [List.mem_singleton.mp hy]; exact hl x List.mem_cons_self) (okv_some rfl)
    refine ⟨v5', ?_, h5'⟩
    rw [List.map_cons, v_fl1]
    have hp : gVar 5 (.str [x]) [v0, some (.int (c : Nat)), some (.str z), some (.tup (rowsL c (effR c z fl))), v4, v5, none] = some [v0, some (.int (c : Nat)), some (.str z), some (.tup (rowsL c (effR c z fl))), v4, some (.str [x]), none] := put_ok (v := v5) rfl h5
    rw [hp, v_toS, v_nx, rows_step hc hc2 hf, v_fkN, e, List.append_assoc]
    rfl
noncomputable def itemSt (f : Fn) : St := sIf (eIsi "str" (eVar 4))
    (sFor (iOf itS (eVar 4)) (gVar 5) stepSt)
    (sSet 3 (eFrz (eCall fn_joined_rows [.v (eVar 3), .v (eFrz (eCall fn_power_rows [.v (eFrz (eCall f [.v (eOp oIxT (eVar 4) (eC (.int 0))), .v (eVar 1), .v (eVar 2)] [])), .v (eOp oIxT (eVar 4) (eC (.int 1)))] []))] [])))
theorem rows_of_eq (n : Nat) : fn_rows_of (n + 1) = fnOf 3 4 (sSeq (sSet 3 (eFrz (eCall fn_identity_rows [.v (eVar 1)] []))) (sSeq (sFor (iOf itL (eVar 0)) (gVar 4) (itemSt (fn_rows_of n))) (sRet (eVar 3)))) := rfl
theorem stp_ok {l : List Nat} (h : ∀ c ∈ l, c ∈ Q.stp) : ∀ x ∈ l, stpOk x := fun x hx => (by decide +kernel : ∀ c ∈ Q.stp, c = 45 ∨ (97 ≤ c ∧ c ≤ 122)) x (h x hx)
theorem wr_ok : ∀ {p : Pg}, p.ok → ∀ x ∈ p.wr, stpOk x
  | .nil, _ => fun x hx => by cases hx
  | .seq l r, h => app_ok (stp_ok h.1) (wr_ok h.2)
  | .rep b n r, h => app_ok (rept_ok (n := n) (wr_ok h.1)) (wr_ok h.2.2)
theorem rows_items {c n : Nat} {z : List Nat} {d0 : D} (hc : 1 ≤ c) (hc2 : c ≤ 100)
    (ih : ∀ p : Pg, p.depth < n → p.ok → ∃ o, fn_rows_of n [.lst (pgD p), .int (c : Nat), .str z] = .ok (.tup (rowsL c (effR c z p.wr))) o) :
    ∀ (p : Pg) (fl : List Nat) (v4 v5 : Option D), p.depth < n + 1 → p.ok → (∀ x ∈ fl, stpOk x) → Okv v4 → Okv v5 →
    ∃ v4' v5', forL (gVar 4) (itemSt (fn_rows_of n)) (pgD p) [some d0, some (.int (c : Nat)), some (.str z), some (.tup (rowsL c (effR c z fl))), v4, v5, none] = .nx [some d0, some (.int (c : Nat)), some (.str z), some (.tup (rowsL c (effR c z (fl ++ p.wr)))), v4', v5', none]
  | .nil, fl, v4, v5, _, _, _, h4, h5 => ⟨v4, v5, by simp [pgD, Pg.wr, forL]⟩
  | .seq l r, fl, v4, v5, hd, ho, hf, h4, h5 => by
    obtain ⟨v5', e1, h5'⟩ := steps_loop (c := c) (z := z) (v0 := some d0) (v4 := some (.str l)) hc hc2 l fl v5 (stp_ok ho.1) hf h5
    obtain ⟨v4', v5'', e2⟩ := rows_items hc hc2 ih r (fl ++ l) (some (.str l)) v5' hd ho.2 (app_ok hf (stp_ok ho.1)) (okv_some rfl) h5'
    refine ⟨v4', v5'', ?_⟩
    simp only [pgD]
    rw [v_fl1]
    have hp : gVar 4 (.str l) [some d0, some (.int (c : Nat)), some (.str z), some (.tup (rowsL c (effR c z fl))), v4, v5, none] = some [some d0, some (.int (c : Nat)), some (.str z), some (.tup (rowsL c (effR c z fl))), some (.str l), v5, none] := put_ok (v := v4) rfl h4
    have ht : itemSt (fn_rows_of n) [some d0, some (.int (c : Nat)), some (.str z), some (.tup (rowsL c (effR c z fl))), some (.str l), v5, none] = .nx [some d0, some (.int (c : Nat)), some (.str z), some (.tup (rowsL c (effR c z (fl ++ l)))), some (.str l), v5', none] := by
      unfold itemSt
      have eT : ("str" == "str" || ("str" == "bool" && "str" == "int")) = true := by decide
      walk_at "evh"
    rw [hp, v_toS, v_nx, ht, v_fkN, e2]
    simp only [Pg.wr, List.append_assoc]
  | .rep b k r, fl, v4, v5, hd, ho, hf, h4, h5 => by
    have hd1 : b.depth < n := by simp only [Pg.depth] at hd; omega
    have hd2 : r.depth < n + 1 := by simp only [Pg.depth] at hd; omega
    obtain ⟨o1, e1⟩ := ih b hd1 ho.1
    obtain ⟨o2, e2⟩ := f_power_rows (c := c) (z := z) (n := k) hc hc2 (wr_ok ho.1)
    obtain ⟨o3, e3⟩ := f_joined_eff (z := z) hc hc2 hf (rept_ok (n := k) (wr_ok ho.1))
    obtain ⟨v4', v5', e4⟩ := rows_items hc hc2 ih r (fl ++ rept k b.wr) (some (.tup [.lst (pgD b), .int (k : Nat)])) v5 hd2 ho.2.2 (app_ok hf (rept_ok (wr_ok ho.1))) (okv_some rfl) h5
    refine ⟨v4', v5', ?_⟩
    simp only [pgD]
    rw [v_fl1]
    have hp : gVar 4 (.tup [.lst (pgD b), .int (k : Nat)]) [some d0, some (.int (c : Nat)), some (.str z), some (.tup (rowsL c (effR c z fl))), v4, v5, none] = some [some d0, some (.int (c : Nat)), some (.str z), some (.tup (rowsL c (effR c z fl))), some (.tup [.lst (pgD b), .int (k : Nat)]), v5, none] := put_ok (v := v4) rfl h4
    have ht : itemSt (fn_rows_of n) [some d0, some (.int (c : Nat)), some (.str z), some (.tup (rowsL c (effR c z fl))), some (.tup [.lst (pgD b), .int (k : Nat)]), v5, none] = .nx [some d0, some (.int (c : Nat)), some (.str z), some (.tup (rowsL c (effR c z (fl ++ rept k b.wr)))), some (.tup [.lst (pgD b), .int (k : Nat)]), v5, none] := by
      unfold itemSt
      have eT : ("tuple" == "str" || ("tuple" == "bool" && "str" == "int")) = false := by decide
      walk_at "evh"
    rw [hp, v_toS, v_nx, ht, v_fkN, e4]
    simp only [Pg.wr, rept, List.append_assoc]
theorem f_rows_of {c : Nat} {z : List Nat} (hc : 1 ≤ c) (hc2 : c ≤ 100) : ∀ (n : Nat) (p : Pg), p.depth < n → p.ok → ∃ o, fn_rows_of n [.lst (pgD p), .int (c : Nat), .str z] = .ok (.tup (rowsL c (effR c z p.wr))) o
  | 0, p, h, _ => by omega
  | n + 1, p, h, ho => by
    obtain ⟨o1, e1⟩ := f_identity_rows (c := c) (by omega)
    have e1' : fn_identity_rows [.int (c : Nat)] = .ok (.tup (rowsL c (effR c z []))) o1 := e1
    obtain ⟨v4', v5', e2⟩ := rows_items (c := c) (z := z) (d0 := .lst (pgD p)) hc hc2 (f_rows_of hc hc2 n) p [] none none h ho (fun x hx => by cases hx) okv_none okv_none
    rw [List.nil_append] at e2
    rw [rows_of_eq]
    clear e1
    walk_at "evh"
    exact ⟨_, rfl⟩
theorem f_is_integer {i l : Int} : fn_is_integer [.int i, .int l] = .ok (.bl (decide (l ≤ i))) [some (.int i), some (.int l)] := by
  unfold fn_is_integer body_is_integer
  have e1 : ("int" == "int" || ("int" == "bool" && "int" == "int")) = true := by decide
  have e2 : ("int" == "bool" || ("int" == "bool" && "bool" == "int")) = false := by decide
  walk_at "evh"
theorem f_is_capacity {c : Nat} (hc : 1 ≤ c) (hc2 : c ≤ 100) : fn_is_capacity [.int (c : Nat)] = .ok (.bl true) [some (.int (c : Nat))] := by
  unfold fn_is_capacity body_is_capacity
  have e1 := f_is_integer (i := (c : Nat)) (l := 1)
  have h1 : (1 : Int) ≤ (c : Int) := by omega
  have h2 : (c : Int) ≤ 100 := by omega
  walk_at "evh"
theorem f_check_capacity {c : Nat} (hc : 1 ≤ c) (hc2 : c ≤ 100) : fn_check_capacity [.int (c : Nat)] = .ok .non [some (.int (c : Nat))] := by
  unfold fn_check_capacity body_check_capacity
  have e1 := f_is_capacity hc hc2
  walk_at "evh"
def modes : List (List Nat) := [oldC', newC', [115, 116, 114, 105, 99, 116]]
theorem f_check_mode {z : List Nat} (h : z ∈ modes) : fn_check_mode [.str z] = .ok .non [some (.str z)] := by
  simp only [modes, List.mem_cons, List.not_mem_nil, or_false] at h
  have e1 : ("str" == "str" || ("str" == "bool" && "str" == "int")) = true := by decide
  have e2 : fn_is_mode [.str z] = .ok (.bl true) [some (.str z)] := by
    unfold fn_is_mode body_is_mode
    rcases h with rfl | rfl | rfl
    · walk_at "evh"
      rfl
    · walk_at "evh"
      rfl
    · walk_at "evh"
  unfold fn_check_mode body_check_mode
  walk_at "evh"
abbrev azC : List Nat := [97, 98, 99, 100, 101, 102, 103, 104, 105, 106, 107, 108, 109, 110, 111, 112, 113, 114, 115, 116, 117, 118, 119, 120, 121, 122]
theorem let_mem {x : Nat} (h : 97 ≤ x ∧ x ≤ 122) : x ∈ azC := by
  have : ∀ n, n < 26 → n + 97 ∈ azC := by decide
  have := this (x - 97) (by omega)
  rwa [Nat.sub_add_cancel h.1] at this
theorem all_bl : ∀ {l : List D} {bs : List Bool}, l = bs.map D.bl → boolsD l = some bs
  | _, [], rfl => rfl
  | _, b :: bs, rfl => by
    have := all_bl (l := bs.map D.bl) (bs := bs) rfl
    simp only [List.map_cons, boolsD, this, Option.map_some]
theorem f_is_text_of {w : List Nat} (hl : w.length ≤ 100000) (h : ∀ x ∈ w, 97 ≤ x ∧ x ≤ 122) : ∃ o, fn_is_text_of [.str w, .str azC] = .ok (.bl true) o := by
  unfold fn_is_text_of body_is_text_of
  have e1 : ("str" == "str" || ("str" == "bool" && "str" == "int")) = true := by decide
  have hm := comp_map (g := gVar 2) (e := eOp oInS (eVar 2) (eVar 1)) (vs := [2]) (ρ := [some (D.str w), some (D.str azC), none]) (fun _ => D.bl true) (ds := w.map fun c => D.str [c]) (acc := []) (fun d hd => by
    obtain ⟨x, hx, rfl⟩ := List.mem_map.mp hd
    have hx' : x ∈ azC := let_mem (h x hx)
    refine ⟨[some (D.str w), some (D.str azC), some (.str [x])], [some (D.str w), some (D.str azC), some (.str [x])], rfl, ?_, rfl⟩
    walk_at "evh") (by simp; omega)
  rw [List.nil_append, List.map_map] at hm
  have e2 : boolsD (w.map ((fun _ => D.bl true) ∘ fun c => D.str [c])) = some (w.map fun _ => true) := all_bl (by rw [List.map_map]; rfl)
  have e3 : (w.map fun _ => true).all id = true := by simp
  have hp : allPlain (w.map ((fun _ => D.bl true) ∘ fun c => D.str [c])) = true := by
    clear hm e2 e3 hl h
    induction w with
    | nil => rfl
    | cons x w ih => simp only [List.map_cons, allPlain, ih]; rfl
  walk_at "evh"
  exact ⟨_, rfl⟩
theorem f_is_queue {w : List Nat} {c : Nat} (hc : 1 ≤ c) (hc2 : c ≤ 100) (hl : w.length ≤ c) (h : ∀ x ∈ w, 97 ≤ x ∧ x ≤ 122) : ∃ o, fn_is_queue [.str w, .int (c : Nat)] = .ok (.bl true) o := by
  obtain ⟨o1, e1⟩ := f_is_text_of (by omega) h
  have e2 := f_check_capacity hc hc2
  have h1 : w.length ≤ 16777216 := by omega
  have h2 : (w.length : Int) ≤ (c : Int) := by omega
  unfold fn_is_queue body_is_queue
  walk_at "evh"
  exact ⟨_, rfl⟩
theorem f_is_row {c n : Nat} {r : Row} (hc : 1 ≤ c) (hc2 : c ≤ 100) (h : rowOk c n r) : ∃ o, fn_is_row [rowD r, .int (n : Nat), .int (c : Nat)] = .ok (.bl true) o := by
  match r, h with
  | none, _ =>
    unfold fn_is_row body_is_row
    simp only [rowD]
    walk_at "ev"
    exact ⟨_, rfl⟩
  | some (k, w), h =>
    obtain ⟨h1, h2, h3⟩ := h
    obtain ⟨o1, e1⟩ := f_is_queue (c := c) (w := w) hc hc2 (by omega) h3
    have e2 := f_is_integer (i := (k : Nat)) (l := 0)
    have eT : ("tuple" == "tuple" || ("tuple" == "bool" && "tuple" == "int")) = true := by decide
    have hk : (0 : Int) ≤ (k : Int) := by omega
    have hn : ¬ (n : Int) < (k : Int) := by omega
    have hw : w.length ≤ 16777216 := by omega
    have hs : (k : Int) + (w.length : Int) ≤ (c : Int) := by omega
    have e3 : (((2 : Nat) : Int) == 2) = true := by decide
    unfold fn_is_row body_is_row
    simp only [rowD]
    walk_at "evh"
    exact ⟨_, rfl⟩
theorem mem_enum {c : Nat} {f : Nat → Row} {d : D} (h : d ∈ enumD (rowsL c f)) : ∃ n, n ≤ c ∧ d = .tup [.int (n : Nat), rowD (f n)] := by
  unfold enumD at h
  obtain ⟨⟨x, i⟩, hp, rfl⟩ := List.mem_map.mp h
  have := List.mem_zipIdx hp
  obtain ⟨_, h2, h3⟩ := this
  rw [rowsL_len] at h2
  refine ⟨i, by omega, ?_⟩
  simp only [h3]
  unfold rowsL
  simp
def effD (c : Nat) (f : Nat → Row) : D := .ins "Effect" ["all_rows"] [.tup (rowsL c f)]
def InitI (s a b : D) (ρ : Env) : Prop := ∃ v3 v4, ρ = [some s, some a, some b, v3, v4] ∧ Okv v3 ∧ Okv v4
theorem f_init {c : Nat} {f : Nat → Row} (hc : 1 ≤ c) (hc2 : c ≤ 100) (hf : ∀ i, i ≤ c → rowOk c i (f i)) : ∃ o, fn_Effect_init [.own 1 (.ins "Effect" [] []), .int (c : Nat), .tup (rowsL c f)] = .ok .non (some (.own 1 (effD c f)) :: o) := by
  have e1 := f_check_capacity hc hc2
  have eT : ("tuple" == "list" || ("tuple" == "bool" && "list" == "int") || ("tuple" == "tuple" || ("tuple" == "bool" && "tuple" == "int"))) = true := by decide
  have el : (((rowsL c f).length : Int) == (c : Int) + 1) = true := by rw [rowsL_len]; simp
  obtain ⟨ρ', hloop, v3, v4, rfl, _, _⟩ := for_inv (g := gTup [gVar 3, gVar 4]) (b := turn_Effect_init_1) (InitI (.own 1 (.ins "Effect" [] [])) (.int (c : Nat)) (.tup (rowsL c f))) (ds := enumD (rowsL c f)) (fun d hd ρ hI => by
    obtain ⟨n, hn, rfl⟩ := mem_enum hd
    obtain ⟨v3, v4, rfl, h3, h4⟩ := hI
    obtain ⟨o, e⟩ := f_is_row hc hc2 (hf n hn)
    have hp : (rowD (f n)).isMut = false := rowD_pl
    have q3 := putQ_ok h3 3 (.int (n : Nat)) [some (.own 1 (.ins "Effect" [] [])), some (.int (c : Nat)), some (.tup (rowsL c f)), v3, v4]
    have q4 := putQ_ok h4 4 (rowD (f n)) [some (.own 1 (.ins "Effect" [] [])), some (.int (c : Nat)), some (.tup (rowsL c f)), some (.int (n : Nat)), v4]
    refine ⟨[some (.own 1 (.ins "Effect" [] [])), some (.int (c : Nat)), some (.tup (rowsL c f)), some (.int (n : Nat)), some (rowD (f n))], ?_, _, _, rfl, okv_some rfl, okv_some hp⟩
    unfold turn_Effect_init_1
    walk_at "evh") (ρ := [some (.own 1 (.ins "Effect" [] [])), some (.int (c : Nat)), some (.tup (rowsL c f)), none, none]) ⟨none, none, rfl, okv_none, okv_none⟩
  unfold fn_Effect_init body_Effect_init
  walk_at "evh"
  exact ⟨_, rfl⟩
theorem f_effect_of {c : Nat} {z tx : List Nat} {p : Pg} (hc : 1 ≤ c) (hc2 : c ≤ 100) (hz : z ∈ modes) (hl : tx.length ≤ 100000) (hp : progP tx = some p) : ∃ o, fn_effect_of [.str tx, .int (c : Nat), .str z] = .ok (effD c (effR c z p.wr)) o := by
  obtain ⟨ho, hd⟩ := progP_ok hp
  have e1 := f_items hl hp
  have e2 := f_check_capacity hc hc2
  have e3 := f_check_mode hz
  obtain ⟨o4, e4⟩ := f_rows_of (z := z) hc hc2 21 p (by omega) ho
  obtain ⟨o5, e5⟩ := f_init (f := effR c z p.wr) hc hc2 (effs_ok hc (wr_ok ho))
  simp only [effD] at e5 ⊢
  unfold fn_effect_of body_effect_of
  walk_at "evh"
  exact ⟨_, rfl⟩
theorem f_capacity {c : Nat} {f : Nat → Row} : ∃ o, fn_Effect_capacity [effD c f] = .ok (.int (c : Nat)) o := by
  have el : (((rowsL c f).length : Int) - 1) = (c : Int) := by rw [rowsL_len]; omega
  unfold fn_Effect_capacity body_Effect_capacity effD
  walk_at "evh"
  exact ⟨_, rfl⟩
theorem f_rowsP {c : Nat} {f : Nat → Row} : ∃ o, fn_Effect_rows [effD c f] = .ok (.tup (rowsL c f)) o := by
  unfold fn_Effect_rows body_Effect_rows effD
  walk_at "evh"
  exact ⟨_, rfl⟩
theorem rows_okD {c n : Nat} {f : Nat → Row} : (rowsL c f).all (okD (n + 1)) = true := List.all_eq_true.mpr fun d hd => by
  obtain ⟨m, _, rfl⟩ := mem_rowsL hd
  cases f m with
  | none => rfl
  | some p => obtain ⟨k, w⟩ := p; cases n <;> rfl
theorem f_identity {c : Nat} {z : List Nat} (hc : 1 ≤ c) (hc2 : c ≤ 100) : ∃ o, fn_Effect_identity [.int (c : Nat)] = .ok (effD c (effR c z [])) o := by
  have e1 := f_check_capacity hc hc2
  obtain ⟨o2, e2⟩ := f_identity_rows (c := c) (by omega)
  obtain ⟨o3, e3⟩ := f_init (f := effR c z []) hc hc2 (effs_ok hc fun x hx => by cases hx)
  have e2' : fn_identity_rows [.int (c : Nat)] = .ok (.tup (rowsL c (effR c z []))) o2 := e2
  clear e2
  simp only [effD] at e3 ⊢
  unfold fn_Effect_identity body_Effect_identity fnOfC
  walk_at "evh"
  exact ⟨_, rfl⟩
end U
namespace U
noncomputable def body_check_queue : St := (sIf (eUn oNot (eFrz (eCall fn_is_queue [.v (eVar 0), .v (eVar 1)] [])))
    (sRaise "InvalidQueue" [] aNil)
    sNil)
noncomputable def fn_check_queue : Fn := fnOf 2 0 body_check_queue
noncomputable def body_Effect_call : St := (sSeq (sDrop (eCall fn_check_queue [.v (eVar 1), .v (eUn (oProp "Effect" fn_Effect_capacity) (eVar 0))] []))
    (sSeq (sSet 2 (eOp oIxT (eUn (oFld "Effect" "all_rows") (eVar 0)) (eN oLenS (aCons (eVar 1) aNil))))
    (sSeq (sIf (eOp oIsN (eVar 2) (eC .non))
    (sRaise "EffectFailed" ["length"] (aCons (eN oLenS (aCons (eVar 1) aNil)) aNil))
    sNil)
    (sRet (eOp oAddS (eSl oSlS (eVar 1) (some (eOp oSub (eN oLenS (aCons (eVar 1) aNil)) (eOp oIxT (eVar 2) (eC (.int 0))))) none) (eOp oIxT (eVar 2) (eC (.int 1))))))))
noncomputable def fn_Effect_call : Fn := fnOf 2 1 body_Effect_call
end U
namespace U
open PySem
open Q (simQ simQ_nil simQ_take0 simQ_take simQ_put simQ_old simQ_new simQ_no)
def appR (q : List Nat) : Row → Option (List Nat)
  | none => none
  | some (k, w) => some (q.drop (q.length - k) ++ w)
end U
namespace U
end U
namespace U
def FrE (n : Nat) (ρ : Env) : Prop := ρ.length = n ∧ FreL ρ
def LawI (n : Nat) (ns : List Int) (ρ : Env) : Prop := ∃ r, ρ = some (.scr ns) :: r ∧ FrE n r
end U
namespace U
theorem drw {p : D} (hp : Pool p) (n : Int) (h1 : 1 ≤ n) (h2 : n ≤ 1000000000000000000000000000000) : ∃ (x : Nat) (p' : D), Pool p' ∧ (x : Int) < n ∧ fn_law_draw [.own 1 p, .int n] = .ok (.int (x : Nat)) [some (.own 1 p'), some (.int n)] := by
  have a := draw_lo hp h1 h2
  have b := draw_hi hp h1 h2
  refine ⟨(drawV p n).toNat, drawP p n, pool_draw hp h1 h2, by omega, ?_⟩
  rw [f_draw hp h1 h2, Int.toNat_of_nonneg a]
theorem ltr {p : D} (hp : Pool p) : ∃ (x : Nat) (p' : D), Pool p' ∧ x ∈ ([97, 98, 99, 120, 121, 122] : List Nat) ∧ fn_law_letter [.own 1 p] = .ok (.str [x]) [some (.own 1 p')] := ⟨letC p, drawP p 6, pool_draw hp (by decide) (by decide), (let_at hp).2, f_letter hp⟩
end U
namespace U
noncomputable def body_law_pool : St := (sSeq (sSet 2 (eC (.int 0)))
    (sSeq (sIf (eOp oNeScr (eVar 0) (eFrz (eN mkLst aNil)))
    (sSet 2 (eOp oIxScr (eVar 0) (eOp oMod (eVar 1) (eN oLenScr (aCons (eVar 0) aNil)))))
    sNil)
    (sSeq (sSet 3 (eOp oMod (eOp oMul (eOp oAdd (eOp oAdd (eOp oMod (eVar 2) (eC (.int 2147483629))) (eOp oMul (eC (.int 50021)) (eVar 1))) (eC (.int 13))) (eC (.int 48271))) (eC (.int 2147483647))))
    (sRet (eN mkLst (aCons (eOp oMul (eN oAbs (aCons (eVar 2) aNil)) (eN oInt (aCons (eOp oGe (eN oAbs (aCons (eVar 2) aNil)) (eOp oPow (eC (.int 10)) (eC (.int 18)))) aNil))) (aCons (eVar 3) aNil)))))))
noncomputable def fn_law_pool : Fn := fnOf 2 2 body_law_pool
noncomputable def body_law_take : St := (sSeq (sIf (eOp oGt (eIxO 0 (eC (.int 0))) (eC (.int 0)))
    (sSeq (sSet 2 (eOp oMod (eIxO 0 (eC (.int 0))) (eVar 1)))
    (sSeq (sPutO 0 (eC (.int 0)) (eOp oDiv (eIxO 0 (eC (.int 0))) (eVar 1)))
    (sRet (eVar 2))))
    sNil)
    (sSeq (sPutO 0 (eC (.int 1)) (eOp oMod (eOp oAdd (eOp oMul (eIxO 0 (eC (.int 1))) (eC (.int 48271))) (eC (.int 11))) (eC (.int 2147483647))))
    (sRet (eOp oMod (eOp oDiv (eOp oMod (eOp oMul (eIxO 0 (eC (.int 1))) (eIxO 0 (eC (.int 1)))) (eC (.int 2147483629))) (eC (.int 64))) (eVar 1)))))
noncomputable def fn_law_take : Fn := fnOf 2 1 body_law_take
noncomputable def turn_law_steps_1 : St := (sSet 3 (eOp oAddS (eVar 3) (eOp oIxS (eOp oAddS (eVar 2) (eC (.str [45, 45]))) (eFrz (eCall fn_law_take [.b 0, .v (eOp oAdd (eN oLenS (aCons (eVar 2) aNil)) (eC (.int 2)))] [])))))
noncomputable def body_law_steps : St := (sSeq (sSet 3 (eC (.str [])))
    (sSeq (sFor (iOfA itR (aCons (eFrz (eCall fn_law_take [.b 0, .v (eOp oAdd (eVar 1) (eC (.int 1)))] [])) aNil)) (gVar 4) turn_law_steps_1)
    (sRet (eVar 3))))
noncomputable def fn_law_steps : Fn := fnOf 3 2 body_law_steps
noncomputable def body_law_after : St := (sSeq (sIf (eOp oEq (eVar 1) (eC (.str [45])))
    (sRet (eIf (eOp oNe (eVar 0) (eFrz (eN mkLst aNil))) (eFrz (eSl oSlL (eVar 0) (some (eC (.int 1))) none)) (eC .non)))
    sNil)
    (sSeq (sIf (eOp oLt (eN oLenQ (aCons (eVar 0) aNil)) (eVar 2))
    (sRet (eFrz (eOp oCatL (eVar 0) (eFrz (eN mkLst (aCons (eVar 1) aNil))))))
    sNil)
    (sSeq (sIf (eOp oEq (eVar 3) (eC (.str [111, 108, 100, 101, 115, 116])))
    (sRet (eFrz (eOp oCatL (eFrz (eSl oSlL (eVar 0) (some (eC (.int 1))) none)) (eFrz (eN mkLst (aCons (eVar 1) aNil))))))
    sNil)
    (sRet (eIf (eOp oEq (eVar 3) (eC (.str [110, 101, 119, 101, 115, 116]))) (eVar 0) (eC .non))))))
noncomputable def fn_law_after : Fn := fnOf 4 0 body_law_after
noncomputable def turn_law_end_1 : St := (sSeq (sSet 0 (eFrz (eCall fn_law_after [.v (eVar 0), .v (eVar 4), .v (eVar 2), .v (eVar 3)] [])))
    (sIf (eOp oIsN (eVar 0) (eC .non))
    (sRet (eC .non))
    sNil))
noncomputable def body_law_end : St := (sSeq (sFor (iOf itS (eVar 1)) (gVar 4) turn_law_end_1)
    (sRet (eVar 0)))
noncomputable def fn_law_end : Fn := fnOf 4 1 body_law_end
noncomputable def body_law_row : St := (sSeq (sSet 4 (eFrz (eCall fn_law_end [.v (eFrz (eOp oRepL (eFrz (eN mkLst (aCons (eC .non) aNil))) (eVar 1))), .v (eVar 0), .v (eVar 2), .v (eVar 3)] [])))
    (sSeq (sIf (eOp oIsN (eVar 4) (eC .non))
    (sRet (eC .non))
    sNil)
    (sSeq (sSet 5 (eFrz (eComp (iOf itL (eVar 4)) (gVar 6) (eOp oNotN (eVar 6) (eC .non)) (eVar 6) [6])))
    (sRet (eN mkTup (aCons (eOp oSub (eN oLenQ (aCons (eVar 4) aNil)) (eN oLenQ (aCons (eVar 5) aNil))) (aCons (eMs oJoin (eC (.str [])) (eVar 5)) aNil)))))))
noncomputable def fn_law_row : Fn := fnOf 4 3 body_law_row
noncomputable def body_law_rows : St := (sRet (eN oTupOf (aCons (eFrz (eComp (iOfA itR (aCons (eOp oAdd (eVar 1) (eC (.int 1))) aNil)) (gVar 3) (eC (.bl true)) (eFrz (eCall fn_law_row [.v (eVar 0), .v (eVar 3), .v (eVar 1), .v (eVar 2)] [])) [3])) aNil)))
noncomputable def fn_law_rows : Fn := fnOf 3 1 body_law_rows
end U
namespace U
theorem take_eq : fn_law_take = fn_law_draw := rfl
theorem tke {p : D} (hp : Pool p) (n : Int) (h1 : 1 ≤ n) (h2 : n ≤ 1000000000000000000000000000000) : ∃ (x : Nat) (p' : D), Pool p' ∧ (x : Int) < n ∧ fn_law_take [.own 1 p, .int n] = .ok (.int (x : Nat)) [some (.own 1 p'), some (.int n)] := by
  rw [take_eq]; exact drw hp n h1 h2
noncomputable def poolTl : St := (sSeq (sSet 3 (eOp oMod (eOp oMul (eOp oAdd (eOp oAdd (eOp oMod (eVar 2) (eC (.int 2147483629))) (eOp oMul (eC (.int 50021)) (eVar 1))) (eC (.int 13))) (eC (.int 48271))) (eC (.int 2147483647))))
    (sRet (eN mkLst (aCons (eOp oMul (eN oAbs (aCons (eVar 2) aNil)) (eN oInt (aCons (eOp oGe (eN oAbs (aCons (eVar 2) aNil)) (eOp oPow (eC (.int 10)) (eC (.int 18)))) aNil))) (aCons (eVar 3) aNil)))))
theorem pool_fin {ns : List Int} {k : Int} (h0 : 0 ≤ k) (h1 : k ≤ 1000) (cell : Int) : ∃ p, endF_ 2 (poolTl [some (.scr ns), some (.int k), some (.int cell), none]) = .ok (.own 0 p) [some (.scr ns), some (.int k)] ∧ Pool p := by
  have a1 := Int.emod_nonneg cell (show (2147483629 : Int) ≠ 0 by decide)
  have a2 := Int.emod_lt_of_pos cell (show (0 : Int) < 2147483629 by decide)
  have b1 := Int.emod_nonneg ((cell % 2147483629 + 50021 * k + 13) * 48271) (show (2147483647 : Int) ≠ 0 by decide)
  have b2 := Int.emod_lt_of_pos ((cell % 2147483629 + 50021 * k + 13) * 48271) (show (0 : Int) < 2147483647 by decide)
  have q1 : (50021 : Int).natAbs < 18446744073709551616 := by decide
  have q2 : (48271 : Int).natAbs < 18446744073709551616 := by decide
  have q3 : (10 : Int).natAbs < 1000 := by decide
  unfold poolTl
  have ab : 0 ≤ (if cell < 0 then -cell else cell) := by split <;> omega
  by_cases c : 1000000000000000000 ≤ (if cell < 0 then -cell else cell)
  · have q4 : (1 : Int).natAbs < 18446744073709551616 := by decide
    have c' : decide (1000000000000000000 ≤ (if cell < 0 then -cell else cell)) = true := decide_eq_true c
    have q5 : (if decide (1000000000000000000 ≤ (if cell < 0 then -cell else cell)) = true then (1 : Int) else 0).natAbs < 18446744073709551616 := by rw [c']; decide
    clear c'
    walk_at "evh"
    exact ⟨_, rfl, _, _, rfl, by rw [Int.mul_one]; exact ab, b1, b2⟩
  · have q4 : (0 : Int).natAbs < 18446744073709551616 := by decide
    have c' : decide (1000000000000000000 ≤ (if cell < 0 then -cell else cell)) = false := decide_eq_false c
    have q5 : (if decide (1000000000000000000 ≤ (if cell < 0 then -cell else cell)) = true then (1 : Int) else 0).natAbs < 18446744073709551616 := by rw [c']; decide
    clear c'
    walk_at "evh"
    exact ⟨_, rfl, _, _, rfl, by omega, b1, b2⟩
theorem pool_all {ns : List Int} {k : Int} (hl : ns.length ≤ 63) (h0 : 0 ≤ k) (h1 : k ≤ 1000) : ∃ p, fn_law_pool [.scr ns, .int k] = .ok (.own 0 p) [some (.scr ns), some (.int k)] ∧ Pool p := by
  have e0 : body_law_pool = (sSeq (sSet 2 (eC (.int 0)))
    (sSeq (sIf (eOp oNeScr (eVar 0) (eFrz (eN mkLst aNil)))
    (sSet 2 (eOp oIxScr (eVar 0) (eOp oMod (eVar 1) (eN oLenScr (aCons (eVar 0) aNil)))))
    sNil) poolTl)) := rfl
  have cell : ∃ cell : Int, fn_law_pool [.scr ns, .int k] = endF_ 2 (poolTl [some (.scr ns), some (.int k), some (.int cell), none]) := by
    unfold fn_law_pool
    rw [e0]
    cases ns with
    | nil =>
      refine ⟨0, ?_⟩
      generalize poolTl = tl
      have e1 : ([] : List Int).isEmpty = true := rfl
      walk_at "evh"
    | cons n ns =>
      have hlen : 0 < (((n :: ns).length : Nat) : Int) := by simp only [List.length_cons]; omega
      have m1 := Int.emod_nonneg k (show (((n :: ns).length : Nat) : Int) ≠ 0 by omega)
      have m2 := Int.emod_lt_of_pos k hlen
      obtain ⟨j, hj⟩ : ∃ j : Nat, k % (((n :: ns).length : Nat) : Int) = j := ⟨(k % (((n :: ns).length : Nat) : Int)).toNat, by omega⟩
      have hjl : j < (n :: ns).length := by omega
      have hat : atD (n :: ns) (k % (((n :: ns).length : Nat) : Int)) = some (n :: ns)[j] := by rw [hj, atD_nat, List.getElem?_eq_getElem hjl]
      have hne : (n :: ns).isEmpty = false := rfl
      clear hj
      generalize n :: ns = l at *
      generalize poolTl = tl
      refine ⟨l[j], ?_⟩
      walk_at "evh"
  obtain ⟨cell, e⟩ := cell
  rw [e]
  exact pool_fin h0 h1 cell
theorem steps_turns {m : Int} {ls : List Nat} (hls : ls.length ≤ 100) : ∀ (ds : List D) (p : D) (f : List Nat) (v4 : Option D), (∀ d ∈ ds, d.isMut = false) → Pool p → Fre v4 → f.length + ds.length ≤ 100000 →
    ∃ p' f' v4', Pool p' ∧ Fre v4' ∧ f'.length = ds.length ∧ (∀ x ∈ f', x ∈ ls ∨ x = 45) ∧ forL (gVar 4) turn_law_steps_1 ds [some (.own 1 p), some (.int m), some (.str ls), some (.str f), v4] = .nx [some (.own 1 p'), some (.int m), some (.str ls), some (.str (f ++ f')), v4']
  | [], p, f, v4, _, hp, h4, _ => ⟨p, [], v4, hp, h4, rfl, (fun x hx => by cases hx), by rw [List.append_nil]; rfl⟩
  | d :: ds, p, f, v4, hd, hp, h4, hl => by
    obtain ⟨x, p1, hp1, hx, e1⟩ := tke hp ((ls.length : Nat) + 2) (by omega) (by omega)
    have hx2 : x < (ls ++ [45, 45]).length := by simp only [List.length_append, List.length_cons, List.length_nil]; omega
    have hat : atD (ls ++ [45, 45]) ((x : Nat) : Int) = some (ls ++ [45, 45])[x] := by rw [atD_nat, List.getElem?_eq_getElem hx2]
    have hm : (ls ++ [45, 45])[x] ∈ ls ++ [45, 45] := List.getElem_mem hx2
    have hm2 : (ls ++ [45, 45])[x] ∈ ls ∨ (ls ++ [45, 45])[x] = 45 := by
      rcases List.mem_append.mp hm with q | q
      · exact .inl q
      · simp only [List.mem_cons, List.not_mem_nil, or_false, or_self] at q; exact .inr q
    generalize (ls ++ [45, 45])[x] = y at *
    obtain ⟨p2, f2, w4, a1, a2, a3, a4, a5⟩ := steps_turns hls (m := m) ds p1 (f ++ [y]) (some d) (fun z hz => hd z (List.mem_cons_of_mem _ hz)) hp1 (fre_pl (hd d List.mem_cons_self)) (by simp only [List.length_append, List.length_cons, List.length_nil] at hl ⊢; omega)
    refine ⟨p2, y :: f2, w4, a1, a2, by rw [List.length_cons, List.length_cons, a3], fun z hz => ?_, ?_⟩
    · rcases List.mem_cons.mp hz with q | q
      · rw [q]; exact hm2
      · exact a4 z q
    · have hdm := hd d List.mem_cons_self
      have l1 : ls.length ≤ 16777216 := by omega
      have l2 : ls.length + 2 ≤ 16777216 := by omega
      have l3 : f.length + 1 ≤ 16777216 := by simp only [List.length_cons] at hl; omega
      have step : (toFl (gVar 4 d [some (.own 1 p), some (.int m), some (.str ls), some (.str f), v4])).bind turn_law_steps_1 = .nx [some (.own 1 p1), some (.int m), some (.str ls), some (.str (f ++ [y])), some d] := by
        clear a5 hm hm2
        unfold turn_law_steps_1
        walk_at "evh"
      rw [v_fl1, step, v_fkN, a5, List.append_assoc]
      rfl
theorem stps {p : D} (hp : Pool p) (m : Int) (ls : List Nat) (h0 : 0 ≤ m) (hm : m ≤ 1000) (hls : ls.length ≤ 100) : ∃ l p', Pool p' ∧ (l.length : Int) ≤ m ∧ (∀ x ∈ l, x ∈ ls ∨ x = 45) ∧ fn_law_steps [.own 1 p, .int m, .str ls] = .ok (.str l) [some (.own 1 p'), some (.int m), some (.str ls)] := by
  obtain ⟨x, p1, hp1, hx, e1⟩ := tke hp (m + 1) (by omega) (by omega)
  obtain ⟨p2, f, w, a1, a2, a3, a4, a5⟩ := steps_turns hls (m := m) (rangeD 0 ((x : Nat) : Int).toNat) p1 [] none range_plain hp1 fre_none (by simp [rangeD]; omega)
  have hR : okR ((x : Nat) : Int) = true := by unfold okR; exact decide_eq_true (by omega)
  rw [List.nil_append] at a5
  refine ⟨f, p2, a1, by rw [a3]; simp [rangeD]; omega, a4, ?_⟩
  unfold fn_law_steps body_law_steps
  walk_at "evh"
theorem stps_ok {l ls : List Nat} (h : ∀ x ∈ l, x ∈ ls ∨ x = 45) (hl : ∀ x ∈ ls, 97 ≤ x ∧ x ≤ 122) : ∀ x ∈ l, stpOk x := fun x hx => (h x hx).elim (fun q => .inr (hl x q)) .inl
theorem stpOk_stp {x : Nat} (h : stpOk x) : x ∈ Q.stp := by
  rcases h with rfl | h
  · decide +kernel
  · have : ∀ k : Nat, k < 26 → 97 + k ∈ Q.stp := by decide +kernel
    have e : x = 97 + (x - 97) := by omega
    rw [e]; exact this _ (by omega)
def itmD (k : Nat) (w : List Nat) : List D := List.replicate k .non ++ w.map sg
def endD : Row → D
  | none => .non
  | some (k, w) => .lst (itmD k w)
end U
namespace U
def eqR (c : Nat) (f g : Nat → Row) : Bool := (List.range (c + 1)).all fun n => decide (f n = g n)
theorem eqR_iff {c : Nat} {f g : Nat → Row} : eqR c f g = true ↔ ∀ n, n ≤ c → f n = g n := by
  unfold eqR
  rw [List.all_eq_true]
  constructor
  · intro h n hn
    exact of_decide_eq_true (h n (List.mem_range.mpr (by omega)))
  · intro h n hn
    exact decide_eq_true (h n (by have := List.mem_range.mp hn; omega))
theorem rowD_eq (r s : Row) : (rowD r).eqv (rowD s) = decide (r = s) := by
  match r, s with
  | none, none => rfl
  | none, some (k, w) => rfl
  | some (k, w), none => rfl
  | some (k, w), some (k2, w2) =>
    have e : (rowD (some (k, w))).eqv (rowD (some (k2, w2))) = (((k : Int) == (k2 : Int)) && (w == w2)) := by
      simp only [rowD, D.eqv, eqvs, Bool.and_true]
    rw [e, Bool.eq_iff_iff, decide_eq_true_iff]
    simp only [Bool.and_eq_true, beq_iff_eq, Option.some.injEq, Prod.mk.injEq]
    constructor
    · rintro ⟨h1, h2⟩; exact ⟨by omega, h2⟩
    · rintro ⟨h1, h2⟩; exact ⟨by omega, h2⟩
theorem eqvs_map {f g : Nat → Row} : ∀ l : List Nat, eqvs (l.map fun n => rowD (f n)) (l.map fun n => rowD (g n)) = l.all fun n => decide (f n = g n)
  | [] => rfl
  | n :: l => by simp only [List.map_cons, eqvs, rowD_eq, eqvs_map l, List.all_cons]
theorem rows_eq {c : Nat} {f g : Nat → Row} : eqvs (rowsL c f) (rowsL c g) = eqR c f g := eqvs_map _
theorem f_eq2 {c : Nat} {f g : Nat → Row} : ∃ o, fn_Effect_eq [effD c f, effD c g] = .ok (.bl (eqR c f g)) o := by
  have e1 := rows_eq (c := c) (f := f) (g := g)
  have e2 := rows_okD (c := c) (n := 7) (f := f)
  have e3 := rows_okD (c := c) (n := 7) (f := g)
  unfold fn_Effect_eq body_Effect_eq effD
  generalize rowsL c f = F at *
  generalize rowsL c g = G at *
  walk_at "evh"
  exact ⟨_, rfl⟩
theorem pl_map {α : Type} {f : α → D} (h : ∀ x, (f x).isMut = false) : ∀ l : List α, allPlain (l.map f) = true
  | [] => rfl
  | x :: l => by simp only [List.map_cons, allPlain, h x, pl_map h l]; rfl
end U
namespace U
noncomputable def body_Effect_failing : St := (sSeq (sDrop (eCall fn_check_capacity [.v (eVar 1)] []))
    (sRet (eFrz (eMakeL 0 "Effect" fn_Effect_init (aCons (eVar 1) (aCons (eOp oRepT (eN mkTup (aCons (eC .non) aNil)) (eOp oAdd (eVar 1) (eC (.int 1)))) aNil)) []))))
noncomputable def fn_Effect_failing : Fn := fnOfC 1 0 "Effect" body_Effect_failing
noncomputable def body_check_effect : St := (sIf (eUn oNot (eUn (oIsiC [("Effect", true)]) (eVar 0)))
    (sRaise "InvalidEffect" ["position"] (aCons (eC .non) aNil))
    sNil)
noncomputable def fn_check_effect : Fn := fnOf 1 0 body_check_effect
noncomputable def body_Effect_is_part_of : St := (sSeq (sDrop (eCall fn_check_effect [.v (eVar 1)] []))
    (sSeq (sDrop (eCall fn_check_same [.v (eVar 0), .v (eVar 1)] []))
    (sRet (eN oAll (aCons (eFrz (eComp (iOfA itZ (aCons (eUn (oFld "Effect" "all_rows") (eVar 0)) (aCons (eUn (oProp "Effect" fn_Effect_rows) (eVar 1)) aNil))) (gTup [(gVar 2), (gVar 3)]) (eC (.bl true)) (eOr (eOp oIsN (eVar 2) (eC .non)) (eOp oEq (eVar 2) (eVar 3))) [2, 3])) aNil)))))
noncomputable def fn_Effect_is_part_of : Fn := fnOf 2 2 body_Effect_is_part_of
end U
namespace U
def idR : Nat → Row := fun n => some (n, [])
def noR : Nat → Row := fun _ => none
theorem no_ok {c : Nat} : ∀ i, i ≤ c → rowOk c i (noR i) := fun _ _ => trivial
def partR (c : Nat) (f g : Nat → Row) : Bool := (List.range (c + 1)).all fun n => (f n).isNone || decide (f n = g n)
theorem f_check_effect {c : Nat} {f : Nat → Row} : ∃ o, fn_check_effect [effD c f] = .ok .non o := by
  unfold fn_check_effect body_check_effect effD
  walk_at "evh"
  exact ⟨_, rfl⟩
theorem comp_mapL {α : Type} {g : Tg} {e : E} {vs : List Nat} {ρ : Env} (X : α → D) (F : α → D) : ∀ {l : List α} {acc : List D}, (∀ x ∈ l, ∃ ρ1 ρ2, g (X x) ρ = some ρ1 ∧ e ρ1 = .ok (F x) ρ2 ∧ wipeE vs ρ2 = ρ) → acc.length + l.length ≤ 16777216 → compL g (eC (.bl true)) e vs (l.map X) ρ acc = .ok (acc ++ l.map F) ρ
  | [], acc, _, _ => by rw [List.map_nil, List.map_nil, List.append_nil]; exact v_cl0
  | x :: l, acc, h, hl => by
    obtain ⟨ρ1, ρ2, h1, h2, h3⟩ := h x List.mem_cons_self
    have ih := comp_mapL (g := g) (e := e) (vs := vs) (ρ := ρ) X F (l := l) (acc := acc ++ [F x]) (fun y hy => h y (List.mem_cons_of_mem _ hy)) (by simp only [List.length_append, List.length_cons, List.length_nil] at hl ⊢; omega)
    rw [List.map_cons, v_cl1, h1, v_clG, v_c, v_clT, h2, v_clE, if_pos (by simp only [List.length_cons] at hl; omega), h3, ih, List.map_cons, List.append_assoc]
    rfl
theorem rep_no {c : Nat} : (List.replicate (c + 1) [D.non]).flatten = rowsL c noR := by
  have e1 : rowsL c noR = List.replicate (c + 1) D.non := by
    show (List.range (c + 1)).map (fun _ => D.non) = _
    rw [List.map_const', List.length_range]
  rw [e1]
  generalize c + 1 = n
  induction n with
  | zero => rfl
  | succ n ih => rw [List.replicate_succ, List.flatten_cons, ih, List.replicate_succ]; rfl
theorem f_failing {c : Nat} (hc : 1 ≤ c) (hc2 : c ≤ 100) : ∃ o, fn_Effect_failing [.int (c : Nat)] = .ok (effD c noR) o := by
  have e1 := f_check_capacity hc hc2
  obtain ⟨o2, e2⟩ := f_init (f := noR) hc hc2 no_ok
  have h2 : (2 : Int) ≤ (c : Nat) + 1 := by omega
  have h3 : ((c : Nat) : Int) + 1 ≤ 1000 := by omega
  have h4 : (((c : Nat) : Int) + 1).toNat = c + 1 := by omega
  have h5 := rep_no (c := c)
  unfold effD at *
  generalize rowsL c noR = L at *
  unfold fn_Effect_failing body_Effect_failing fnOfC
  walk_at "evh"
  exact ⟨_, rfl⟩
end U
namespace PySem.W
open PySem PySem.Spec PySem.Calls PyProof.Rows
section
variable {prog : Program} {w : World} {A : Around} {E : Value → Shared → Prop} {s : Shared} {K : Frag} {x D : Addr} {ox : Obj} {od : Option Obj}
end
end PySem.W
namespace L2
open PySem PySem.Spec PyProof.Rows
def rIsX (K : PySem.W.Frag) (a : Addr) (cls : Value) (d : Option Addr) : List V → Hp → VK → Prop := fun xs H Q => ∃ (D c : Addr) (b : Bool), xs = [.ref a, .ref c] ∧ cls = .ref D ∧ ExcC K D ∧ PySem.W.kitOne K (.ref D) (.ref c) = some b ∧ (d = none ∨ ∃ p fs, d = some p ∧ H p = some (.xd fs)) ∧ Q (.bl b) H
def rInT (K : PySem.W.Frag) : R2 := fun x y H Q => ∃ d ds, Dp K H x d ∧ Dp K H y (.tuple ds) ∧ SeqAt.shaped d = true ∧ SeqAt.shaped (.tuple ds) = true ∧ Q (.bl (ds.any fun z => PyData.eqv z d)) H
def rNotInT (K : PySem.W.Frag) : R2 := fun x y H Q => ∃ d ds, Dp K H x d ∧ Dp K H y (.tuple ds) ∧ SeqAt.shaped d = true ∧ SeqAt.shaped (.tuple ds) = true ∧ Q (.bl (!ds.any fun z => PyData.eqv z d)) H
section
variable {X : Cx}
end
end L2
namespace U
open PySem PySem.Spec PyProof.Rows L2
def eXis (i : Nat) (c : String) (b : Bool) : E := fun ρ => match ρ[i]? with
  | some (some (.exn c' _ _)) => if c' = c then .ok (.bl b) ρ else .bad
  | _ => .bad
def oInA : D → D → Option D
  | x, .tup l => if okD 9 x && okD 9 (.tup l) then some (.bl (inD x l)) else none
  | _, _ => none
def oNotInA : D → D → Option D
  | x, .tup l => if okD 9 x && okD 9 (.tup l) then some (.bl (!inD x l)) else none
  | _, _ => none
section
variable {K : PySem.W.Frag} {B : Bx} {F F' : Fz} {H H' : Hp} {W : WX} {σ : L2.St}
end
section
variable {X : Cx} {B : Bx} {W : WX} {e : Expr} {f g : E}
end
def kXis (c : String) (b : Bool) (ρ : Env) (o : Option (Option D)) : ER := match o with
  | some (some (.exn c' _ _)) => if c' = c then .ok (.bl b) ρ else .bad
  | _ => .bad
end U
namespace GBO
open PySem
end GBO
namespace L2
open PySem PySem.Spec PyProof.Rows
def rOwnBo (C : Addr) (sp : Sp) : List V → Hp → VK → Prop := fun xs H Q => ∃ a dx fs, xs = [.ref a] ∧ H a = some (.ins C dx fs) ∧ sp [.ref a] H (fun v H' => ∃ r, v = .bl r ∧ Q (.bl r) H') (fun _ _ _ => False)
section
variable {X : Cx} {k : Nat} {C f : Addr} {fd : FuncData} {ps : List Str} {sp : Sp}
end
end L2
namespace U
open PySem PySem.Spec PyProof.Rows L2
def oBoN (c : String) (f : Fn) : List D → Option D
  | [d] => oBoolC c f d
  | _ => none
end U
namespace GQ
open PySem PySem.Spec PyProof.Rows GenW L2
def pnL (L : Option Addr) (oL : Obj) : List (Addr × Obj) := match L with
  | some l => [(l, oL)]
  | none => []
def AtL (s : Shared) (L : Option Addr) (oL : Obj) : Prop := ∀ l, L = some l → s.heap.get? l = some oL
theorem mem_pnL {L : Option Addr} {oL : Obj} {p : Addr × Obj} (h : p ∈ pnL L oL) : L = some p.1 ∧ p.2 = oL := by
  cases L with
  | none => cases h
  | some l => rw [List.mem_singleton.mp h]; exact ⟨rfl, rfl⟩
theorem in_pnL {L : Option Addr} {oL : Obj} {l : Addr} (h : L = some l) : (l, oL) ∈ pnL L oL := by subst h; exact List.mem_singleton.mpr rfl
structure Nap (S : Addr) (L : Option Addr) (v : Value) (s s' : Shared) : Prop where
  os : s'.os = s.os
  bare : AllBare s'.gens
  rest : ∀ b o, b ≠ S → L ≠ some b → s.heap.get? b = some o → s'.heap.get? b = some o
  grow : ∀ acc c, s.heap.get? S = some (lstObj acc c) → ∃ c', s'.heap.get? S = some (lstObj (acc.push v) c')
  room : ∀ l, L = some l → ∃ o, s'.heap.get? l = some o ∧ ∀ u, o.data ≠ .cell u
def Far (X : Cx) (b : Addr) : Prop := X.s_0.heap.objs.size ≤ b ∧ b ≠ X.env.locals ∧ ∀ x c, X.env.cells.lookup x = some c → c ≠ b
def On (X : Cx) (S : Addr) (L : Option Addr) (oL : Obj) (ip : List (Addr × Obj)) (ys : List V) (σ : L2.St) (H : Hp) (s : Shared) : Prop :=
  ∃ (acc : Array Value) (c : Nat), Vals ys acc.toList ∧ Inv X ((S, lstObj acc c) :: (pnL L oL ++ ip)) σ H s
section
variable {X : Cx} {S : Addr} {L : Option Addr} {oL : Obj} {ip : List (Addr × Obj)} {ys : List V} {σ : L2.St} {H : Hp} {s s' : Shared}
theorem On.list (h : On X S L oL ip ys σ H s) : H S = none ∧ S ≠ X.env.locals ∧ S ∉ X.fs ∧ ∃ (acc : Array Value) (c : Nat), Vals ys acc.toList ∧ s.heap.get? S = some (lstObj acc c) := by
  obtain ⟨acc, c, r, I⟩ := h
  obtain ⟨p1, p2, p3, p4, _⟩ := I.pin (S, lstObj acc c) (List.mem_append_right _ List.mem_cons_self)
  exact ⟨p2, p3, p4, acc, c, r, p1⟩
theorem On.place {l : Addr} (e : L = some l) (h : On X S L oL ip ys σ H s) : H l = none ∧ l ≠ X.env.locals ∧ l ∉ X.fs ∧ s.heap.get? l = some oL := by
  obtain ⟨acc, c, r, I⟩ := h
  obtain ⟨p1, p2, p3, p4, _⟩ := I.pin (l, oL) (List.mem_append_right _ (List.mem_cons_of_mem _ (List.mem_append_left _ (in_pnL e))))
  exact ⟨p2, p3, p4, p1⟩
theorem On.woken {x : V} {v : Value} (hSL : L ≠ some S) (hpn : ∀ p ∈ X.pn, p.1 ≠ S ∧ L ≠ some p.1) (hip : ∀ p ∈ ip, p.1 ≠ S ∧ L ≠ some p.1) (fS : Far X S) (fL : ∀ l, L = some l → Far X l) (h : On X S L oL ip ys σ H s) (rv : RelV x v) (z : Nap S L v s s') :
    ∃ oL', AtL s' L oL' ∧ On X S L oL' ip (ys ++ [x]) σ H s' := by
  obtain ⟨nS, S1, S2, _⟩ := h.list
  have pl : ∀ l, L = some l → H l = none ∧ l ≠ X.env.locals ∧ l ∉ X.fs ∧ s.heap.get? l = some oL := fun l e => h.place e
  obtain ⟨acc, c, r, I⟩ := h
  have eS : s.heap.get? S = some (lstObj acc c) := (I.pin (S, lstObj acc c) (List.mem_append_right _ List.mem_cons_self)).1
  have I0 : Inv X ip σ H s := I.pins_of fun p hp => I.pin p (List.mem_append_right _ (List.mem_cons_of_mem _ (List.mem_append_right _ hp)))
  obtain ⟨z1, z2, z3, z4, z5⟩ := z
  obtain ⟨c', eS'⟩ := z4 acc c eS
  have off : ∀ b u, H b = some u → b ≠ S ∧ L ≠ some b := fun b u q => ⟨fun e => (by rw [e, nS] at q; cases q), fun e => (by rw [(pl b e).1] at q; cases q)⟩
  have away : ∀ b, b ∉ S :: L.toList → b ≠ S ∧ L ≠ some b := fun b hb => by
    simp only [List.mem_cons, not_or] at hb
    exact ⟨hb.1, fun e => hb.2 (by rw [e]; exact List.mem_singleton.mpr rfl)⟩
  obtain ⟨hh, g, d, t, o⟩ := s'
  obtain rfl : o = s.os := z1
  have J : Inv X ip σ H { s with heap := hh, gens := g, drawn := d, toks := t } := by
    refine I0.step (g' := g) (t' := t) (d' := d) (ch := S :: L.toList) (fun b hb => ?_)
      (fun b ob _ _ hc q _ => z3 b ob (away b hc).1 (away b hc).2 q) (fun b ob _ _ hc q _ => ⟨ob.slots, z3 b ob (away b hc).1 (away b hc).2 q⟩) (fun _ _ _ _ n => n)
      (fun b ob hc q => ⟨ob, z3 b ob (away b hc).1 (away b hc).2 q⟩) (fun _ _ q => q) (fun _ _ _ q => q) (fun b ps q => ⟨#[], by rw [q]; simp⟩) (fun m hm => ?_) (fun b u q => ?_) z2
    · rcases List.mem_cons.mp hb with rfl | hb
      · refine ⟨.inr fS.1, fS.2.1, fS.2.2, fun p hp => ?_⟩
        exact (List.mem_append.mp hp).elim (fun y => (hpn p y).1) fun y => (hip p y).1
      · have hb' : L = some b := Option.mem_toList.mp hb
        have fb := fL b hb'
        refine ⟨.inr fb.1, fb.2.1, fb.2.2, fun p hp e => ?_⟩
        exact (List.mem_append.mp hp).elim (fun y => (hpn p y).2 (e ▸ hb')) fun y => (hip p y).2 (e ▸ hb')
    · obtain ⟨ob, es, ep, ho, r⟩ := hm
      exact ⟨ob, es, ep, z3 _ ob (Ne.symm S1) (fun e => (pl _ e).2.1 rfl) ho, r⟩
    · refine (I0.hok b u q).stay (fun c v hc y => ?_) (fun _ y => y) fun _ _ y => y
      have nn : c ≠ S ∧ L ≠ some c := by
        rcases hc with y | y
        · rw [y]; exact off b u q
        · exact off c _ y
      exact z3 c v nn.1 nn.2 y
  have pS : ∀ oL' : Obj, (∀ l, L = some l → hh.get? l = some oL' ∧ ∀ u, oL'.data ≠ .cell u) → On X S L oL' ip (ys ++ [x]) σ H { s with heap := hh, gens := g, drawn := d, toks := t } := fun oL' hL => by
    refine ⟨acc.push v, c', ?_, J.pins_of fun p hp => ?_⟩
    · rw [Array.toList_push]
      exact r.append (.cons rv .nil)
    · rcases List.mem_cons.mp hp with hp | hp
      · rw [hp]
        exact ⟨eS', nS, S1, S2, fun v q => by cases q⟩
      · rcases List.mem_append.mp hp with hp | hp
        · obtain ⟨e1, e2⟩ := mem_pnL hp
          obtain ⟨q1, q2, q3, _⟩ := pl _ e1
          obtain ⟨q5, q6⟩ := hL _ e1
          obtain ⟨pa, po⟩ := p
          obtain rfl : po = oL' := e2
          exact ⟨q5, q1, q2, q3, q6⟩
        · exact J.pin p (List.mem_append_right _ hp)
  cases L with
  | none => exact ⟨oL, (fun l e => by cases e), pS oL (fun l e => by cases e)⟩
  | some l =>
    obtain ⟨oL', eL', dL'⟩ := z5 l rfl
    exact ⟨oL', (fun l' e => by cases e; exact eL'), pS oL' (fun l' e => by cases e; exact ⟨eL', dL'⟩)⟩
end
def Out (X : Cx) (S : Addr) (L : Option Addr) : Protocol := fun n s₀ v s kap =>
  ∃ ys x ip σ H oL, n + 1 + ys.length = sizeLine ∧ RelV x v ∧ AtL s₀ L oL ∧ On X S L oL ip ys σ H s ∧ ∀ s', Nap S L v s s' → kap (.send .none) s'
def Fin_ (X : Cx) (S : Addr) (L : Option Addr) (Q : List V → VK) (F : Value → Shared → Prop) : GenEnd := fun n s₀ r s => match r with
  | .ok (.ret u) => ∃ ys v ip σ H oL, n + ys.length = sizeLine ∧ AtL s₀ L oL ∧ On X S L oL ip ys σ H s ∧ RelV v u ∧ Q ys v H
  | .ok _ => False
  | .error e => F e s
def Past (X : Cx) (S : Addr) (L : Option Addr) (oL : Obj) (ip : List (Addr × Obj)) (D : GEnds) (ys : List V) (f : Flow) (s : Shared) : Prop :=
  match f with
  | .next => ∃ σ H, On X S L oL ip ys σ H s ∧ D.nx ys σ H
  | .brk => ∃ σ H, On X S L oL ip ys σ H s ∧ D.bk ys σ H
  | .cont => ∃ σ H, On X S L oL ip ys σ H s ∧ D.ct ys σ H
  | .ret u => ∃ v σ H, On X S L oL ip ys σ H s ∧ RelV v u ∧ D.rt ys v H
structure Spot (X : Cx) (S : Addr) (L : Option Addr) (ip : List (Addr × Obj)) (A : Around) (c : Code) (fs : List Frame) (gd : Bool → Bool) : Prop where
  ne : L ≠ some S
  pn : ∀ p ∈ X.pn, p.1 ≠ S ∧ L ≠ some p.1
  ip : ∀ p ∈ ip, p.1 ≠ S ∧ L ≠ some p.1
  fS : Far X S
  fL : ∀ l, L = some l → Far X l
  over : A.over c fs = X.A
  split : splitAtGen fs = none
  guard : fs.any Frame.guarded = false
  gd : gd false = false
structure Aft (X : Cx) (S : Addr) (L : Option Addr) (ip : List (Addr × Obj)) (A : Around) (R : GenEnd) (c : Code) (fs : List Frame) (K : Flow → Sem PySem.Fin) (J : Value → Sem PySem.Fin) (D : GEnds) : Prop where
  ok : ∀ (n : Nat) (ys : List V) (s₀ s : Shared) (f : Flow) (oL : Obj), n + ys.length = sizeLine → AtL s₀ L oL → Past X S L oL ip D ys f s → Seg (model X.prog X.w) A R (Out X S L) n s₀ c (K f) fs s
  exc : ∀ (n : Nat) (s₀ : Shared) (e : Value) (s : Shared), X.xe e s → Seg (model X.prog X.w) A R (Out X S L) n s₀ c (J e) fs s
structure WS (X : Cx) (st : Stmt) (t : TGn) : Prop where
  run : ∀ (A : Around) (S : Addr) (L : Option Addr) (ip : List (Addr × Obj)) (R : GenEnd) (n : Nat) (ys : List V) (s₀ : Shared) (oL : Obj) (c : Code) (fs : List Frame) (K : Flow → Sem PySem.Fin) (J : Value → Sem PySem.Fin) (gd : Bool → Bool) (lv : List Value → List Value) (s : Shared) (σ : L2.St) (H : Hp) (D : GEnds),
    Spot X S L ip A c fs gd → n + ys.length = sizeLine → AtL s₀ L oL → Aft X S L ip A R c fs K J D → On X S L oL ip ys σ H s → t D ys σ H →
    Seg (model X.prog X.w) A R (Out X S L) n s₀ c ((exec st X.env).wrap K J gd lv) fs s
structure WSs (X : Cx) (st : List Stmt) (t : TGn) : Prop where
  run : ∀ (A : Around) (S : Addr) (L : Option Addr) (ip : List (Addr × Obj)) (R : GenEnd) (n : Nat) (ys : List V) (s₀ : Shared) (oL : Obj) (c : Code) (fs : List Frame) (K : Flow → Sem PySem.Fin) (J : Value → Sem PySem.Fin) (gd : Bool → Bool) (lv : List Value → List Value) (s : Shared) (σ : L2.St) (H : Hp) (D : GEnds),
    Spot X S L ip A c fs gd → n + ys.length = sizeLine → AtL s₀ L oL → Aft X S L ip A R c fs K J D → On X S L oL ip ys σ H s → t D ys σ H →
    Seg (model X.prog X.w) A R (Out X S L) n s₀ c ((execs st X.env).wrap K J gd lv) fs s
section
variable {X : Cx} {st : Stmt} {rest : List Stmt}
theorem WS.weak {t u : TGn} (h : WS X st t) (w : ∀ D ys σ H, u D ys σ H → t D ys σ H) : WS X st u :=
  ⟨fun A S L ip R n ys s₀ oL c fs K J gd lv s σ H D g hn h0 k hI q => h.run A S L ip R n ys s₀ oL c fs K J gd lv s σ H D g hn h0 k hI (w _ _ _ _ q)⟩
theorem WSs.weak {t u : TGn} (h : WSs X rest t) (w : ∀ D ys σ H, u D ys σ H → t D ys σ H) : WSs X rest u :=
  ⟨fun A S L ip R n ys s₀ oL c fs K J gd lv s σ H D g hn h0 k hI q => h.run A S L ip R n ys s₀ oL c fs K J gd lv s σ H D g hn h0 k hI (w _ _ _ _ q)⟩
theorem past_of {S : Addr} {L : Option Addr} {oL : Obj} {acc : Array Value} {c : Nat} {ip : List (Addr × Obj)} {s : Shared} {D : GEnds} {ys : List V} {f : Flow} (r : Vals ys acc.toList) (h : SP X ((S, lstObj acc c) :: (pnL L oL ++ ip)) (D.at ys) f s) : Past X S L oL ip D ys f s := by
  cases f with
  | next => obtain ⟨σ, H, I, q⟩ := h; exact ⟨σ, H, ⟨acc, c, r, I⟩, q⟩
  | brk => obtain ⟨σ, H, I, q⟩ := h; exact ⟨σ, H, ⟨acc, c, r, I⟩, q⟩
  | cont => obtain ⟨σ, H, I, q⟩ := h; exact ⟨σ, H, ⟨acc, c, r, I⟩, q⟩
  | ret u => obtain ⟨v, σ, H, I, r1, q⟩ := h; exact ⟨v, σ, H, ⟨acc, c, r, I⟩, r1, q⟩
theorem ws_ps {t : TS} (h : PS X st t) : WS X st (tPlain t) := by
  refine ⟨fun A S L ip R n ys s₀ oL c fs K J gd lv s σ H D g hn h0 k hI ht => ?_⟩
  obtain ⟨acc, cc, r, I⟩ := hI
  refine seg_wrap ?_
  rw [g.over]
  exact wpAny_mono (h.run _ s σ H (D.at ys) I ht) (fun f s' hs => k.ok n ys s₀ s' f oL hn h0 (past_of r hs)) fun x s' hx => k.exc n s₀ x s' hx
theorem wss_nil : WSs X [] tG0 := by
  refine ⟨fun A S L ip R n ys s₀ oL c fs K J gd lv s σ H D g hn h0 k hI ht => ?_⟩
  exact seg_execs_nil (k.ok n ys s₀ s .next oL hn h0 ⟨σ, H, hI, ht⟩)
theorem wss_cons {t u : TGn} (a : WS X st t) (b : WSs X rest u) : WSs X (st :: rest) (tGThen t u) := by
  refine ⟨fun A S L ip R n ys s₀ oL c fs K J gd lv s σ H D g hn h0 k hI ht => ?_⟩
  refine seg_execs_cons ?_
  refine a.run A S L ip R n ys s₀ oL c fs _ J gd lv s σ H { D with nx := fun ys' σ' H' => u D ys' σ' H' } g hn h0 ⟨fun n' ys' s₀' s' f oL' hn' h0' hs => ?_, k.exc⟩ hI ht
  cases f with
  | next =>
    obtain ⟨σ', H', I', q⟩ := hs
    exact b.run A S L ip R n' ys' s₀' oL' c fs K J gd lv s' σ' H' D g hn' h0' k I' q
  | brk => exact k.ok n' ys' s₀' s' .brk oL' hn' h0' hs
  | cont => exact k.ok n' ys' s₀' s' .cont oL' hn' h0' hs
  | ret u => exact k.ok n' ys' s₀' s' (.ret u) oL' hn' h0' hs
theorem ws_yield {e : Expr} {yp pos : Pos} {te : TE} (he : PE X e te) (hco : X.env.scope.isCoroutine = false := by rfl) (hi : interactive X.env = false := by rfl) : WS X (.Expr (.Yield (some e) yp) pos) (tGYield te) := by
  refine ⟨fun A S L ip R n ys s₀ oL c fs K J gd lv s σ H D g hn h0 k hI ht => ?_⟩
  obtain ⟨hlt, ht⟩ := ht
  obtain ⟨n, rfl⟩ : ∃ m, n = m + 1 := ⟨n - 1, by omega⟩
  obtain ⟨acc, cc, r, I⟩ := hI
  refine seg_Expr_Yield g.split g.gd g.guard ?_ hco hi
  rw [g.over]
  refine wpAny_mono (he.run _ s σ H _ I ht) (fun v s' hv => ?_) fun x s' hx => k.exc _ s₀ x s' hx
  obtain ⟨x, H1, I1, rv, q⟩ := hv
  have G1 : On X S L oL ip ys σ H1 s' := ⟨acc, cc, r, I1⟩
  intro kap hk
  refine ⟨ys, x, ip, σ, H1, oL, hn, rv, h0, G1, fun s'' z => hk .none s'' ?_⟩
  obtain ⟨oL', eL', G2⟩ := G1.woken g.ne g.pn g.ip g.fS g.fL rv z
  refine k.ok n (ys ++ [x]) s'' s'' .next oL' ?_ eL' ⟨σ, H1, G2, q⟩
  rw [List.length_append, List.length_singleton]; omega
theorem spot_loop {S : Addr} {L : Option Addr} {ip : List (Addr × Obj)} {A : Around} {c c' : Code} {fs : List Frame} {gd : Bool → Bool} {k : Result → Sem PySem.Fin} {l kp : List Value} {p : Pos} (g : Spot X S L ip A c fs gd) (hw : c'.weight = 0) (hu : c'.cUnits = 0) :
    Spot X S L ip A c' (.ret k none (gd false) l c p kp :: fs) id where
  ne := g.ne
  pn := g.pn
  ip := g.ip
  fS := g.fS
  fL := g.fL
  over := (over_loop hw hu).trans g.over
  split := by
    show (splitAtGen fs).map _ = none
    rw [g.split]; rfl
  guard := by
    show (gd false || fs.any Frame.guarded) = false
    rw [g.gd, g.guard]; rfl
  gd := rfl
theorem seg_back {S : Addr} {L : Option Addr} {ip : List (Addr × Obj)} {A : Around} {R : GenEnd} {c : Code} {fs : List Frame} {K : Flow → Sem PySem.Fin} {J : Value → Sem PySem.Fin} {gd : Bool → Bool} {lv : List Value → List Value} {D : GEnds} {n : Nat} {s₀ s : Shared} {e : Value}
    (g : Spot X S L ip A c fs gd) (k : Aft X S L ip A R c fs K J D) (h : cameBackBy (model X.prog X.w) X.A X.env X.xe e s) :
    Seg (model X.prog X.w) A R (Out X S L) n s₀ c (((Sem.raise e : Sem Flow).onRaise (cameBack X.env)).wrap K J gd lv) fs s := by
  show Seg _ _ _ _ _ _ _ (((cameBack X.env e).bind fun _ => (Sem.raise e : Sem Flow)).wrap K J gd lv) _ _
  rw [Sem.bind_eq_wrap, Sem.wrap_wrap]
  refine seg_wrap ?_
  rw [g.over]
  exact wpAny_mono h (fun _ s' hx => k.exc n s₀ e s' hx) fun x s' hx => k.exc n s₀ x s' hx
end
end GQ
namespace GQ
open PySem PySem.Spec PyProof.Rows GenW L2
section
variable {X : Cx} {st : Stmt} {rest : List Stmt}
def tGIf (c : TT) (t u : TGn) : TGn := fun D ys σ H => c σ H fun b H1 => if b = true then t D ys σ H1 else u D ys σ H1
theorem ws_if {test : Expr} {a b : List Stmt} {pos : Pos} {tc : TT} {t u : TGn} (hc : PT X test tc) (ha : WSs X a t) (hb : WSs X b u) : WS X (.If test a b pos) (tGIf tc t u) := by
  refine ⟨fun A S L ip R n ys s₀ oL c fs K J gd lv s σ H D g hn h0 k hI ht => ?_⟩
  obtain ⟨acc, cc, r, I⟩ := hI
  rw [exec_If]
  refine seg_bind_wrap (wpAny_standAt ?_)
  refine seg_bind_wrap ?_
  rw [g.over]
  refine wpAny_mono (hc.run _ s σ H _ I ht) (fun v s' hv => ?_) fun x s' hx => k.exc n s₀ x s' hx
  obtain ⟨H2, I2, q2⟩ := hv
  cases v with
  | true =>
    rw [if_pos rfl] at q2
    exact ha.run A S L ip R n ys s₀ oL c fs K J gd lv s' σ H2 D g hn h0 k ⟨acc, cc, r, I2⟩ q2
  | false =>
    rw [if_neg Bool.false_ne_true] at q2
    exact hb.run A S L ip R n ys s₀ oL c fs K J gd lv s' σ H2 D g hn h0 k ⟨acc, cc, r, I2⟩ q2
def tGFor (wi : TI) (g : TG) (tb : TGn) : TGn := fun D ys σ H => wi σ H fun J H1 => ∃ W : Nat → Nat → List V → L2.St → Hp → Prop, (∃ m, W 0 m ys σ H1) ∧ ∀ i m ys σ H, W i m ys σ H →
  (J.stop i H ∧ D.nx ys σ H) ∨ (J.go i H ∧ ∃ N : List V → L2.St → Hp → Prop, (∀ ys' σ' H', N ys' σ' H' → ∃ m', m' < m ∧ W (i + 1) m' ys' σ' H') ∧ ∀ x H', J.yld i H x H' → g x σ H' fun σ2 H2 => tb { D with nx := N, ct := N, bk := D.nx } ys σ2 H2)
theorem ws_for {tg iter : Expr} {body : List Stmt} {wi : TI} {g : TG} {tb : TGn} {pos : Pos} (hp : PassesOwn (model X.prog X.w) X.A X.env X.xe) (hc : X.calm = true) (hi : PI X tg iter wi) (hg : PG X tg g) (hb : WSs X body tb)
    (hs : ∀ x, foldedSetIterable iter X.env x = pure x := by intro _; rfl) : WS X (.For tg iter body [] pos) (tGFor wi g tb) := by
  refine ⟨fun A S L ip R n ys s₀ oL c fs K J gd lv s σ H D sp hn h0 k hI ht => ?_⟩
  obtain ⟨acc, cc, r, I⟩ := hI
  rw [exec_For]
  refine seg_bind_wrap (wpAny_standAt ?_)
  refine seg_bind_wrap ?_
  rw [sp.over]
  refine wpAny_mono (hi.run _ s σ H _ I ht) (fun v s1 h1 => ?_) fun x s' hx => k.exc n s₀ x s' hx
  refine seg_bind_wrap (wpAny_of_eq (hs v) ?_)
  refine seg_bind_wrap (wpAny_standAt ?_)
  refine seg_bind_wrap (wpAny_holding ?_)
  rw [sp.over]
  refine wpAny_mono h1 (fun itv s2 h2 => ?_) fun x s' hx => k.exc n s₀ x s' hx
  obtain ⟨it, fp, tn, Jt, H2, rfl, I2, T, st2, f2, W, ⟨m0, w0⟩, turn⟩ := h2
  refine seg_call fun p => ?_
  have gl := fun (kk : Result → Sem PySem.Fin) => spot_loop (k := kk) (c' := .forLoop tg (.ref it) body [] X.env) (l := lv []) (kp := []) (p := p) sp rfl rfl
  have stat : ∀ {acc' : Array Value} {c' : Nat} {oL' : Obj} {H' : Hp}, (∀ b ∈ fp, H' b = none) → ∀ b ∈ fp, FpOk X ((S, lstObj acc' c') :: (pnL L oL' ++ ip)) H' b := fun {acc' c' oL' H'} hn b hb => by
    obtain ⟨_, f1, f3, f4, f5, f6⟩ := f2 b hb
    refine ⟨hn b hb, f1, f3, f4, f5, fun q hq => ?_⟩
    rcases List.mem_append.mp hq with z | z
    · exact f6 q (List.mem_append_left _ z)
    · rcases List.mem_cons.mp z with z | z
      · rw [z]; exact f6 (S, lstObj acc cc) (List.mem_append_right _ List.mem_cons_self)
      · rcases List.mem_append.mp z with z | z
        · obtain ⟨e1, _⟩ := mem_pnL z
          exact f6 (q.1, oL) (List.mem_append_right _ (List.mem_cons_of_mem _ (List.mem_append_left _ (in_pnL e1))))
        · exact f6 q (List.mem_append_right _ (List.mem_cons_of_mem _ (List.mem_append_right _ z)))
  have nSL : ∀ b ∈ fp, b ≠ S ∧ L ≠ some b := fun b hb => by
    obtain ⟨_, _, _, _, _, f6⟩ := f2 b hb
    exact ⟨fun e => f6 (S, lstObj acc cc) (List.mem_append_right _ List.mem_cons_self) e.symm, fun e => f6 (b, oL) (List.mem_append_right _ (List.mem_cons_of_mem _ (List.mem_append_left _ (in_pnL e)))) rfl⟩
  suffices loop : ∀ (m i n : Nat) (ys : List V) (s₀ s : Shared) (oL : Obj) (σ : L2.St) (H : Hp), n + ys.length = sizeLine → AtL s₀ L oL → W i m ys σ H → On X S L oL ip ys σ H s → tn i s.heap → (∀ b ∈ fp, H b = none) →
      Seg (model X.prog X.w) A R (Out X S L) n s₀ (.forLoop tg (.ref it) body [] X.env) ((model X.prog X.w).den (.forLoop tg (.ref it) body [] X.env))
        (.ret (fun r => ((match r with | .ok f => (.pure f : Sem Flow) | .error e => .raise e).onRaise (cameBack X.env)).wrap K J gd lv) none (gd false) (lv []) c p [] :: fs) s from
    loop m0 0 n ys s₀ s2 oL σ H2 hn h0 w0 ⟨acc, cc, r, I2⟩ st2 fun b hb => (f2 b hb).1
  intro m
  induction m using Nat.strongRecOn with
  | ind m ih =>
    intro i n ys s₀ s oL σ H hn h0 w hI st nfp
    have ee : ∀ (n : Nat) (s₀ : Shared) (x : Value) (s' : Shared), X.xe x s' → Seg (model X.prog X.w) A R (Out X S L) n s₀ (.forLoop tg (.ref it) body [] X.env)
        ((do noteFrame x X.env; theTreesLotGoes x : Sem Unit).wrap (fun _ => .raise x) .raise id id)
        (.ret (fun r => ((match r with | .ok f => (.pure f : Sem Flow) | .error e => .raise e).onRaise (cameBack X.env)).wrap K J gd lv) none (gd false) (lv []) c p [] :: fs) s' := fun n s₀ x s' hx => by
      refine seg_wrap ?_
      rw [(gl _).over]
      refine wpAny_bind (wpAny_mono (hp x s' hx) (fun _ s'' hcb => wpAny_theTreesLotGoes ?_) fun y s'' hcb => ?_)
      · exact seg_leaf (.error x) (seg_back sp k hcb)
      · exact seg_leaf (.error y) (seg_back sp k hcb)
    have ee' : ∀ (n : Nat) (s₀ : Shared) (x : Value) (s' : Shared), X.xe x s' → Seg (model X.prog X.w) A R (Out X S L) n s₀ (.forLoop tg (.ref it) body [] X.env)
        (((do noteFrame x X.env; theTreesLotGoes x : Sem Unit)).bind fun _ => .raise x)
        (.ret (fun r => ((match r with | .ok f => (.pure f : Sem Flow) | .error e => .raise e).onRaise (cameBack X.env)).wrap K J gd lv) none (gd false) (lv []) c p [] :: fs) s' := fun n s₀ x s' hx => by
      rw [Sem.bind_eq_wrap]; exact ee n s₀ x s' hx
    obtain ⟨acc, cc, r, I⟩ := hI
    show Seg _ _ _ _ n s₀ _ ((forTurn tg (.ref it) body [] X.env).onRaise (fun x => do noteFrame x X.env; theTreesLotGoes x)) _ s
    rw [Sem.onRaise_eq_wrap]
    unfold forTurn
    refine seg_bind_wrap (wpAny_standAt ?_)
    refine seg_bind_wrap ?_
    rw [(gl _).over]
    rcases turn i m ys σ H w with ⟨stop, qn⟩ | ⟨go, N, hN, step⟩
    · refine wpAny_onRaise (wpAny_mono (T.done X rfl rfl rfl hc i _ s σ H X.xe I (stat nfp) st stop) (fun q s4 ⟨hq, I4⟩ => ?_) fun x s' hx => wpAny_standAt (ee' n s₀ x s' hx))
      subst hq
      refine seg_again rfl ?_
      refine seg_bind (wpAny_noted (wpAny_execs_nil ?_))
      exact seg_leaf (.ok .next) (k.ok n ys s₀ s4 .next oL hn h0 ⟨σ, H, ⟨acc, cc, r, I4⟩, qn⟩)
    · refine wpAny_onRaise (wpAny_mono (T.item X rfl rfl rfl hc i _ s σ H X.xe I (stat nfp) st go) (fun q s4 ⟨u, hq, h4⟩ => ?_) fun x s' hx => wpAny_standAt (ee' n s₀ x s' hx))
      subst hq
      refine seg_bind_wrap ?_
      rw [(gl _).over]
      refine wpAny_mono h4 (fun _ s5 ⟨x, H5, I5, r5, y5, st5, n5⟩ => ?_) fun x s' hx => ee' n s₀ x s' hx
      have I5' := I5.pinned (stat n5) (T.obj _ _ st5)
      refine seg_bind_wrap ?_
      rw [(gl _).over]
      refine wpAny_mono (hg.run _ s5 σ H5 x u _ I5' r5 (step x H5 y5)) (fun _ s6 ⟨σ6, H6, I6, q6⟩ => ?_) fun x s' hx => ee' n s₀ x s' hx
      rw [Sem.bind_eq_wrap', Sem.wrap_wrap]
      have pin' : ∀ {acc' : Array Value} {c' : Nat} {oL' : Obj} {σ' : L2.St} {H' : Hp} {s' : Shared}, Inv X ((S, lstObj acc' c') :: (pnL L oL' ++ (ip ++ pinsAt fp s5.heap))) σ' H' s' → ∀ b ∈ fp, ∀ o, s5.heap.get? b = some o → s'.heap.get? b = some o ∧ H' b = none := fun {acc' c' oL' σ' H' s'} I' b hb o e =>
        let z := I'.pin (b, o) (List.mem_append_right _ (List.mem_cons_of_mem _ (List.mem_append_right _ (List.mem_append_right _ (mem_pinsAt hb e)))))
        ⟨z.1, z.2.1⟩
      have less : ∀ {oL' : Obj} {ys' : List V} {σ' : L2.St} {H' : Hp} {s' : Shared}, On X S L oL' (ip ++ pinsAt fp s5.heap) ys' σ' H' s' → On X S L oL' ip ys' σ' H' s' := fun {oL' ys' σ' H' s'} ⟨a', c', r', I'⟩ =>
        ⟨a', c', r', I'.pins_of fun p hp => I'.pin p (List.mem_append_right _ ((List.mem_cons.mp hp).elim (fun z => z ▸ List.mem_cons_self) fun z => (List.mem_append.mp z).elim (fun z => List.mem_cons_of_mem _ (List.mem_append_left _ z)) fun z => List.mem_cons_of_mem _ (List.mem_append_right _ (List.mem_append_left _ z))))⟩
      have spot' : ∀ kk : Result → Sem PySem.Fin, Spot X S L (ip ++ pinsAt fp s5.heap) A (.forLoop tg (.ref it) body [] X.env) (.ret kk none (gd false) (lv []) c p [] :: fs) id := fun kk =>
        { gl kk with ip := fun p hp => (List.mem_append.mp hp).elim (fun z => sp.ip p z) fun z => nSL p.1 (of_pinsAt z).1 }
      have again : ∀ (n' : Nat) (ys' : List V) (s₀' s3 : Shared) (oL' : Obj) {σ3 : L2.St} {H3 : Hp}, n' + ys'.length = sizeLine → AtL s₀' L oL' → On X S L oL' (ip ++ pinsAt fp s5.heap) ys' σ3 H3 s3 → N ys' σ3 H3 →
          Seg (model X.prog X.w) A R (Out X S L) n' s₀' (.forLoop tg (.ref it) body [] X.env) (.pure (.again (.forLoop tg (.ref it) body [] X.env)))
            (.ret (fun r => ((match r with | .ok f => (.pure f : Sem Flow) | .error e => .raise e).onRaise (cameBack X.env)).wrap K J gd lv) none (gd false) (lv []) c p [] :: fs) s3 := fun n' ys' s₀' s3 oL' {σ3 H3} hn' h0' I3 n3 => by
        obtain ⟨m', hm, w3⟩ := hN ys' σ3 H3 n3
        obtain ⟨a', c', r', I'⟩ := id I3
        refine seg_again rfl (ih m' hm (i + 1) n' ys' s₀' s3 oL' σ3 H3 hn' h0' w3 (less I3) (T.keep _ _ _ st5 fun b hb o e => (pin' I' b hb o e).1) fun b hb => ?_)
        obtain ⟨o, e, _⟩ := T.obj _ _ st5 b hb
        exact (pin' I' b hb o e).2
      have I6' : Inv X ((S, lstObj acc cc) :: (pnL L oL ++ (ip ++ pinsAt fp s5.heap))) σ6 H6 s6 := by rw [← List.append_assoc]; exact I6
      refine hb.run A S L (ip ++ pinsAt fp s5.heap) R n ys s₀ oL _ _ _ _ id id s6 σ6 H6 { D with nx := N, ct := N, bk := D.nx } (spot' _) hn h0 ⟨fun n' ys' s₀' s3 f oL' hn' h0' hs => ?_, fun n' s₀' x s3 hx => ee' n' s₀' x s3 hx⟩ ⟨acc, cc, r, I6'⟩ q6
      cases f with
      | next =>
        obtain ⟨σ3, H3, I3, n3⟩ := hs
        exact again n' ys' s₀' s3 oL' hn' h0' I3 n3
      | cont =>
        obtain ⟨σ3, H3, I3, n3⟩ := hs
        exact again n' ys' s₀' s3 oL' hn' h0' I3 n3
      | brk =>
        obtain ⟨σ3, H3, I3, n3⟩ := hs
        exact seg_leaf (.ok .next) (k.ok n' ys' s₀' s3 .next oL' hn' h0' ⟨σ3, H3, less I3, n3⟩)
      | ret v =>
        obtain ⟨x3, σ3, H3, I3, r3, n3⟩ := hs
        exact seg_leaf (.ok (.ret v)) (k.ok n' ys' s₀' s3 (.ret v) oL' hn' h0' ⟨x3, σ3, H3, less I3, r3, n3⟩)
end
end GQ
namespace GQ
open PySem PySem.Spec PyProof.Rows GenW L2
abbrev SpQ := List V → Hp → (List V → Hp → Prop) → Prop
def noX : XK := fun _ _ _ => False
def Ended (P : Program) (w : World) (outer : List PySem.Env) (H : Hp) (s : Shared) (S : Addr) (L : Option Addr) (Q : List V → Hp → Prop) : Nat → Shared → Shared → Prop := fun n s₀ s1 =>
  ∃ H' ys acc c oL, s1.os = s.os ∧ AllBare s1.gens ∧ Un (frs outer) [] H H' s.heap s1.heap ∧ HOk P w H' s1.heap ∧ H' S = none ∧ s1.heap.get? S = some (lstObj acc c) ∧ Vals ys acc.toList ∧ ys.length ≤ sizeLine ∧ (∀ l, L = some l → H' l = none) ∧ AtL s₀ L oL ∧ AtL s1 L oL ∧ Q ys H'
def REnd (P : Program) (w : World) (outer : List PySem.Env) (H : Hp) (s : Shared) (S : Addr) (L : Option Addr) (Q : List V → Hp → Prop) : GenEnd := fun n s₀ r s1 =>
  ((r = .ok (.ret .none) ∨ r = .ok .next) ∧ Ended P w outer H s S L Q n s₀ s1) ∨ ∃ e, r = .error e ∧ False
def Handed (s : Shared) (S : Addr) (L : Option Addr) (a : Addr) (g : Nat) : Protocol := fun n s₀ v s1 kap =>
  s1.os = s.os ∧ AllBare s1.gens ∧ s1.heap.NoLimit ∧ s1.heap.IsGen a g ∧ (∃ (acc : Array Value) (c : Nat), s1.heap.get? S = some (lstObj acc c) ∧ n + 1 + acc.size = sizeLine) ∧ (∃ oL, AtL s₀ L oL ∧ AtL s1 L oL) ∧ ∀ s', Nap S L v s1 s' → kap (.send .none) s'
def Fresh (P : Program) (w : World) (k : Nat) (outer : List PySem.Env) (H : Hp) (s : Shared) (Q : List V → Hp → Prop) (u : Value) (s' : Shared) : Prop :=
  ∃ (a : Addr) (g : Nat) (c : Code), u = .ref a ∧ s.heap.objs.size ≤ a ∧ a < s'.heap.objs.size ∧ s'.heap.IsGen a g ∧ s'.gens[g]? = some (.fresh c) ∧ s'.os = s.os ∧ AllBare s'.gens ∧ s'.heap.NoLimit ∧ (∀ b o, s.heap.get? b = some o → s'.heap.get? b = some o) ∧
    ∀ (A : Around) (S : Addr) (L : Option Addr) (s2 : Shared), Room k A → A.frames = some outer → s'.heap.objs.size ≤ S → (∀ l, L = some l → s'.heap.objs.size ≤ l) → L ≠ some S → (∀ b o, s'.heap.get? b = some o → s2.heap.get? b = some o) → (∃ c, s2.heap.get? S = some (lstObj #[] c)) →
      (∃ o, AtL s2 L o ∧ ∀ v, o.data ≠ .cell v) → s2.os = s.os → AllBare s2.gens → Seg (model P w) A (REnd P w outer H s S L Q) (Handed s S L a g) sizeLine s2 c ((model P w).den c) [] s2
structure GFnQ (P : Program) (w : World) (K : PySem.W.Frag) (mg : Str → Option Value) (base : Heap) (k : Nat) (f : Addr) (fd : FuncData) (ps : List Str) (sp : SpQ) : Prop where
  len : ∀ vs H Q, sp vs H Q → vs.length = ps.length
  run : ∀ (A : Around) (outer : List PySem.Env) (s : Shared) (H : Hp) (args : Args) (us : List Value) (vs : List V) (Q : List V → Hp → Prop), Room k A → Env0 P w K mg base A outer s H → BindsTo s fd args (ps.zip us) → Vals vs us → sp vs H Q →
    codeAny (model P w) A (.call (.ref f) args) (fun r s' => match r with | .ok (.ret u) => Fresh P w k outer H s Q u s' | _ => False) s
theorem gfnQ_of {P : Program} {w : World} {K : PySem.W.Frag} {mg : Str → Option Value} {base : Heap} {k : Nat} {f : Addr} {name qual : Str} {params : Arguments} {body : List Stmt} {scope : Scope} {dV kV doc pm cdv ct oc : Value} {an od : Option Addr}
    {osl : Array (Option Value)} {N ps : List Str} {sp : SpQ} (lk : K.lookup f = some ⟨oc, od, .func (PySem.W.fnOf name qual params body scope dV kV doc pm an cdv ct), osl⟩) (hcd : PySem.W.codeIn K cdv qual = true) (S : GScope N ps scope)
    (len : ∀ vs H Q, sp vs H Q → vs.length = ps.length)
    (hbody : ∀ (A : Around) (outer : List PySem.Env) (s : Shared) (H : Hp) (vs : List V) (Q : List V → Hp → Prop) (pn : List (Addr × Obj)), Room k (A.deeper (envOfC qual scope s.heap.objs.size f cdv)) → sp vs H Q →
      ∃ t, WSs (gcxOf P w K mg base N qual scope f cdv A outer s H noX pn) body t ∧ t { nx := fun ys _ H' => Q ys H', rt := fun ys v H' => v = .non ∧ Q ys H' } [] (L2.start N vs) H) :
    GFnQ P w K mg base (k + 1) f (PySem.W.fnOf name qual params body scope dV kV doc pm an cdv ct) ps sp := by
  refine ⟨len, fun A outer s H args us vs Q hr e0 hb r hsp => ?_⟩
  have hl := len _ _ _ hsp
  have KX : K.In s.heap := e0.mod.kin.keeps fun b o e => (e0.bs b o e).1
  have lim : s.heap.NoLimit := e0.mod.nolimit.keeps fun b o e => (e0.bs b o e).1
  have hkind : ∀ y ∈ ps.zip us, scope.names.lookup y.1 = some .local ∨ (scope.names.lookup y.1 = some .cell ∧ ((cellsFrom (s.heap.objs.size + 1) scope.names []).lookup y.1).isSome = true) := fun ⟨n, v⟩ hy => by
    rcases S.par n (List.of_mem_zip hy).1 with q | q
    · exact .inl q
    · exact .inr ⟨q, PySem.W.cellsFrom_some _ _ _ (.inl q)⟩
  refine codeAny_call_generator hr.depth (KX _ _ lk) rfl S.co S.gen rfl (PySem.W.codeRec_of KX hcd) (hb _ _ _ _ ?_)
  refine wpAny_newFunctionEnv_cells S.kind hkind fun env he s1 x => ?_
  subst he
  have lim1 : s1.heap.NoLimit := lim.keeps x.toInCall.keep
  refine ⟨lim1, ?_⟩
  obtain ⟨h1, tk, es1, hk1⟩ := x.done
  have os1 : s1.os = s.os := by rw [es1]
  have gen1 : s1.gens = s.gens := by rw [es1]
  have lt1 : s.heap.objs.size < s1.heap.objs.size := x.toInCall.ns.lt
  have sz1 : s.heap.objs.size ≤ s1.heap.objs.size := Nat.le_of_lt lt1
  have kp1 : ∀ b o, s.heap.get? b = some o → s1.heap.get? b = some o := x.toInCall.keep
  have main : ∀ (go : Obj) (nm qn : Value) (tk2 : Nat), go.cls = .type "generator" → go.data = .fields #[.int s1.gens.size 0, nm, qn] → go.slots = #[] → (∀ h : Heap, (h.push go).get? h.objs.size = some go) →
      Fresh P w (k + 1) outer H s Q (.ref s1.heap.objs.size) { s1 with gens := s1.gens.push (.fresh (.func body (envOfC qual scope s.heap.objs.size f cdv))), toks := tk2, heap := s1.heap.push go } := by
    intro go nm qn tk2 hgc hgd0 hgs hgp
    have hgen : ∀ h : Heap, h.get? s1.heap.objs.size = some go → h.IsGen s1.heap.objs.size s1.gens.size := fun h e => ⟨go, nm, qn, e, hgc, hgd0, hgs⟩
    have hpushed : (s1.heap.push go).get? s1.heap.objs.size = some go := hgp _
    refine ⟨s1.heap.objs.size, s1.gens.size, _, rfl, sz1, ?_, hgen _ hpushed, Array.getElem?_push_size .., os1, ?_, lim1.keeps fun b o e => Heap.get?_push_of_some _ e, fun b o e => Heap.get?_push_of_some _ (kp1 b o e), ?_⟩
    · show _ < (s1.heap.push _).objs.size
      rw [Heap.size_push]; exact Nat.lt_succ_self _
    · exact AllBare.push (by rw [gen1]; exact e0.bare) rfl
    intro Aw Sx Lx s2 hrw hfr hSx hLx hne hk2 hSo hLo hos hba
    have e0w : Env0 P w K mg base Aw outer s H := ⟨hfr, e0.mod, e0.bs, e0.bsz, e0.funs, e0.frf, e0.hok, e0.bare⟩
    obtain ⟨t, ht, hq⟩ := hbody Aw outer s H vs Q [(s1.heap.objs.size, go)] (hrw.deeper _) hsp
    have I1 : Inv (gcxOf P w K mg base N qual scope f cdv Aw outer s H noX []) [] (L2.start N vs) H s1 := inv_startG S hrw.hd e0w hl r x
    have kp2 : ∀ b o, s1.heap.get? b = some o → s2.heap.get? b = some o := fun b o e => hk2 b o (Heap.get?_push_of_some _ e)
    have I2 : Inv (gcxOf P w K mg base N qual scope f cdv Aw outer s H noX []) [] (L2.start N vs) H s2 :=
      I1.call' (ch := []) (hos.trans os1.symm) (Un.kept kp2) (I1.hok.kept kp2) hba fun b z => by simp at z
    have young : ∀ b, s1.heap.objs.size ≤ b → H b = none ∧ b ≠ s.heap.objs.size ∧ b ∉ frs outer ∧ s.heap.objs.size ≤ b ∧ ∀ y c, (cellsFrom (s.heap.objs.size + 1) scope.names []).lookup y = some c → c ≠ b := fun b hb => by
      refine ⟨I1.hok.fresh hb, Nat.ne_of_gt (Nat.lt_of_lt_of_le lt1 hb), I1.nofs hb, Nat.le_trans sz1 hb, fun y c e z => ?_⟩
      obtain ⟨v, ob, ho, _⟩ := I1.cell y c e
      have := Heap.lt_size ho
      rw [z] at this
      exact absurd (Nat.lt_of_lt_of_le this hb) (Nat.lt_irrefl _)
    have later : ∀ b, (s1.heap.push go).objs.size ≤ b → s1.heap.objs.size < b := fun b hb => by rw [Heap.size_push] at hb; exact hb
    have hSz := later Sx hSx
    have hLz : ∀ l, Lx = some l → s1.heap.objs.size < l := fun l e => later l (hLx l e)
    obtain ⟨cS, heS⟩ := hSo
    obtain ⟨oL, heL, hdL⟩ := hLo
    have hea : s2.heap.get? s1.heap.objs.size = some go := hk2 s1.heap.objs.size go hpushed
    have hgd : ∀ v, go.data ≠ .cell v := fun v q => by rw [hgd0] at q; cases q
    have hG : On (gcxOf P w K mg base N qual scope f cdv Aw outer s H noX [(s1.heap.objs.size, go)]) Sx Lx oL [] [] (L2.start N vs) H s2 := by
      refine ⟨#[], cS, .nil, Inv.pinnedG I2 fun p hp => ?_⟩
      rcases List.mem_append.mp hp with z | z
      · rw [List.mem_singleton.mp z]
        obtain ⟨y1, y2, y3, _, _⟩ := young s1.heap.objs.size (Nat.le_refl _)
        exact ⟨hea, y1, y2, y3, hgd⟩
      · rcases List.mem_cons.mp z with z | z
        · rw [z]
          obtain ⟨y1, y2, y3, _, _⟩ := young Sx (Nat.le_of_lt hSz)
          exact ⟨heS, y1, y2, y3, fun v q => by cases q⟩
        · rw [List.append_nil] at z
          obtain ⟨e1, e2⟩ := mem_pnL z
          obtain ⟨y1, y2, y3, _, _⟩ := young p.1 (Nat.le_of_lt (hLz _ e1))
          rw [e2]
          exact ⟨heL _ e1, y1, y2, y3, hdL⟩
    have far : ∀ b, s1.heap.objs.size < b → Far (gcxOf P w K mg base N qual scope f cdv Aw outer s H noX [(s1.heap.objs.size, go)]) b := fun b hb => by
      obtain ⟨_, y2, _, y4, y5⟩ := young b (Nat.le_of_lt hb)
      exact ⟨y4, y2, y5⟩
    have hpn : ∀ p ∈ [(s1.heap.objs.size, go)], p.1 ≠ Sx ∧ Lx ≠ some p.1 := fun p hp => by
      rw [List.mem_singleton.mp hp]
      exact ⟨Nat.ne_of_lt hSz, fun e => Nat.lt_irrefl _ (hLz _ e)⟩
    have pinned : ∀ {ip : List (Addr × Obj)} {ys : List V} {s' : Shared} {oL' : Obj} {σ' : L2.St} {H' : Hp}, On (gcxOf P w K mg base N qual scope f cdv Aw outer s H noX [(s1.heap.objs.size, go)]) Sx Lx oL' ip ys σ' H' s' → s'.heap.IsGen s1.heap.objs.size s1.gens.size := fun {ip ys s' oL' σ' H'} hI => by
      obtain ⟨acc, cc, _, J⟩ := hI
      exact hgen _ (J.pin (s1.heap.objs.size, go) (List.mem_append_left _ (List.mem_singleton.mpr rfl))).1
    refine seg_func ?_
    refine seg_imp (R := Fin_ (gcxOf P w K mg base N qual scope f cdv Aw outer s H noX [(s1.heap.objs.size, go)]) Sx Lx (fun ys v H' => v = .non ∧ Q ys H') fun _ _ => False)
      (Y := Out (gcxOf P w K mg base N qual scope f cdv Aw outer s H noX [(s1.heap.objs.size, go)]) Sx Lx) (fun n s₀ r s1' hR => ?_) (fun n s₀ v s1' kap kap' hkk hY => ?_) sizeLine ?_
    · cases r with
      | error e => exact False.elim hR
      | ok fl =>
        cases fl with
        | next => exact False.elim hR
        | brk => exact False.elim hR
        | cont => exact False.elim hR
        | ret u =>
          obtain ⟨ys, v, ip, σ', H', oL', hn, h0, hI, rv, ev, hQ⟩ := hR
          subst ev
          obtain rfl : u = Value.none := rv
          obtain ⟨a1, _, _, acc, cc, ra, ea⟩ := hI.list
          have b1 : ∀ l, Lx = some l → H' l = none := fun l e => (hI.place e).1
          have eb : AtL s1' Lx oL' := fun l e => (hI.place e).2.2.2
          obtain ⟨_, _, _, J⟩ := hI
          exact .inl ⟨.inl rfl, H', ys, acc, cc, oL', J.os, J.bare, J.base, J.hok, a1, ea, ra, by omega, b1, h0, eb, hQ⟩
    · obtain ⟨ys, xx, ip, σ', H', oL', hn, h2, h0, hI, h3⟩ := hY
      obtain ⟨_, _, _, acc, cc, ra, ea⟩ := hI.list
      have eb : AtL s1' Lx oL' := fun l e => (hI.place e).2.2.2
      have hg := pinned hI
      obtain ⟨_, _, _, J⟩ := hI
      have hsz : acc.size = ys.length := by
        have e1 := ra.length
        have e2 : acc.toList.length = acc.size := by simp
        omega
      exact ⟨J.os, J.bare, J.nolimit, hg, ⟨acc, cc, ea, by rw [hsz]; exact hn⟩, ⟨oL', h0, eb⟩, fun s' z => hkk _ _ (h3 s' z)⟩
    · refine ht.run Aw Sx Lx [] _ sizeLine [] s2 oL _ [] _ _ id id s2 (L2.start N vs) H _ ⟨hne, hpn, fun p hp => (by simp at hp), far Sx hSz, fun l e => far l (hLz l e), over_func, rfl, rfl, rfl⟩ (Nat.add_zero _) heL ⟨fun n ys s₀ s' fl oL' hn h0 hs => ?_, fun n s₀ e s' hx => ?_⟩ hG hq
      · cases fl with
        | next =>
          obtain ⟨σ', H', hI, hQ⟩ := hs
          exact seg_end (.ok (.ret .none)) ⟨ys, .non, [], σ', H', oL', hn, h0, hI, rfl, rfl, hQ⟩
        | brk => obtain ⟨_, _, _, q⟩ := hs; exact False.elim q
        | cont => obtain ⟨_, _, _, q⟩ := hs; exact False.elim q
        | ret u =>
          obtain ⟨v, σ', H', hI, rv, ev, hQ⟩ := hs
          exact seg_end (.ok (.ret u)) ⟨ys, v, [], σ', H', oL', hn, h0, hI, rv, ev, hQ⟩
      · refine seg_wrap ?_
        rw [over_func]
        refine wpAny_mono (show wpAny (model P w) (Aw.deeper (envOfC qual scope s.heap.objs.size f cdv)) (leaving (envOfC qual scope s.heap.objs.size f cdv) e) (fun _ s'' => CX P w outer H s noX e s'' ∧ ∀ p ∈ [(s1.heap.objs.size, go)], s''.heap.get? p.1 = some p.2) (fun _ _ => False) s' from hx) (fun _ s'' q => ?_) fun _ s'' q => q.elim
        obtain ⟨⟨_, _, _, _, _, _, _, _, _, _, _, _, hW⟩, _⟩ := q
        exact hW.elim
  exact main _ _ _ _ rfl rfl rfl fun h => Heap.get?_push_size _ rfl
end GQ
namespace GQ
open PySem PySem.Spec PyProof.Rows GenW L2
section
variable {X : Cx} {k : Nat} {f C : Addr} {fd : FuncData} {ps : List Str} {sp : SpQ} {dvs : List V} {ds : List Value} {x m : Str} {p pos pos' apos : Pos} {o : Expr} {ta : TE}
abbrev TGq := L2.St → Hp → (List V → Hp → Prop) → Prop
structure PGq (X : Cx) (k : Nat) (e : Expr) (tg : TGq) : Prop where
  run : ∀ (pins : List (Addr × Obj)) (s : Shared) (σ : L2.St) (H : Hp) (cont : List V → Hp → Prop), Inv X pins σ H s → tg σ H cont → wpAny (model X.prog X.w) X.A (eval e X.env)
    (fun u s' => ∃ H1 sc, Inv X pins σ H1 sc ∧ Fresh X.prog X.w k X.stack H1 sc cont u s') X.xe s
theorem PGq.weak {e : Expr} {t u : TGq} (h : PGq X k e t) (w : ∀ σ H Q, u σ H Q → t σ H Q) : PGq X k e u := ⟨fun pins s σ H Q I q => h.run pins s σ H Q I (w _ _ _ q)⟩
theorem run_gq {pins : List (Addr × Obj)} {σ : L2.St} {H : Hp} {s : Shared} {us : List Value} {vs : List V} {cont : List V → Hp → Prop} {E1 : Value → Shared → Prop} (F : GFnQ X.prog X.w X.K X.mg X.base k f fd ps sp) (hr : Room k X.A) (hb : Binds X.K fd ps ds) (hd : Vals dvs ds)
    (I : Inv X pins σ H s) (r : Vals vs us) (h : sp (vs ++ dvs) H cont) :
    wpAny (model X.prog X.w) X.A (call (.ref f) us) (fun u s' => ∃ H1 sc, Inv X pins σ H1 sc ∧ Fresh X.prog X.w k X.stack H1 sc cont u s') E1 s := by
  have r2 : Vals (vs ++ dvs) (us ++ ds) := r.append hd
  have hl2 : (us ++ ds).length = ps.length := by rw [← r2.length]; exact F.len _ _ _ h
  refine wpAny_call (codeAny_mono (F.run X.A X.stack s H ⟨us, []⟩ (us ++ ds) (vs ++ dvs) cont hr I.env0 (hb s us I.kIn hl2) r2 h) fun r s' hq => ?_)
  cases r with
  | error e => exact False.elim hq
  | ok fl =>
    cases fl with
    | ret u => exact ⟨H, s, I, hq⟩
    | next => exact False.elim hq
    | brk => exact False.elim hq
    | cont => exact False.elim hq
def tMethQ (C : Addr) (m : Str) (sp : SpQ) (dvs : List V) (ta : TE) (t : TA) : TGq := fun σ H cont => ta σ H fun x H1 => ∃ a dx fs, x = .ref a ∧ H1 a = some (.ins C dx fs) ∧ fs.lookup m = none ∧
  t σ H1 fun vs H2 => sp (x :: (vs ++ dvs)) H2 cont
def tCallQ (sp : SpQ) (dvs : List V) (t : TA) : TGq := fun σ H cont => t σ H fun vs H1 => sp (vs ++ dvs) H1 cont
theorem pgq_call {e : Expr} {es : List Expr} {t : TA} (F : GFnQ X.prog X.w X.K X.mg X.base k f fd ps sp) (hr : Room k X.A) (hg : Gl X x) (hm : X.mg x = some (.ref f)) (hk : PySem.W.keepIn X.K (.ref f) = true) (hb : ∃ ds, Vals dvs ds ∧ Binds X.K fd ps ds)
    (ha : PA X (e :: es) t) (hdb : (x == ("__debug__" : Str)) = false := by decide) (he : starEach (e :: es) X.env = (false, eval e X.env) :: starEach es X.env := by rfl) (hpl : (backTo pos' (starEach es X.env)).any (·.1) = false := by rfl) :
    PGq X k (.Call (.Name x p) (e :: es) [] pos') (tCallQ sp dvs t) := by
  obtain ⟨ds, hd, hb⟩ := hb
  refine ⟨fun pins s σ H cont I h => ?_⟩
  refine wpAny_Call_Name_kw (ld_glob I hg hm ?_ hdb)
  refine PySem.W.callWith_K (h₀ := X.base) I.ok.mod.kin hk (thn (ha.run pos' pins s σ H _ I h) fun us s1 ⟨vs, H1, I1, r, q⟩ => ⟨I1.kIn, ?_⟩) he hpl
  exact run_gq F hr hb hd I1 r q
def tListQ (tg : TGq) : TE := fun σ H Q => tg σ H fun out H2 => ∀ p, H2 p = none → Q (.ref p) (upd H2 p (.lst out))
end
end GQ
namespace U
abbrev GSt := Env → List D → Option (Env × List D)
def yNil : GSt := fun ρ ys => some (ρ, ys)
def ySeq (a b : GSt) : GSt := fun ρ ys => match a ρ ys with
  | some (ρ1, y1) => b ρ1 y1
  | none => none
def yDo (s : St) : GSt := fun ρ ys => match s ρ with
  | .nx ρ1 => some (ρ1, ys)
  | _ => none
def yYield (e : E) : GSt := fun ρ ys => match e ρ with
  | .ok d ρ1 => if ys.length < 16777216 then some (ρ1, ys ++ [d]) else none
  | _ => none
def yIf (c : E) (a b : GSt) : GSt := fun ρ ys => match c ρ with
  | .ok (.bl true) ρ1 => a ρ1 ys
  | .ok (.bl false) ρ1 => b ρ1 ys
  | _ => none
def yforL (g : Tg) (b : GSt) : List D → Env → List D → Option (Env × List D)
  | [], ρ, ys => some (ρ, ys)
  | d :: ds, ρ, ys => match g d ρ with
    | none => none
    | some ρ1 => match b ρ1 ys with
      | some (ρ2, y2) => yforL g b ds ρ2 y2
      | none => none
def yFor (it : Is) (g : Tg) (b : GSt) : GSt := fun ρ ys => match it ρ with
  | .ok ds ρ1 => yforL g b ds ρ1 ys
  | _ => none
def ywhileN (c : E) (b : GSt) : Nat → Env → List D → Option (Env × List D)
  | 0, _, _ => none
  | n + 1, ρ, ys => match c ρ with
    | .ok (.bl true) ρ1 => (match b ρ1 ys with
      | some (ρ2, y2) => ywhileN c b n ρ2 y2
      | none => none)
    | .ok (.bl false) ρ1 => some (ρ1, ys)
    | _ => none
open Classical in
noncomputable def yWhile (c : E) (b : GSt) : GSt := fun ρ ys => if h : ∃ n, ywhileN c b n ρ ys ≠ none then ywhileN c b (choose h) ρ ys else none
def fnG (n m : Nat) (g : GSt) : Fn := fun ds => if ds.length = n then (match g (ds.map some ++ List.replicate m none) [] with
  | some (ρ, ys) => .ok (.own 0 (.lst ys)) (ρ.take n)
  | none => .bad) else .bad
end U
namespace U
open PySem PySem.Spec PyProof.Rows L2
section
variable {K : PySem.W.Frag} {B B' : Bx} {F F' : Fz} {H H' : Hp} {W : WX} {σ : L2.St} {X : Cx}
def yend (K : PySem.W.Frag) (B : Bx) (D : GEnds) (σ : L2.St) (A : List Addr) (F : Fz) (H : Hp) (r : Option (Env × List U.D)) : Prop := match r with
  | some (ρ', ds') => ∀ ys' σ' F' H' A', Rep K F' H' B σ' ρ' A' → RVs K F' H' ys' ds' → Step A F H A' F' H' → σ'.length = σ.length → D.nx ys' σ' H'
  | none => False
def tDY (K : PySem.W.Frag) (B : Bx) (f : GSt) : TGn := fun D ys σ H => ∃ F ρ A ds, Rep K F H B σ ρ A ∧ RVs K F H ys ds ∧ yend K B D σ A F H (f ρ ds)
theorem yend.before {D : GEnds} {σ σ1 : L2.St} {A A1 : List Addr} {F1 : Fz} {H1 : Hp} {r : Option (Env × List U.D)} (h : yend K B D σ A F H r) (s : Step A F H A1 F1 H1) (l : σ1.length = σ.length) : yend K B D σ1 A1 F1 H1 r := by
  cases r with
  | none => exact h
  | some p =>
    obtain ⟨ρ', ds'⟩ := p
    exact fun ys' σ' F' H' A' r y t e => h ys' σ' F' H' A' r y (s.trans t) (e.trans l)
abbrev WY : WX := fun cls d _ H => GQ.noX cls d H
abbrev DY (X : Cx) (B : Bx) (st : Stmt) (f : GSt) : Prop := GQ.WS X st (tDY X.K B f)
abbrev DYs (X : Cx) (B : Bx) (st : List Stmt) (f : GSt) : Prop := GQ.WSs X st (tDY X.K B f)
variable {st : Stmt} {sts : List Stmt}
theorem y_do {s : U.St} (h : DS X B WY st s) : DY X B st (yDo s) := by
  refine (GQ.ws_ps h).weak fun D ys σ H q => ?_
  obtain ⟨F, ρ, A, ds, rp, ry, q⟩ := q
  refine ⟨F, ρ, A, rp, ?_⟩
  unfold yDo at q
  cases e : s ρ with
  | nx ρ1 =>
    rw [e] at q
    exact fun σ' F' H' A' r t l => q ys σ' F' H' A' r (ry.step rp t) t l
  | _ => rw [e] at q; exact q.elim
theorem y_nil : DYs X B [] yNil := GQ.wss_nil.weak fun D ys σ H q => by
  obtain ⟨F, ρ, A, ds, rp, ry, q⟩ := q
  exact q ys σ F H A rp ry Step.refl rfl
theorem y_cons {a b : GSt} (h : DY X B st a) (hr : DYs X B sts b) : DYs X B (st :: sts) (ySeq a b) := by
  refine (GQ.wss_cons h hr).weak fun D ys σ H q => ?_
  obtain ⟨F, ρ, A, ds, rp, ry, q⟩ := q
  refine ⟨F, ρ, A, ds, rp, ry, ?_⟩
  unfold ySeq at q
  cases e : a ρ ds with
  | none => rw [e] at q; exact q
  | some p =>
    obtain ⟨ρ1, d1⟩ := p
    rw [e] at q
    exact fun ys' σ' F' H' A' r y t l => ⟨F', ρ1, A', d1, r, y, yend.before q t l⟩
theorem y_one {a : GSt} (h : DY X B st a) : DYs X B [st] a := by
  refine (y_cons h y_nil).weak fun D ys σ H q => ?_
  obtain ⟨F, ρ, A, ds, rp, ry, q⟩ := q
  refine ⟨F, ρ, A, ds, rp, ry, ?_⟩
  unfold ySeq
  cases e : a ρ ds with
  | none => rw [e] at q; exact q
  | some p => rw [e] at q; exact q
theorem y_yield {e : Expr} {yp pos : Pos} {f : E} (h : DE X B WY e f) (hco : X.env.scope.isCoroutine = false := by rfl) (hi : interactive X.env = false := by rfl) : DY X B (.Expr (.Yield (some e) yp) pos) (yYield f) := by
  refine (GQ.ws_yield h hco hi).weak fun D ys σ H q => ?_
  obtain ⟨F, ρ, A, ds, rp, ry, q⟩ := q
  unfold yYield at q
  cases e1 : f ρ with
  | bad => rw [e1] at q; exact q.elim
  | exc x ρ1 => rw [e1] at q; exact q.elim
  | ok d ρ1 =>
    rw [e1] at q
    simp only at q
    by_cases hl : ds.length < 16777216
    case neg => rw [if_neg hl] at q; exact q.elim
    case pos =>
      rw [if_pos hl] at q
      refine ⟨by rw [ry.len, sizeLine_eq]; exact hl, F, ρ, A, rp, ?_⟩
      rw [e1]
      exact fun v F' H' A' r vr t => q (ys ++ [v]) σ F' H' A' r (RVs.app (ry.step rp t) (by simp only [RVs]; exact ⟨vr, trivial⟩)) t rfl
theorem y_if {test : Expr} {x y : List Stmt} {pos : Pos} {c : E} {a b : GSt} (hc : DT X B WY test c) (ha : DYs X B x a) (hb : DYs X B y b) : DY X B (.If test x y pos) (yIf c a b) := by
  refine (GQ.ws_if hc ha hb).weak fun D ys σ H q => ?_
  obtain ⟨F, ρ, A, ds, rp, ry, q⟩ := q
  refine ⟨F, ρ, A, rp, ?_⟩
  unfold yIf at q
  cases e1 : c ρ with
  | bad => rw [e1] at q; exact q.elim
  | exc x ρ1 => rw [e1] at q; exact q.elim
  | ok d ρ1 =>
    rw [e1] at q
    cases d with
    | bl k =>
      refine ⟨k, rfl, fun F1 H1 A1 r1 s1 => ?_⟩
      cases k with
      | true =>
        rw [if_pos rfl]
        exact ⟨F1, ρ1, A1, ds, r1, ry.step rp s1, yend.before q s1 rfl⟩
      | false =>
        rw [if_neg (by decide)]
        exact ⟨F1, ρ1, A1, ds, r1, ry.step rp s1, yend.before q s1 rfl⟩
    | _ => exact q.elim
theorem y_for {tg iter : Expr} {body : List Stmt} {it : Is} {g : Tg} {gt : TG} {b : GSt} {pos : Pos} {ks : List Nat} (hg : WG X.K B ks g gt) (hp : PassesOwn (model X.prog X.w) X.A X.env X.xe) (hc : X.calm = true) (hi : DI X B WY tg iter it) (ht : PG X tg gt) (hb : DYs X B body b)
    (hs : ∀ x, foldedSetIterable iter X.env x = pure x := by intro _; rfl) : DY X B (.For tg iter body [] pos) (yFor it g b) := by
  refine (GQ.ws_for hp hc hi ht hb hs).weak fun D ys σ H q => ?_
  obtain ⟨F, ρ, A, ds0, rp, ry, h⟩ := q
  refine ⟨F, ρ, A, rp, ?_⟩
  unfold yFor at h
  cases e1 : it ρ with
  | bad => rw [e1] at h; exact h
  | exc x ρ1 => rw [e1] at h; exact h.elim
  | ok ds ρ1 =>
    rw [e1] at h
    intro J F1 H1 A1 r1 y s1
    have h1 : yend X.K B D σ A1 F1 H1 (yforL g b ds ρ1 ds0) := yend.before h s1 rfl
    refine ⟨fun i m ys' σ' H' => m + i = ds.length ∧ σ'.length = σ.length ∧ ∃ F' ρ' A' dy, Rep X.K F' H' B σ' ρ' A' ∧ RVs X.K F' H' ys' dy ∧ Step A1 F1 H1 A' F' H' ∧ yend X.K B D σ' A' F' H' (yforL g b (ds.drop i) ρ' dy), ⟨ds.length, rfl, rfl, F1, ρ1, A1, ds0, r1, ry.step rp s1, Step.refl, h1⟩, ?_⟩
    rintro i m ys2 σ2 H2 ⟨em, l2, F2, ρ2, A2, dy2, r2, ry2, s2, h2⟩
    have yy := y F2 H2 s2.mono fun a o f e => s2.keep a o e fun ha => r1.nf a ha f
    by_cases hi : i < ds.length
    · right
      have hd : ds.drop i = ds[i] :: ds.drop (i + 1) := List.drop_eq_getElem_cons hi
      obtain ⟨go, yl⟩ := yy.1 i ds[i] (List.getElem?_eq_getElem hi)
      rw [hd] at h2
      simp only [yforL] at h2
      refine ⟨go, ?_⟩
      cases e2 : g ds[i] ρ2 with
      | none => rw [e2] at h2; exact h2.elim
      | some ρ3 =>
        rw [e2] at h2
        simp only at h2
        refine ⟨fun ys' σ' H' => σ'.length = σ.length ∧ ∃ F' ρ' A' dy, Rep X.K F' H' B σ' ρ' A' ∧ RVs X.K F' H' ys' dy ∧ Step A1 F1 H1 A' F' H' ∧ yend X.K B D σ' A' F' H' (yforL g b (ds.drop (i + 1)) ρ' dy), fun ys' σ' H' ⟨l', q⟩ => ⟨m - 1, by omega, by omega, l', q⟩, fun x H3 yd => ?_⟩
        obtain ⟨F3, g3, rv⟩ := yl x H3 yd
        refine hg F3 H3 σ2 ρ2 ρ3 A2 x ds[i] _ (r2.grow g3) rv e2 fun σ3 A3 r3 sub l3 _ => ?_
        have s3 : Step A2 F2 H2 A3 F3 H3 := g3.step.sub sub
        refine ⟨F3, ρ3, A3, dy2, r3, ry2.step r2 s3, ?_⟩
        cases e3 : b ρ3 dy2 with
        | none => rw [e3] at h2; exact h2
        | some p =>
          obtain ⟨ρ4, dy4⟩ := p
          rw [e3] at h2
          exact fun ys4 σ4 F4 H4 A4 r4 ry4 s4 l4 => ⟨by omega, F4, ρ4, A4, dy4, r4, ry4, (s2.trans s3).trans s4, yend.before h2 (s3.trans s4) (by omega)⟩
    · left
      rw [List.drop_of_length_le (by omega)] at h2
      exact ⟨yy.2 i (by omega), h2 ys2 σ2 F2 H2 A2 r2 ry2 Step.refl rfl⟩
def spQ (K : PySem.W.Frag) (f : Fn) : GQ.SpQ := fun vs H cont => ∃ (F : Fz) (ds : List D) (A : List Addr) (B : Bx), OVps K F H B vs ds A ∧ A.Nodup ∧ (∀ a ∈ A, ¬ F a) ∧ (∀ a, F a → ∃ o, H a = some o) ∧ match f ds with
  | .ok (.own 0 (.lst out)) o => ∀ ys F' H' σ' A', OVS K F' H' B σ' o A' → A'.Nodup → (∀ a ∈ A', ¬ F' a) → (∀ a, F' a → ∃ o, H' a = some o) → RVs K F' H' ys out → Step A F H A' F' H' → cont ys H'
  | _ => False
theorem fnG_cases {n m : Nat} {g : GSt} (ds : List D) : (∃ out o, fnG n m g ds = .ok (.own 0 (.lst out)) o) ∨ fnG n m g ds = .bad := by
  unfold fnG
  split
  · split
    · exact .inl ⟨_, _, rfl⟩
    · exact .inr rfl
  · exact .inr rfl
theorem spQ_of {f : Fn} (hf : ∀ ds, (∃ out o, f ds = .ok (.own 0 (.lst out)) o) ∨ f ds = .bad) {vs : List V} {H : Hp} {Q : VK} {E : XK} (h : spD K f vs H Q E) : spQ K f vs H (fun out H2 => ∀ p, H2 p = none → Q (.ref p) (upd H2 p (.lst out))) := by
  obtain ⟨F, ds, A, B, o, nd, nf, dm, h⟩ := h
  refine ⟨F, ds, A, B, o, nd, nf, dm, ?_⟩
  rcases hf ds with ⟨out, oo, e⟩ | e
  · rw [e] at h ⊢
    intro ys F' H' σ' A' o1 nd1 nf1 dm1 ry st p hp
    have g : Grow F' H' F' (upd H' p (.lst ys)) := Grow.raw hp
    have hA : p ∉ A' := fun z => by
      obtain ⟨o, q⟩ := o1.there p z
      rw [hp] at q; cases q
    have hF : ¬ F' p := fun z => by
      obtain ⟨o, q⟩ := dm1 p z
      rw [hp] at q; cases q
    have s2 := st.trans (g.step (A := A'))
    have up : ∀ a o, H' a = some o → upd H' p (.lst ys) a = some o := fun a o e => by
      have : a ≠ p := fun z => by rw [z, hp] at e; cases e
      rw [upd_ne this]; exact e
    refine h (.ref p) F' _ σ' A' [p] (o1.stay (fun _ h => h) fun a o _ e => up a o e) ?_ (fun a ha z => ?_) (fun a ha => ?_) ?_ ⟨s2.mono, s2.keep, s2.froz, fun a ha => ?_⟩
    · rw [List.nodup_append]
      exact ⟨nd1, by simp, fun a ha b hb z => hA (by rw [List.mem_singleton] at hb; rw [← hb, ← z]; exact ha)⟩
    · rcases List.mem_append.mp ha with q | q
      · exact nf1 a q z
      · rw [List.mem_singleton] at q; rw [q] at z; exact hF z
    · obtain ⟨o, e⟩ := dm1 a ha
      exact ⟨o, up a o e⟩
    · simp only [OV]
      exact ⟨p, ys, [], rfl, upd_same, rfl, (ry.grow g).ovs⟩
    · rcases List.mem_append.mp ha with z | z
      · exact s2.own a z
      · rw [List.mem_singleton] at z
        subst z
        by_cases q : a ∈ A
        · exact .inl q
        · refine .inr ?_
          cases z : H a with
          | none => rfl
          | some o => rw [st.keep a o z q] at hp; cases hp
  · rw [e] at h; exact h.elim
theorem fn_okG {P : Program} {w : World} {mg : Str → Option Value} {base : Heap} {x qual : Str} {params : Arguments} {body : List Stmt} {scope : Scope} {dvs : List V} {kws : List (Str × V)} {f : Addr} {fd : FuncData} {N ps : List Str} {k n m : Nat} {b : GSt}
    (Fd : FunD K x qual params body scope dvs kws f fd) (S : GScope N ps scope) (hn : ps.length = n) (hN : N.length = n + m)
    (hb : ∀ (cdv : Value) (A : Around) (outer : List PySem.Env) (s : Shared) (H : Hp) (pn : List (Addr × Obj)) (B : Bx), Room k (A.deeper (envOfC qual scope s.heap.objs.size f cdv)) →
      DYs (gcxOf P w K mg base N qual scope f cdv A outer s H GQ.noX pn) B body b) : GQ.GFnQ P w K mg base (k + 1) f fd ps (spQ K (fnG n m b)) := by
  obtain ⟨oc, od, dV, kV, doc, pm, an, cdv, ct, osl, rfl, lk, hcd, _, _⟩ := Fd.ex
  refine GQ.gfnQ_of lk hcd S (fun vs H Q h => ?_) fun A outer s H vs Q pn hr h => ?_
  · obtain ⟨F, ds, A, B, o, nd, nf, dm, h⟩ := h
    unfold fnG at h
    by_cases c : ds.length = n
    · rw [o.len, c, hn]
    · rw [if_neg c] at h; exact h.elim
  · obtain ⟨F, ds, A', B, o, nd, nf, dm, h⟩ := h
    refine ⟨_, hb cdv A outer s H pn B hr, ?_⟩
    unfold fnG at h
    by_cases c : ds.length = n
    case neg => rw [if_neg c] at h; exact h.elim
    case pos =>
      rw [if_pos c] at h
      have hl := o.len
      have es : L2.start N vs = vs.map some ++ List.replicate m none := by
        unfold L2.start
        rw [hN, hl, c, Nat.add_sub_cancel_left]
      refine ⟨F, ds.map some ++ List.replicate m none, A', [], ⟨by rw [es]; exact o.start m, nd, nf, dm⟩, by simp only [RVs], ?_⟩
      cases e : b (ds.map some ++ List.replicate m none) [] with
      | none => rw [e] at h; exact h.elim
      | some p =>
        obtain ⟨ρ, out⟩ := p
        rw [e] at h
        intro ys' σ' F' H' A2 r ry st _
        obtain ⟨A3, A4, rfl, o3⟩ := r.sl.take n
        have nd' := r.nd
        simp only [List.nodup_append] at nd'
        exact h ys' F' H' _ A3 o3 nd'.1 (fun a ha => r.nf a (List.mem_append_left _ ha)) r.dm ry (st.sub fun a ha => List.mem_append_left _ ha)
variable {e : Expr} {f : E}
theorem d_genC {n k : Nat} {g : GSt} {ag : List Ag} {dd : List D} {dvs : List V} (hd : ∀ F H, RVs X.K F H dvs dd)
    (h : PE X e (GQ.tListQ (GQ.tCallQ (spQ X.K (fnG n k g)) dvs (tDG X.K B W ag)))) : DM X B W e (eCall (fnG n k g) ag dd) := by
  refine h.weak fun σ H Q q => ?_
  exact tDG_mono (w_call hd σ H Q q) fun vs H1 q => spQ_of fnG_cases q
end
end U
namespace GQ
open PySem PySem.Spec PyProof.Rows GenW L2
theorem drainQ {P : Program} {w : World} {outer : List PySem.Env} {H : Hp} {sc : Shared} {Q : List V → Hp → Prop} {A : Around} {R : Result → Shared → Prop} {S a : Addr} {g : Nat} {res : Value}
    (hh : A.handled = none) (hd : A.depth < recursionLimit) (hSa : S ≠ a) (hSc : S ≠ cStatics)
    (hend : ∀ s' acc c H' ys, s'.heap.get? S = some (lstObj acc c) → Vals ys acc.toList → ys.length ≤ sizeLine → s'.os = sc.os → AllBare s'.gens → Un (frs outer) [] H H' sc.heap s'.heap → HOk P w H' s'.heap → H' S = none → Q ys H' → R (.ok (.ret res)) s') :
    ∀ (m : Nat) (s : Shared), s.heap.IsGen a g → s.heap.NoLimit →
      (∃ gs, s.gens[g]? = some gs ∧ gs.Goes (model P w) A.in1.in1 (REnd P w outer H sc S none Q) (Handed sc S none a g) m (.send .none) (s.setGen g .running)) →
      codeAny (model P w) A (.builtin "list.extend.loop" ⟨[.ref S, .ref a, res], []⟩) R s := by
  have goes : ∀ {gs : GenState} {B : Around} {n : Nat} {r : Resume} {s : Shared}, gs.Goes (model P w) B (REnd P w outer H sc S none Q) (Handed sc S none a g) n r s →
      gs.Goes (model P w) B (fun n s₀ r s1 => ((r = .ok (.ret .none) ∨ r = .ok .next) ∧ Ended P w outer H sc S none Q n s₀ s1) ∨ ∃ e, r = .error e ∧ False) (Handed sc S none a g) n r s := fun h => h
  intro m
  induction m with
  | zero =>
    intro s hg hl ⟨gs, hgs, hgo⟩
    refine codeAny_builtin F.entry_extend_loop ?_
    rw [Around.under_plainId F.plain_extend_loop _]
    show wpAny _ A.in1 (pyNext (.ref a) >>= _) _ _ s
    refine wpAny_bind (next_genG (A := A.in1) (F := Ended P w outer H sc S none Q) (Er := fun _ _ => False) hh hl hd hg hgs (goes hgo) (fun v s₁ gs' hbare hv => ?_) (fun s₁ hp h' hk => ?_) fun e s₁ he => he.elim)
    · obtain ⟨_, hb1, _, _, ⟨acc, c, hS1, _⟩, _, hk⟩ := hv
      refine False.elim (hk { s₁ with heap := s₁.heap.update S (Obj.mapSeq (·.push v)) } ⟨rfl, hb1, fun b ob q1 q2 e => (Heap.get?_update_other _ _ (Ne.symm q1)).trans e, fun acc' c' e => ?_, fun l e => by cases e⟩)
      rw [hS1] at e; cases e
      exact ⟨_, Heap.get?_update_self _ hS1 rfl⟩
    · obtain ⟨H', ys, acc, c, oL, os1, hb1, un, hok, hSn, hS1, hv, hle, _, _, _, hQ⟩ := hp
      exact wpAny_pure (hend _ acc c H' ys (hk _ _ hS1) hv hle os1 (allBare_setGen hb1 rfl) (un.trans (Un.kept hk)) (hok.kept hk) hSn hQ)
  | succ m ih =>
    intro s hg hl ⟨gs, hgs, hgo⟩
    have hgl : g < s.gens.size := (Array.getElem?_eq_some_iff.mp hgs).1
    refine codeAny_builtin F.entry_extend_loop ?_
    rw [Around.under_plainId F.plain_extend_loop _]
    show wpAny _ A.in1 (pyNext (.ref a) >>= _) _ _ s
    refine wpAny_bind (wpAny_gsz (n := g + 1) hgl (next_genG (A := A.in1) (F := Ended P w outer H sc S none Q) (Er := fun _ _ => False) hh hl hd hg hgs (goes hgo) (fun v s₁ gs' hbare hv => ?_) (fun s₁ hp h' hk => ?_) fun e s₁ he => he.elim))
    · intro hsz
      obtain ⟨os1, hb1, hl1, hg1, ⟨acc, c, hS1, hasz⟩, _, hk⟩ := hv
      have hasz' : acc.size < sizeLine := by omega
      show wpAny _ A.in1 (updateSeq S (·.push v) >>= _) _ _ _
      refine wpAny_bind ?_
      refine wpAny_updateSeq hS1 rfl (wpAny_pure ⟨plainId_quiet F.plain_extend_loop _, ?_⟩) (Nat.le_of_lt hasz') (by show (acc.push v).size ≤ sizeLine + 1; rw [Array.size_push]; omega)
      have keep3 : ∀ b o, b ≠ S → s₁.heap.get? b = some o → (s₁.heap.update S (Obj.mapSeq (·.push v))).get? b = some o := fun b o hbS e => (Heap.get?_update_other _ _ (Ne.symm hbS)).trans e
      have hsz1 : g < s₁.gens.size := by
        have q : (s₁.setGen g gs').gens.size = s₁.gens.size := setGen_size _ _ _
        have hsz' : g + 1 ≤ (s₁.setGen g gs').gens.size := hsz
        omega
      refine ih { s₁.setGen g gs' with heap := s₁.heap.update S (Obj.mapSeq (·.push v)) } ?_ ?_ ⟨gs', setGen_at hsz1, ?_⟩
      · obtain ⟨o, nm, qn, ho, r⟩ := hg1
        exact ⟨o, nm, qn, keep3 a o (Ne.symm hSa) ho, r⟩
      · obtain ⟨mc, hns, hnn⟩ := hl1
        exact ⟨mc, hns.at' fun o e => keep3 _ o (Ne.symm hSc) e, hnn⟩
      · refine hk _ ⟨rfl, allBare_setGen (s := s₁.setGen g gs') (allBare_setGen hb1 hbare) rfl, fun b ob q1 q2 e => keep3 b ob q1 e, fun acc' c' e => ?_, fun l e => by cases e⟩
        rw [hS1] at e; cases e
        exact ⟨_, Heap.get?_update_self _ hS1 rfl⟩
    · intro hsz
      obtain ⟨H', ys, acc, c, oL, os1, hb1, un, hok, hSn, hS1, hv, hle, _, _, _, hQ⟩ := hp
      exact wpAny_pure (hend _ acc c H' ys (hk _ _ hS1) hv hle os1 (allBare_setGen hb1 rfl) (un.trans (Un.kept hk)) (hok.kept hk) hSn hQ)
theorem call_listQ {P : Program} {w : World} {outer : List PySem.Env} {H : Hp} {sc s : Shared} {Q : List V → Hp → Prop} {A : Around} {k : Nat} {u : Value} {Q' : Value → Shared → Prop} {E : Value → Shared → Prop}
    (hr : Room (k + 3) A) (hfr : A.frames = some outer) (h : Fresh P w k outer H sc Q u s)
    (hQ : ∀ S s' acc c H' ys, s.heap.objs.size ≤ S → s'.heap.get? S = some (lstObj acc c) → Vals ys acc.toList → ys.length ≤ sizeLine → s'.os = sc.os → AllBare s'.gens → Un (frs outer) [] H H' sc.heap s'.heap → HOk P w H' s'.heap → H' S = none → Q ys H' → Q' (.ref S) s') :
    wpAny (model P w) A (call (.type "list") [u]) Q' E s := by
  obtain ⟨a, g, c, rfl, ha1, ha2, hg, hgs, hos, hb, hl, hkp, wake⟩ := h
  have hSa : s.heap.objs.size ≠ a := Nat.ne_of_gt ha2
  have hcl : cStatics < s.heap.objs.size := let ⟨_, hn, _⟩ := hl; hn.lt
  have hSc : s.heap.objs.size ≠ cStatics := Nat.ne_of_gt hcl
  refine callType_codes (Q₁ := fun obj s₁ => obj = .ref s.heap.objs.size ∧ s₁ = { s with heap := s.heap.push { cls := .type "list", data := .seq #[] } }) F.called_list (F.typeCall_list_1 _) F.entry_list_init
    (code_list_new _ ⟨rfl, rfl⟩) fun obj s₁ h₁ => ?_
  obtain ⟨rfl, rfl⟩ := h₁
  have hS : (s.heap.push { cls := .type "list", data := .seq #[] }).get? s.heap.objs.size = some { cls := .type "list", data := .seq #[] } := Heap.get?_push_size _ rfl
  refine ⟨⟨_, hS, rfl⟩, F.args_list_init_2 _ _, ?_⟩
  show wpAny _ A.in1.in1 (do let old ← Builtin.List.listItems (.ref s.heap.objs.size); Builtin.List.listUpdate (.ref s.heap.objs.size) (fun _ => #[]); letGo old.toList.reverse; Builtin.List.listExtendWith (.ref s.heap.objs.size) (.ref a) .none) _ _ _
  refine wpAny_bind ?_
  unfold Builtin.List.listItems
  refine wpAny_bind (wpAny_seqItems hS rfl (wpAny_pure ?_))
  show wpAny _ A.in1.in1 (updateSeq s.heap.objs.size (fun _ => #[]) >>= fun _ => letGo (#[] : Array Value).toList.reverse >>= fun _ => Builtin.List.listExtendWith (.ref s.heap.objs.size) (.ref a) .none) _ _ _
  refine wpAny_bind (wpAny_updateSeq hS rfl ?_)
  have hS2 := Heap.get?_update_self (Obj.mapSeq (fun _ => (#[] : Array Value))) hS rfl
  refine wpAny_bind (wpAny_letGo ?_)
  unfold Builtin.List.listExtendWith
  have up : ∀ (h : Heap) (f : Obj → Obj), (∀ b o, s.heap.get? b = some o → h.get? b = some o) → ∀ b o, s.heap.get? b = some o → (h.update s.heap.objs.size f).get? b = some o := fun h f q b o e =>
    (Heap.get?_update_other _ _ (Ne.symm (Nat.ne_of_lt (Heap.lt_size e)))).trans (q b o e)
  have k1 : ∀ b o, s.heap.get? b = some o → (s.heap.push { cls := .type "list", data := .seq #[] }).get? b = some o := fun b o e => Heap.get?_push_of_some _ e
  have k2 := up _ (Obj.mapSeq (fun _ => (#[] : Array Value))) k1
  have gty : ∀ {h : Heap}, (∀ b o, s.heap.get? b = some o → h.get? b = some o) → h.IsGen a g := fun {h} q => hg.keeps q
  refine wpAny_bind (wpAny_typeOf (Heap.IsGen.typeIs (s := { s with heap := _ }) (gty k2)) ?_)
  have h1 : Builtin.List.listSameRef (.ref s.heap.objs.size) (.ref a) = false := by simp [Builtin.List.listSameRef, hSa]
  have h2 : (Value.type "generator" == Value.type "list") = false := by decide
  have h3 : (Value.type "generator" == Value.type "tuple") = false := by decide
  simp only [h1, h2, h3, Bool.or_false, Bool.false_eq_true, if_false]
  refine wpAny_bind (wpAny_pyIter_gen (s := { s with heap := _ }) (gty k2) ?_)
  refine wpAny_bind (wpAny_holding ?_)
  unfold Builtin.List.listLengthHint
  refine wpAny_bind (wpAny_specialOf (Heap.IsGen.typeIs (s := { s with heap := _ }) (gty k2)) F.gen_no_len ?_)
  show wpAny _ A.in1.in1 (specialOf (Value.ref a) (Str.ofString "__length_hint__") >>= _) _ _ _
  refine wpAny_bind (wpAny_specialOf (Heap.IsGen.typeIs (s := { s with heap := _ }) (gty k2)) F.gen_no_hint ?_)
  refine wpAny_pure ?_
  show wpAny _ A.in1.in1 (rule "list.extend.makes-room" >>= fun _ => Builtin.List.listTouch (.ref s.heap.objs.size) >>= fun _ =>
    again (.builtin "list.extend.loop" ⟨[.ref s.heap.objs.size, .ref a, .none], []⟩)) _ _ _
  refine wpAny_bind (wpAny_rule ?_)
  refine wpAny_bind ?_
  show wpAny _ A.in1.in1 (updateSeq s.heap.objs.size (·.push .none) >>= fun _ => updateSeq s.heap.objs.size (·.pop)) _ _ _
  refine wpAny_bind (wpAny_updateSeq hS2 rfl ?_)
  have hS3 := Heap.get?_update_self (Obj.mapSeq (·.push Value.none)) hS2 rfl
  refine wpAny_updateSeq (hz := by seq_fits) hS3 rfl ?_
  have hS4 := Heap.get?_update_self (Obj.mapSeq (·.pop)) hS3 rfl
  have k4 := up _ (Obj.mapSeq (·.pop)) (up _ (Obj.mapSeq (·.push Value.none)) k2)
  refine wpAny_pure ⟨plainId_quiet F.plain_extend_loop _, ?_⟩
  refine drainQ (P := P) (w := w) (outer := outer) (H := H) (sc := sc) (Q := Q) (A := A.in1) (g := g) hr.hd (by have := hr.dp; show A.depth < _; omega) hSa hSc
    (fun s' acc c H' ys q1 q2 q3 q4 q5 q6 q7 q8 q9 => ⟨rfl, hQ _ s' acc c H' ys (Nat.le_refl _) q1 q2 q3 q4 q5 q6 q7 q8 q9⟩)
    sizeLine _ (gty k4) (hl.keeps k4) ⟨_, hgs, rfl, ?_⟩
  refine wake _ _ none _ ⟨hr.hd, ?_, ?_⟩ hfr (Nat.le_refl _) (fun l e => by cases e) (fun e => by cases e) k4 ⟨_, hS4⟩ ⟨lstObj #[] 0, (fun l e => by cases e), fun v e => by cases e⟩ hos (allBare_setGen (s := { s with heap := _ }) hb rfl)
  · have := hr.dp
    show A.depth + 3 * k + 5 < _
    omega
  · have := hr.un
    show A.units + 1 + 1 + 1 + 16 * k + 200 < _
    omega
section
variable {X : Cx} {k : Nat} {p pos : Pos}
theorem pe_listQ {e : Expr} {tg : TGq} {nm : Str} (h : PGq X k e tg) (hr : Room (k + 3) X.A) (hg : Gl X nm) (hmg : X.mg nm = none) (hv : bootBuiltins nm = some (.type "list")) (hnm : nm ≠ "__name__" := by decide) (hdb : (nm == ("__debug__" : Str)) = false := by decide)
    (he : starEach [e] X.env = (false, eval e X.env) :: starEach [] X.env := by rfl) : PE X (.Call (.Name nm p) [e] [] pos) (tListQ tg) := by
  refine ⟨fun pins s σ H Q I hq => ?_⟩
  refine wpAny_Call_Name_kw (ld_blt I hg hmg hv ?_ hnm hdb)
  refine PyProof.Rows.callWith_type1 ?_ he rfl
  rw [he]
  show wpAny _ _ (spliced ((false, eval e X.env) :: backTo pos (starEach [] X.env))) _ _ s
  refine Calls.spliced_cons (thn (h.run pins s σ H _ I hq) fun u s1 ⟨H1, sc, I1, hG⟩ => ?_)
  refine Calls.spliced_nil ?_
  have hsz : sc.heap.objs.size ≤ s1.heap.objs.size := by
    obtain ⟨a, g, c, _, h1, h2, _⟩ := hG
    exact Nat.le_trans h1 (Nat.le_of_lt h2)
  refine call_listQ hr I1.ok.frames hG (fun S s' acc c H' ys q0 q1 q2 hl q3 q4 q5 q6 q7 q8 => ?_)
  exact ⟨.ref S, upd H' S (.lst ys), I1.drained (Nat.le_trans hsz q0) hl q1 q2 .nil q3 q4 q5 q6 q7, rfl, q8 S q7⟩
end
end GQ
namespace LT
open PySem PySem.Spec PyProof.Rows L2
def sgV (c : Nat) : V := .str ⟨#[c]⟩
theorem call_list_txt {X : Cx} (hc : X.calm = true) : CallR X (.type "list") (fun xs H Q => ∃ z : Str, xs = [.str z] ∧ z.cps.size ≤ sizeLine ∧ ∀ l, H l = none → Q (.ref l) (upd H l (.lst (z.cps.toList.map sgV)))) := by
  intro pins s σ H xs us Q I r h
  obtain ⟨z, rfl, hz, q⟩ := h
  obtain ⟨u, rfl, t, rfl⟩ := vals1 r
  refine PySem.call_list_str (I.ok.hd hc) z t (fun h' tk acc c' hk e hi => ?_) hz
  refine ⟨.ref s.heap.objs.size, upd H s.heap.objs.size (.lst (z.cps.toList.map sgV)), I.laid hk (Nat.le_refl _) ⟨by rw [List.length_map, Array.length_toList]; exact hz, acc.toList, c', ?_, by rw [Array.toArray_toList]; exact e⟩, rfl, q _ (I.hok.fresh (Nat.le_refl _))⟩
  refine vals_of_idx _ _ (by rw [List.length_map, Array.length_toList, Array.length_toList]; exact hi.1) fun j u hj => ?_
  obtain ⟨c, t', hc, rfl⟩ := hi.2 j u (by rw [← Array.getElem?_toList]; exact hj)
  exact ⟨sgV c, by rw [List.getElem?_map, Array.getElem?_toList, hc]; rfl, ⟨_, rfl⟩⟩
end LT
namespace U
open PySem PySem.Spec PyProof.Rows L2
def oLstS : List D → Option D
  | [.str l] => if l.length ≤ cap then some (.own 0 (.lst (l.map fun c => .str [c]))) else none
  | _ => none
section
variable {K : PySem.W.Frag}
theorem p_lstS : PNM K oLstS (fun xs H Q => ∃ z : Str, xs = [.str z] ∧ z.cps.size ≤ sizeLine ∧ ∀ l, H l = none → Q (.ref l) (upd H l (.lst (z.cps.toList.map LT.sgV)))) := by
  intro F H xs ds d Q r e q
  unfold oLstS at e; split at e
  · split at e
    · rename_i l h
      cases e
      obtain ⟨v, rfl, rv⟩ := r.one
      simp only [RV] at rv
      have hc : ∀ (l : List Nat), (∀ c ∈ l, c < 1114112) → RVs K F H (l.map LT.sgV) (l.map fun c => D.str [c]) := by
        intro l
        induction l with
        | nil => intro _; simp only [List.map_nil, RVs]
        | cons c l ih =>
          intro hk
          simp only [List.map_cons, RVs]
          refine ⟨?_, ih fun x hx => hk x (List.mem_cons_of_mem _ hx)⟩
          simp only [RV]
          exact ⟨rfl, fun x hx => by rw [List.mem_singleton.mp hx]; exact hk c List.mem_cons_self⟩
      exact ⟨_, by rw [rv.1], by show (S l).length ≤ _; rw [S_length, sizeLine_eq]; exact h, fun a ha => q a _ _ rfl ha (hc l rv.2)⟩
    · cases e
  · cases e
end
end U
namespace LC
open PySem PySem.Spec PyProof.Rows L2
def eqS (k : Str) : Value → Bool
  | .str s _ => decide (s = k)
  | _ => false
def rCntS (K : PySem.W.Frag) : V → List V → Hp → VK → Prop := fun x xs H Q => ∃ (p : Addr) (ss : List Str) (k : Str), x = .ref p ∧ xs = [.str k] ∧ SqL K H p (ss.map V.str) ∧ Q (.int ((ss.countP fun s => decide (s = k) : Nat) : Int)) H
end LC
namespace U
open PySem PySem.Spec PyProof.Rows L2
def ePop (i : Nat) (a : E) : E := fun ρ => if isOL ρ[i]? then (a ρ).bind fun x ρ1 => (match ρ1[i]?, x with
  | some (some (.own t (.lst l))), .int j => if 0 ≤ j ∧ j < l.length ∧ allPlain l = true ∧ l.length ≤ cap then (match l[j.toNat]? with
    | some d => .ok d (ρ1.set i (some (.own t (.lst (l.eraseIdx j.toNat)))))
    | none => .bad) else .bad
  | _, _ => .bad) else .bad
def eLs (o : D → D → Option D) (a b : E) : E := fun ρ => (a ρ).bind fun x ρ1 => match x with
  | .lst l => (b ρ1).bind fun y ρ2 => lift (o (.lst l) y) ρ2
  | _ => .bad
def oIdxI : D → D → Option D
  | .lst l, .int m => (match intsD l with
    | some ns => if ns.length ≤ cap then (ns.findIdx? fun n => n == m).map fun j => .int (j : Nat) else none
    | none => none)
  | _, _ => none
def txtsD : List D → Option (List (List Nat))
  | [] => some []
  | .str l :: ds => (txtsD ds).map (l :: ·)
  | _ => none
def oCntS : D → D → Option D
  | .lst l, .str k => (match txtsD l with
    | some ls => some (.int ((ls.countP fun s => decide (s = k) : Nat) : Int))
    | none => none)
  | _, _ => none
section
variable {K : PySem.W.Frag} {B : Bx} {W : WX} {F : Fz} {H : Hp}
theorem pl_tl {d : D} {ds : List D} (h : allPlain (d :: ds) = true) : allPlain ds = true := by
  simp only [allPlain, Bool.and_eq_true] at h
  exact h.2
theorem pl_ovs : ∀ {vs : List V} {ds : List D} {A : List Addr}, allPlain ds = true → OVs K F H vs ds A → RVs K F H vs ds
  | [], [], A, _, _ => by simp only [RVs]
  | v :: vs, d :: ds, A, hp, o => by
    simp only [OVs] at o
    obtain ⟨A1, A2, o1, o2, _⟩ := o
    have hd := allPlain_mem hp d List.mem_cons_self
    simp only [RVs]
    refine ⟨?_, pl_ovs (pl_tl hp) o2⟩
    cases d with
    | own t d => cases hd
    | _ => simp only [OV] at o1; exact o1.2
  | [], _ :: _, _, _, o => by simp only [OVs] at o
  | _ :: _, [], _, _, o => by simp only [OVs] at o
theorem ovs_nil : ∀ {vs : List V} {ds : List D} {A : List Addr}, allPlain ds = true → OVs K F H vs ds A → A = []
  | [], [], A, _, o => by simp only [OVs] at o; exact o
  | v :: vs, d :: ds, A, hp, o => by
    simp only [OVs] at o
    obtain ⟨A1, A2, o1, o2, rfl⟩ := o
    have hd := allPlain_mem hp d List.mem_cons_self
    have e2 := ovs_nil (pl_tl hp) o2
    have e1 : A1 = [] := by
      cases d with
      | own t d => cases hd
      | _ => simp only [OV] at o1; exact o1.1
    rw [e1, e2]; rfl
  | [], _ :: _, _, _, o => by simp only [OVs] at o
  | _ :: _, [], _, _, o => by simp only [OVs] at o
theorem RVs.erase : ∀ {vs : List V} {ds : List D} (n : Nat), RVs K F H vs ds → RVs K F H (vs.eraseIdx n) (ds.eraseIdx n)
  | [], [], n, _ => by cases n <;> simp only [List.eraseIdx_nil, RVs]
  | v :: vs, d :: ds, 0, r => by simp only [RVs] at r; simp only [List.eraseIdx_cons_zero]; exact r.2
  | v :: vs, d :: ds, n + 1, r => by
    simp only [RVs] at r
    simp only [List.eraseIdx_cons_succ, RVs]
    exact ⟨r.1, RVs.erase n r.2⟩
  | [], _ :: _, _, r => by simp only [RVs] at r
  | _ :: _, [], _, r => by simp only [RVs] at r
theorem RVs.at_ : ∀ {vs : List V} {ds : List D} {n : Nat} {d : D}, RVs K F H vs ds → ds[n]? = some d → ∃ v, vs[n]? = some v ∧ RV K F H v d
  | [], [], n, d, _, e => by simp at e
  | v :: vs, x :: ds, 0, d, r, e => by
    simp only [RVs] at r
    simp only [List.getElem?_cons_zero, Option.some.injEq] at e
    subst e
    exact ⟨v, rfl, r.1⟩
  | v :: vs, x :: ds, n + 1, d, r, e => by
    simp only [RVs] at r
    simp only [List.getElem?_cons_succ] at e ⊢
    exact RVs.at_ r.2 e
  | [], _ :: _, _, _, r, _ => by simp only [RVs] at r
  | _ :: _, [], _, _, r, _ => by simp only [RVs] at r
theorem w_pop {i : Nat} {f : E} (σ : L2.St) (H : Hp) (Q : VK) (h : tDE K B W (ePop i f) σ H Q) : tBM K "list" rPopAt (tVar i) (tCons (tDE K B W f) tNil) σ H Q := by
  obtain ⟨F, ρ, A, rp, h⟩ := h
  unfold ePop at h
  by_cases c : isOL ρ[i]? = true
  case neg => rw [if_neg c] at h; exact h.elim
  case pos =>
    rw [if_pos c] at h
    obtain ⟨t0, l0, e0⟩ := isOL_some c
    obtain ⟨a, vs0, A0, s0, h0, _, _⟩ := own_at rp e0
    refine ⟨.ref a, s0, .inl ⟨rfl, vs0, .inl (.inl h0)⟩, F, ρ, A, rp, ?_⟩
    cases e1 : f ρ with
    | bad => rw [e1] at h; exact h
    | exc x ρ1 => rw [e1] at h; exact h
    | ok d1 ρ1 =>
      rw [e1] at h
      simp only [ER.bind] at h
      intro v1 F1 H1 A1 r1 v1r s1
      split at h
      · rename_i h1
        split at h1
        · rename_i t l j e2
          split at h1
          · rename_i hz
            obtain ⟨z0, z1, z2, z3⟩ := hz
            cases e3 : l[j.toNat]? with
            | none => rw [e3] at h1; cases h1
            | some d =>
              rw [e3] at h1
              simp only at h1
              cases h1
              obtain ⟨a', vs, A2, s2, h2, _, o2⟩ := own_at r1 e2
              rw [s0] at s2
              cases s2
              have rs := pl_ovs z2 o2
              obtain ⟨v, hv, rv⟩ := RVs.at_ rs e3
              simp only [RV] at v1r
              subst v1r
              have hl : vs.length = l.length := OVs.len o2
              obtain ⟨r3, s3⟩ := r1.chg (l' := l.eraseIdx j.toNat) (vs' := vs.eraseIdx j.toNat) e2 s0 h2 fun A' o => by
                rw [ovs_nil z2 o]
                exact (RVs.erase _ (pl_ovs z2 o)).ovs
              have z3' : l.length ≤ 16777216 := z3
              refine ⟨a, vs, j, j.toNat, v, rfl, rfl, h2, by omega, by omega, seqIndex_of z0 (by rw [hl]; exact z1), hv, h v F1 _ A1 r3 (rv.step r1 s3) (s1.trans s3)⟩
          · cases h1
        · cases h1
      · rename_i h1
        split at h1
        · split at h1
          · split at h1 <;> cases h1
          · cases h1
        · cases h1
      · exact h.elim
end
section
variable {X : Cx} {B : Bx} {W : WX} {e : Expr} {f g : E}
theorem d_popAt {i : Nat} (h : PE X e (tBM X.K "list" rPopAt (tVar i) (tCons (tDE X.K B W f) tNil))) : DE X B W e (ePop i f) := h.weak w_pop
end
end U
namespace OrT
open PySem PySem.Spec PyProof.Rows L2
variable {X : Cx} {a b : Expr} {rest : List Expr} {ta tb : TE} {pos : Pos}
def tOrT (ta tb : TE) : TE := fun σ H Q => ta σ H fun x H1 => (x = .non ∧ tb σ H1 Q) ∨ ∃ z : Str, x = .str z ∧ z.length ≤ sizeLine ∧ if z.length = 0 then tb σ H1 Q else Q x H1
theorem pe_orT (ha : PE X a ta) (hb : PE X (.BoolOp .Or (b :: rest) pos) tb) : PE X (.BoolOp .Or (a :: b :: rest) pos) (tOrT ta tb) := by
  refine ⟨fun pins s σ H Q I h => ?_⟩
  refine BoolOp_or (thn (ha.run pins s σ H _ I h) fun v s1 ⟨x, H1, I1, r1, q1⟩ => ?_)
  rcases q1 with ⟨rfl, q1⟩ | ⟨z, rfl, hz, q1⟩
  · obtain rfl : v = Value.none := r1
    exact truthy_none (hb.run pins s1 σ H1 Q I1 q1)
  · obtain ⟨t, rfl⟩ := (show ∃ t, v = Value.str z t from r1)
    have hs : ((sizeLine : Nat) : Int) < 2 ^ 63 := by decide
    refine PySem.P.truthy_str (by omega) ?_
    have I2 := I1.tok (s1.toks + 1 + 1)
    by_cases h0 : z.length = 0
    · rw [if_pos h0] at q1
      have e : ((z.length : Int) != 0) = false := by rw [h0]; rfl
      rw [e]
      exact hb.run pins _ σ H1 Q I2 q1
    · rw [if_neg h0] at q1
      have e : ((z.length : Int) != 0) = true := by
        have : (z.length : Int) ≠ 0 := by omega
        simpa using this
      rw [e]
      exact ⟨.str z, H1, I2, ⟨t, rfl⟩, q1⟩
end OrT
namespace U
open PySem PySem.Spec PyProof.Rows L2
def eOrT (a b : E) : E := fun ρ => (a ρ).bind fun x ρ1 => match x with
  | .non => b ρ1
  | .str l => if l.length ≤ 16777216 then (if l.length = 0 then b ρ1 else .ok (.str l) ρ1) else .bad
  | _ => .bad
section
variable {X : Cx} {B : Bx} {W : WX} {K : PySem.W.Frag}
theorem w_orT {f g : E} (σ : L2.St) (H : Hp) (Q : VK) (h : tDE K B W (eOrT f g) σ H Q) : OrT.tOrT (tDE K B W f) (tDE K B W g) σ H Q := by
  obtain ⟨F, ρ, A, rp, h⟩ := h
  refine ⟨F, ρ, A, rp, ?_⟩
  unfold eOrT at h
  cases e1 : f ρ with
  | bad => rw [e1] at h; exact h
  | exc x ρ1 => rw [e1] at h; exact h
  | ok d1 ρ1 =>
    rw [e1] at h
    intro v1 F1 H1 A1 r1 v1r s1
    have go : (tDE K B W g σ H1 Q ↔ tDE K B W g σ H1 Q) := Iff.rfl
    cases d1 with
    | non =>
      simp only [RV] at v1r
      refine .inl ⟨v1r, F1, ρ1, A1, r1, ?_⟩
      simp only [ER.bind] at h
      cases e2 : g ρ1 with
      | bad => rw [e2] at h; exact h
      | exc x ρ2 => rw [e2] at h; exact h.before s1
      | ok d2 ρ2 =>
        rw [e2] at h
        intro v2 F2 H2 A2 r2 v2r s2
        exact h v2 F2 H2 A2 r2 v2r (s1.trans s2)
    | str l =>
      simp only [ER.bind] at h
      by_cases hl : l.length ≤ 16777216
      · rw [if_pos hl] at h
        have v1r' := v1r
        simp only [RV] at v1r
        refine .inr ⟨S l, v1r.1, by rw [S_length, sizeLine_eq]; exact hl, ?_⟩
        rw [S_length]
        by_cases h0 : l.length = 0
        · rw [if_pos h0] at h ⊢
          refine ⟨F1, ρ1, A1, r1, ?_⟩
          cases e2 : g ρ1 with
          | bad => rw [e2] at h; exact h
          | exc x ρ2 => rw [e2] at h; exact h.before s1
          | ok d2 ρ2 =>
            rw [e2] at h
            intro v2 F2 H2 A2 r2 v2r s2
            exact h v2 F2 H2 A2 r2 v2r (s1.trans s2)
        · rw [if_neg h0] at h ⊢
          exact h _ F1 H1 A1 r1 v1r' s1
      · rw [if_neg hl] at h; exact h.elim
    | _ => exact h.elim
theorem d_orT {a b : Expr} {rest : List Expr} {pos : Pos} {f g : E} (h : PE X (.BoolOp .Or (a :: b :: rest) pos) (OrT.tOrT (tDE X.K B W f) (tDE X.K B W g))) : DE X B W (.BoolOp .Or (a :: b :: rest) pos) (eOrT f g) := h.weak w_orT
end
end U
namespace U
noncomputable def body_Effect_bool : St := (sRet (eN oAny (aCons (eFrz (eComp (iOf itT (eUn (oFld "Effect" "all_rows") (eVar 0))) (gVar 1) (eC (.bl true)) (eOp oNotN (eVar 1) (eC .non)) [1])) aNil)))
noncomputable def fn_Effect_bool : Fn := fnOf 1 1 body_Effect_bool
end U
namespace U
noncomputable def body_end_of : St := (sRet (eOp oAdd (eOp oIxT (eVar 0) (eC (.int 0))) (eN oLenS (aCons (eOp oIxT (eVar 0) (eC (.int 1))) aNil))))
noncomputable def fn_end_of : Fn := fnOf 1 0 body_end_of
end U
namespace U
noncomputable def body_Walk_init : St := (sSeq (sFldO 0 "Walk" "depth" (eVar 1))
    (sSeq (sFldO 0 "Walk" "height" (eVar 2))
    (sSeq (sFldO 0 "Walk" "last" (eVar 3))
    (sFldO 0 "Walk" "is_up_first" (eAnd (eOp oLt (eVar 3) (eC (.int 0))) (eOp oLe (eOp oAdd (eVar 1) (eVar 2)) (eVar 4)))))))
noncomputable def fn_Walk_init : Fn := fnOf 5 0 body_Walk_init
noncomputable def body_candidates_oldest : GSt := (ySeq (yDo (sSet 1 (eOp oSub (eN oLenQ (aCons (eVar 0) aNil)) (eC (.int 1)))))
    (ySeq (yDo (sSet 2 (eOp oIxL (eFrz (eComp (iOfA itEQ (aCons (eVar 0) aNil)) (gTup [(gVar 3), (gVar 4)]) (eOp oNotN (eVar 4) (eC .non)) (eVar 3) [3, 4])) (eC (.int 0)))))
    (ySeq (yDo (sPar [5, 6] (aCons (eFrz (eCall fn_end_of [.v (eOp oIxT (eVar 0) (eVar 2))] [])) (aCons (eFrz (eCall fn_end_of [.v (eOp oIxT (eVar 0) (eVar 1))] [])) aNil))))
    (yIf (eOp oLt (eVar 5) (eVar 6))
    (yYield (eFrz (eMake "Walk" fn_Walk_init (aCons (eVar 2) (aCons (eOp oSub (eOp oSub (eOp oAdd (eVar 1) (eVar 5)) (eVar 2)) (eVar 6)) (aCons (eOp oSub (eVar 5) (eVar 2)) (aCons (eVar 1) aNil)))) [])))
    (yFor (iOfA itR (aCons (eOp oSub (eVar 6) (eVar 2)) (aCons (eOp oAdd (eOp oAdd (eVar 6) (eVar 1)) (eC (.int 1))) aNil))) (gVar 7) (yYield (eFrz (eMake "Walk" fn_Walk_init (aCons (eVar 2) (aCons (eOp oSub (eOp oAdd (eVar 1) (eVar 7)) (eVar 6)) (aCons (eVar 7) (aCons (eVar 1) aNil)))) []))))))))
noncomputable def fn_candidates_oldest : Fn := fnG 1 7 body_candidates_oldest
noncomputable def body_walks_for : St := (sSeq (sSet 2 (eOp oSub (eN oLenQ (aCons (eVar 0) aNil)) (eC (.int 1))))
    (sSeq (sSet 3 (eFrz (eComp (iOfA itEQ (aCons (eVar 0) aNil)) (gTup [(gVar 4), (gVar 5)]) (eOp oNotN (eVar 5) (eC .non)) (eVar 4) [4, 5])))
    (sSeq (sPar [6, 7] (aCons (eOp oIxL (eVar 3) (eC (.int 0))) (aCons (eOp oIxL (eVar 3) (eUn oNeg (eC (.int 1)))) aNil)))
    (sSeq (sIf (eOp oEq (eVar 1) (eC (.str [115, 116, 114, 105, 99, 116])))
    (sSeq (sSet 8 (eOp oSub (eFrz (eCall fn_end_of [.v (eOp oIxT (eVar 0) (eVar 6))] [])) (eVar 6)))
    (sRet (eN mkTup (aCons (eFrz (eN mkLst (aCons (eFrz (eMake "Walk" fn_Walk_init (aCons (eVar 6) (aCons (eOp oSub (eVar 2) (eVar 7)) (aCons (eVar 8) (aCons (eVar 2) aNil)))) [])) aNil))) (aCons (eOp oIxT (eVar 0) (eVar 7)) aNil)))))
    sNil)
    (sRet (eN mkTup (aCons (eIf (eOp oEq (eVar 7) (eVar 2)) (eFrz (eCall fn_candidates_oldest [.v (eVar 0)] [])) (eFrz (eN mkLst aNil))) (aCons (eOp oIxT (eVar 0) (eVar 7)) aNil))))))))
noncomputable def fn_walks_for : Fn := fnOf 2 7 body_walks_for
noncomputable def body_Walk_least_puts : St := (sRet (eOp oAdd (eOp oAdd (eUn (oFld "Walk" "depth") (eVar 0)) (eUn (oFld "Walk" "height") (eVar 0))) (eIf (eUn (oFld "Walk" "is_up_first") (eVar 0)) (eUn (oFld "Walk" "last") (eVar 0)) (eC (.int 0)))))
noncomputable def fn_Walk_least_puts : Fn := fnOf 1 0 body_Walk_least_puts
noncomputable def body_Walk_allows : St := (sSeq (sSet 2 (eFrz (eMeth "Walk" "least_puts" fn_Walk_least_puts (eVar 0) [] [])))
    (sRet (eOr (eOp oEq (eVar 1) (eVar 2)) (eAnd (eOp oGt (eVar 1) (eVar 2)) (eOp oGt (eOp oAdd (eUn (oFld "Walk" "depth") (eVar 0)) (eUn (oFld "Walk" "height") (eVar 0))) (eC (.int 0)))))))
noncomputable def fn_Walk_allows : Fn := fnOf 2 1 body_Walk_allows
noncomputable def body_puts_for : St := (sSeq (sAsg (eVar 1) (gTup [(gVar 3), (gVar 4)]))
    (sSeq (sSet 5 (eIf (eOp oGt (eVar 3) (eC (.int 0))) (eN oLenS (aCons (eVar 4) aNil)) (eN oMax2 (aCons (eVar 2) (aCons (eFrz (eMeth "Walk" "least_puts" fn_Walk_least_puts (eVar 0) [] [])) aNil)))))
    (sRet (eIf (eFrz (eMeth "Walk" "allows" fn_Walk_allows (eVar 0) [.v (eVar 5)] [])) (eVar 5) (eC .non)))))
noncomputable def fn_puts_for : Fn := fnOf 3 3 body_puts_for
noncomputable def body_Walk_drawn : St := (sSeq (sSet 2 (eOp oMulS (eOp oAddS (eC (.str [43])) (eC (.str [45]))) (eOp oSub (eVar 1) (eFrz (eMeth "Walk" "least_puts" fn_Walk_least_puts (eVar 0) [] [])))))
    (sSeq (sSet 3 (eOp oAdd (eUn (oFld "Walk" "depth") (eVar 0)) (eUn (oFld "Walk" "height") (eVar 0))))
    (sSeq (sIf (eUn (oFld "Walk" "is_up_first") (eVar 0))
    (sRet (eOp oAddS (eOp oAddS (eOp oAddS (eOp oMulS (eC (.str [43])) (eUn (oFld "Walk" "height") (eVar 0))) (eOp oMulS (eC (.str [45])) (eVar 3))) (eVar 2)) (eOp oMulS (eC (.str [43])) (eOp oAdd (eUn (oFld "Walk" "last") (eVar 0)) (eUn (oFld "Walk" "depth") (eVar 0))))))
    sNil)
    (sRet (eOp oAddS (eOp oAddS (eOp oAddS (eOp oMulS (eC (.str [45])) (eUn (oFld "Walk" "depth") (eVar 0))) (eVar 2)) (eOp oMulS (eC (.str [43])) (eVar 3))) (eOp oMulS (eC (.str [45])) (eOp oSub (eUn (oFld "Walk" "height") (eVar 0)) (eUn (oFld "Walk" "last") (eVar 0)))))))))
noncomputable def fn_Walk_drawn : Fn := fnOf 2 2 body_Walk_drawn
noncomputable def body_lettered : St := (sSeq (sSet 2 (eMs oCount (eVar 0) (eC (.str [43]))))
    (sSeq (sSet 3 (eN oLstS (aCons (eOp oAddS (eOp oMulS (eC (.str [97])) (eOp oSub (eVar 2) (eN oLenS (aCons (eVar 1) aNil)))) (eVar 1)) aNil)))
    (sRet (eMs oJoin (eC (.str [])) (eFrz (eComp (iOf itS (eVar 0)) (gVar 4) (eC (.bl true)) (eIf (eOp oEq (eVar 4) (eC (.str [43]))) (ePop 3 (eC (.int 0))) (eVar 4)) [4]))))))
noncomputable def fn_lettered : Fn := fnOf 2 3 body_lettered
noncomputable def turn_sequence_for_1 : St := (sSeq (sIf (eOr (eOp oLt (eUn (oFld "Walk" "height") (eVar 5)) (eN oMax2 (aCons (eC (.int 0)) (aCons (eUn (oFld "Walk" "last") (eVar 5)) aNil)))) (eOp oLt (eUn (oFld "Walk" "last") (eVar 5)) (eUn oNeg (eUn (oFld "Walk" "depth") (eVar 5)))))
    sCt
    sNil)
    (sSeq (sSet 6 (eFrz (eCall fn_puts_for [.v (eVar 5), .v (eVar 3), .v (eFrz (eCall fn_end_of [.v (eVar 3)] []))] [])))
    (sIf (eAnd (eOp oNotN (eVar 6) (eC .non)) (eOr (eOp oIsN (eVar 4) (eC .non)) (eOp oLt (eOp oSub (eOp oMul (eC (.int 2)) (eVar 6)) (eUn (oFld "Walk" "last") (eVar 5))) (eOp oIxT (eVar 4) (eC (.int 0))))))
    (sSet 4 (eN mkTup (aCons (eOp oSub (eOp oMul (eC (.int 2)) (eVar 6)) (eUn (oFld "Walk" "last") (eVar 5))) (aCons (eVar 5) (aCons (eVar 6) aNil)))))
    sNil)))
noncomputable def body_sequence_for : St := (sSeq (sAsg (eFrz (eCall fn_walks_for [.v (eVar 0), .v (eVar 1)] [])) (gTup [(gVar 2), (gVar 3)]))
    (sSeq (sSet 4 (eC .non))
    (sSeq (sFor (iOf itL (eVar 2)) (gVar 5) turn_sequence_for_1)
    (sRet (eIf (eOp oIsN (eVar 4) (eC .non)) (eC .non) (eFrz (eCall fn_lettered [.v (eFrz (eMeth "Walk" "drawn" fn_Walk_drawn (eOp oIxT (eVar 4) (eC (.int 1))) [.v (eOp oIxT (eVar 4) (eC (.int 2)))] [])), .v (eOp oIxT (eVar 3) (eC (.int 1)))] [])))))))
noncomputable def fn_sequence_for : Fn := fnOf 2 5 body_sequence_for
noncomputable def body_shortest_sequence : St := (sSeq (sDrop (eCall fn_check_effect [.v (eVar 0)] []))
    (sSeq (sIf (eOp oNotInQ (eVar 1) (eN mkTup (aCons (eC (.str [111, 108, 100, 101, 115, 116])) (aCons (eC (.str [115, 116, 114, 105, 99, 116])) aNil))))
    (sRaise "InvalidMode" [] aNil)
    sNil)
    (sSeq (sIf (eUn oNot (eUn (oBoolC "Effect" fn_Effect_bool) (eVar 0)))
    (sRet (eOp oMulS (eC (.str [45])) (eOp oAdd (eUn (oProp "Effect" fn_Effect_capacity) (eVar 0)) (eC (.int 1)))))
    sNil)
    (sSeq (sSet 2 (eFrz (eCall fn_sequence_for [.v (eUn (oProp "Effect" fn_Effect_rows) (eVar 0)), .v (eVar 1)] [])))
    (sRet (eIf (eAnd (eOp oNotN (eVar 2) (eC .non)) (eOp (oEqC "Effect" fn_Effect_eq) (eFrz (eCall fn_effect_of [.v (eVar 2), .v (eUn (oProp "Effect" fn_Effect_capacity) (eVar 0)), .v (eVar 1)] [])) (eVar 0))) (eVar 2) (eC .non)))))))
noncomputable def fn_shortest_sequence : Fn := fnOf 2 1 body_shortest_sequence
end U
namespace U
def putsL (l : List Nat) : List Nat := l.filter fun x => decide (x ≠ 45)
def lastL (n : Nat) (l : List Nat) : List Nat := l.drop (l.length - n)
theorem lastL_len {n : Nat} {l : List Nat} : (lastL n l).length = min n l.length := by unfold lastL; rw [List.length_drop]; omega
theorem lastL_zero {l : List Nat} : lastL 0 l = [] := by unfold lastL; simp
theorem lastL_all {n : Nat} {l : List Nat} (h : l.length ≤ n) : lastL n l = l := by
  unfold lastL
  rw [show l.length - n = 0 by omega]
  rfl
theorem lastL_app {n : Nat} {a b : List Nat} : lastL n (a ++ b) = lastL (n - (lastL n b).length) a ++ lastL n b := by
  by_cases h : n ≤ b.length
  · rw [lastL_len, Nat.min_eq_left h, Nat.sub_self, lastL_zero, List.nil_append]
    unfold lastL
    rw [List.length_append, show a.length + b.length - n = a.length + (b.length - n) by omega, ← List.drop_drop, List.drop_left]
  · rw [lastL_all (l := b) (by omega)]
    unfold lastL
    rw [List.length_append, List.drop_append_of_le_length (by omega), show a.length + b.length - n = a.length - (n - b.length) by omega]
theorem lastL_full {n : Nat} {a b : List Nat} (h : n ≤ b.length) : lastL n (a ++ b) = lastL n b := by
  rw [lastL_app, lastL_len, Nat.min_eq_left h, Nat.sub_self, lastL_zero, List.nil_append]
theorem puts_app {a b : List Nat} : putsL (a ++ b) = putsL a ++ putsL b := List.filter_append ..
end U
namespace U
structure Wk where
  e : Int
  d : Int
  h : Int
  g : Int
  p : Int
def Wk.up (s : Wk) : Wk := ⟨s.e + 1, s.d, if s.h < s.e + 1 then s.e + 1 else s.h, s.g, s.p + 1⟩
def Wk.dn (s : Wk) : Wk := ⟨s.e - 1, if s.d < 1 - s.e then 1 - s.e else s.d, s.h, if s.g < s.h - s.e + 1 then s.h - s.e + 1 else s.g, s.p⟩
def Wk.step (s : Wk) (x : Nat) : Wk := if x = 45 then s.dn else s.up
def wk0 : Wk := ⟨0, 0, 0, 0, 0⟩
def wkF (s : Wk) (fl : List Nat) : Wk := fl.foldl Wk.step s
def wk (fl : List Nat) : Wk := wkF wk0 fl
structure WkOk (s : Wk) : Prop where
  d0 : 0 ≤ s.d
  h0 : 0 ≤ s.h
  lo : -s.d ≤ s.e
  hi : s.e ≤ s.h
  fa : s.h - s.e ≤ s.g
  dg : s.d ≤ s.g
  gt : s.g ≤ s.p - s.e
  nil : s.d + s.h = 0 → s.p = 0
  few : s.d + s.h ≤ s.p ∨ (s.d + s.h + s.e ≤ s.p ∧ s.d + s.h ≤ s.g)
theorem wk0_ok : WkOk wk0 := by constructor <;> simp [wk0]
theorem wstep_ok {s : Wk} (x : Nat) (h : WkOk s) : WkOk (s.step x) := by
  obtain ⟨h1, h2, h3, h4, h5, h6, h7, h8, h9⟩ := h
  unfold Wk.step
  split <;> (constructor <;> simp only [Wk.dn, Wk.up] <;> (repeat' split) <;> omega)
theorem wkF_ok : ∀ (fl : List Nat) {s : Wk}, WkOk s → WkOk (wkF s fl)
  | [], _, h => h
  | x :: fl, _, h => wkF_ok fl (wstep_ok x h)
theorem wk_ok (fl : List Nat) : WkOk (wk fl) := wkF_ok fl wk0_ok
theorem wkF_app {s : Wk} {a b : List Nat} : wkF s (a ++ b) = wkF (wkF s a) b := by unfold wkF; rw [List.foldl_append]
theorem wk_snoc {u : List Nat} {x : Nat} : wk (u ++ [x]) = (wk u).step x := by unfold wk; rw [wkF_app]; rfl
theorem putsL_snoc {u : List Nat} {x : Nat} : putsL (u ++ [x]) = if x = 45 then putsL u else putsL u ++ [x] := by
  rw [puts_app]
  by_cases h : x = 45
  · rw [if_pos h, h]; simp [putsL]
  · rw [if_neg h]; simp [putsL, h]
theorem wkF_num : ∀ (fl : List Nat) (s : Wk), (wkF s fl).p = s.p + (putsL fl).length ∧ (fl.length : Int) = 2 * ((wkF s fl).p - s.p) - ((wkF s fl).e - s.e)
  | [], s => by simp [wkF, putsL]
  | x :: fl, s => by
    obtain ⟨a, b⟩ := wkF_num fl (s.step x)
    have e : wkF s (x :: fl) = wkF (s.step x) fl := rfl
    rw [e]
    unfold Wk.step at a b ⊢
    by_cases h : x = 45
    · simp only [if_pos h] at a b ⊢
      have e2 : putsL (x :: fl) = putsL fl := by simp [putsL, h]
      rw [e2, List.length_cons]
      simp only [Wk.dn] at a b ⊢
      omega
    · simp only [if_neg h] at a b ⊢
      have e2 : putsL (x :: fl) = x :: putsL fl := by simp [putsL, h]
      rw [e2, List.length_cons, List.length_cons]
      simp only [Wk.up] at a b ⊢
      omega
theorem wk_p (fl : List Nat) : (wk fl).p = (putsL fl).length := by have := (wkF_num fl wk0).1; unfold wk; rw [this]; simp [wk0]
theorem wk_len (fl : List Nat) : (fl.length : Int) = 2 * (wk fl).p - (wk fl).e := by have := (wkF_num fl wk0).2; unfold wk; rw [this]; simp [wk0]
def mkRow (t : Nat) (ps : List Nat) : Nat × List Nat := (t - ps.length, lastL t ps)
def strCw : List Nat := [115, 116, 114, 105, 99, 116]
theorem mk_sum {t : Nat} {ps : List Nat} : (mkRow t ps).1 + (mkRow t ps).2.length = t := by
  unfold mkRow; simp only; rw [lastL_len]; omega
theorem lastL_suc {n : Nat} {l : List Nat} {x : Nat} : lastL (n + 1) (l ++ [x]) = lastL n l ++ [x] := by
  rw [lastL_app]
  have e : lastL (n + 1) [x] = [x] := lastL_all (by simp)
  rw [e]; rfl
theorem lastL_tail {n : Nat} {l : List Nat} (h : n + 1 ≤ l.length) : (lastL (n + 1) l).drop 1 = lastL n l := by
  unfold lastL; rw [List.drop_drop]; congr 1; omega
theorem step_take {c t : Nat} {z ps : List Nat} : stepR c z 45 (some (mkRow t ps)) = if t = 0 then none else some (mkRow (t - 1) ps) := by
  have hs := mk_sum (t := t) (ps := ps)
  unfold mkRow at hs ⊢
  simp only [stepR] at hs ⊢
  rw [if_pos trivial, hs]
  by_cases h0 : t = 0
  · rw [if_pos h0, if_pos h0]
  · rw [if_neg h0, if_neg h0]
    by_cases hk : 0 < t - ps.length
    · rw [if_pos hk, lastL_all (by omega), lastL_all (by omega)]
      congr 2
      omega
    · rw [if_neg hk]
      obtain ⟨m, rfl⟩ : ∃ m, t = m + 1 := ⟨t - 1, by omega⟩
      rw [lastL_tail (by omega), Nat.add_sub_cancel, show m - ps.length = 0 by omega]
theorem step_put {c t x : Nat} {z ps : List Nat} (hx : x ≠ 45) (ht : t < c) : stepR c z x (some (mkRow t ps)) = some (mkRow (t + 1) (ps ++ [x])) := by
  have hs := mk_sum (t := t) (ps := ps)
  unfold mkRow at hs ⊢
  simp only [stepR] at hs ⊢
  rw [if_neg hx, hs, if_pos ht, lastL_suc]
  congr 2
  simp
theorem step_old {c x : Nat} {ps : List Nat} (hx : x ≠ 45) (hc : 1 ≤ c) : stepR c oldC' x (some (mkRow c ps)) = some (mkRow c (ps ++ [x])) := by
  have hs := mk_sum (t := c) (ps := ps)
  unfold mkRow at hs ⊢
  simp only [stepR] at hs ⊢
  rw [if_neg hx, hs, if_neg (by omega), if_pos trivial]
  obtain ⟨m, rfl⟩ : ∃ m, c = m + 1 := ⟨c - 1, by omega⟩
  rw [lastL_suc]
  by_cases hk : 0 < m + 1 - ps.length
  · rw [if_pos hk, lastL_all (by omega), lastL_all (by omega)]
    congr 2
    simp; omega
  · rw [if_neg hk, lastL_tail (by omega)]
    congr 2
    simp; omega
theorem step_str {c x : Nat} {ps : List Nat} (hx : x ≠ 45) : stepR c strCw x (some (mkRow c ps)) = none := by
  have hs := mk_sum (t := c) (ps := ps)
  unfold mkRow at hs ⊢
  simp only [stepR] at hs ⊢
  rw [if_neg hx, hs, if_neg (by omega), if_neg (by decide), if_neg (by decide)]
def StrW (c n : Nat) (s : Wk) (ps : List Nat) (r : Row) : Prop :=
  (s.d ≤ n ∧ n + s.h ≤ c ∧ ∃ t : Nat, (t : Int) = n + s.e ∧ r = some (mkRow t ps)) ∨ (¬(s.d ≤ n ∧ n + s.h ≤ c) ∧ r = none)
def OldW (c n : Nat) (s : Wk) (ps : List Nat) (r : Row) : Prop :=
  (s.g ≤ c ∧ s.d ≤ n ∧ ∃ t : Nat, (t : Int) = (if n + s.h ≤ c then n + s.e else c - s.h + s.e) ∧ r = some (mkRow t ps)) ∨ (¬(s.g ≤ c ∧ s.d ≤ n) ∧ r = none)
theorem str_step {c n x : Nat} {s : Wk} {ps : List Nat} {r : Row} (ok : WkOk s) (h : StrW c n s ps r) : StrW c n (s.step x) (if x = 45 then ps else ps ++ [x]) (stepR c strCw x r) := by
  obtain ⟨h1, h2, h3, h4, h5, h6, h7, h8, h9⟩ := ok
  unfold StrW at h ⊢
  unfold Wk.step
  rcases h with ⟨a, b, t, e, rfl⟩ | ⟨a, rfl⟩
  · by_cases hx : x = 45
    · subst hx
      rw [if_pos rfl, if_pos rfl, step_take]
      simp only [Wk.dn]
      by_cases h0 : t = 0
      · rw [if_pos h0]
        refine .inr ⟨?_, rfl⟩
        split <;> omega
      · rw [if_neg h0]
        refine .inl ⟨?_, b, t - 1, by omega, rfl⟩
        split <;> omega
    · rw [if_neg hx, if_neg hx]
      simp only [Wk.up]
      by_cases ht : t < c
      · rw [step_put hx ht]
        refine .inl ⟨a, ?_, t + 1, by omega, rfl⟩
        split <;> omega
      · obtain rfl : t = c := by omega
        rw [step_str hx]
        refine .inr ⟨?_, rfl⟩
        split <;> omega
  · rw [stepR_none]
    refine .inr ⟨?_, rfl⟩
    split <;> simp only [Wk.dn, Wk.up] <;> split <;> omega
theorem old_stp {c n x : Nat} {s : Wk} {ps : List Nat} {r : Row} (hc : 1 ≤ c) (hn : n ≤ c) (ok : WkOk s) (h : OldW c n s ps r) : OldW c n (s.step x) (if x = 45 then ps else ps ++ [x]) (stepR c oldC' x r) := by
  obtain ⟨h1, h2, h3, h4, h5, h6, h7, h8, h9⟩ := ok
  unfold OldW at h ⊢
  unfold Wk.step
  rcases h with ⟨a, b, t, e, rfl⟩ | ⟨a, rfl⟩
  · by_cases hx : x = 45
    · subst hx
      rw [if_pos rfl, if_pos rfl, step_take]
      simp only [Wk.dn]
      by_cases h0 : t = 0
      · rw [if_pos h0]
        refine .inr ⟨?_, rfl⟩
        split at e <;> split <;> split <;> omega
      · rw [if_neg h0]
        refine .inl ⟨?_, ?_, t - 1, ?_, rfl⟩ <;> split at e <;> (repeat' split) <;> omega
    · rw [if_neg hx, if_neg hx]
      simp only [Wk.up]
      by_cases ht : t < c
      · rw [step_put hx ht]
        refine .inl ⟨a, b, t + 1, ?_, rfl⟩
        split at e <;> (repeat' split) <;> omega
      · obtain rfl : t = c := by split at e <;> omega
        rw [step_old hx hc]
        refine .inl ⟨a, b, t, ?_, rfl⟩
        split at e <;> (repeat' split) <;> omega
  · rw [stepR_none]
    refine .inr ⟨?_, rfl⟩
    split <;> simp only [Wk.dn, Wk.up] <;> (repeat' split) <;> omega
theorem eff_snocW {c n x : Nat} {z u : List Nat} : effR c z (u ++ [x]) n = stepR c z x (effR c z u n) := by
  unfold effR; rw [runR_app]; rfl
theorem str_all {c n : Nat} (hn : n ≤ c) : ∀ (fl u : List Nat), StrW c n (wk u) (putsL u) (effR c strCw u n) → StrW c n (wk (u ++ fl)) (putsL (u ++ fl)) (effR c strCw (u ++ fl) n)
  | [], u, h => by rw [List.append_nil]; exact h
  | x :: fl, u, h => by
    have := str_all hn fl (u ++ [x]) (by rw [wk_snoc, putsL_snoc, eff_snocW]; exact str_step (wk_ok u) h)
    rwa [List.append_assoc, List.singleton_append] at this
theorem old_all {c n : Nat} (hc : 1 ≤ c) (hn : n ≤ c) : ∀ (fl u : List Nat), OldW c n (wk u) (putsL u) (effR c oldC' u n) → OldW c n (wk (u ++ fl)) (putsL (u ++ fl)) (effR c oldC' (u ++ fl) n)
  | [], u, h => by rw [List.append_nil]; exact h
  | x :: fl, u, h => by
    have := old_all hc hn fl (u ++ [x]) (by rw [wk_snoc, putsL_snoc, eff_snocW]; exact old_stp hc hn (wk_ok u) h)
    rwa [List.append_assoc, List.singleton_append] at this
theorem mk_nil {n : Nat} : mkRow n [] = (n, []) := by unfold mkRow lastL; simp
theorem str_row {c n : Nat} (hn : n ≤ c) (fl : List Nat) : StrW c n (wk fl) (putsL fl) (effR c strCw fl n) := by
  have := str_all hn fl [] (.inl ⟨by simp [wk, wkF, wk0], by simp [wk, wkF, wk0]; omega, n, by simp [wk, wkF, wk0], by rw [show putsL [] = [] from rfl, mk_nil]; rfl⟩)
  rwa [List.nil_append] at this
theorem old_row {c n : Nat} (hc : 1 ≤ c) (hn : n ≤ c) (fl : List Nat) : OldW c n (wk fl) (putsL fl) (effR c oldC' fl n) := by
  have := old_all hc hn fl [] (.inl ⟨by simp [wk, wkF, wk0], by simp [wk, wkF, wk0], n, by simp [wk, wkF, wk0]; omega, by rw [show putsL [] = [] from rfl, mk_nil]; rfl⟩)
  rwa [List.nil_append] at this
end U
namespace U
structure Wq where
  dep : Int
  hei : Int
  las : Int
  up : Bool
def mkQ (d h e lim : Int) : Wq := ⟨d, h, e, decide (e < 0) && decide (d + h ≤ lim)⟩
def leastQ (w : Wq) : Int := w.dep + w.hei + (if w.up = true then w.las else 0)
def allowQ (w : Wq) (p : Int) : Bool := decide (p = leastQ w) || (decide (leastQ w < p) && decide (0 < w.dep + w.hei))
def drawnQ (w : Wq) (p : Int) : List Nat :=
  if w.up = true then rept w.hei.toNat [43] ++ rept (w.dep + w.hei).toNat [45] ++ rept (p - leastQ w).toNat [43, 45] ++ rept (w.las + w.dep).toNat [43]
  else rept w.dep.toNat [45] ++ rept (p - leastQ w).toNat [43, 45] ++ rept (w.dep + w.hei).toNat [43] ++ rept (w.hei - w.las).toNat [45]
def fillL : List Nat → List Nat → List Nat
  | [], _ => []
  | x :: w, ls => if x = 43 then ls.headD 0 :: fillL w ls.tail else x :: fillL w ls
def cntP (w : List Nat) : Nat := (w.filter fun x => decide (x = 43)).length
def letQ (w ls : List Nat) : List Nat := fillL w (List.replicate (cntP w - ls.length) 97 ++ ls)
def putsQ (w : Wq) (r : Nat × List Nat) : Option Int :=
  let p : Int := if 0 < r.1 then r.2.length else if ((r.1 + r.2.length : Nat) : Int) < leastQ w then leastQ w else ((r.1 + r.2.length : Nat) : Int)
  if allowQ w p = true then some p else none
abbrev Bst := Option (Int × Wq × Int)
def skipQ (w : Wq) : Bool := decide (w.hei < (if 0 < w.las then w.las else 0)) || decide (w.las < -w.dep)
def bestS (r : Nat × List Nat) (b : Bst) (w : Wq) : Bst :=
  if skipQ w = true then b else match putsQ w r with
    | none => b
    | some p => match b with
      | none => some (2 * p - w.las, w, p)
      | some (m, v, q) => if 2 * p - w.las < m then some (2 * p - w.las, w, p) else some (m, v, q)
def bestQ (r : Nat × List Nat) (ws : List Wq) : Bst := ws.foldl (bestS r) none
def seqQ (r : Nat × List Nat) (ws : List Wq) : Option (List Nat) := (bestQ r ws).map fun b => letQ (drawnQ b.2.1 b.2.2) r.2
theorem wk_ups : ∀ (n : Nat) (s : Wk), s.e ≤ s.h → wkF s (rept n [43]) = ⟨s.e + n, s.d, if s.h < s.e + n then s.e + n else s.h, s.g, s.p + n⟩
  | 0, s, h => by
    rw [rept_zero]
    show s = _
    rw [if_neg (by omega)]
    simp
  | n + 1, s, h => by
    rw [rept_succ, wkF_app, wk_ups n _ (by show s.e + 1 ≤ (if s.h < s.e + 1 then s.e + 1 else s.h); split <;> omega)]
    show (⟨s.e + 1 + n, s.d, if (if s.h < s.e + 1 then s.e + 1 else s.h) < s.e + 1 + n then s.e + 1 + n else (if s.h < s.e + 1 then s.e + 1 else s.h), s.g, s.p + 1 + n⟩ : Wk) = _
    congr 1
    · omega
    · (repeat' split) <;> omega
    · omega
theorem wk_dns : ∀ (n : Nat) (s : Wk), -s.d ≤ s.e → s.h - s.e ≤ s.g → wkF s (rept n [45]) = ⟨s.e - n, if s.d < n - s.e then n - s.e else s.d, s.h, if s.g < s.h - s.e + n then s.h - s.e + n else s.g, s.p⟩
  | 0, s, h, h2 => by
    rw [rept_zero]
    show s = _
    rw [if_neg (by omega), if_neg (by omega)]
    simp
  | n + 1, s, h, h2 => by
    rw [rept_succ, wkF_app]
    have e : wkF s [45] = s.dn := rfl
    rw [e, wk_dns n _ (by show -(if s.d < 1 - s.e then 1 - s.e else s.d) ≤ s.e - 1; split <;> omega) (by show s.h - (s.e - 1) ≤ (if s.g < s.h - s.e + 1 then s.h - s.e + 1 else s.g); split <;> omega)]
    show (⟨s.e - 1 - n, if (if s.d < 1 - s.e then 1 - s.e else s.d) < n - (s.e - 1) then n - (s.e - 1) else (if s.d < 1 - s.e then 1 - s.e else s.d), s.h, if (if s.g < s.h - s.e + 1 then s.h - s.e + 1 else s.g) < s.h - (s.e - 1) + n then s.h - (s.e - 1) + n else (if s.g < s.h - s.e + 1 then s.h - s.e + 1 else s.g), s.p⟩ : Wk) = _
    congr 1
    · omega
    · (repeat' split) <;> omega
    · (repeat' split) <;> omega
theorem wk_prs : ∀ (n : Nat) (s : Wk), -s.d ≤ s.e → s.e ≤ s.h → s.h - s.e ≤ s.g → wkF s (rept n [43, 45]) = ⟨s.e, s.d, if n = 0 then s.h else if s.h < s.e + 1 then s.e + 1 else s.h, if n = 0 then s.g else if s.g < 1 then 1 else s.g, s.p + n⟩
  | 0, s, h, h2, h3 => by
    rw [rept_zero]
    show s = _
    simp
  | n + 1, s, h, h2, h3 => by
    rw [rept_succ, wkF_app]
    have e : wkF s [43, 45] = s.up.dn := rfl
    rw [e, wk_prs n _ (by simp only [Wk.up, Wk.dn]; (repeat' split) <;> omega) (by simp only [Wk.up, Wk.dn]; (repeat' split) <;> omega) (by simp only [Wk.up, Wk.dn]; (repeat' split) <;> omega)]
    simp only [Wk.up, Wk.dn]
    congr 1
    · omega
    · (repeat' split) <;> omega
    · (repeat' split) <;> omega
    · (repeat' split) <;> omega
    · omega
theorem drawn_wk {w : Wq} {p : Int} (hd : 0 ≤ w.dep) (hh : 0 ≤ w.hei) (hl : w.las ≤ w.hei) (hlo : -w.dep ≤ w.las) (hu : w.up = true → w.las < 0) (hp : p = leastQ w ∨ (leastQ w < p ∧ 0 < w.dep + w.hei)) :
    ∃ g, wk (drawnQ w p) = ⟨w.las, w.dep, w.hei, g, p⟩ ∧ (w.up = true → g ≤ w.dep + w.hei) ∧ (w.up = false → g ≤ w.dep ∨ g ≤ 1 ∨ g ≤ w.hei - w.las) := by
  unfold drawnQ wk
  cases hw : w.up with
  | true =>
    have hn := hu hw
    have hq : leastQ w = w.dep + w.hei + w.las := by unfold leastQ; rw [if_pos hw]
    rw [hq] at hp ⊢
    rw [if_pos rfl, wkF_app, wkF_app, wkF_app]
    have e1 : ((w.hei.toNat : Nat) : Int) = w.hei := Int.toNat_of_nonneg hh
    have e2 : (((w.dep + w.hei).toNat : Nat) : Int) = w.dep + w.hei := Int.toNat_of_nonneg (by omega)
    have e3 : (((p - (w.dep + w.hei + w.las)).toNat : Nat) : Int) = p - (w.dep + w.hei + w.las) := Int.toNat_of_nonneg (by omega)
    have e4 : (((w.las + w.dep).toNat : Nat) : Int) = w.las + w.dep := Int.toNat_of_nonneg (by omega)
    generalize w.hei.toNat = n1 at *
    generalize (w.dep + w.hei).toNat = n2 at *
    generalize (p - (w.dep + w.hei + w.las)).toNat = n3 at *
    generalize (w.las + w.dep).toNat = n4 at *
    have a1 : wkF wk0 (rept n1 [43]) = ⟨w.hei, 0, w.hei, 0, w.hei⟩ := by
      rw [wk_ups _ _ (by simp [wk0])]
      simp only [wk0]
      congr 1 <;> (repeat' split) <;> omega
    have a2 : wkF ⟨w.hei, 0, w.hei, 0, w.hei⟩ (rept n2 [45]) = ⟨-w.dep, w.dep, w.hei, w.dep + w.hei, w.hei⟩ := by
      rw [wk_dns _ _ (by simp only; omega) (by simp only; omega)]
      simp only
      congr 1 <;> (repeat' split) <;> omega
    have a3 : wkF ⟨-w.dep, w.dep, w.hei, w.dep + w.hei, w.hei⟩ (rept n3 [43, 45]) = ⟨-w.dep, w.dep, w.hei, w.dep + w.hei, w.hei + n3⟩ := by
      rw [wk_prs _ _ (by simp only; omega) (by simp only; omega) (by simp only; omega)]
      simp only
      congr 1 <;> (repeat' split) <;> omega
    have a4 : wkF ⟨-w.dep, w.dep, w.hei, w.dep + w.hei, w.hei + n3⟩ (rept n4 [43]) = ⟨w.las, w.dep, w.hei, w.dep + w.hei, p⟩ := by
      rw [wk_ups _ _ (by simp only; omega)]
      simp only
      congr 1 <;> (repeat' split) <;> omega
    rw [a1, a2, a3, a4]
    exact ⟨_, rfl, fun _ => Int.le_refl _, by simp⟩
  | false =>
    have hq : leastQ w = w.dep + w.hei := by unfold leastQ; rw [if_neg (by rw [hw]; decide)]; omega
    rw [hq] at hp ⊢
    rw [if_neg (by decide), wkF_app, wkF_app, wkF_app]
    have e1 : ((w.dep.toNat : Nat) : Int) = w.dep := Int.toNat_of_nonneg hd
    have e2 : (((w.dep + w.hei).toNat : Nat) : Int) = w.dep + w.hei := Int.toNat_of_nonneg (by omega)
    have e3 : (((p - (w.dep + w.hei)).toNat : Nat) : Int) = p - (w.dep + w.hei) := Int.toNat_of_nonneg (by omega)
    have e4 : (((w.hei - w.las).toNat : Nat) : Int) = w.hei - w.las := Int.toNat_of_nonneg (by omega)
    generalize w.dep.toNat = n1 at *
    generalize (w.dep + w.hei).toNat = n2 at *
    generalize (p - (w.dep + w.hei)).toNat = n3 at *
    generalize (w.hei - w.las).toNat = n4 at *
    have a1 : wkF wk0 (rept n1 [45]) = ⟨-w.dep, w.dep, 0, w.dep, 0⟩ := by
      rw [wk_dns _ _ (by simp [wk0]) (by simp [wk0])]
      simp only [wk0]
      congr 1 <;> (repeat' split) <;> omega
    have a2 : ∃ h2 g2, wkF ⟨-w.dep, w.dep, 0, w.dep, 0⟩ (rept n3 [43, 45]) = ⟨-w.dep, w.dep, h2, g2, n3⟩ ∧ 0 ≤ h2 ∧ h2 ≤ w.hei ∧ h2 + w.dep ≤ g2 ∧ (g2 ≤ w.dep ∨ g2 ≤ 1) := by
      rw [wk_prs _ _ (by simp only; omega) (by simp only; omega) (by simp only; omega)]
      refine ⟨if n3 = 0 then 0 else if 0 < -w.dep + 1 then -w.dep + 1 else 0, if n3 = 0 then w.dep else if w.dep < 1 then 1 else w.dep, ?_, ?_, ?_, ?_, ?_⟩
      · simp only
        congr 1
        omega
      · (repeat' split) <;> omega
      · (repeat' split) <;> omega
      · (repeat' split) <;> omega
      · (repeat' split) <;> omega
    obtain ⟨h2, g2, a2, b1, b2, b3, b4⟩ := a2
    have a3 : wkF ⟨-w.dep, w.dep, h2, g2, n3⟩ (rept n2 [43]) = ⟨w.hei, w.dep, w.hei, g2, p⟩ := by
      rw [wk_ups _ _ (by simp only; omega)]
      simp only
      congr 1 <;> (repeat' split) <;> omega
    have a4 : wkF ⟨w.hei, w.dep, w.hei, g2, p⟩ (rept n4 [45]) = ⟨w.las, w.dep, w.hei, if g2 < w.hei - w.las then w.hei - w.las else g2, p⟩ := by
      rw [wk_dns _ _ (by simp only; omega) (by simp only; omega)]
      simp only
      congr 1 <;> (repeat' split) <;> omega
    rw [a1, a2, a3, a4]
    refine ⟨_, rfl, by simp, fun _ => ?_⟩
    split <;> omega
theorem fill_wk : ∀ (w ls : List Nat) (s : Wk), cntP w ≤ ls.length → (∀ x ∈ ls, x ≠ 45) → wkF s (fillL w ls) = wkF s w
  | [], ls, s, h, h2 => rfl
  | x :: w, ls, s, h, h2 => by
    by_cases hx : x = 43
    · subst hx
      have hc : cntP (43 :: w) = cntP w + 1 := by simp [cntP]
      match ls, h, h2 with
      | [], h, _ => rw [hc] at h; simp at h
      | y :: ls, h, h2 =>
        have ih := fill_wk w ls (s.step 43) (by rw [hc] at h; simpa using h) (fun z hz => h2 z (List.mem_cons_of_mem _ hz))
        have e : fillL (43 :: w) (y :: ls) = y :: fillL w ls := rfl
        rw [e]
        have hy := h2 y List.mem_cons_self
        show wkF (s.step y) (fillL w ls) = wkF (s.step 43) w
        rw [show s.step y = s.step 43 by unfold Wk.step; rw [if_neg hy, if_neg (by decide)], ih]
    · have hc : cntP (x :: w) = cntP w := by simp [cntP, hx]
      have e : fillL (x :: w) ls = x :: fillL w ls := by simp only [fillL]; rw [if_neg hx]
      rw [e]
      exact fill_wk w ls (s.step x) (by rw [← hc]; exact h) h2
theorem fill_puts : ∀ (w ls : List Nat), (∀ x ∈ w, x = 43 ∨ x = 45) → cntP w = ls.length → (∀ x ∈ ls, x ≠ 45) → putsL (fillL w ls) = ls
  | [], ls, _, h, _ => by
    have : ls = [] := List.length_eq_zero_iff.mp h.symm
    rw [this]; rfl
  | x :: w, ls, hw, h, h2 => by
    rcases hw x List.mem_cons_self with rfl | rfl
    · have hc : cntP (43 :: w) = cntP w + 1 := by simp [cntP]
      match ls, h, h2 with
      | [], h, _ => rw [hc] at h; simp at h
      | y :: ls, h, h2 =>
        have ih := fill_puts w ls (fun z hz => hw z (List.mem_cons_of_mem _ hz)) (by rw [hc] at h; simpa using h) (fun z hz => h2 z (List.mem_cons_of_mem _ hz))
        have e : fillL (43 :: w) (y :: ls) = y :: fillL w ls := rfl
        rw [e]
        have hy := h2 y List.mem_cons_self
        have e2 : putsL (y :: fillL w ls) = y :: putsL (fillL w ls) := by simp [putsL, hy]
        rw [e2, ih]
    · have hc : cntP (45 :: w) = cntP w := by simp [cntP]
      have e : fillL (45 :: w) ls = 45 :: fillL w ls := rfl
      rw [e]
      have e2 : putsL (45 :: fillL w ls) = putsL (fillL w ls) := by simp [putsL]
      rw [e2]
      exact fill_puts w ls (fun z hz => hw z (List.mem_cons_of_mem _ hz)) (by rw [← hc]; exact h) h2
theorem fill_mem : ∀ (w ls : List Nat), (∀ x ∈ w, x = 43 ∨ x = 45) → cntP w ≤ ls.length → ∀ y ∈ fillL w ls, y = 45 ∨ y ∈ ls
  | [], ls, _, _, y, hy => by cases hy
  | x :: w, ls, hw, h, y, hy => by
    rcases hw x List.mem_cons_self with rfl | rfl
    · have hc : cntP (43 :: w) = cntP w + 1 := by simp [cntP]
      match ls, h, hy with
      | [], h, _ => rw [hc] at h; simp at h
      | z :: ls, h, hy =>
        have e : fillL (43 :: w) (z :: ls) = z :: fillL w ls := rfl
        rw [e] at hy
        rcases List.mem_cons.mp hy with rfl | hy
        · exact .inr List.mem_cons_self
        · rcases fill_mem w ls (fun z hz => hw z (List.mem_cons_of_mem _ hz)) (by rw [hc] at h; simpa using h) y hy with h3 | h3
          · exact .inl h3
          · exact .inr (List.mem_cons_of_mem _ h3)
    · have e : fillL (45 :: w) ls = 45 :: fillL w ls := rfl
      rw [e] at hy
      have hc : cntP (45 :: w) = cntP w := by simp [cntP]
      rcases List.mem_cons.mp hy with rfl | hy
      · exact .inl rfl
      · exact fill_mem w ls (fun z hz => hw z (List.mem_cons_of_mem _ hz)) (by rw [← hc]; exact h) y hy
theorem rept_mem {l : List Nat} {x : Nat} {n : Nat} (h : x ∈ rept n l) : x ∈ l := by
  unfold rept at h
  obtain ⟨m, h1, h2⟩ := List.mem_flatten.mp h
  rw [(List.mem_replicate.mp h1).2] at h2
  exact h2
theorem drawn_mem {w : Wq} {p : Int} : ∀ x ∈ drawnQ w p, x = 43 ∨ x = 45 := by
  intro x hx
  unfold drawnQ at hx
  have two : ∀ {l : List Nat} {n : Nat}, (∀ y ∈ l, y = 43 ∨ y = 45) → x ∈ rept n l → x = 43 ∨ x = 45 := fun h1 h2 => h1 x (rept_mem h2)
  split at hx <;> simp only [List.mem_append] at hx
  · rcases hx with ((hx | hx) | hx) | hx <;> exact two (by simp) hx
  · rcases hx with ((hx | hx) | hx) | hx <;> exact two (by simp) hx
theorem cnt_puts {w : List Nat} (h : ∀ x ∈ w, x = 43 ∨ x = 45) : cntP w = (putsL w).length := by
  unfold cntP putsL
  congr 1
  refine List.filter_congr fun x hx => ?_
  rcases h x hx with rfl | rfl <;> rfl
theorem let_ok {w : Wq} {p : Int} {ls : List Nat} (hd : 0 ≤ w.dep) (hh : 0 ≤ w.hei) (hl : w.las ≤ w.hei) (hlo : -w.dep ≤ w.las) (hu : w.up = true → w.las < 0) (hp : p = leastQ w ∨ (leastQ w < p ∧ 0 < w.dep + w.hei))
    (hs : (ls.length : Int) ≤ p) (hls : ∀ x ∈ ls, x ≠ 45) :
    ∃ g, wk (letQ (drawnQ w p) ls) = ⟨w.las, w.dep, w.hei, g, p⟩ ∧ (w.up = true → g ≤ w.dep + w.hei) ∧ (w.up = false → g ≤ w.dep ∨ g ≤ 1 ∨ g ≤ w.hei - w.las) ∧
      putsL (letQ (drawnQ w p) ls) = List.replicate (p.toNat - ls.length) 97 ++ ls ∧ ∀ y ∈ letQ (drawnQ w p) ls, y = 45 ∨ y = 97 ∨ y ∈ ls := by
  obtain ⟨g, e, g1, g2⟩ := drawn_wk hd hh hl hlo hu hp
  have hc := cnt_puts (drawn_mem (w := w) (p := p))
  have hq := wk_p (drawnQ w p)
  rw [e] at hq
  simp only at hq
  have hcp : cntP (drawnQ w p) = p.toNat := by rw [hc]; omega
  have hlen : (List.replicate (cntP (drawnQ w p) - ls.length) 97 ++ ls).length = cntP (drawnQ w p) := by
    rw [List.length_append, List.length_replicate]; omega
  have hne : ∀ x ∈ List.replicate (cntP (drawnQ w p) - ls.length) 97 ++ ls, x ≠ 45 := by
    intro x hx
    rcases List.mem_append.mp hx with hx | hx
    · rw [(List.mem_replicate.mp hx).2]; decide
    · exact hls x hx
  refine ⟨g, ?_, g1, g2, ?_, ?_⟩
  · rw [← e]
    exact fill_wk _ _ _ (by omega) hne
  · rw [← hcp]
    exact fill_puts _ _ drawn_mem hlen.symm hne
  · intro y hy
    rcases fill_mem _ _ drawn_mem (by omega) y hy with h | h
    · exact .inl h
    · rcases List.mem_append.mp h with h | h
      · exact .inr (.inl (List.mem_replicate.mp h).2)
      · exact .inr (.inr h)
theorem best_low {r : Nat × List Nat} : ∀ (ws : List Wq) (b : Bst) {m : Int} {v : Wq} {q : Int}, b = some (m, v, q) → ∃ m' v' q', ws.foldl (bestS r) b = some (m', v', q') ∧ m' ≤ m
  | [], b, m, v, q, h => ⟨m, v, q, h, Int.le_refl _⟩
  | w :: ws, b, m, v, q, h => by
    subst h
    have : ∃ m1 v1 q1, bestS r (some (m, v, q)) w = some (m1, v1, q1) ∧ m1 ≤ m := by
      unfold bestS
      split
      · exact ⟨m, v, q, rfl, Int.le_refl _⟩
      · split
        · exact ⟨m, v, q, rfl, Int.le_refl _⟩
        · simp only
          split
          · exact ⟨_, _, _, rfl, by omega⟩
          · exact ⟨m, v, q, rfl, Int.le_refl _⟩
    obtain ⟨m1, v1, q1, e, hm⟩ := this
    obtain ⟨m2, v2, q2, e2, hm2⟩ := best_low ws (bestS r (some (m, v, q)) w) e
    exact ⟨m2, v2, q2, e2, by omega⟩
theorem best_any {r : Nat × List Nat} {w : Wq} {p : Int} (hs : skipQ w = false) (hp : putsQ w r = some p) : ∀ (ws : List Wq) (b : Bst), w ∈ ws → ∃ m v q, ws.foldl (bestS r) b = some (m, v, q) ∧ m ≤ 2 * p - w.las
  | u :: ws, b, h => by
    rcases List.mem_cons.mp h with rfl | h
    · have : ∃ m1 v1 q1, bestS r b w = some (m1, v1, q1) ∧ m1 ≤ 2 * p - w.las := by
        unfold bestS
        rw [if_neg (by rw [hs]; decide), hp]
        simp only
        split
        · exact ⟨_, _, _, rfl, Int.le_refl _⟩
        · split
          · exact ⟨_, _, _, rfl, Int.le_refl _⟩
          · exact ⟨_, _, _, rfl, by omega⟩
      obtain ⟨m1, v1, q1, e, hm⟩ := this
      obtain ⟨m2, v2, q2, e2, hm2⟩ := best_low ws _ e
      exact ⟨m2, v2, q2, e2, by omega⟩
    · exact best_any hs hp ws _ h
def BstOk (r : Nat × List Nat) (P : Wq → Prop) (b : Bst) : Prop := ∀ m v q, b = some (m, v, q) → P v ∧ skipQ v = false ∧ putsQ v r = some q ∧ m = 2 * q - v.las
theorem best_ok {r : Nat × List Nat} {P : Wq → Prop} : ∀ (ws : List Wq) (b : Bst), (∀ w ∈ ws, P w) → BstOk r P b → BstOk r P (ws.foldl (bestS r) b)
  | [], b, _, h => h
  | w :: ws, b, hw, h => by
    refine best_ok ws _ (fun v hv => hw v (List.mem_cons_of_mem _ hv)) ?_
    unfold bestS
    split
    · exact h
    · rename_i hs
      have hs' : skipQ w = false := by cases hq : skipQ w <;> simp_all
      split
      · exact h
      · rename_i p hp
        have new : BstOk r P (some (2 * p - w.las, w, p)) := by
          intro m v q e
          cases e
          exact ⟨hw w List.mem_cons_self, hs', hp, rfl⟩
        split
        · exact new
        · split
          · exact new
          · exact h
end U
namespace U
theorem lastL_last {a b : Nat} {l : List Nat} (h : a ≤ b) : lastL a (lastL b l) = lastL a l := by
  unfold lastL
  rw [List.length_drop, List.drop_drop]
  congr 1; omega
theorem lastL_mem {n : Nat} {l : List Nat} {x : Nat} (h : x ∈ lastL n l) : x ∈ l := List.mem_of_mem_drop h
theorem ite_two {p : Prop} [Decidable p] {a b x : Int} (h : x = if p then a else b) : (p ∧ x = a) ∨ (¬p ∧ x = b) := by
  by_cases c : p
  · rw [if_pos c] at h; exact .inl ⟨c, h⟩
  · rw [if_neg c] at h; exact .inr ⟨c, h⟩
theorem mk_same {M t : Nat} {P : Int} {ps ps' : List Nat} (h1 : 0 < M - ps.length → P = (lastL M ps).length) (h2 : M ≤ ps.length → (M : Int) ≤ P)
    (e : ps' = List.replicate (P.toNat - (lastL M ps).length) 97 ++ lastL M ps) (ht : t ≤ M) : mkRow t ps' = mkRow t ps := by
  have hl := lastL_len (n := M) (l := ps)
  by_cases hk : 0 < M - ps.length
  · have hP := h1 hk
    rw [hP, Int.toNat_natCast, Nat.sub_self, List.replicate_zero, List.nil_append, lastL_all (by omega)] at e
    rw [e]
  · have hP := h2 (by omega)
    have hl' : ps'.length = P.toNat := by rw [e, List.length_append, List.length_replicate]; omega
    unfold mkRow
    rw [hl', show t - P.toNat = t - ps.length by omega]
    congr 1
    rw [e, lastL_full (by omega), lastL_last ht]
theorem puts_ok {w : Wq} {M : Nat} {ps : List Nat} {q : Int} (h : putsQ w (mkRow M ps) = some q) :
    (q = leastQ w ∨ (leastQ w < q ∧ 0 < w.dep + w.hei)) ∧ (0 < M - ps.length → q = (lastL M ps).length) ∧ (M ≤ ps.length → (M : Int) ≤ q) := by
  unfold putsQ at h
  have hs := mk_sum (t := M) (ps := ps)
  simp only at h
  rw [hs] at h
  unfold mkRow at h
  simp only at h
  have hl := lastL_len (n := M) (l := ps)
  generalize hp : (if 0 < M - ps.length then (((lastL M ps).length : Nat) : Int) else if (M : Int) < leastQ w then leastQ w else (M : Int)) = p at h
  by_cases ha : allowQ w p = true
  · rw [if_pos ha] at h
    obtain rfl : p = q := Option.some.inj h
    unfold allowQ at ha
    simp only [Bool.or_eq_true, Bool.and_eq_true, decide_eq_true_eq] at ha
    refine ⟨ha, ?_, ?_⟩
    · intro hk
      rw [← hp, if_pos hk]
    · intro hk
      rw [← hp, if_neg (by omega)]
      split <;> omega
  · rw [if_neg ha] at h
    cases h
theorem puts_any {w : Wq} {M : Nat} {ps : List Nat} (h1 : leastQ w ≤ ps.length) (h2 : w.dep + w.hei = 0 → ps = []) (h3 : 0 ≤ w.dep + w.hei) (h4 : w.dep + w.hei = 0 → leastQ w = 0) (h5 : w.dep + w.hei = 0 → M = 0 ∨ 0 < M - ps.length) :
    ∃ q, putsQ w (mkRow M ps) = some q ∧ q ≤ ps.length := by
  have hs := mk_sum (t := M) (ps := ps)
  have hl := lastL_len (n := M) (l := ps)
  have key : ∀ p : Int, leastQ w ≤ p → (w.dep + w.hei = 0 → p = 0) → allowQ w p = true := by
    intro p a b
    unfold allowQ
    simp only [Bool.or_eq_true, Bool.and_eq_true, decide_eq_true_eq]
    by_cases z : w.dep + w.hei = 0
    · left; rw [b z, h4 z]
    · omega
  unfold putsQ
  simp only
  rw [hs]
  unfold mkRow
  simp only
  by_cases hk : 0 < M - ps.length
  · rw [if_pos hk]
    refine ⟨((lastL M ps).length : Nat), ?_, by omega⟩
    rw [if_pos (key _ (by omega) (fun z => by have := h2 z; subst this; simp [lastL]))]
  · rw [if_neg hk]
    by_cases hm : (M : Int) < leastQ w
    · rw [if_pos hm]
      exact ⟨leastQ w, by rw [if_pos (key _ (Int.le_refl _) h4)], h1⟩
    · rw [if_neg hm]
      exact ⟨(M : Nat), by rw [if_pos (key _ (by omega) (fun z => by have := h5 z; omega))], by omega⟩
theorem skip_iff {w : Wq} : skipQ w = false ↔ w.las ≤ w.hei ∧ 0 ≤ w.hei ∧ -w.dep ≤ w.las := by
  unfold skipQ
  simp only [Bool.or_eq_false_iff, decide_eq_false_iff_not]
  constructor
  · rintro ⟨a, b⟩
    split at a <;> omega
  · rintro ⟨a, b, c⟩
    refine ⟨?_, by omega⟩
    split <;> omega
theorem few_ok {fl : List Nat} {lim : Int} (hlim : (wk fl).d + (wk fl).h ≤ lim ∨ (wk fl).g ≤ lim) : leastQ (mkQ (wk fl).d (wk fl).h (wk fl).e lim) ≤ (wk fl).p := by
  obtain ⟨h1, h2, h3, h4, h5, h6, h7, h8, h9⟩ := wk_ok fl
  unfold leastQ mkQ
  simp only [Bool.and_eq_true, decide_eq_true_eq]
  split <;> omega
theorem walk_nil {fl : List Nat} (h : (wk fl).d + (wk fl).h = 0) : putsL fl = [] ∧ (wk fl).e = 0 := by
  obtain ⟨h1, h2, h3, h4, h5, h6, h7, h8, h9⟩ := wk_ok fl
  have hp := wk_p fl
  refine ⟨List.length_eq_zero_iff.mp ?_, by omega⟩
  have := h8 h
  omega
theorem least_nil {d h e lim : Int} (hd : 0 ≤ d) (hh : 0 ≤ h) (he : -d ≤ e) (hz : d + h = 0) : leastQ (mkQ d h e lim) = 0 := by
  unfold leastQ mkQ
  simp only [Bool.and_eq_true, decide_eq_true_eq]
  split <;> omega
theorem seq_strict {c : Nat} {fl : List Nat} (hx : ∀ x ∈ fl, stpOk x) (hs : (wk fl).d + (wk fl).h ≤ c) {M : Nat} (hM : (M : Int) = c - (wk fl).h + (wk fl).e) :
    ∃ t, seqQ (mkRow M (putsL fl)) [mkQ (wk fl).d (wk fl).h (wk fl).e c] = some t ∧ (∀ n, n ≤ c → effR c strCw t n = effR c strCw fl n) ∧ t.length ≤ fl.length ∧ ∀ y ∈ t, y = 45 ∨ y = 97 ∨ y ∈ fl := by
  have ok := wk_ok fl
  obtain ⟨h1, h2, h3, h4, h5, h6, h7, h8, h9⟩ := id ok
  have hp := wk_p fl
  have hlen := wk_len fl
  obtain ⟨q, hq, hq2⟩ := puts_any (w := mkQ (wk fl).d (wk fl).h (wk fl).e c) (M := M) (ps := putsL fl) (by rw [← hp]; exact few_ok (.inl hs)) (fun z => (walk_nil z).1) (by simp only [mkQ]; omega) (fun z => least_nil h1 h2 h3 z)
    (fun z => by have a := walk_nil z; have b := a.1; have := a.2; simp only [mkQ] at z; rw [b]; simp only [List.length_nil]; omega)
  have hsk : skipQ (mkQ (wk fl).d (wk fl).h (wk fl).e c) = false := skip_iff.mpr ⟨h4, h2, h3⟩
  have hb : seqQ (mkRow M (putsL fl)) [mkQ (wk fl).d (wk fl).h (wk fl).e c] = some (letQ (drawnQ (mkQ (wk fl).d (wk fl).h (wk fl).e c) q) (lastL M (putsL fl))) := by
    unfold seqQ bestQ
    simp only [List.foldl_cons, List.foldl_nil, bestS]
    rw [if_neg (by rw [hsk]; decide), hq]
    rfl
  obtain ⟨p1, p2, p3⟩ := puts_ok hq
  have hL := lastL_len (n := M) (l := putsL fl)
  obtain ⟨g, e1, _, _, e2, e3⟩ := let_ok (w := mkQ (wk fl).d (wk fl).h (wk fl).e c) (p := q) (ls := lastL M (putsL fl)) h1 h2 h4 h3 (by simp only [mkQ, Bool.and_eq_true, decide_eq_true_eq]; exact fun z => z.1) p1 (by omega)
    (fun x hx => by have := lastL_mem hx; unfold putsL at this; simpa using (List.mem_filter.mp this).2)
  refine ⟨_, hb, ?_⟩
  clear hb
  generalize letQ (drawnQ (mkQ (wk fl).d (wk fl).h (wk fl).e c) q) (lastL M (putsL fl)) = T at e1 e2 e3 ⊢
  refine ⟨?_, ?_, ?_⟩
  · intro n hn
    have r1 := str_row hn fl
    have r2 := str_row hn T
    rw [e1] at r2
    unfold StrW at r1 r2
    simp only [mkQ] at r2
    rcases r1 with ⟨a1, a2, t, a3, a4⟩ | ⟨a1, a2⟩ <;> rcases r2 with ⟨b1, b2, t', b3, b4⟩ | ⟨b1, b2⟩
    · rw [a4]
      refine b4.trans ?_
      obtain rfl : t = t' := by omega
      rw [mk_same p2 p3 e2 (by omega)]
    · exact absurd ⟨a1, a2⟩ b1
    · exact absurd ⟨b1, b2⟩ a1
    · rw [a2]; exact b2
  · have hl2 := wk_len T
    rw [e1] at hl2
    simp only [mkQ] at hl2 ⊢
    omega
  · intro y hy
    rcases e3 y hy with h | h | h
    · exact .inl h
    · exact .inr (.inl h)
    · exact .inr (.inr (by have := lastL_mem h; unfold putsL at this; exact (List.mem_filter.mp this).1))
theorem seq_old1 {c : Nat} {fl : List Nat} (hc : 1 ≤ c) (hs : (wk fl).g ≤ c) (hd : (wk fl).d + (wk fl).h < c) {M : Nat} (hM : (M : Int) = c - (wk fl).h + (wk fl).e) :
    ∃ t, seqQ (mkRow M (putsL fl)) [mkQ (wk fl).d (wk fl).h (wk fl).e c] = some t ∧ (∀ n, n ≤ c → effR c oldC' t n = effR c oldC' fl n) ∧ t.length ≤ fl.length ∧ ∀ y ∈ t, y = 45 ∨ y = 97 ∨ y ∈ fl := by
  have ok := wk_ok fl
  obtain ⟨h1, h2, h3, h4, h5, h6, h7, h8, h9⟩ := id ok
  have hp := wk_p fl
  have hlen := wk_len fl
  obtain ⟨q, hq, hq2⟩ := puts_any (w := mkQ (wk fl).d (wk fl).h (wk fl).e c) (M := M) (ps := putsL fl) (by rw [← hp]; exact few_ok (.inr hs)) (fun z => (walk_nil z).1) (by simp only [mkQ]; omega) (fun z => least_nil h1 h2 h3 z)
    (fun z => by have a := walk_nil z; have b := a.1; have := a.2; simp only [mkQ] at z; rw [b]; simp only [List.length_nil]; omega)
  have hsk : skipQ (mkQ (wk fl).d (wk fl).h (wk fl).e c) = false := skip_iff.mpr ⟨h4, h2, h3⟩
  have hb : seqQ (mkRow M (putsL fl)) [mkQ (wk fl).d (wk fl).h (wk fl).e c] = some (letQ (drawnQ (mkQ (wk fl).d (wk fl).h (wk fl).e c) q) (lastL M (putsL fl))) := by
    unfold seqQ bestQ
    simp only [List.foldl_cons, List.foldl_nil, bestS]
    rw [if_neg (by rw [hsk]; decide), hq]
    rfl
  obtain ⟨p1, p2, p3⟩ := puts_ok hq
  have hL := lastL_len (n := M) (l := putsL fl)
  obtain ⟨g, e1, g1, g2, e2, e3⟩ := let_ok (w := mkQ (wk fl).d (wk fl).h (wk fl).e c) (p := q) (ls := lastL M (putsL fl)) h1 h2 h4 h3 (by simp only [mkQ, Bool.and_eq_true, decide_eq_true_eq]; exact fun z => z.1) p1 (by omega)
    (fun x hx => by have := lastL_mem hx; unfold putsL at this; simpa using (List.mem_filter.mp this).2)
  have hg : g ≤ c := by
    cases hu : (mkQ (wk fl).d (wk fl).h (wk fl).e c).up with
    | true => have := g1 hu; simp only [mkQ] at this; omega
    | false => have := g2 hu; simp only [mkQ] at this; omega
  refine ⟨_, hb, ?_⟩
  clear hb
  generalize letQ (drawnQ (mkQ (wk fl).d (wk fl).h (wk fl).e c) q) (lastL M (putsL fl)) = T at e1 e2 e3 ⊢
  refine ⟨?_, ?_, ?_⟩
  · intro n hn
    have r1 := old_row hc hn fl
    have r2 := old_row hc hn T
    rw [e1] at r2
    unfold OldW at r1 r2
    simp only [mkQ] at r2
    rcases r1 with ⟨a1, a2, t, a3, a4⟩ | ⟨a1, a2⟩ <;> rcases r2 with ⟨b1, b2, t', b3, b4⟩ | ⟨b1, b2⟩
    · rw [a4]
      refine b4.trans ?_
      obtain rfl : t = t' := by have := a3.trans b3.symm; omega
      rw [mk_same p2 p3 e2 (by split at a3 <;> omega)]
    · exact absurd ⟨hg, a2⟩ b1
    · exact absurd ⟨hs, b2⟩ a1
    · rw [a2]; exact b2
  · have hl2 := wk_len T
    rw [e1] at hl2
    simp only [mkQ] at hl2 ⊢
    omega
  · intro y hy
    rcases e3 y hy with h | h | h
    · exact .inl h
    · exact .inr (.inl h)
    · exact .inr (.inr (by have := lastL_mem h; unfold putsL at this; exact (List.mem_filter.mp this).1))
def candQ (c : Nat) (d m : Int) (n : Nat) : List Wq := (List.range n).map fun (j : Nat) => mkQ d (c + (m - d + j) - m) (m - d + j) c
theorem seq_old2 {c : Nat} {fl : List Nat} (hc : 1 ≤ c) (hs : (wk fl).g ≤ c) (hd : (c : Int) ≤ (wk fl).d + (wk fl).h) {M : Nat} (hM : (M : Int) = c - (wk fl).h + (wk fl).e) {N : Nat} (hN : (N : Int) = (wk fl).d + c + 1) :
    ∃ t, seqQ (mkRow M (putsL fl)) (candQ c (wk fl).d M N) = some t ∧ (∀ n, n ≤ c → effR c oldC' t n = effR c oldC' fl n) ∧ t.length ≤ fl.length ∧ ∀ y ∈ t, y = 45 ∨ y = 97 ∨ y ∈ fl := by
  have ok := wk_ok fl
  obtain ⟨h1, h2, h3, h4, h5, h6, h7, h8, h9⟩ := id ok
  have hp := wk_p fl
  have hlen := wk_len fl
  have hL := lastL_len (n := M) (l := putsL fl)
  have inC : ∀ o : Int, (M : Int) - (wk fl).d ≤ o → o ≤ M + c → mkQ (wk fl).d (c + o - M) o c ∈ candQ c (wk fl).d M N := by
    intro o a b
    refine List.mem_map.mpr ⟨(o - (M - (wk fl).d)).toNat, List.mem_range.mpr (by omega), ?_⟩
    rw [show ((o - (M - (wk fl).d)).toNat : Int) = o - (M - (wk fl).d) from Int.toNat_of_nonneg (by omega)]
    rw [show (M : Int) - (wk fl).d + (o - (M - (wk fl).d)) = o by omega]
  have one : ∃ w q, w ∈ candQ c (wk fl).d M N ∧ skipQ w = false ∧ putsQ w (mkRow M (putsL fl)) = some q ∧ 2 * q - w.las ≤ fl.length := by
    by_cases hh : (wk fl).h ≤ 2 * c
    · have hm := inC (wk fl).e (by omega) (by omega)
      rw [show (c : Int) + (wk fl).e - M = (wk fl).h by omega] at hm
      obtain ⟨q, hq, hq2⟩ := puts_any (w := mkQ (wk fl).d (wk fl).h (wk fl).e c) (M := M) (ps := putsL fl) (by rw [← hp]; exact few_ok (.inr hs)) (fun z => (walk_nil z).1) (by simp only [mkQ]; omega) (fun z => least_nil h1 h2 h3 z)
        (fun z => by have a := walk_nil z; have b := a.1; have := a.2; simp only [mkQ] at z; rw [b]; simp only [List.length_nil]; omega)
      exact ⟨_, q, hm, skip_iff.mpr ⟨h4, h2, h3⟩, hq, by simp only [mkQ]; omega⟩
    · have hm := inC (M - (wk fl).d) (by omega) (by omega)
      rw [show (c : Int) + (M - (wk fl).d) - M = c - (wk fl).d by omega] at hm
      have hle : leastQ (mkQ (wk fl).d (c - (wk fl).d) (M - (wk fl).d) c) ≤ c := by
        unfold leastQ mkQ
        simp only [Bool.and_eq_true, decide_eq_true_eq]
        split <;> omega
      have hkept : ¬ 0 < M - (putsL fl).length := by omega
      have hq : ∃ q, putsQ (mkQ (wk fl).d (c - (wk fl).d) (M - (wk fl).d) c) (mkRow M (putsL fl)) = some q ∧ q ≤ c := by
        have hsum := mk_sum (t := M) (ps := putsL fl)
        unfold putsQ
        simp only
        rw [hsum]
        unfold mkRow
        simp only
        rw [if_neg hkept]
        have key : ∀ p : Int, leastQ (mkQ (wk fl).d (c - (wk fl).d) (M - (wk fl).d) c) ≤ p → allowQ (mkQ (wk fl).d (c - (wk fl).d) (M - (wk fl).d) c) p = true := by
          intro p a
          unfold allowQ
          simp only [Bool.or_eq_true, Bool.and_eq_true, decide_eq_true_eq]
          have : (mkQ (wk fl).d (c - (wk fl).d) (M - (wk fl).d) c).dep + (mkQ (wk fl).d (c - (wk fl).d) (M - (wk fl).d) c).hei = c := by simp only [mkQ]; omega
          omega
        split
        · exact ⟨_, by rw [if_pos (key _ (Int.le_refl _))], hle⟩
        · exact ⟨_, by rw [if_pos (key _ (by omega))], by omega⟩
      obtain ⟨q, hq, hq2⟩ := hq
      refine ⟨_, q, hm, skip_iff.mpr ?_, hq, ?_⟩
      · simp only [mkQ]; omega
      · simp only [mkQ]; omega
  obtain ⟨w, q, hw, hsk, hq, hq2⟩ := one
  obtain ⟨m, v, p, hb, hb2⟩ := best_any hsk hq (candQ c (wk fl).d M N) none hw
  have hP : BstOk (mkRow M (putsL fl)) (fun v => ∃ o : Int, (M : Int) - (wk fl).d ≤ o ∧ v = mkQ (wk fl).d (c + o - M) o c) ((candQ c (wk fl).d M N).foldl (bestS (mkRow M (putsL fl))) none) :=
    best_ok _ _ (fun v hv => by
      obtain ⟨j, _, rfl⟩ := List.mem_map.mp hv
      exact ⟨M - (wk fl).d + j, by omega, rfl⟩) (fun _ _ _ h => by cases h)
  obtain ⟨⟨o, ho, rfl⟩, k1, k2, k3⟩ := hP m v p hb
  have hbe : seqQ (mkRow M (putsL fl)) (candQ c (wk fl).d M N) = some (letQ (drawnQ (mkQ (wk fl).d (c + o - M) o c) p) (lastL M (putsL fl))) := by
    unfold seqQ bestQ
    rw [hb]
    rfl
  obtain ⟨p1, p2, p3⟩ := puts_ok k2
  obtain ⟨s1, s2, s3⟩ := skip_iff.mp k1
  simp only [mkQ] at s1 s2 s3 k3
  obtain ⟨g, e1, g1, g2, e2, e3⟩ := let_ok (w := mkQ (wk fl).d (c + o - M) o c) (p := p) (ls := lastL M (putsL fl)) h1 s2 s1 s3 (by simp only [mkQ, Bool.and_eq_true, decide_eq_true_eq]; exact fun z => z.1) p1 (by omega)
    (fun x hx => by have := lastL_mem hx; unfold putsL at this; simpa using (List.mem_filter.mp this).2)
  have hg : g ≤ c := by
    cases hu : (mkQ (wk fl).d (c + o - M) o c).up with
    | true =>
      have := g1 hu
      simp only [mkQ, Bool.and_eq_true, decide_eq_true_eq] at hu this
      omega
    | false => have := g2 hu; simp only [mkQ] at this; omega
  refine ⟨_, hbe, ?_⟩
  clear hbe
  generalize letQ (drawnQ (mkQ (wk fl).d (c + o - M) o c) p) (lastL M (putsL fl)) = T at e1 e2 e3 ⊢
  refine ⟨?_, ?_, ?_⟩
  · intro n hn
    have r1 := old_row hc hn fl
    have r2 := old_row hc hn T
    rw [e1] at r2
    unfold OldW at r1 r2
    simp only [mkQ] at r2
    rcases r1 with ⟨a1, a2, t, a3, a4⟩ | ⟨a1, a2⟩ <;> rcases r2 with ⟨b1, b2, t', b3, b4⟩ | ⟨b1, b2⟩
    · rw [a4]
      refine b4.trans ?_
      obtain rfl : t = t' := by rcases ite_two a3 with ⟨_, a3⟩ | ⟨_, a3⟩ <;> rcases ite_two b3 with ⟨_, b3⟩ | ⟨_, b3⟩ <;> omega
      rw [mk_same p2 p3 e2 (by split at a3 <;> omega)]
    · exact absurd ⟨hg, a2⟩ b1
    · exact absurd ⟨hs, b2⟩ a1
    · rw [a2]; exact b2
  · have hl2 := wk_len T
    rw [e1] at hl2
    simp only [mkQ] at hl2 ⊢
    omega
  · intro y hy
    rcases e3 y hy with h | h | h
    · exact .inl h
    · exact .inr (.inl h)
    · exact .inr (.inr (by have := lastL_mem h; unfold putsL at this; exact (List.mem_filter.mp this).1))
theorem fail_strict {c : Nat} {fl : List Nat} (h : ∀ n, n ≤ c → effR c strCw fl n = none) : c + 1 ≤ fl.length := by
  obtain ⟨h1, h2, h3, h4, h5, h6, h7, h8, h9⟩ := wk_ok fl
  have hlen := wk_len fl
  by_cases hd : (wk fl).d ≤ c
  · have r := str_row (c := c) (n := (wk fl).d.toNat) (by omega) fl
    rw [h _ (by omega)] at r
    unfold StrW at r
    rcases r with ⟨_, _, _, _, e⟩ | ⟨e, _⟩
    · cases e
    · omega
  · omega
theorem fail_old {c : Nat} {fl : List Nat} (hc : 1 ≤ c) (h : ∀ n, n ≤ c → effR c oldC' fl n = none) : c + 1 ≤ fl.length := by
  obtain ⟨h1, h2, h3, h4, h5, h6, h7, h8, h9⟩ := wk_ok fl
  have hlen := wk_len fl
  have hp := wk_p fl
  have r := old_row hc (Nat.le_refl c) fl
  rw [h _ (Nat.le_refl c)] at r
  unfold OldW at r
  rcases r with ⟨_, _, _, _, e⟩ | ⟨e, _⟩
  · cases e
  · omega
theorem takes_fail {c n k : Nat} {z : List Nat} (h : n < k) : effR c z (rept k [45]) n = none := by
  have go : ∀ (k n : Nat), n < k → runR c z (rept k [45]) (some (n, [])) = none := by
    intro k
    induction k with
    | zero => intro n h; omega
    | succ k ih =>
      intro n h
      rw [rept_succ]
      show runR c z (rept k [45]) (stepR c z 45 (some (n, []))) = none
      simp only [stepR]
      by_cases h0 : n = 0
      · subst h0; simp [runR_none]
      · simp only [List.length_nil, Nat.add_zero, if_neg h0, if_pos (Nat.pos_of_ne_zero h0), if_true]
        exact ih (n - 1) (by omega)
  exact go k n h
end U
namespace U
def wD (w : Wq) : D := .ins "Walk" ["depth", "height", "last", "is_up_first"] [.int w.dep, .int w.hei, .int w.las, .bl w.up]
theorem f_winit (d h e l : Int) : ∃ o, fn_Walk_init [.own 1 (.ins "Walk" [] []), .int d, .int h, .int e, .int l] = .ok .non (some (.own 1 (wD (mkQ d h e l))) :: o) := by
  unfold wD mkQ
  by_cases h1 : e < 0
  · by_cases h2 : d + h ≤ l
    · unfold fn_Walk_init body_Walk_init
      walk_at "evh"
      exact ⟨_, rfl⟩
    · unfold fn_Walk_init body_Walk_init
      walk_at "evh"
      exact ⟨_, rfl⟩
  · unfold fn_Walk_init body_Walk_init
    walk_at "evh"
    exact ⟨_, rfl⟩
theorem f_least (w : Wq) : ∃ o, fn_Walk_least_puts [wD w] = .ok (.int (leastQ w)) o := by
  obtain ⟨d, h, e, u⟩ := w
  unfold wD leastQ
  cases u with
  | true =>
    unfold fn_Walk_least_puts body_Walk_least_puts
    walk_at "evh"
    exact ⟨_, rfl⟩
  | false =>
    unfold fn_Walk_least_puts body_Walk_least_puts
    walk_at "evh"
    exact ⟨_, rfl⟩
theorem f_allows (w : Wq) (p : Int) : ∃ o, fn_Walk_allows [wD w, .int p] = .ok (.bl (allowQ w p)) o := by
  obtain ⟨o, e1⟩ := f_least w
  have hi : (wD w).isMut = false := rfl
  obtain ⟨d, h, e, u⟩ := w
  unfold allowQ
  generalize leastQ ⟨d, h, e, u⟩ = q at *
  unfold wD at *
  by_cases h1 : p = q
  · have h1' : (p == q) = true := by simpa using h1
    unfold fn_Walk_allows body_Walk_allows
    walk_at "evh"
    exact ⟨_, rfl⟩
  · have h1' : (p == q) = false := by simpa using h1
    by_cases h2 : q < p
    · by_cases h3 : 0 < d + h
      · unfold fn_Walk_allows body_Walk_allows
        walk_at "evh"
        exact ⟨_, rfl⟩
      · unfold fn_Walk_allows body_Walk_allows
        walk_at "evh"
        exact ⟨_, rfl⟩
    · unfold fn_Walk_allows body_Walk_allows
      walk_at "evh"
      exact ⟨_, rfl⟩
theorem mulS {a : List Nat} {n : Int} (h0 : 0 ≤ n) (h1 : n ≤ 5000) (ha : a.length ≤ 2) : oMulS (.str a) (.int n) = some (.str (rept n.toNat a)) := by
  show (if -9223372036854775808 ≤ n ∧ n < 9223372036854775808 ∧ a.length * n.toNat ≤ cap then some (D.str (List.replicate n.toNat a).flatten) else none) = _
  rw [if_pos ⟨by omega, by omega, by
    have : a.length * n.toNat ≤ 2 * 5000 := Nat.mul_le_mul ha (by omega)
    show _ ≤ 16777216
    omega⟩]
  rfl
theorem addS {a b : List Nat} (h : a.length + b.length ≤ 100000) : oAddS (.str a) (.str b) = some (.str (a ++ b)) := by
  show (if a.length + b.length ≤ cap then some (D.str (a ++ b)) else none) = _
  rw [if_pos (by show _ ≤ 16777216; omega)]
theorem rept_len {a : List Nat} : ∀ {n : Nat}, (rept n a).length = n * a.length
  | 0 => by simp [rept_zero]
  | n + 1 => by rw [rept_succ, List.length_append, rept_len, Nat.succ_mul, Nat.add_comm]
theorem rept_le {a : List Nat} {n : Int} (h0 : 0 ≤ n) (h1 : n ≤ 5000) (ha : a.length ≤ 2) : (rept n.toNat a).length ≤ 10000 := by
  rw [rept_len]
  exact Nat.le_trans (Nat.mul_le_mul (show n.toNat ≤ 5000 by omega) ha) (by decide)
theorem f_drawn {w : Wq} {p : Int} (hd : 0 ≤ w.dep) (hd2 : w.dep ≤ 1000) (hh : 0 ≤ w.hei) (hh2 : w.hei ≤ 1000) (hl : w.las ≤ w.hei) (hlo : -w.dep ≤ w.las) (hp : 0 ≤ p - leastQ w) (hp2 : p ≤ 5000) (hq : 0 ≤ leastQ w) :
    ∃ o, fn_Walk_drawn [wD w, .int p] = .ok (.str (drawnQ w p)) o := by
  obtain ⟨o, e1⟩ := f_least w
  obtain ⟨d, h, e, u⟩ := w
  simp only at hd hd2 hh hh2 hl hlo
  unfold drawnQ
  simp only
  generalize leastQ ⟨d, h, e, u⟩ = q at *
  have a0 : oAddS (.str [43]) (.str [45]) = some (.str [43, 45]) := addS (by decide)
  have m0 := mulS (a := [43, 45]) (n := p - q) hp (by omega) (by decide)
  have l0 := rept_le (a := [43, 45]) (n := p - q) hp (by omega) (by decide)
  have m2 := mulS (a := [45]) (n := d + h) (by omega) (by omega) (by decide)
  have l2 := rept_le (a := [45]) (n := d + h) (by omega) (by omega) (by decide)
  have m3 := mulS (a := [43]) (n := d + h) (by omega) (by omega) (by decide)
  have l3 := rept_le (a := [43]) (n := d + h) (by omega) (by omega) (by decide)
  generalize rept (p - q).toNat [43, 45] = r0 at *
  generalize rept (d + h).toNat [45] = r2 at *
  generalize rept (d + h).toNat [43] = r3 at *
  unfold wD at *
  simp only at e1
  cases u with
  | true =>
    have m1 := mulS (a := [43]) (n := h) (by omega) (by omega) (by decide)
    have l1 := rept_le (a := [43]) (n := h) (by omega) (by omega) (by decide)
    have m4 := mulS (a := [43]) (n := e + d) (by omega) (by omega) (by decide)
    have l4 := rept_le (a := [43]) (n := e + d) (by omega) (by omega) (by decide)
    generalize rept h.toNat [43] = r1 at *
    generalize rept (e + d).toNat [43] = r4 at *
    have a1 := addS (a := r1) (b := r2) (by omega)
    have a2 := addS (a := r1 ++ r2) (b := r0) (by rw [List.length_append]; omega)
    have a3 := addS (a := r1 ++ r2 ++ r0) (b := r4) (by rw [List.length_append, List.length_append]; omega)
    generalize r1 ++ r2 ++ r0 ++ r4 = R at *
    generalize r1 ++ r2 ++ r0 = R2 at *
    generalize r1 ++ r2 = R1 at *
    clear l0 l1 l2 l3 l4 hd hd2 hh hh2 hl hlo hp hp2 hq m3
    unfold fn_Walk_drawn body_Walk_drawn
    generalize oMulS = M at *
    generalize oAddS = A at *
    walk_at "evh"
    exact ⟨_, rfl⟩
  | false =>
    have m1 := mulS (a := [45]) (n := d) (by omega) (by omega) (by decide)
    have l1 := rept_le (a := [45]) (n := d) (by omega) (by omega) (by decide)
    have m4 := mulS (a := [45]) (n := h - e) (by omega) (by omega) (by decide)
    have l4 := rept_le (a := [45]) (n := h - e) (by omega) (by omega) (by decide)
    generalize rept d.toNat [45] = r1 at *
    generalize rept (h - e).toNat [45] = r4 at *
    have a1 := addS (a := r1) (b := r0) (by omega)
    have a2 := addS (a := r1 ++ r0) (b := r3) (by rw [List.length_append]; omega)
    have a3 := addS (a := r1 ++ r0 ++ r3) (b := r4) (by rw [List.length_append, List.length_append]; omega)
    generalize r1 ++ r0 ++ r3 ++ r4 = R at *
    generalize r1 ++ r0 ++ r3 = R2 at *
    generalize r1 ++ r0 = R1 at *
    clear l0 l1 l2 l3 l4 hd hd2 hh hh2 hl hlo hp hp2 hq m2
    unfold fn_Walk_drawn body_Walk_drawn
    generalize oMulS = M at *
    generalize oAddS = A at *
    walk_at "evh"
    exact ⟨_, rfl⟩
theorem f_putsfor (w : Wq) (r : Nat × List Nat) (hw : r.2.length ≤ 1000) : ∃ o, fn_puts_for [wD w, rowD (some r), .int ((r.1 + r.2.length : Nat) : Int)] = .ok (match putsQ w r with | some p => .int p | none => .non) o := by
  obtain ⟨k, ws⟩ := r
  obtain ⟨o1, e1⟩ := f_least w
  have hi : (wD w).isMut = false := rfl
  have i1 : oIns "Walk" "allows" (wD w) = some (wD w) := rfl
  have i2 : oIns "Walk" "least_puts" (wD w) = some (wD w) := rfl
  simp only at hw ⊢
  unfold putsQ
  simp only
  have hl : ws.length ≤ 16777216 := by omega
  by_cases hk : 0 < k
  · have hk' : (0 : Int) < (k : Nat) := by omega
    rw [if_pos hk]
    obtain ⟨o2, e2⟩ := f_allows w (ws.length : Nat)
    generalize wD w = W at *
    generalize allowQ w ((ws.length : Nat) : Int) = b at *
    unfold rowD
    cases b with
    | true =>
      unfold fn_puts_for body_puts_for
      walk_at "evh"
      exact ⟨_, rfl⟩
    | false =>
      unfold fn_puts_for body_puts_for
      walk_at "evh"
      exact ⟨_, rfl⟩
  · have hk' : ¬ (0 : Int) < (k : Nat) := by omega
    rw [if_neg hk]
    generalize hm : (if ((k + ws.length : Nat) : Int) < leastQ w then leastQ w else ((k + ws.length : Nat) : Int)) = p
    obtain ⟨o2, e2⟩ := f_allows w p
    have hx : oMax2 [.int ((k + ws.length : Nat) : Int), .int (leastQ w)] = some (.int p) := by
      rw [← hm]; rfl
    generalize wD w = W at *
    generalize allowQ w p = b at *
    generalize leastQ w = q at *
    generalize ((k + ws.length : Nat) : Int) = s at *
    clear hm
    unfold rowD
    cases b with
    | true =>
      unfold fn_puts_for body_puts_for
      generalize oMax2 = M at *
      walk_at "evh"
      exact ⟨_, rfl⟩
    | false =>
      unfold fn_puts_for body_puts_for
      generalize oMax2 = M at *
      walk_at "evh"
      exact ⟨_, rfl⟩
theorem popS_at {i t : Nat} {ρ : Env} {d : D} {r : List D} (h : ρ[i]? = some (some (.own t (.lst (d :: r))))) (hp : allPlain (d :: r) = true) (hz : (d :: r).length ≤ cap) : ePop i (eC (.int 0)) ρ = .ok d (ρ.set i (some (.own t (.lst r)))) := by
  have ho : isOL ρ[i]? = true := by rw [h]; rfl
  have hl : 0 < (d :: r).length := by simp
  unfold ePop eC
  rw [if_pos ho]
  simp only [ER.bind, h]
  rw [if_pos ⟨by decide, by simpa using hl, hp, hz⟩]
  rfl
theorem sg_plain : ∀ l : List Nat, allPlain (l.map sg) = true
  | [] => rfl
  | c :: l => by rw [List.map_cons]; show (!(sg c).isMut && allPlain (l.map sg)) = true; rw [sg_plain l]; rfl
theorem fill_comp {v0 v1 v2 : Option D} : ∀ (w ls : List Nat) (acc : List D), cntP w ≤ ls.length → ls.length ≤ 16777216 → acc.length + w.length < 16777216 →
    ∃ ls' : List Nat, compL (gVar 4) (eC (.bl true)) (eIf (eOp oEq (eVar 4) (eC (.str [43]))) (ePop 3 (eC (.int 0))) (eVar 4)) [4] (w.map sg) [v0, v1, v2, some (.own 0 (.lst (ls.map sg))), none] acc = .ok (acc ++ (fillL w ls).map sg) [v0, v1, v2, some (.own 0 (.lst (ls'.map sg))), none]
  | [], ls, acc, _, _, _ => ⟨ls, by rw [List.map_nil, v_cl0]; simp [fillL]⟩
  | x :: w, ls, acc, h1, h2, h3 => by
    have g : gVar 4 (sg x) [v0, v1, v2, some (.own 0 (.lst (ls.map sg))), none] = some [v0, v1, v2, some (.own 0 (.lst (ls.map sg))), some (sg x)] := rfl
    rw [List.map_cons, v_cl1, g, v_clG]
    show ∃ ls', clT _ _ _ _ _ _ (.ok (.bl true) _) = _
    simp only [v_clT]
    by_cases hx : x = 43
    · subst hx
      have hc : cntP (43 :: w) = cntP w + 1 := by simp [cntP]
      match ls, h1, h2 with
      | [], h1, _ => rw [hc] at h1; simp at h1
      | y :: ls, h1, h2 =>
        rw [hc] at h1
        simp only [List.length_cons] at h1 h2 h3
        obtain ⟨ls', ih⟩ := fill_comp w ls (acc ++ [sg y]) (by omega) (by omega) (by rw [List.length_append, List.length_singleton]; omega)
        have e : eIf (eOp oEq (eVar 4) (eC (.str [43]))) (ePop 3 (eC (.int 0))) (eVar 4) [v0, v1, v2, some (.own 0 (.lst ((y :: ls).map sg))), some (sg 43)] = .ok (sg y) [v0, v1, v2, some (.own 0 (.lst (ls.map sg))), some (sg 43)] := by
          have e2 := popS_at (i := 3) (t := 0) (ρ := [v0, v1, v2, some (.own 0 (.lst ((y :: ls).map sg))), some (sg 43)]) (d := sg y) (r := ls.map sg) rfl (sg_plain (y :: ls)) (by rw [← List.map_cons, List.length_map, List.length_cons]; show _ ≤ 16777216; omega)
          exact e2
        rw [e, v_clE, if_pos (by omega)]
        refine ⟨ls', ?_⟩
        show compL _ _ _ _ _ [v0, v1, v2, some (.own 0 (.lst (ls.map sg))), none] _ = _
        rw [ih]
        have ef : fillL (43 :: w) (y :: ls) = y :: fillL w ls := rfl
        rw [ef, List.map_cons, List.append_assoc]
        rfl
    · have hc : cntP (x :: w) = cntP w := by simp [cntP, hx]
      rw [hc] at h1
      simp only [List.length_cons] at h3
      obtain ⟨ls', ih⟩ := fill_comp w ls (acc ++ [sg x]) h1 h2 (by rw [List.length_append, List.length_singleton]; omega)
      have e : eIf (eOp oEq (eVar 4) (eC (.str [43]))) (ePop 3 (eC (.int 0))) (eVar 4) [v0, v1, v2, some (.own 0 (.lst (ls.map sg))), some (sg x)] = .ok (sg x) [v0, v1, v2, some (.own 0 (.lst (ls.map sg))), some (sg x)] := by
        have hq : oEq (sg x) (.str [43]) = some (.bl false) := by
          have : (([x] : List Nat) == [43]) = false := by simp [hx]
          show some (D.bl (([x] : List Nat) == [43])) = _
          rw [this]
        show ((eOp oEq (eVar 4) (eC (.str [43])) [v0, v1, v2, some (.own 0 (.lst (ls.map sg))), some (sg x)]).bind _) = _
        have e3 : eOp oEq (eVar 4) (eC (.str [43])) [v0, v1, v2, some (.own 0 (.lst (ls.map sg))), some (sg x)] = lift (oEq (sg x) (.str [43])) [v0, v1, v2, some (.own 0 (.lst (ls.map sg))), some (sg x)] := rfl
        rw [e3, hq]
        rfl
      rw [e, v_clE, if_pos (by omega)]
      refine ⟨ls', ?_⟩
      show compL _ _ _ _ _ [v0, v1, v2, some (.own 0 (.lst (ls.map sg))), none] _ = _
      rw [ih]
      have ef : fillL (x :: w) ls = x :: fillL w ls := by simp only [fillL]; rw [if_neg hx]
      rw [ef, List.map_cons, List.append_assoc]
      rfl
theorem fill_len : ∀ (w ls : List Nat), (fillL w ls).length = w.length
  | [], _ => rfl
  | x :: w, ls => by
    simp only [fillL]
    split <;> simp [fill_len w]
theorem cnt_eq : ∀ w : List Nat, w.count 43 = cntP w
  | [] => rfl
  | x :: w => by
    have ih := cnt_eq w
    by_cases hx : x = 43
    · subst hx; simp only [cntP, List.count_cons_self] at *; simp [ih]
    · have : (x :: w).count 43 = w.count 43 := List.count_cons_of_ne (fun h => hx h)
      rw [this, ih]; simp [cntP, hx]
theorem f_lettered {w ls : List Nat} (hw : w.length ≤ 100000) (hl : ls.length ≤ cntP w) (hc : cntP w ≤ 5000) : ∃ o, fn_lettered [.str w, .str ls] = .ok (.str (letQ w ls)) o := by
  have hc1 : oCount (.str w) (.str [43]) = some (.int (cntP w : Nat)) := by
    show some (D.int (w.count 43 : Nat)) = _
    rw [cnt_eq]
  have hm := mulS (a := [97]) (n := ((cntP w : Nat) : Int) - (ls.length : Nat)) (by omega) (by omega) (by decide)
  have hr : rept (((cntP w : Nat) : Int) - (ls.length : Nat)).toNat [97] = List.replicate (cntP w - ls.length) 97 := by
    rw [show (((cntP w : Nat) : Int) - (ls.length : Nat)).toNat = cntP w - ls.length by omega]
    generalize cntP w - ls.length = k
    induction k with
    | zero => rfl
    | succ k ih => rw [rept_succ, ih]; rfl
  rw [hr] at hm
  have ha := addS (a := List.replicate (cntP w - ls.length) 97) (b := ls) (by rw [List.length_replicate]; omega)
  have hF : (List.replicate (cntP w - ls.length) 97 ++ ls).length = cntP w := by rw [List.length_append, List.length_replicate]; omega
  have hj : oJoin (.str []) (.lst ((letQ w ls).map sg)) = some (.str (letQ w ls)) := o_join (by unfold letQ; rw [fill_len]; omega)
  have hls : ls.length ≤ 16777216 := by omega
  unfold letQ at hj ⊢
  generalize List.replicate (cntP w - ls.length) 97 ++ ls = F at *
  obtain ⟨ls', hf⟩ := fill_comp (v0 := some (.str w)) (v1 := some (.str ls)) (v2 := some (.int (cntP w : Nat))) w F [] (by omega) (by omega) (by simp; omega)
  have hL : oLstS [.str F] = some (.own 0 (.lst (F.map sg))) := by
    show (if F.length ≤ cap then some (D.own 0 (.lst (F.map fun c => .str [c]))) else none) = _
    rw [if_pos (by show _ ≤ 16777216; omega)]
  have hit : iOf itS (eVar 0) [some (.str w), some (.str ls), some (.int (cntP w : Nat)), some (.own 0 (.lst (F.map sg))), none] = .ok (w.map sg) [some (.str w), some (.str ls), some (.int (cntP w : Nat)), some (.own 0 (.lst (F.map sg))), none] := rfl
  rw [List.nil_append] at hf
  have hcomp : eFrz (eComp (iOf itS (eVar 0)) (gVar 4) (eC (.bl true)) (eIf (eOp oEq (eVar 4) (eC (.str [43]))) (ePop 3 (eC (.int 0))) (eVar 4)) [4]) [some (.str w), some (.str ls), some (.int (cntP w : Nat)), some (.own 0 (.lst (F.map sg))), none] = .ok (.lst ((fillL w F).map sg)) [some (.str w), some (.str ls), some (.int (cntP w : Nat)), some (.own 0 (.lst (ls'.map sg))), none] := by
    unfold eFrz
    rw [v_cp, hit, v_cpO]
    have e0 : wipeE [4] [some (.str w), some (.str ls), some (.int (cntP w : Nat)), some (.own 0 (.lst (F.map sg))), none] = [some (.str w), some (.str ls), some (.int (cntP w : Nat)), some (.own 0 (.lst (F.map sg))), none] := rfl
    rw [e0, hf, v_cpB]
    have e1 : frzD (.own 0 (.lst ((fillL w F).map sg))) = some (.lst ((fillL w F).map sg)) := by
      show (if allPlain ((fillL w F).map sg) then some (D.lst ((fillL w F).map sg)) else none) = _
      rw [if_pos (sg_plain _)]
    simp only [ER.bind]
    rw [e1]
    rfl
  clear hf hit hr hF hw hc
  unfold fn_lettered body_lettered
  generalize eFrz (eComp (iOf itS (eVar 0)) (gVar 4) (eC (.bl true)) (eIf (eOp oEq (eVar 4) (eC (.str [43]))) (ePop 3 (eC (.int 0))) (eVar 4)) [4]) = EC at *
  generalize cntP w = n at *
  generalize (fillL w F) = R at *
  generalize R.map sg = RS at *
  generalize ls'.map sg = LS at *
  generalize F.map sg = FS at *
  generalize oMulS = M at *
  generalize oAddS = A at *
  generalize oJoin = J at *
  generalize oLstS = OL at *
  generalize oCount = OC at *
  walk_at "evh"
  exact ⟨_, rfl⟩
theorem f_endof {k : Nat} {w : List Nat} (hw : w.length ≤ 16777216) : ∃ o, fn_end_of [rowD (some (k, w))] = .ok (.int ((k + w.length : Nat) : Int)) o := by
  have e : ((k + w.length : Nat) : Int) = (k : Int) + (w.length : Int) := by omega
  rw [e]
  unfold rowD
  unfold fn_end_of body_end_of
  walk_at "evh"
  exact ⟨_, rfl⟩
theorem mkW_at {a : As} {ρ : Env} {d h e l : Int} (ha : a ρ = .ok [.int d, .int h, .int e, .int l] ρ) : eFrz (eMake "Walk" fn_Walk_init a []) ρ = .ok (wD (mkQ d h e l)) ρ := by
  obtain ⟨o, e1⟩ := f_winit d h e l
  have hf : frzD (.own 0 (wD (mkQ d h e l))) = some (wD (mkQ d h e l)) := rfl
  unfold wD at *
  walk_at "evh"
def lensF (c : Nat) (f : Nat → Row) : List Nat := (List.range (c + 1)).filter fun n => (f n).isSome
theorem enum_rowsS {c : Nat} {f : Nat → Row} : enumD (rowsL c f) = (List.range (c + 1)).map fun n => D.tup [.int (n : Nat), rowD (f n)] := by
  unfold enumD rowsL
  apply List.ext_getElem?
  intro i
  simp only [List.getElem?_map, List.getElem?_zipIdx, Nat.zero_add]
  by_cases h : i < c + 1
  · rw [List.getElem?_range h]
    simp
  · rw [List.getElem?_eq_none (by simp; omega)]
    rfl
theorem comp_filS {α : Type} {g : Tg} {t e : E} {vs : List Nat} {ρ : Env} (X : α → D) (b : α → Bool) (F : α → D) : ∀ {l : List α} {acc : List D}, (∀ x ∈ l, ∃ ρ1 ρ2 ρ3, g (X x) ρ = some ρ1 ∧ t ρ1 = .ok (.bl (b x)) ρ2 ∧ e ρ2 = .ok (F x) ρ3 ∧ wipeE vs ρ3 = ρ ∧ wipeE vs ρ2 = ρ) → acc.length + l.length ≤ 16777216 → compL g t e vs (l.map X) ρ acc = .ok (acc ++ (l.filter b).map F) ρ
  | [], acc, _, _ => by rw [List.map_nil, List.filter_nil, List.map_nil, List.append_nil]; exact v_cl0
  | x :: l, acc, h, hl => by
    obtain ⟨ρ1, ρ2, ρ3, h1, h2, h3, h4, h5⟩ := h x List.mem_cons_self
    rw [List.length_cons] at hl
    rw [List.map_cons, v_cl1, h1, v_clG, h2]
    cases hb : b x with
    | false =>
      rw [v_clF, h5, comp_filS X b F (l := l) (acc := acc) (fun y hy => h y (List.mem_cons_of_mem _ hy)) (by omega), List.filter_cons_of_neg (by simp [hb])]
    | true =>
      have ih := comp_filS (g := g) (t := t) (e := e) (vs := vs) (ρ := ρ) X b F (l := l) (acc := acc ++ [F x]) (fun y hy => h y (List.mem_cons_of_mem _ hy)) (by simp only [List.length_append, List.length_cons, List.length_nil]; omega)
      rw [v_clT, h3, v_clE, if_pos (by omega), h4, ih, List.filter_cons_of_pos (by simp [hb]), List.map_cons, List.append_assoc]
      rfl
theorem lens_comp {c : Nat} {f : Nat → Row} (hc : c ≤ 1000) {i j : Nat} {ρ : Env} (hi : (∀ d, put i d ρ = some (ρ.set i (some d))) ∧ (∀ d e, put j e (ρ.set i (some d)) = some ((ρ.set i (some d)).set j (some e))))
    (hg : ∀ d e, ((ρ.set i (some d)).set j (some e))[i]? = some (some d) ∧ ((ρ.set i (some d)).set j (some e))[j]? = some (some e) ∧ wipeE [i, j] ((ρ.set i (some d)).set j (some e)) = ρ) :
    compL (gTup [gVar i, gVar j]) (eOp oNotN (eVar j) (eC .non)) (eVar i) [i, j] (enumD (rowsL c f)) ρ [] = .ok ((lensF c f).map fun n => D.int (n : Nat)) ρ := by
  rw [enum_rowsS, comp_filS (fun n : Nat => D.tup [.int (n : Nat), rowD (f n)]) (fun n => (f n).isSome) (fun n : Nat => D.int (n : Nat)) (fun n _ => ?_) (by simp; omega)]
  · rfl
  · obtain ⟨g1, g2, g3⟩ := hg (.int (n : Nat)) (rowD (f n))
    refine ⟨(ρ.set i (some (D.int (n : Nat)))).set j (some (rowD (f n))), (ρ.set i (some (D.int (n : Nat)))).set j (some (rowD (f n))), (ρ.set i (some (D.int (n : Nat)))).set j (some (rowD (f n))), ?_, ?_, ?_, g3, g3⟩
    · show (gVar i (D.int (n : Nat)) ρ).bind _ = _
      unfold gVar
      rw [hi.1]
      show (gVar j (rowD (f n)) _).bind _ = _
      unfold gVar
      rw [hi.2]
      rfl
    · have hv : eVar j ((ρ.set i (some (D.int (n : Nat)))).set j (some (rowD (f n)))) = .ok (rowD (f n)) ((ρ.set i (some (D.int (n : Nat)))).set j (some (rowD (f n)))) := by
        unfold eVar
        rw [g2]
        cases f n with
        | none => rfl
        | some r => obtain ⟨k, w⟩ := r; rfl
      unfold eOp
      rw [hv]
      cases f n with
      | none => rfl
      | some r => obtain ⟨k, w⟩ := r; rfl
    · unfold eVar
      rw [g1]
      rfl
theorem y_seqS {a b : GSt} {ρ ρ1 : Env} {ys y1 : List D} (h : a ρ ys = some (ρ1, y1)) : ySeq a b ρ ys = b ρ1 y1 := by
  unfold ySeq
  rw [h]
theorem y_outS {e : E} {ρ ρ1 : Env} {d : D} {ys : List D} (h : e ρ = .ok d ρ1) (hl : ys.length < 16777216) : yYield e ρ ys = some (ρ1, ys ++ [d]) := by
  unfold yYield
  rw [h]
  simp only
  rw [if_pos hl]
theorem y_dooS {s : St} {ρ ρ1 : Env} {ys : List D} (h : s ρ = .nx ρ1) : yDo s ρ ys = some (ρ1, ys) := by
  unfold yDo
  rw [h]
theorem y_forS {it : Is} {g : Tg} {b : GSt} {ρ ρ1 : Env} {ds ys : List D} (h : it ρ = .ok ds ρ1) : yFor it g b ρ ys = yforL g b ds ρ1 ys := by
  unfold yFor
  rw [h]
theorem y_turnS {g : Tg} {b : GSt} {ρ ρ1 ρ2 : Env} {d : D} {ds ys y2 : List D} (h : g d ρ = some ρ1) (h2 : b ρ1 ys = some (ρ2, y2)) : yforL g b (d :: ds) ρ ys = yforL g b ds ρ2 y2 := by
  rw [yforL, h]
  simp only
  rw [h2]
theorem y_ifS {c : E} {a b : GSt} {ρ ρ1 : Env} {ys : List D} {t : Bool} (h : c ρ = .ok (.bl t) ρ1) : yIf c a b ρ ys = if t = true then a ρ1 ys else b ρ1 ys := by
  unfold yIf
  rw [h]
  cases t <;> rfl
theorem allI : ∀ l : List Nat, allPlain (l.map fun n => D.int (n : Nat)) = true
  | [] => rfl
  | n :: l => by rw [List.map_cons]; show (!(D.int (n : Nat)).isMut && allPlain (l.map fun n => D.int (n : Nat))) = true; rw [allI l]; rfl
noncomputable abbrev cndS1 : St := sSet 1 (eOp oSub (eN oLenQ (aCons (eVar 0) aNil)) (eC (.int 1)))
noncomputable abbrev cndC : E := eFrz (eComp (iOfA itEQ (aCons (eVar 0) aNil)) (gTup [(gVar 3), (gVar 4)]) (eOp oNotN (eVar 4) (eC .non)) (eVar 3) [3, 4])
theorem cnd1 {c : Nat} {f : Nat → Row} (hc : c ≤ 1000) : cndS1 [some (.tup (rowsL c f)), none, none, none, none, none, none, none] = .nx [some (.tup (rowsL c f)), some (.int (c : Nat)), none, none, none, none, none, none] := by
  have h1 : oLenQ [.tup (rowsL c f)] = some (.int ((c : Nat) + 1)) := by
    show some (D.int ((rowsL c f).length : Nat)) = _
    rw [rowsL_len]
    rfl
  have h2 : oSub (.int (((c : Nat) : Int) + 1)) (.int 1) = some (.int (c : Nat)) := by
    show some (D.int (((c : Nat) : Int) + 1 - 1)) = _
    rw [Int.add_sub_cancel]
  unfold cndS1
  generalize rowsL c f = L at *
  generalize oSub = OS at *
  generalize oLenQ = OL at *
  walk_at "evh"
theorem cndC_at {c : Nat} {f : Nat → Row} (hc : c ≤ 1000) {i j : Nat} {ρ : Env} (h0 : ρ[0]? = some (some (.tup (rowsL c f)))) (hw : wipeE [i, j] ρ = ρ) (hi : (∀ d, put i d ρ = some (ρ.set i (some d))) ∧ (∀ d e, put j e (ρ.set i (some d)) = some ((ρ.set i (some d)).set j (some e))))
    (hg : ∀ d e, ((ρ.set i (some d)).set j (some e))[i]? = some (some d) ∧ ((ρ.set i (some d)).set j (some e))[j]? = some (some e) ∧ wipeE [i, j] ((ρ.set i (some d)).set j (some e)) = ρ) :
    eFrz (eComp (iOfA itEQ (aCons (eVar 0) aNil)) (gTup [(gVar i), (gVar j)]) (eOp oNotN (eVar j) (eC .non)) (eVar i) [i, j]) ρ = .ok (.lst ((lensF c f).map fun n => D.int (n : Nat))) ρ := by
  have hv : eVar 0 ρ = .ok (.tup (rowsL c f)) ρ := by unfold eVar; rw [h0]; rfl
  have hit : iOfA itEQ (aCons (eVar 0) aNil) ρ = .ok (enumD (rowsL c f)) ρ := by
    unfold iOfA aCons
    rw [hv]
    rfl
  have hC := lens_comp (c := c) (f := f) hc hi hg
  unfold eFrz
  rw [v_cp, hit, v_cpO, hw, hC, v_cpB]
  simp only [ER.bind]
  show lift (if allPlain _ then some (D.lst ((lensF c f).map fun n => D.int (n : Nat))) else none) ρ = _
  rw [if_pos (allI _)]
  rfl
theorem cnd2 {c low : Nat} {f : Nat → Row} {r : List Nat} (hc : c ≤ 1000) (hl : lensF c f = low :: r) : sSet 2 (eOp oIxL cndC (eC (.int 0))) [some (.tup (rowsL c f)), some (.int (c : Nat)), none, none, none, none, none, none] = .nx [some (.tup (rowsL c f)), some (.int (c : Nat)), some (.int (low : Nat)), none, none, none, none, none] := by
  have h : cndC [some (.tup (rowsL c f)), some (.int (c : Nat)), none, none, none, none, none, none] = .ok (.lst ((lensF c f).map fun n => D.int (n : Nat))) [some (.tup (rowsL c f)), some (.int (c : Nat)), none, none, none, none, none, none] := cndC_at (c := c) (f := f) hc (i := 3) (j := 4) (ρ := [some (.tup (rowsL c f)), some (.int (c : Nat)), none, none, none, none, none, none]) rfl rfl ⟨fun d => rfl, fun d e => rfl⟩ (fun d e => ⟨rfl, rfl, rfl⟩)
  rw [hl, List.map_cons] at h
  have hx : oIxL (.lst (D.int (low : Nat) :: r.map fun n => D.int (n : Nat))) (.int 0) = some (.int (low : Nat)) := by
    show atD _ ((0 : Nat) : Int) = _
    rw [atD_nat]
    rfl
  generalize (D.int (low : Nat) :: r.map fun n => D.int (n : Nat)) = LL at *
  generalize cndC = CC at *
  generalize oIxL = OX at *
  generalize rowsL c f = L at *
  walk_at "evh"
theorem cnd3 {c low : Nat} {f : Nat → Row} {kl km : Nat} {wl wm : List Nat} (hlow : low ≤ c) (h1 : f low = some (kl, wl)) (h2 : f c = some (km, wm)) (hw1 : wl.length ≤ 1000) (hw2 : wm.length ≤ 1000) :
    sPar [5, 6] (aCons (eFrz (eCall fn_end_of [.v (eOp oIxT (eVar 0) (eVar 2))] [])) (aCons (eFrz (eCall fn_end_of [.v (eOp oIxT (eVar 0) (eVar 1))] [])) aNil)) [some (.tup (rowsL c f)), some (.int (c : Nat)), some (.int (low : Nat)), none, none, none, none, none] =
      .nx [some (.tup (rowsL c f)), some (.int (c : Nat)), some (.int (low : Nat)), none, none, some (.int ((kl + wl.length : Nat) : Int)), some (.int ((km + wm.length : Nat) : Int)), none] := by
  have e1 := rows_at (c := c) (g := f) hlow
  have e2 := rows_at (c := c) (g := f) (Nat.le_refl c)
  rw [h1] at e1
  rw [h2] at e2
  obtain ⟨o1, f1⟩ := f_endof (k := kl) (w := wl) (by omega)
  obtain ⟨o2, f2⟩ := f_endof (k := km) (w := wm) (by omega)
  generalize rowsL c f = L at *
  unfold rowD at *
  simp only at e1 e2 f1 f2
  generalize ((kl + wl.length : Nat) : Int) = A at *
  generalize ((km + wm.length : Nat) : Int) = B at *
  clear h1 h2
  walk_at "evh"
theorem f_cand1 {c low : Nat} {f : Nat → Row} {r : List Nat} {kl km : Nat} {wl wm : List Nat} (hc : c ≤ 1000) (hl : lensF c f = low :: r) (hlow : low ≤ c) (h1 : f low = some (kl, wl)) (h2 : f c = some (km, wm)) (hw1 : wl.length ≤ 1000) (hw2 : wm.length ≤ 1000) (hlt : kl + wl.length < km + wm.length) :
    ∃ o, fn_candidates_oldest [rowsD c f] = .ok (.own 0 (.lst [wD (mkQ (low : Nat) ((c : Nat) + ((kl + wl.length : Nat) : Int) - (low : Nat) - ((km + wm.length : Nat) : Int)) (((kl + wl.length : Nat) : Int) - (low : Nat)) (c : Nat))])) o := by
  have s1 := cnd1 (c := c) (f := f) hc
  have s2 := cnd2 hc hl
  have s3 := cnd3 hlow h1 h2 hw1 hw2
  have hlt' : ((kl + wl.length : Nat) : Int) < ((km + wm.length : Nat) : Int) := by omega
  generalize ((kl + wl.length : Nat) : Int) = A at *
  generalize ((km + wm.length : Nat) : Int) = B at *
  generalize hR : rowsL c f = L at *
  have hif : (eOp oLt (eVar 5) (eVar 6)) [some (.tup L), some (.int (c : Nat)), some (.int (low : Nat)), none, none, some (.int A), some (.int B), none] = .ok (.bl true) [some (.tup L), some (.int (c : Nat)), some (.int (low : Nat)), none, none, some (.int A), some (.int B), none] := by
    clear s1 s2 s3 hl h1 h2
    walk_at "evh"
  have hmk := mkW_at (a := (aCons (eVar 2) (aCons (eOp oSub (eOp oSub (eOp oAdd (eVar 1) (eVar 5)) (eVar 2)) (eVar 6)) (aCons (eOp oSub (eVar 5) (eVar 2)) (aCons (eVar 1) aNil))))) (ρ := [some (.tup L), some (.int (c : Nat)), some (.int (low : Nat)), none, none, some (.int A), some (.int B), none]) (d := (low : Nat)) (h := (c : Nat) + A - (low : Nat) - B) (e := A - (low : Nat)) (l := (c : Nat)) rfl
  have hb : body_candidates_oldest (List.map some [rowsD c f] ++ List.replicate 7 none) [] = some ([some (.tup L), some (.int (c : Nat)), some (.int (low : Nat)), none, none, some (.int A), some (.int B), none], [wD (mkQ (low : Nat) ((c : Nat) + A - (low : Nat) - B) (A - (low : Nat)) (c : Nat))]) := by
    have hl0 : List.map some [rowsD c f] ++ List.replicate 7 none = [some (.tup L), none, none, none, none, none, none, none] := by unfold rowsD; rw [hR]; rfl
    rw [hl0]
    unfold body_candidates_oldest
    rw [y_seqS (y_dooS s1), y_seqS (y_dooS s2), y_seqS (y_dooS s3), y_ifS hif, if_pos rfl, y_outS hmk (by decide)]
    rfl
  unfold fn_candidates_oldest fnG
  rw [if_pos (show [rowsD c f].length = 1 from rfl), hb]
  exact ⟨_, rfl⟩
theorem cnd_loop {c low : Nat} {L : List D} {A B : Int} : ∀ (m k : Nat) (v7 : Option D) (ys : List D), Fre v7 → ys.length + m ≤ 10000 →
    ∃ v, yforL (gVar 7) (yYield (eFrz (eMake "Walk" fn_Walk_init (aCons (eVar 2) (aCons (eOp oSub (eOp oAdd (eVar 1) (eVar 7)) (eVar 6)) (aCons (eVar 7) (aCons (eVar 1) aNil)))) []))) ((List.range' k m).map fun (j : Nat) => D.int (B - (low : Nat) + j)) [some (.tup L), some (.int (c : Nat)), some (.int (low : Nat)), none, none, some (.int A), some (.int B), v7] ys =
      some ([some (.tup L), some (.int (c : Nat)), some (.int (low : Nat)), none, none, some (.int A), some (.int B), v], ys ++ (List.range' k m).map fun (j : Nat) => wD (mkQ (low : Nat) ((c : Nat) + (B - (low : Nat) + j) - B) (B - (low : Nat) + j) (c : Nat)))
  | 0, k, v7, ys, _, _ => ⟨v7, by simp [yforL]⟩
  | m + 1, k, v7, ys, o7, hy => by
    obtain ⟨v, ih⟩ := cnd_loop m (k + 1) (some (.int (B - (low : Nat) + k))) (ys ++ [wD (mkQ (low : Nat) ((c : Nat) + (B - (low : Nat) + k) - B) (B - (low : Nat) + k) (c : Nat))]) (fre_pl rfl) (by rw [List.length_append, List.length_singleton]; omega)
    refine ⟨v, ?_⟩
    have g1 : gVar 7 (D.int (B - (low : Nat) + k)) [some (.tup L), some (.int (c : Nat)), some (.int (low : Nat)), none, none, some (.int A), some (.int B), v7] = some [some (.tup L), some (.int (c : Nat)), some (.int (low : Nat)), none, none, some (.int A), some (.int B), some (.int (B - (low : Nat) + k))] := by
      clear ih
      walk_at "evh"
    have hmk := mkW_at (a := (aCons (eVar 2) (aCons (eOp oSub (eOp oAdd (eVar 1) (eVar 7)) (eVar 6)) (aCons (eVar 7) (aCons (eVar 1) aNil))))) (ρ := [some (.tup L), some (.int (c : Nat)), some (.int (low : Nat)), none, none, some (.int A), some (.int B), some (.int (B - (low : Nat) + k))]) (d := (low : Nat)) (h := (c : Nat) + (B - (low : Nat) + k) - B) (e := B - (low : Nat) + k) (l := (c : Nat)) rfl
    rw [List.range'_succ, List.map_cons, List.map_cons, y_turnS g1 (y_outS hmk (by omega)), ih, List.append_assoc]
    rfl
theorem f_cand2 {c low N : Nat} {f : Nat → Row} {r : List Nat} {kl km : Nat} {wl wm : List Nat} (hc : c ≤ 1000) (hl : lensF c f = low :: r) (hlow : low ≤ c) (h1 : f low = some (kl, wl)) (h2 : f c = some (km, wm)) (hw1 : wl.length ≤ 1000) (hw2 : wm.length ≤ 1000) (hk2 : km ≤ 1000) (hlt : ¬ kl + wl.length < km + wm.length) (hN : N = low + c + 1) :
    ∃ o, fn_candidates_oldest [rowsD c f] = .ok (.own 0 (.lst ((candQ c (low : Nat) ((km + wm.length : Nat) : Int) N).map wD))) o := by
  have s1 := cnd1 (c := c) (f := f) hc
  have s2 := cnd2 hc hl
  have s3 := cnd3 hlow h1 h2 hw1 hw2
  have hlt' : ¬ ((kl + wl.length : Nat) : Int) < ((km + wm.length : Nat) : Int) := by omega
  have hB : ((km + wm.length : Nat) : Int) ≤ 2000 ∧ 0 ≤ ((km + wm.length : Nat) : Int) := by omega
  generalize ((kl + wl.length : Nat) : Int) = A at *
  generalize ((km + wm.length : Nat) : Int) = B at *
  generalize hR : rowsL c f = L at *
  have hif : (eOp oLt (eVar 5) (eVar 6)) [some (.tup L), some (.int (c : Nat)), some (.int (low : Nat)), none, none, some (.int A), some (.int B), none] = .ok (.bl false) [some (.tup L), some (.int (c : Nat)), some (.int (low : Nat)), none, none, some (.int A), some (.int B), none] := by
    clear s1 s2 s3 hl h1 h2
    walk_at "evh"
  have hit : (iOfA itR (aCons (eOp oSub (eVar 6) (eVar 2)) (aCons (eOp oAdd (eOp oAdd (eVar 6) (eVar 1)) (eC (.int 1))) aNil))) [some (.tup L), some (.int (c : Nat)), some (.int (low : Nat)), none, none, some (.int A), some (.int B), none] = .ok ((List.range' 0 N).map fun (j : Nat) => D.int (B - (low : Nat) + j)) [some (.tup L), some (.int (c : Nat)), some (.int (low : Nat)), none, none, some (.int A), some (.int B), none] := by
    have r1 : okR (B - (low : Nat)) = true := by unfold okR; exact decide_eq_true (by omega)
    have r2 : okR (B + (c : Nat) + 1) = true := by unfold okR; exact decide_eq_true (by omega)
    have r3 : rangeD (B - (low : Nat)) (B + (c : Nat) + 1 - (B - (low : Nat))).toNat = (List.range' 0 N).map fun (j : Nat) => D.int (B - (low : Nat) + j) := by
      unfold rangeD
      rw [show (B + (c : Nat) + 1 - (B - (low : Nat))).toNat = N by omega, List.range_eq_range']
    clear s1 s2 s3 hl h1 h2
    generalize ((List.range' 0 N).map fun (j : Nat) => D.int (B - (low : Nat) + j)) = RR at *
    walk_at "evh"
  obtain ⟨v, hloop⟩ := cnd_loop (c := c) (low := low) (L := L) (A := A) (B := B) N 0 none [] fre_none (by simp only [List.length_nil]; omega)
  rw [List.nil_append] at hloop
  have hcand : (candQ c (low : Nat) B N).map wD = (List.range' 0 N).map fun (j : Nat) => wD (mkQ (low : Nat) ((c : Nat) + (B - (low : Nat) + j) - B) (B - (low : Nat) + j) (c : Nat)) := by
    unfold candQ
    rw [List.map_map, List.range_eq_range']
    rfl
  rw [hcand]
  have hb : body_candidates_oldest (List.map some [rowsD c f] ++ List.replicate 7 none) [] = some ([some (.tup L), some (.int (c : Nat)), some (.int (low : Nat)), none, none, some (.int A), some (.int B), v], (List.range' 0 N).map fun (j : Nat) => wD (mkQ (low : Nat) ((c : Nat) + (B - (low : Nat) + j) - B) (B - (low : Nat) + j) (c : Nat))) := by
    have hl0 : List.map some [rowsD c f] ++ List.replicate 7 none = [some (.tup L), none, none, none, none, none, none, none] := by unfold rowsD; rw [hR]; rfl
    rw [hl0]
    unfold body_candidates_oldest
    rw [y_seqS (y_dooS s1), y_seqS (y_dooS s2), y_seqS (y_dooS s3), y_ifS hif, if_neg (by decide), y_forS hit]
    exact hloop
  unfold fn_candidates_oldest fnG
  rw [if_pos (show [rowsD c f].length = 1 from rfl), hb]
  exact ⟨_, rfl⟩
/-! #### all walks -/
noncomputable abbrev wkC : E := (eFrz (eComp (iOfA itEQ (aCons (eVar 0) aNil)) (gTup [(gVar 4), (gVar 5)]) (eOp oNotN (eVar 5) (eC .non)) (eVar 4) [4, 5]))
theorem wkC_at {c : Nat} {f : Nat → Row} {z : D} (hc : c ≤ 1000) : wkC [some (.tup (rowsL c f)), some z, some (.int (c : Nat)), none, none, none, none, none, none] = .ok (.lst ((lensF c f).map fun n => D.int (n : Nat))) [some (.tup (rowsL c f)), some z, some (.int (c : Nat)), none, none, none, none, none, none] :=
  cndC_at (c := c) (f := f) hc (i := 4) (j := 5) (ρ := [some (.tup (rowsL c f)), some z, some (.int (c : Nat)), none, none, none, none, none, none]) rfl rfl ⟨fun d => rfl, fun d e => rfl⟩ (fun d e => ⟨rfl, rfl, rfl⟩)
theorem lens_first {l : List Nat} {a : Nat} (h : l.head? = some a) : oIxL (.lst (l.map fun n => D.int (n : Nat))) (.int 0) = some (.int (a : Nat)) := by
  cases l with
  | nil => cases h
  | cons x r =>
    cases h
    show atD _ ((0 : Nat) : Int) = _
    rw [atD_nat]
    rfl
theorem lens_last {l : List Nat} {a : Nat} (h : l.getLast? = some a) : oIxL (.lst (l.map fun n => D.int (n : Nat))) (.int (-1)) = some (.int (a : Nat)) := by
  have hn : l ≠ [] := by intro e; rw [e] at h; cases h
  have hp : 0 < l.length := List.length_pos_iff.mpr hn
  show atD _ (-1) = _
  unfold atD ixD
  rw [List.length_map, if_neg (by omega), if_pos (by omega)]
  show (l.map fun n => D.int (n : Nat))[((l.length : Int) + -1).toNat]? = _
  rw [show ((l.length : Int) + -1).toNat = l.length - 1 by omega, List.getElem?_map]
  rw [List.getLast?_eq_getElem?] at h
  rw [h]
  rfl
def strD : D := .str [115, 116, 114, 105, 99, 116]
theorem f_walksS {c low most : Nat} {f : Nat → Row} {kl : Nat} {wl : List Nat} (hc : c ≤ 1000) (hh : (lensF c f).head? = some low) (ht : (lensF c f).getLast? = some most) (hlow : low ≤ c) (hmost : most ≤ c) (h1 : f low = some (kl, wl)) (hw1 : wl.length ≤ 1000) :
    ∃ o, fn_walks_for [rowsD c f, strD] = .ok (.tup [.lst ([mkQ (low : Nat) ((c : Nat) - (most : Nat)) (((kl + wl.length : Nat) : Int) - (low : Nat)) (c : Nat)].map wD), rowD (f most)]) o := by
  have hC := wkC_at (c := c) (f := f) (z := strD) hc
  have x1 := lens_first hh
  have x2 := lens_last ht
  have e1 := rows_at (c := c) (g := f) hlow
  have e2 := rows_at (c := c) (g := f) hmost
  rw [h1] at e1
  obtain ⟨o1, f1⟩ := f_endof (k := kl) (w := wl) (by omega)
  have h1 : oLenQ [.tup (rowsL c f)] = some (.int ((c : Nat) + 1)) := by
    show some (D.int ((rowsL c f).length : Nat)) = _
    rw [rowsL_len]
    rfl
  have h2 : oSub (.int (((c : Nat) : Int) + 1)) (.int 1) = some (.int (c : Nat)) := by
    show some (D.int (((c : Nat) : Int) + 1 - 1)) = _
    rw [Int.add_sub_cancel]
  have hs : sSet 2 (eOp oSub (eN oLenQ (aCons (eVar 0) aNil)) (eC (.int 1))) [some (.tup (rowsL c f)), some strD, none, none, none, none, none, none, none] = .nx [some (.tup (rowsL c f)), some strD, some (.int (c : Nat)), none, none, none, none, none, none] := by
    unfold strD
    generalize rowsL c f = L at *
    generalize oSub = OS at *
    generalize oLenQ = OL at *
    clear x1 x2 e1 e2 f1 hC
    walk_at "evh"
  clear h1 h2
  have hr : (rowD (f most)).isMut = false := rowD_pl
  unfold rowsD
  simp only [List.map_cons, List.map_nil]
  generalize rowD (f most) = RM at *
  generalize rowsL c f = L at *
  generalize ((lensF c f).map fun n => D.int (n : Nat)) = LL at *
  unfold rowD at *
  simp only at e1 f1
  generalize ((kl + wl.length : Nat) : Int) = A at *
  have hmk := mkW_at (a := (aCons (eVar 6) (aCons (eOp oSub (eVar 2) (eVar 7)) (aCons (eVar 8) (aCons (eVar 2) aNil))))) (ρ := [some (.tup L), some strD, some (.int (c : Nat)), some (.lst LL), none, none, some (.int (low : Nat)), some (.int (most : Nat)), some (.int (A - (low : Nat)))]) (d := (low : Nat)) (h := (c : Nat) - (most : Nat)) (e := A - (low : Nat)) (l := (c : Nat)) rfl
  have hp : (wD (mkQ (low : Nat) ((c : Nat) - (most : Nat)) (A - (low : Nat)) (c : Nat))).isMut = false := rfl
  generalize wD (mkQ (low : Nat) ((c : Nat) - (most : Nat)) (A - (low : Nat)) (c : Nat)) = WW at *
  unfold fn_walks_for body_walks_for
  unfold wkC at hC
  generalize (eFrz (eComp (iOfA itEQ (aCons (eVar 0) aNil)) (gTup [(gVar 4), (gVar 5)]) (eOp oNotN (eVar 5) (eC .non)) (eVar 4) [4, 5])) = CC at *
  generalize sSet 2 (eOp oSub (eN oLenQ (aCons (eVar 0) aNil)) (eC (.int 1))) = S2 at *
  generalize (eFrz (eMake "Walk" fn_Walk_init (aCons (eVar 6) (aCons (eOp oSub (eVar 2) (eVar 7)) (aCons (eVar 8) (aCons (eVar 2) aNil)))) [])) = MK at *
  generalize oIxL = OX at *
  unfold strD at *
  walk_at "evh"
  exact ⟨_, rfl⟩
theorem f_walksO {c low most : Nat} {f : Nat → Row} {z : List Nat} {ws : List Wq} (hz : (z == [115, 116, 114, 105, 99, 116]) = false) (hc : c ≤ 1000) (hh : (lensF c f).head? = some low) (ht : (lensF c f).getLast? = some most) (hmost : most ≤ c)
    (hcand : most = c → ∃ o, fn_candidates_oldest [rowsD c f] = .ok (.own 0 (.lst (ws.map wD))) o) (hno : most ≠ c → ws = []) :
    ∃ o, fn_walks_for [rowsD c f, .str z] = .ok (.tup [.lst (ws.map wD), rowD (f most)]) o := by
  have hC := wkC_at (c := c) (f := f) (z := .str z) hc
  have x1 := lens_first hh
  have x2 := lens_last ht
  have e2 := rows_at (c := c) (g := f) hmost
  have h1 : oLenQ [.tup (rowsL c f)] = some (.int ((c : Nat) + 1)) := by
    show some (D.int ((rowsL c f).length : Nat)) = _
    rw [rowsL_len]
    rfl
  have h2 : oSub (.int (((c : Nat) : Int) + 1)) (.int 1) = some (.int (c : Nat)) := by
    show some (D.int (((c : Nat) : Int) + 1 - 1)) = _
    rw [Int.add_sub_cancel]
  have hs : sSet 2 (eOp oSub (eN oLenQ (aCons (eVar 0) aNil)) (eC (.int 1))) [some (.tup (rowsL c f)), some (.str z), none, none, none, none, none, none, none] = .nx [some (.tup (rowsL c f)), some (.str z), some (.int (c : Nat)), none, none, none, none, none, none] := by
    generalize rowsL c f = L at *
    generalize oSub = OS at *
    generalize oLenQ = OL at *
    clear x1 x2 e2 hC hcand hno
    walk_at "evh"
  clear h1 h2
  have hr : (rowD (f most)).isMut = false := rowD_pl
  have hpl : allPlain (ws.map wD) = true := by
    clear hcand hno
    induction ws with
    | nil => rfl
    | cons w ws ih => rw [List.map_cons]; show (!(wD w).isMut && allPlain (ws.map wD)) = true; rw [ih]; rfl
  unfold rowsD at *
  generalize rowD (f most) = RM at *
  generalize rowsL c f = L at *
  generalize ((lensF c f).map fun n => D.int (n : Nat)) = LL at *
  unfold fn_walks_for body_walks_for
  unfold wkC at hC
  generalize (eFrz (eComp (iOfA itEQ (aCons (eVar 0) aNil)) (gTup [(gVar 4), (gVar 5)]) (eOp oNotN (eVar 5) (eC .non)) (eVar 4) [4, 5])) = CC at *
  generalize sSet 2 (eOp oSub (eN oLenQ (aCons (eVar 0) aNil)) (eC (.int 1))) = S2 at *
  generalize oIxL = OX at *
  by_cases hm : most = c
  · obtain ⟨o, hcand⟩ := hcand hm
    subst hm
    clear hno
    generalize ws.map wD = WW at *
    walk_at "evh"
    exact ⟨_, rfl⟩
  · have hm' : (((most : Nat) : Int) == ((c : Nat) : Int)) = false := by simp; omega
    have hw := hno hm
    subst hw
    clear hno hcand hm
    simp only [List.map_nil] at *
    walk_at "evh"
    exact ⟨_, rfl⟩
def bestD : Bst → D
  | none => .non
  | some (m, w, p) => .tup [.int m, wD w, .int p]
noncomputable abbrev skE : E := (eOr (eOp oLt (eUn (oFld "Walk" "height") (eVar 5)) (eN oMax2 (aCons (eC (.int 0)) (aCons (eUn (oFld "Walk" "last") (eVar 5)) aNil)))) (eOp oLt (eUn (oFld "Walk" "last") (eVar 5)) (eUn oNeg (eUn (oFld "Walk" "depth") (eVar 5)))))
theorem skE_at {w : Wq} {v0 v1 v2 v3 v4 v6 : Option D} : skE [v0, v1, v2, v3, v4, some (wD w), v6] = .ok (.bl (skipQ w)) [v0, v1, v2, v3, v4, some (wD w), v6] := by
  obtain ⟨d, h, l, u⟩ := w
  unfold skipQ
  simp only
  generalize hM : (if 0 < l then l else 0) = M
  have hx : oMax2 [.int 0, .int l] = some (.int M) := by rw [← hM]; rfl
  clear hM
  unfold skE wD
  generalize oMax2 = OM at *
  by_cases h1 : h < M
  · walk_at "evh"
  · by_cases h2 : l < -d
    · walk_at "evh"
    · walk_at "evh"
theorem sq_turn {R z WL : D} {r : Nat × List Nat} {w : Wq} {b : Bst} {v6 : Option D} (hR : R.isMut = false) (hz : z.isMut = false) (hW : WL.isMut = false) (hr : r.2.length ≤ 1000) (o6 : Fre v6) (hl : w.las ≤ 100000 ∧ -100000 ≤ w.las) (hp : ∀ p, putsQ w r = some p → p ≤ 100000 ∧ -100000 ≤ p) :
    ∃ v6', Fre v6' ∧ (turn_sequence_for_1 [some R, some z, some WL, some (rowD (some r)), some (bestD b), some (wD w), v6] = .nx [some R, some z, some WL, some (rowD (some r)), some (bestD (bestS r b w)), some (wD w), v6'] ∨
      turn_sequence_for_1 [some R, some z, some WL, some (rowD (some r)), some (bestD b), some (wD w), v6] = .ct [some R, some z, some WL, some (rowD (some r)), some (bestD (bestS r b w)), some (wD w), v6']) := by
  have hs := skE_at (w := w) (v0 := some R) (v1 := some z) (v2 := some WL) (v3 := some (rowD (some r))) (v4 := some (bestD b)) (v6 := v6)
  unfold bestS
  cases hk : skipQ w with
  | true =>
    rw [hk] at hs
    rw [if_pos rfl]
    refine ⟨v6, o6, .inr ?_⟩
    unfold turn_sequence_for_1
    unfold skE at hs
    generalize (eOr (eOp oLt (eUn (oFld "Walk" "height") (eVar 5)) (eN oMax2 (aCons (eC (.int 0)) (aCons (eUn (oFld "Walk" "last") (eVar 5)) aNil)))) (eOp oLt (eUn (oFld "Walk" "last") (eVar 5)) (eUn oNeg (eUn (oFld "Walk" "depth") (eVar 5))))) = SK at *
    clear hp hl hk
    walk_at "evh"
  | false =>
    rw [hk] at hs
    rw [if_neg (by decide)]
    obtain ⟨k, ws⟩ := r
    simp only at hr
    obtain ⟨o1, f1⟩ := f_endof (k := k) (w := ws) (by omega)
    obtain ⟨o2, f2⟩ := f_putsfor w (k, ws) hr
    have hi : (wD w).isMut = false := rfl
    have hd : (rowD (some (k, ws))).isMut = false := rowD_pl
    simp only at f2
    generalize ((k + ws.length : Nat) : Int) = A at *
    generalize rowD (some (k, ws)) = RD at *
    cases hq : putsQ w (k, ws) with
    | none =>
      rw [hq] at f2
      simp only at f2 ⊢
      refine ⟨some .non, fre_pl rfl, .inl ?_⟩
      unfold turn_sequence_for_1
      unfold skE at hs
      generalize (eOr (eOp oLt (eUn (oFld "Walk" "height") (eVar 5)) (eN oMax2 (aCons (eC (.int 0)) (aCons (eUn (oFld "Walk" "last") (eVar 5)) aNil)))) (eOp oLt (eUn (oFld "Walk" "last") (eVar 5)) (eUn oNeg (eUn (oFld "Walk" "depth") (eVar 5))))) = SK at *
      clear hp hl hk hq
      generalize wD w = WD at *
      generalize bestD b = BD at *
      walk_at "evh"
    | some p =>
      obtain ⟨p1, p2⟩ := hp p hq
      rw [hq] at f2
      simp only at f2 ⊢
      refine ⟨some (.int p), fre_pl rfl, .inl ?_⟩
      have hmul : oMul (.int 2) (.int p) = some (.int (2 * p)) := rfl
      have hla : oFld "Walk" "last" (wD w) = some (.int w.las) := rfl
      have hsub : oSub (.int (2 * p)) (.int w.las) = some (.int (2 * p - w.las)) := rfl
      unfold turn_sequence_for_1
      unfold skE at hs
      generalize (eOr (eOp oLt (eUn (oFld "Walk" "height") (eVar 5)) (eN oMax2 (aCons (eC (.int 0)) (aCons (eUn (oFld "Walk" "last") (eVar 5)) aNil)))) (eOp oLt (eUn (oFld "Walk" "last") (eVar 5)) (eUn oNeg (eUn (oFld "Walk" "depth") (eVar 5))))) = SK at *
      clear hp hk hq p1 p2
      cases b with
      | none =>
        unfold bestD at *
        simp only
        generalize 2 * p - w.las = T at *
        clear hl
        generalize wD w = WD at *
        generalize oMul = OM at *
        generalize oSub = OS at *
        generalize oFld "Walk" "last" = OF at *
        walk_at "evh"
      | some q =>
        obtain ⟨m, v, pp⟩ := q
        have hv : (wD v).isMut = false := rfl
        simp only
        unfold bestD at *
        simp only at *
        by_cases hlt : 2 * p - w.las < m
        · rw [if_pos hlt]
          simp only
          generalize 2 * p - w.las = T at *
          clear hl
          generalize wD w = WD at *
          generalize wD v = VD at *
          generalize oMul = OM at *
          generalize oSub = OS at *
          generalize oFld "Walk" "last" = OF at *
          walk_at "evh"
        · rw [if_neg hlt]
          simp only
          generalize 2 * p - w.las = T at *
          clear hl
          generalize wD w = WD at *
          generalize wD v = VD at *
          generalize oMul = OM at *
          generalize oSub = OS at *
          generalize oFld "Walk" "last" = OF at *
          walk_at "evh"
def wkBd (w : Wq) : Prop := (0 ≤ w.dep ∧ w.dep ≤ 1000) ∧ (-1000 ≤ w.hei ∧ w.hei ≤ 1000) ∧ (-1000 ≤ w.las ∧ w.las ≤ 1000) ∧ (w.up = true → w.las < 0)
theorem puts_bd {w : Wq} {r : Nat × List Nat} {p : Int} (hw : wkBd w) (hr : r.1 ≤ 1000 ∧ r.2.length ≤ 1000) (h : putsQ w r = some p) : p ≤ 5000 ∧ -5000 ≤ p := by
  obtain ⟨⟨a1, a2⟩, ⟨a3, a4⟩, ⟨a5, a6⟩, _⟩ := hw
  have hl : leastQ w ≤ 3000 ∧ -3000 ≤ leastQ w := by unfold leastQ; split <;> omega
  unfold putsQ at h
  simp only at h
  generalize hq : (if 0 < r.1 then ((r.2.length : Nat) : Int) else if ((r.1 + r.2.length : Nat) : Int) < leastQ w then leastQ w else ((r.1 + r.2.length : Nat) : Int)) = q at h
  by_cases ha : allowQ w q = true
  · rw [if_pos ha] at h
    cases h
    rw [← hq]
    split
    · omega
    · split <;> omega
  · rw [if_neg ha] at h; cases h
theorem sq_loop {R z WL : D} {r : Nat × List Nat} (hR : R.isMut = false) (hz : z.isMut = false) (hW : WL.isMut = false) (hr : r.1 ≤ 1000 ∧ r.2.length ≤ 1000) : ∀ (ws : List Wq) (b : Bst) (v5 v6 : Option D), Fre v5 → Fre v6 → (∀ w ∈ ws, wkBd w) →
    ∃ v5' v6', forL (gVar 5) turn_sequence_for_1 (ws.map wD) [some R, some z, some WL, some (rowD (some r)), some (bestD b), v5, v6] = .nx [some R, some z, some WL, some (rowD (some r)), some (bestD (ws.foldl (bestS r) b)), v5', v6']
  | [], b, v5, v6, _, _, _ => ⟨v5, v6, by rw [List.map_nil, v_fl0]; rfl⟩
  | w :: ws, b, v5, v6, o5, o6, h => by
    have hw := h w List.mem_cons_self
    have hb := hw
    obtain ⟨_, _, hl, _⟩ := hw
    obtain ⟨v6', o6', ht⟩ := sq_turn (b := b) (w := w) hR hz hW hr.2 o6 (by omega) (fun p hp => by have := puts_bd hb hr hp; omega)
    obtain ⟨v5'', v6'', ih⟩ := sq_loop hR hz hW hr ws (bestS r b w) (some (wD w)) v6' (fre_pl rfl) o6' (fun v hv => h v (List.mem_cons_of_mem _ hv))
    refine ⟨v5'', v6'', ?_⟩
    have hg : gVar 5 (wD w) [some R, some z, some WL, some (rowD (some r)), some (bestD b), v5, v6] = some [some R, some z, some WL, some (rowD (some r)), some (bestD b), some (wD w), v6] := by
      generalize bestD b = BD at *
      generalize rowD (some r) = RD at *
      clear ht ih
      generalize wD w = WD at *
      walk_at "evh"
    rw [List.map_cons, v_fl1, hg]
    show (match turn_sequence_for_1 [some R, some z, some WL, some (rowD (some r)), some (bestD b), some (wD w), v6] with
      | .nx ρ2 => forL (gVar 5) turn_sequence_for_1 (ws.map wD) ρ2
      | .ct ρ2 => forL (gVar 5) turn_sequence_for_1 (ws.map wD) ρ2
      | .bk ρ2 => .nx ρ2
      | .rt d ρ2 => .rt d ρ2
      | .ex x ρ2 => .ex x ρ2
      | .bad => .bad) = _
    rcases ht with ht | ht <;> rw [ht] <;> exact ih
def seqD : Option (List Nat) → D
  | none => .non
  | some t => .str t
theorem f_seqOf {R : D} {z : D} {ws : List Wq} {r : Nat × List Nat} (hR : R.isMut = false) (hz : z.isMut = false) (hr : r.1 ≤ 1000 ∧ r.2.length ≤ 1000) (hws : ∀ w ∈ ws, wkBd w) (hf : ∃ o, fn_walks_for [R, z] = .ok (.tup [.lst (ws.map wD), rowD (some r)]) o)
    (hb : ∀ m v q, bestQ r ws = some (m, v, q) → wkBd v ∧ skipQ v = false ∧ putsQ v r = some q) : ∃ o, fn_sequence_for [R, z] = .ok (seqD (seqQ r ws)) o := by
  obtain ⟨o, hf⟩ := hf
  have hW : (D.lst (ws.map wD)).isMut = false := rfl
  obtain ⟨v5, v6, hl⟩ := sq_loop (WL := .lst (ws.map wD)) hR hz hW hr ws none none none fre_none fre_none hws
  have hfor : sFor (iOf itL (eVar 2)) (gVar 5) turn_sequence_for_1 [some R, some z, some (.lst (ws.map wD)), some (rowD (some r)), some .non, none, none] = .nx [some R, some z, some (.lst (ws.map wD)), some (rowD (some r)), some (bestD (bestQ r ws)), v5, v6] := by
    unfold sFor iOf
    have hv : eVar 2 [some R, some z, some (.lst (ws.map wD)), some (rowD (some r)), some .non, none, none] = .ok (.lst (ws.map wD)) [some R, some z, some (.lst (ws.map wD)), some (rowD (some r)), some .non, none, none] := rfl
    rw [hv]
    exact hl
  obtain ⟨k, wr⟩ := r
  have hd : (rowD (some (k, wr))).isMut = false := rowD_pl
  unfold seqQ
  cases hq : bestQ (k, wr) ws with
  | none =>
    rw [hq] at hfor
    simp only [Option.map_none, seqD]
    unfold bestD at hfor
    simp only at hfor
    clear hb hws hl hq
    generalize ws.map wD = WW at *
    generalize rowD (some (k, wr)) = RD at *
    unfold fn_sequence_for body_sequence_for
    generalize sFor (iOf itL (eVar 2)) (gVar 5) turn_sequence_for_1 = SF at *
    walk_at "evh"
    exact ⟨_, rfl⟩
  | some b =>
    obtain ⟨m, v, q⟩ := b
    rw [hq] at hfor
    obtain ⟨⟨⟨a1, a2⟩, ⟨a3, a4⟩, ⟨a5, a6⟩, hu⟩, hs, hp⟩ := hb m v q hq
    obtain ⟨s1, s2, s3⟩ := skip_iff.mp hs
    have hbd := puts_bd ⟨⟨a1, a2⟩, ⟨a3, a4⟩, ⟨a5, a6⟩, hu⟩ hr hp
    have hle : leastQ v ≤ q ∧ 0 ≤ leastQ v ∧ q ≤ 3000 ∧ (wr.length : Int) ≤ q ∧ (q = leastQ v ∨ (leastQ v < q ∧ 0 < v.dep + v.hei)) := by
      have h0 : 0 ≤ leastQ v := by unfold leastQ; split <;> omega
      have h3 : leastQ v ≤ 2000 := by
        unfold leastQ
        split
        · rename_i hup
          have := hu hup
          omega
        · omega
      unfold putsQ at hp
      simp only at hp hr
      generalize hg : (if 0 < k then ((wr.length : Nat) : Int) else if ((k + wr.length : Nat) : Int) < leastQ v then leastQ v else ((k + wr.length : Nat) : Int)) = p at hp
      by_cases ha : allowQ v p = true
      · rw [if_pos ha] at hp
        cases hp
        unfold allowQ at ha
        simp only [Bool.or_eq_true, Bool.and_eq_true, decide_eq_true_eq] at ha
        by_cases hk : 0 < k
        · rw [if_pos hk] at hg; omega
        · rw [if_neg hk] at hg
          by_cases hm : ((k + wr.length : Nat) : Int) < leastQ v
          · rw [if_pos hm] at hg; omega
          · rw [if_neg hm] at hg; omega
      · rw [if_neg ha] at hp; cases hp
    obtain ⟨t1, t2, t3, t4, t5⟩ := hle
    obtain ⟨o1, f1⟩ : ∃ o, fn_Walk_drawn [wD v, .int q] = .ok (.str (drawnQ v q)) o := f_drawn a1 a2 s2 a4 s1 s3 (by omega) (by omega) t2
    obtain ⟨g, e1, _, _⟩ := drawn_wk a1 s2 s1 s3 hu t5
    have hcn : cntP (drawnQ v q) = q.toNat := by
      have := cnt_puts (drawn_mem (w := v) (p := q))
      have h2 := wk_p (drawnQ v q)
      rw [e1] at h2
      simp only at h2
      omega
    have hln : (drawnQ v q).length ≤ 100000 := by
      have h2 := wk_len (drawnQ v q)
      rw [e1] at h2
      simp only at h2
      omega
    obtain ⟨o2, f2⟩ := f_lettered (w := drawnQ v q) (ls := wr) hln (by omega) (by omega)
    have hi : (wD v).isMut = false := rfl
    have hin : oIns "Walk" "drawn" (wD v) = some (wD v) := rfl
    have hx1 : oIxT (bestD (some (m, v, q))) (.int 1) = some (wD v) := by
      show atD [D.int m, wD v, D.int q] ((1 : Nat) : Int) = _
      rw [atD_nat]; rfl
    have hx2 : oIxT (bestD (some (m, v, q))) (.int 2) = some (.int q) := by
      show atD [D.int m, wD v, D.int q] ((2 : Nat) : Int) = _
      rw [atD_nat]; rfl
    have hx3 : oIxT (rowD (some (k, wr))) (.int 1) = some (.str wr) := by
      show atD [D.int (k : Nat), D.str wr] ((1 : Nat) : Int) = _
      rw [atD_nat]; rfl
    have hn : oIsN (bestD (some (m, v, q))) .non = some (.bl false) := rfl
    have hbm : (bestD (some (m, v, q))).isMut = false := rfl
    simp only [Option.map_some, seqD]
    clear hb hws hl hq hs hp hbd hu a1 a2 a3 a4 a5 a6 s1 s2 s3 t1 t2 t3 t4 t5 e1 hcn hln
    generalize letQ (drawnQ v q) wr = LT at *
    generalize drawnQ v q = DR at *
    generalize ws.map wD = WW at *
    generalize rowD (some (k, wr)) = RD at *
    generalize bestD (some (m, v, q)) = BD at *
    generalize wD v = WD at *
    unfold fn_sequence_for body_sequence_for
    generalize sFor (iOf itL (eVar 2)) (gVar 5) turn_sequence_for_1 = SF at *
    generalize oIxT = OX at *
    generalize oIsN = ON at *
    walk_at "evh"
    exact ⟨_, rfl⟩
end U
namespace U
def anyS (c : Nat) (f : Nat → Row) : Bool := (List.range (c + 1)).any fun n => (f n).isSome
theorem anyS_iff {c : Nat} {f : Nat → Row} : anyS c f = true ↔ ∃ n, n ≤ c ∧ f n ≠ none := by
  unfold anyS
  rw [List.any_eq_true]
  constructor
  · rintro ⟨n, hn, h⟩
    exact ⟨n, by have := List.mem_range.mp hn; omega, fun e => by rw [e] at h; cases h⟩
  · rintro ⟨n, hn, h⟩
    refine ⟨n, List.mem_range.mpr (by omega), ?_⟩
    cases e : f n with
    | none => exact absurd e h
    | some _ => rfl
theorem f_boolS {c : Nat} {f : Nat → Row} (hc2 : c ≤ 100) : ∃ o, fn_Effect_bool [effD c f] = .ok (.bl (anyS c f)) o := by
  have hm := comp_mapL (g := gVar 1) (e := eOp oNotN (eVar 1) (eC .non)) (vs := [1]) (ρ := [some (effD c f), none]) (fun n => rowD (f n)) (fun n => D.bl (f n).isSome) (l := List.range (c + 1)) (acc := []) (fun n hn => by
    refine ⟨[some (effD c f), some (rowD (f n))], [some (effD c f), some (rowD (f n))], rfl, ?_, rfl⟩
    have hp : (rowD (f n)).isMut = false := rowD_pl
    have hi : (rowD (f n)).isN = (f n).isNone := by cases f n <;> rfl
    have hs : (!(f n).isNone) = (f n).isSome := by cases f n <;> rfl
    generalize rowD (f n) = R at *
    generalize (f n).isSome = b at *
    generalize (f n).isNone = b' at *
    clear hn
    unfold effD
    generalize rowsL c f = L at *
    walk_at "evh"
    show ER.ok (D.bl (!R.isN)) _ = _
    rw [hi, hs]) (by simp; omega)
  rw [List.nil_append] at hm
  have e2 : boolsD ((List.range (c + 1)).map fun n => D.bl (f n).isSome) = some ((List.range (c + 1)).map fun n => (f n).isSome) := all_bl (by rw [List.map_map]; rfl)
  have e3 : ((List.range (c + 1)).map fun n => (f n).isSome).any id = anyS c f := by unfold anyS; rw [List.any_map]; rfl
  have hp : allPlain ((List.range (c + 1)).map fun n => D.bl (f n).isSome) = true := pl_map (fun _ => rfl) _
  have hm' : compL (gVar 1) (eC (.bl true)) (eOp oNotN (eVar 1) (eC .non)) [1] (rowsL c f) [some (effD c f), none] [] = .ok ((List.range (c + 1)).map fun n => D.bl (f n).isSome) [some (effD c f), none] := hm
  clear hm
  unfold effD at *
  generalize rowsL c f = L at *
  generalize ((List.range (c + 1)).map fun n => D.bl (f n).isSome) = BL at *
  generalize ((List.range (c + 1)).map fun n => (f n).isSome) = BB at *
  unfold fn_Effect_bool body_Effect_bool
  walk_at "evh"
  exact ⟨_, rfl⟩
theorem eff_seqS {c : Nat} {z l : List Nat} (hc : 1 ≤ c) (hc2 : c ≤ 100) (hz : z ∈ modes) (hl : l.length ≤ 100000) (h : ∀ x ∈ l, stpOk x) : ∃ o, fn_effect_of [.str l, .int (c : Nat), .str z] = .ok (effD c (effR c z l)) o := by
  have hpr := (Q.Spells.steps (n := 0) fun x hx => by
    rcases h x hx with rfl | ⟨h1, h2⟩
    · decide
    · exact (by decide : ∀ x : Nat, x ≤ 122 → 97 ≤ x → x ∈ Q.stp) x h2 h1).prog (by decide)
  rw [Q.progF_P] at hpr
  obtain ⟨pg, hpg, hw⟩ := Option.map_eq_some_iff.mp hpr
  obtain ⟨oe, ee⟩ := f_effect_of (z := z) hc hc2 hz hl hpg
  rw [hw] at ee
  exact ⟨oe, ee⟩
def lowS (c : Nat) (f : Nat → Row) : Nat := (lensF c f).headD 0
def topS (c : Nat) (f : Nat → Row) : Nat := (lensF c f).getLastD 0
def sumR : Row → Int
  | none => 0
  | some r => ((r.1 + r.2.length : Nat) : Int)
def rowG : Row → Nat × List Nat
  | none => (0, [])
  | some r => r
def walksOf (c : Nat) (f : Nat → Row) (z : List Nat) : List Wq :=
  if z = strCw then [mkQ (lowS c f : Nat) ((c : Nat) - (topS c f : Nat)) (sumR (f (lowS c f)) - (lowS c f : Nat)) (c : Nat)]
  else if topS c f = c then (if sumR (f (lowS c f)) < sumR (f c) then [mkQ (lowS c f : Nat) ((c : Nat) + sumR (f (lowS c f)) - (lowS c f : Nat) - sumR (f c)) (sumR (f (lowS c f)) - (lowS c f : Nat)) (c : Nat)]
    else candQ c (lowS c f : Nat) (sumR (f c)) (lowS c f + c + 1))
  else []
def seqS (c : Nat) (f : Nat → Row) (z : List Nat) : Option (List Nat) := seqQ (rowG (f (topS c f))) (walksOf c f z)
def shortF (c : Nat) (f : Nat → Row) (z : List Nat) : Option (List Nat) :=
  if anyS c f = true then (match seqS c f z with
    | none => none
    | some t => if eqR c (effR c z t) f = true then some t else none)
  else some (rept (c + 1) [45])
theorem lens_mem {c n : Nat} {f : Nat → Row} : n ∈ lensF c f ↔ n ≤ c ∧ f n ≠ none := by
  unfold lensF
  rw [List.mem_filter, List.mem_range]
  constructor
  · rintro ⟨a, b⟩
    exact ⟨by omega, fun e => by rw [e] at b; cases b⟩
  · rintro ⟨a, b⟩
    refine ⟨by omega, ?_⟩
    cases h : f n with
    | none => exact absurd h b
    | some _ => rfl
theorem lens_ends {c : Nat} {f : Nat → Row} (h : anyS c f = true) : (lensF c f).head? = some (lowS c f) ∧ (lensF c f).getLast? = some (topS c f) ∧ lowS c f ∈ lensF c f ∧ topS c f ∈ lensF c f := by
  obtain ⟨n, hn, hf⟩ := anyS_iff.mp h
  have hm := lens_mem.mpr ⟨hn, hf⟩
  unfold lowS topS
  generalize lensF c f = l at *
  cases l with
  | nil => cases hm
  | cons a r =>
    have h2 : (a :: r).getLast? = some ((a :: r).getLastD 0) := by
      rw [List.getLast?_eq_some_getLast (List.cons_ne_nil a r), List.getLastD_eq_getLast?, List.getLast?_eq_some_getLast (List.cons_ne_nil a r)]
      rfl
    refine ⟨rfl, h2, List.mem_cons_self, ?_⟩
    exact List.mem_of_getLast? h2
theorem walks_bd {c : Nat} {f : Nat → Row} {z : List Nat} (hc : c ≤ 100) (hf : ∀ n, n ≤ c → rowOk c n (f n)) (h : anyS c f = true) : ∀ w ∈ walksOf c f z, wkBd w := by
  obtain ⟨_, _, hl, ht⟩ := lens_ends h
  obtain ⟨l1, l2⟩ := lens_mem.mp hl
  obtain ⟨t1, t2⟩ := lens_mem.mp ht
  have hs : ∀ n, n ≤ c → 0 ≤ sumR (f n) ∧ sumR (f n) ≤ 100 := fun n hn => by
    have := hf n hn
    unfold sumR
    cases hr : f n with
    | none => simp
    | some r =>
      rw [hr] at this
      obtain ⟨_, b, _⟩ := this
      simp only
      omega
  have s1 := hs _ l1
  have s2 := hs c (Nat.le_refl _)
  have up : ∀ d h e l, (mkQ d h e l).up = true → (mkQ d h e l).las < 0 := fun d h e l hu => by
    simp only [mkQ, Bool.and_eq_true, decide_eq_true_eq] at hu ⊢
    exact hu.1
  intro w hw
  unfold walksOf at hw
  split at hw
  · rw [List.mem_singleton.mp hw]
    refine ⟨?_, ?_, ?_, up _ _ _ _⟩ <;> simp only [mkQ] <;> omega
  · split at hw
    · split at hw
      · rw [List.mem_singleton.mp hw]
        refine ⟨?_, ?_, ?_, up _ _ _ _⟩ <;> simp only [mkQ] <;> omega
      · unfold candQ at hw
        obtain ⟨j, hj, rfl⟩ := List.mem_map.mp hw
        have := List.mem_range.mp hj
        refine ⟨?_, ?_, ?_, up _ _ _ _⟩ <;> simp only [mkQ] <;> omega
    · cases hw
theorem f_seqS {c : Nat} {f : Nat → Row} {z : List Nat} (hz : z = strCw ∨ z = oldC') (hc : c ≤ 100) (hf : ∀ n, n ≤ c → rowOk c n (f n)) (h : anyS c f = true) : ∃ o, fn_sequence_for [rowsD c f, .str z] = .ok (seqD (seqS c f z)) o := by
  have hbd := walks_bd (z := z) hc hf h
  obtain ⟨h1, h2, hl, ht⟩ := lens_ends h
  obtain ⟨l1, l2⟩ := lens_mem.mp hl
  obtain ⟨t1, t2⟩ := lens_mem.mp ht
  unfold seqS
  have hlo := hf _ l1
  have hto := hf _ t1
  cases hrl : f (lowS c f) with
  | none => exact absurd hrl l2
  | some rl =>
    cases hrt : f (topS c f) with
    | none => exact absurd hrt t2
    | some rt =>
      rw [hrl] at hlo
      rw [hrt] at hto
      obtain ⟨kl, wl⟩ := rl
      obtain ⟨kt, wt⟩ := rt
      obtain ⟨a1, a2, _⟩ := hlo
      obtain ⟨b1, b2, _⟩ := hto
      refine f_seqOf rfl rfl (by simp only [rowG]; omega) hbd ?_ ?_
      · have hrow : rowD (some (rowG (some (kt, wt)))) = rowD (f (topS c f)) := by rw [hrt]; rfl
        rw [hrow]
        unfold walksOf
        rcases hz with rfl | rfl
        · rw [if_pos rfl]
          have := f_walksS (c := c) (f := f) (by omega) h1 h2 l1 t1 hrl (by omega)
          rw [hrl]
          exact this
        · rw [if_neg (by decide)]
          refine f_walksO (by decide) (by omega) h1 h2 t1 ?_ ?_
          · intro htc
            rw [if_pos htc]
            have hr : ∃ r, lensF c f = lowS c f :: r := by
              cases hq : lensF c f with
              | nil => rw [hq] at h1; cases h1
              | cons x r => rw [hq] at h1; cases h1; exact ⟨r, rfl⟩
            obtain ⟨r, hr⟩ := hr
            have hrt' : f c = some (kt, wt) := by rw [← hrt, htc]
            have q1 : sumR (f (lowS c f)) = ((kl + wl.length : Nat) : Int) := by rw [hrl]; rfl
            have q2 : sumR (f c) = ((kt + wt.length : Nat) : Int) := by rw [hrt']; rfl
            by_cases hlt : sumR (f (lowS c f)) < sumR (f c)
            · rw [if_pos hlt, q1, q2]
              rw [q1, q2] at hlt
              exact f_cand1 (by omega) hr l1 hrl hrt' (by omega) (by omega) (by omega)
            · rw [if_neg hlt, q2]
              rw [q1, q2] at hlt
              exact f_cand2 (by omega) hr l1 hrl hrt' (by omega) (by omega) (by omega) (by omega) rfl
          · intro htc
            rw [if_neg htc]
      · intro m v q hb
        obtain ⟨k1, k2, k3, _⟩ := best_ok (r := rowG (some (kt, wt))) (P := wkBd) (walksOf c f z) none hbd (fun _ _ _ e => by cases e) m v q hb
        exact ⟨k1, k2, k3⟩
theorem seqS_steps {c : Nat} {f : Nat → Row} {z t : List Nat} (hz : z = strCw ∨ z = oldC') (hc : c ≤ 100) (hf : ∀ n, n ≤ c → rowOk c n (f n)) (h : anyS c f = true) (ht : seqS c f z = some t) : (∀ x ∈ t, x = 45 ∨ x = 97 ∨ ∃ n r, n ≤ c ∧ f n = some r ∧ x ∈ r.2) ∧ (∀ x ∈ t, stpOk x) ∧ t.length ≤ 100000 := by
  have hbd := walks_bd (z := z) hc hf h
  obtain ⟨_, _, _, htm⟩ := lens_ends h
  obtain ⟨t1, t2⟩ := lens_mem.mp htm
  have hto := hf _ t1
  unfold seqS seqQ at ht
  obtain ⟨⟨m, v, q⟩, hb, e⟩ := Option.map_eq_some_iff.mp ht
  obtain ⟨k1, k2, k3, _⟩ := best_ok (r := rowG (f (topS c f))) (P := wkBd) (walksOf c f z) none hbd (fun _ _ _ e => by cases e) m v q hb
  obtain ⟨⟨a1, a2⟩, ⟨a3, a4⟩, ⟨a5, a6⟩, hu⟩ := k1
  obtain ⟨s1, s2, s3⟩ := skip_iff.mp k2
  cases hr : f (topS c f) with
  | none => exact absurd hr t2
  | some r =>
    obtain ⟨k, w⟩ := r
    rw [hr] at hto k3 e
    obtain ⟨b1, b2, b3⟩ := hto
    simp only [rowG] at k3 e
    have hpb := puts_bd ⟨⟨a1, a2⟩, ⟨a3, a4⟩, ⟨a5, a6⟩, hu⟩ (r := (k, w)) (by simp only; omega) k3
    have hM : ∃ (M : Nat) (ps : List Nat), (k, w) = mkRow M ps ∧ True := by
      refine ⟨k + w.length, w, ?_, trivial⟩
      unfold mkRow
      rw [lastL_all (by omega), Nat.add_sub_cancel]
    have hq : (q = leastQ v ∨ (leastQ v < q ∧ 0 < v.dep + v.hei)) ∧ (w.length : Int) ≤ q := by
      obtain ⟨M, ps, hM, _⟩ := hM
      rw [hM] at k3
      obtain ⟨p1, p2, p3⟩ := puts_ok k3
      refine ⟨p1, ?_⟩
      have e1 : w = lastL M ps := congrArg Prod.snd hM
      rw [e1]
      have hL := lastL_len (n := M) (l := ps)
      by_cases hk : 0 < M - ps.length
      · rw [p2 hk]; exact Int.le_refl _
      · have := p3 (by omega)
        omega
    obtain ⟨g, e1, _, _, e2, e3⟩ := let_ok (w := v) (p := q) (ls := w) a1 s2 s1 s3 hu hq.1 hq.2 (fun x hx => by have := b3 x hx; omega)
    rw [e] at e1 e3
    have hmem : ∀ x ∈ t, x = 45 ∨ x = 97 ∨ x ∈ w := e3
    refine ⟨fun x hx => ?_, fun x hx => ?_, ?_⟩
    · rcases hmem x hx with h | h | h
      · exact .inl h
      · exact .inr (.inl h)
      · exact .inr (.inr ⟨_, _, t1, hr, h⟩)
    · rcases hmem x hx with rfl | rfl | h
      · exact .inl rfl
      · exact .inr (by omega)
      · exact .inr (b3 x h)
    · have h2 := wk_len t
      rw [e1] at h2
      simp only at h2
      omega
theorem f_short {c : Nat} {f : Nat → Row} {z : List Nat} (hz : z = strCw ∨ z = oldC') (hc : 1 ≤ c) (hc2 : c ≤ 100) (hf : ∀ n, n ≤ c → rowOk c n (f n)) : ∃ o, fn_shortest_sequence [effD c f, .str z] = .ok (seqD (shortF c f z)) o := by
  obtain ⟨o1, e1⟩ := f_check_effect (c := c) (f := f)
  obtain ⟨o2, e2⟩ := f_boolS (f := f) hc2
  obtain ⟨o3, e3⟩ := f_capacity (c := c) (f := f)
  obtain ⟨o4, e4⟩ := f_rowsP (c := c) (f := f)
  have hin : (([111, 108, 100, 101, 115, 116] : List Nat) == z || ([115, 116, 114, 105, 99, 116] : List Nat) == z) = true := by
    rcases hz with rfl | rfl <;> decide
  have hz2 : z ∈ modes := by rcases hz with rfl | rfl <;> simp [modes, strCw, oldC']
  unfold shortF
  cases ha : anyS c f with
  | false =>
    rw [ha] at e2
    rw [if_neg (by decide)]
    have hm := mulS (a := [45]) (n := ((c : Nat) : Int) + 1) (by omega) (by omega) (by decide)
    rw [show (((c : Nat) : Int) + 1).toNat = c + 1 by omega] at hm
    simp only [seqD]
    clear hf hz hz2
    unfold effD at *
    generalize rowsL c f = L at *
    generalize rept (c + 1) [45] = RP at *
    unfold fn_shortest_sequence body_shortest_sequence
    generalize oMulS = MU at *
    walk_at "evx"
    exact ⟨_, rfl⟩
  | true =>
    rw [ha] at e2
    rw [if_pos rfl]
    obtain ⟨o5, e5⟩ := f_seqS hz hc2 hf ha
    cases hq : seqS c f z with
    | none =>
      rw [hq] at e5
      simp only [seqD] at e5 ⊢
      clear hf hz hz2
      unfold effD rowsD at *
      generalize rowsL c f = L at *
      unfold fn_shortest_sequence body_shortest_sequence
      walk_at "evx"
      exact ⟨_, rfl⟩
    | some t =>
      rw [hq] at e5
      obtain ⟨_, t1, t2⟩ := seqS_steps hz hc2 hf ha hq
      obtain ⟨o6, e6⟩ := eff_seqS hc hc2 hz2 t2 t1
      obtain ⟨o7, e7⟩ := f_eq2 (c := c) (f := effR c z t) (g := f)
      simp only [seqD] at e5 ⊢
      clear hf hz hz2 t1 t2
      unfold effD rowsD at *
      generalize rowsL c f = L at *
      generalize rowsL c (effR c z t) = L2 at *
      cases he : eqR c (effR c z t) f with
      | true =>
        rw [he] at e7
        rw [if_pos rfl]
        simp only
        unfold fn_shortest_sequence body_shortest_sequence
        walk_at "evx"
        exact ⟨_, rfl⟩
      | false =>
        rw [he] at e7
        rw [if_neg (by decide)]
        simp only
        unfold fn_shortest_sequence body_shortest_sequence
        walk_at "evx"
        exact ⟨_, rfl⟩
end U
namespace U
theorem sort_head {l : List Nat} {a m : Nat} (hs : l.Pairwise (· < ·)) (h : l.head? = some a) (hm : m ∈ l) : a ≤ m := by
  cases l with
  | nil => cases hm
  | cons x r =>
    cases h
    rcases List.mem_cons.mp hm with rfl | hm
    · exact Nat.le_refl _
    · exact Nat.le_of_lt ((List.pairwise_cons.mp hs).1 m hm)
theorem sort_last : ∀ {l : List Nat} {a m : Nat}, l.Pairwise (· < ·) → l.getLast? = some a → m ∈ l → m ≤ a
  | [], _, _, _, _, hm => by cases hm
  | [x], a, m, _, h, hm => by
    cases h
    rw [List.mem_singleton.mp hm]
    exact Nat.le_refl _
  | x :: y :: r, a, m, hs, h, hm => by
    have h2 : (y :: r).getLast? = some a := by rw [List.getLast?_cons_cons] at h; exact h
    obtain ⟨h3, h4⟩ := List.pairwise_cons.mp hs
    rcases List.mem_cons.mp hm with rfl | hm
    · have := sort_last h4 h2 (m := y) List.mem_cons_self
      have := h3 y List.mem_cons_self
      omega
    · exact sort_last h4 h2 hm
theorem lens_sort {c : Nat} {f : Nat → Row} : (lensF c f).Pairwise (· < ·) := List.Pairwise.filter _ List.pairwise_lt_range
theorem lens_int {c lo hi : Nat} {f : Nat → Row} (hle : lo ≤ hi) (hh : hi ≤ c) (h : ∀ n, n ≤ c → (f n ≠ none ↔ lo ≤ n ∧ n ≤ hi)) : anyS c f = true ∧ lowS c f = lo ∧ topS c f = hi := by
  have ha : anyS c f = true := anyS_iff.mpr ⟨lo, by omega, (h lo (by omega)).mpr ⟨Nat.le_refl _, hle⟩⟩
  obtain ⟨h1, h2, h3, h4⟩ := lens_ends ha
  obtain ⟨a1, a2⟩ := lens_mem.mp h3
  obtain ⟨b1, b2⟩ := lens_mem.mp h4
  have m1 : lo ∈ lensF c f := lens_mem.mpr ⟨by omega, (h lo (by omega)).mpr ⟨Nat.le_refl _, hle⟩⟩
  have m2 : hi ∈ lensF c f := lens_mem.mpr ⟨hh, (h hi hh).mpr ⟨hle, Nat.le_refl _⟩⟩
  have c1 := sort_head lens_sort h1 m1
  have c2 := sort_last lens_sort h2 m2
  have d1 := ((h _ a1).mp a2).1
  have d2 := ((h _ b1).mp b2).2
  exact ⟨ha, by omega, by omega⟩
theorem eqR_of {c : Nat} {f g : Nat → Row} (h : ∀ n, n ≤ c → f n = g n) : eqR c f g = true := eqR_iff.mpr h
theorem seq_mem {fl t : List Nat} (hx : ∀ x ∈ fl, stpOk x) (h : ∀ y ∈ t, y = 45 ∨ y = 97 ∨ y ∈ fl) : ∀ y ∈ t, stpOk y := fun y hy => by
  rcases h y hy with rfl | rfl | h
  · exact .inl rfl
  · exact .inr (by omega)
  · exact hx y h
theorem short_seq {c : Nat} {z fl : List Nat} (hz : z = strCw ∨ z = oldC') (hc : 1 ≤ c) (hx : ∀ x ∈ fl, stpOk x) :
    ∃ t, shortF c (effR c z fl) z = some t ∧ (∀ n, n ≤ c → effR c z t n = effR c z fl n) ∧ t.length ≤ fl.length ∧ (∀ y ∈ t, y = 45 ∨ y = 97 ∨ y ∈ fl) := by
  unfold shortF
  cases ha : anyS c (effR c z fl) with
  | false =>
    rw [if_neg (by decide)]
    have hn : ∀ n, n ≤ c → effR c z fl n = none := fun n hn => by
      cases h : effR c z fl n with
      | none => rfl
      | some r => exact absurd ((anyS_iff (f := effR c z fl)).mpr ⟨n, hn, by rw [h]; exact fun e => by cases e⟩) (by rw [ha]; decide)
    refine ⟨_, rfl, fun n hn' => ?_, ?_, fun y hy => .inl (List.mem_singleton.mp (rept_mem hy))⟩
    · rw [hn n hn']
      exact takes_fail (by omega)
    · rw [rept_len, List.length_singleton, Nat.mul_one]
      rcases hz with rfl | rfl
      · exact fail_strict hn
      · exact fail_old hc hn
  | true =>
    rw [if_pos rfl]
    obtain ⟨n0, hn0, hf0⟩ := anyS_iff.mp ha
    obtain ⟨h1, h2, h3, h4, h5, h6, h7, h8, h9⟩ := wk_ok fl
    rcases hz with rfl | rfl
    · have hr := str_row hn0 fl
      unfold StrW at hr
      rcases hr with ⟨a1, a2, t0, a3, a4⟩ | ⟨_, e⟩
      · obtain ⟨lo, hlo⟩ : ∃ lo : Nat, (lo : Int) = (wk fl).d := ⟨(wk fl).d.toNat, by omega⟩
        obtain ⟨hi, hhi⟩ : ∃ hi : Nat, (hi : Int) = c - (wk fl).h := ⟨((c : Int) - (wk fl).h).toNat, by omega⟩
        obtain ⟨M, hM⟩ : ∃ M : Nat, (M : Int) = c - (wk fl).h + (wk fl).e := ⟨((c : Int) - (wk fl).h + (wk fl).e).toNat, by omega⟩
        obtain ⟨_, e1, e2⟩ := lens_int (c := c) (f := effR c strCw fl) (lo := lo) (hi := hi) (by omega) (by omega) (fun n hn => by
          have hr := str_row hn fl
          unfold StrW at hr
          rcases hr with ⟨b1, b2, t, b3, b4⟩ | ⟨b1, b2⟩
          · rw [b4]
            exact ⟨fun _ => by omega, fun _ e => by cases e⟩
          · rw [b2]
            exact ⟨fun e => absurd rfl e, fun q => absurd ⟨by omega, by omega⟩ b1⟩)
        obtain ⟨t, k1, k2, k3, k4⟩ := seq_strict hx (c := c) (by omega) hM
        have rl : effR c strCw fl lo = some (mkRow (lo + (wk fl).e).toNat (putsL fl)) := by
          have hr := str_row (c := c) (n := lo) (by omega) fl
          unfold StrW at hr
          rcases hr with ⟨b1, b2, t, b3, b4⟩ | ⟨b1, b2⟩
          · rw [b4, ← b3, Int.toNat_natCast]
          · exact absurd ⟨by omega, by omega⟩ b1
        have rh : effR c strCw fl hi = some (mkRow M (putsL fl)) := by
          have hr := str_row (c := c) (n := hi) (by omega) fl
          unfold StrW at hr
          rcases hr with ⟨b1, b2, t, b3, b4⟩ | ⟨b1, b2⟩
          · rw [b4]
            obtain rfl : t = M := by omega
            rfl
          · exact absurd ⟨by omega, by omega⟩ b1
        have hs : seqS c (effR c strCw fl) strCw = some t := by
          unfold seqS walksOf
          rw [if_pos rfl, e1, e2, rl, rh]
          have q1 : sumR (some (mkRow (lo + (wk fl).e).toNat (putsL fl))) = lo + (wk fl).e := by
            show (((mkRow _ _).1 + (mkRow _ _).2.length : Nat) : Int) = _
            rw [mk_sum]
            omega
          rw [q1, hlo, hhi, show (c : Int) - (c - (wk fl).h) = (wk fl).h by omega, show (wk fl).d + (wk fl).e - (wk fl).d = (wk fl).e by omega]
          exact k1
        rw [hs]
        exact ⟨t, by simp only; rw [if_pos (eqR_of k2)], k2, k3, k4⟩
      · exact absurd e hf0
    · have hr := old_row hc hn0 fl
      unfold OldW at hr
      rcases hr with ⟨a1, a2, t0, a3, a4⟩ | ⟨_, e⟩
      · obtain ⟨lo, hlo⟩ : ∃ lo : Nat, (lo : Int) = (wk fl).d := ⟨(wk fl).d.toNat, by omega⟩
        obtain ⟨M, hM⟩ : ∃ M : Nat, (M : Int) = c - (wk fl).h + (wk fl).e := ⟨((c : Int) - (wk fl).h + (wk fl).e).toNat, by omega⟩
        obtain ⟨_, e1, e2⟩ := lens_int (c := c) (f := effR c oldC' fl) (lo := lo) (hi := c) (by omega) (Nat.le_refl _) (fun n hn => by
          have hr := old_row hc hn fl
          unfold OldW at hr
          rcases hr with ⟨b1, b2, t, b3, b4⟩ | ⟨b1, b2⟩
          · rw [b4]
            exact ⟨fun _ => by omega, fun _ e => by cases e⟩
          · rw [b2]
            exact ⟨fun e => absurd rfl e, fun q => absurd ⟨by omega, by omega⟩ b1⟩)
        have rh : effR c oldC' fl c = some (mkRow M (putsL fl)) := by
          have hr := old_row hc (Nat.le_refl c) fl
          unfold OldW at hr
          rcases hr with ⟨b1, b2, t, b3, b4⟩ | ⟨b1, b2⟩
          · rw [b4]
            obtain rfl : t = M := by rcases ite_two b3 with ⟨_, b3⟩ | ⟨_, b3⟩ <;> omega
            rfl
          · exact absurd ⟨by omega, by omega⟩ b1
        have qh : sumR (some (mkRow M (putsL fl))) = M := by
          show (((mkRow _ _).1 + (mkRow _ _).2.length : Nat) : Int) = _
          rw [mk_sum]
        have rl : ∃ L : Nat, (L : Int) = (if (lo : Int) + (wk fl).h ≤ c then lo + (wk fl).e else c - (wk fl).h + (wk fl).e) ∧ effR c oldC' fl lo = some (mkRow L (putsL fl)) := by
          have hr := old_row hc (n := lo) (by omega) fl
          unfold OldW at hr
          rcases hr with ⟨b1, b2, t, b3, b4⟩ | ⟨b1, b2⟩
          · exact ⟨t, b3, b4⟩
          · exact absurd ⟨by omega, by omega⟩ b1
        obtain ⟨L, hL, rl⟩ := rl
        have ql : sumR (some (mkRow L (putsL fl))) = L := by
          show (((mkRow _ _).1 + (mkRow _ _).2.length : Nat) : Int) = _
          rw [mk_sum]
        by_cases hd : (wk fl).d + (wk fl).h < c
        · obtain ⟨t, k1, k2, k3, k4⟩ := seq_old1 hc a1 hd hM
          have hs : seqS c (effR c oldC' fl) oldC' = some t := by
            unfold seqS walksOf
            have hL2 : (L : Int) = lo + (wk fl).e := by rcases ite_two hL with ⟨_, b3⟩ | ⟨_, b3⟩ <;> omega
            rw [if_neg (by decide), e1, e2, if_pos rfl, rl, rh, ql, qh, if_pos (by omega)]
            rw [show (c : Int) + L - lo - M = (wk fl).h by omega, show (L : Int) - lo = (wk fl).e by omega, hlo]
            exact k1
          rw [hs]
          exact ⟨t, by simp only; rw [if_pos (eqR_of k2)], k2, k3, k4⟩
        · obtain ⟨t, k1, k2, k3, k4⟩ := seq_old2 hc a1 (by omega) hM (N := lo + c + 1) (by omega)
          have hs : seqS c (effR c oldC' fl) oldC' = some t := by
            unfold seqS walksOf
            have hL2 : (L : Int) = M := by rcases ite_two hL with ⟨_, b3⟩ | ⟨_, b3⟩ <;> omega
            rw [if_neg (by decide), e1, e2, if_pos rfl, rl, rh, ql, qh, if_neg (by omega), hlo]
            exact k1
          rw [hs]
          exact ⟨t, by simp only; rw [if_pos (eqR_of k2)], k2, k3, k4⟩
      · exact absurd e hf0
theorem lens_congr {c : Nat} {f g : Nat → Row} (h : ∀ n, n ≤ c → f n = g n) : lensF c f = lensF c g := by
  unfold lensF
  refine List.filter_congr fun n hn => ?_
  rw [h n (by have := List.mem_range.mp hn; omega)]
theorem short_congr {c : Nat} {f g : Nat → Row} {z : List Nat} (h : ∀ n, n ≤ c → f n = g n) : shortF c f z = shortF c g z := by
  have h1 := lens_congr h
  have ha : anyS c f = anyS c g := by
    cases hq : anyS c g with
    | true =>
      obtain ⟨n, hn, e⟩ := anyS_iff.mp hq
      exact anyS_iff.mpr ⟨n, hn, by rw [h n hn]; exact e⟩
    | false =>
      cases hp : anyS c f with
      | false => rfl
      | true =>
        obtain ⟨n, hn, e⟩ := anyS_iff.mp hp
        rw [anyS_iff.mpr ⟨n, hn, by rw [← h n hn]; exact e⟩] at hq
        cases hq
  have hl : lowS c f = lowS c g := by unfold lowS; rw [h1]
  have ht : topS c f = topS c g := by unfold topS; rw [h1]
  unfold shortF
  rw [ha]
  cases hb : anyS c g with
  | false => rfl
  | true =>
    obtain ⟨_, _, m1, m2⟩ := lens_ends hb
    have b1 := (lens_mem.mp m1).1
    have b2 := (lens_mem.mp m2).1
    have hs : seqS c f z = seqS c g z := by
      unfold seqS walksOf
      rw [hl, ht, h _ b1, h _ b2, h c (Nat.le_refl _)]
    rw [hs]
    have he : ∀ t, eqR c (effR c z t) f = eqR c (effR c z t) g := fun t => by
      cases hq : eqR c (effR c z t) g with
      | true => exact eqR_iff.mpr fun n hn => ((eqR_iff.mp hq) n hn).trans (h n hn).symm
      | false =>
        cases hp : eqR c (effR c z t) f with
        | false => rfl
        | true =>
          rw [eqR_iff.mpr fun n hn => ((eqR_iff.mp hp) n hn).trans (h n hn)] at hq
          cases hq
    cases seqS c g z with
    | none => rfl
    | some t => simp only [he t]
end U
namespace U
open PySem
theorem seq_nx {a b : St} {ρ ρ1 : Env} (h : a ρ = .nx ρ1) : sSeq a b ρ = b ρ1 := by unfold sSeq; rw [h]; rfl
theorem if_f {c : E} {t e : St} {ρ ρ1 : Env} (hc : c ρ = .ok (.bl false) ρ1) : sIf c t e ρ = e ρ1 := by
  unfold sIf
  rw [hc]
  rfl
theorem orS_f {a b : E} {ρ ρ1 : Env} (ha : a ρ = .ok (.bl false) ρ1) : eOr a b ρ = b ρ1 := by
  unfold eOr
  rw [ha]
  rfl
theorem notS_t {a : E} {ρ ρ1 : Env} (ha : a ρ = .ok (.bl true) ρ1) : eUn oNot a ρ = .ok (.bl false) ρ1 := by
  unfold eUn
  rw [ha]
  rfl
mutual
theorem eqvS_refl : ∀ (n : Nat) (d : D), okD n d = true → d.eqv d = true
  | _, .non, _ => rfl
  | _, .bl _, _ => by simp [D.eqv]
  | _, .int _, _ => by simp [D.eqv]
  | _, .str _, _ => by simp [D.eqv]
  | n + 1, .tup l, h => by
    simp only [okD] at h
    simp only [D.eqv]
    exact eqvsS_refl n l h
  | n + 1, .lst l, h => by
    simp only [okD] at h
    simp only [D.eqv]
    exact eqvsS_refl n l h
  | 0, .tup _, h => by simp [okD] at h
  | 0, .lst _, h => by simp [okD] at h
  | _, .own _ _, h => by simp [okD] at h
  | _, .exn _ _ _, h => by simp [okD] at h
  | _, .ins _ _ _, h => by simp [okD] at h
  | _, .dic _, h => by simp [okD] at h
  | _, .exv _ _ _, h => by simp [okD] at h
  | _, .scr _, h => by simp [okD] at h
theorem eqvsS_refl : ∀ (n : Nat) (l : List D), l.all (okD n) = true → eqvs l l = true
  | _, [], _ => rfl
  | n, x :: xs, h => by
    simp only [List.all_cons, Bool.and_eq_true] at h
    simp only [eqvs, Bool.and_eq_true]
    exact ⟨eqvS_refl n x h.1, eqvsS_refl n xs h.2⟩
end
theorem neS_self {d : D} (h : okD 9 d = true) : oNe d d = some (.bl false) := by
  simp only [oNe, h, Bool.and_self, if_true, eqvS_refl 9 d h, Bool.not_true]
def vAgs : List E → List Ag
  | [] => []
  | a :: r => .v a :: vAgs r
def vArgs : List D → List Arg
  | [] => []
  | d :: r => .v d :: vArgs r
def KS30 : Nat := 1000000000000000000000000000000
end U
namespace U
abbrev tb : Tb := []
noncomputable def body_law_text : St := (sRet (eMs oJoin (eC (.str [])) (eFrz (eComp (iOfA itR (aCons (eVar 1) aNil)) (gVar 2) (eC (.bl true)) (eOp oIxS (eC (.str [97, 98, 99, 122])) (eFrz (eCall fn_law_take [.b 0, .v (eC (.int 4))] []))) [2]))))
noncomputable def fn_law_text : Fn := fnOf 2 1 body_law_text
noncomputable def turn_law_known_right_1 : St := (sSeq (sSet 8 (eFrz (eCall fn_shortest_sequence [.v (eFrz (eCall fn_effect_of [.v (eOp oAddS (eOp oMulS (eC (.str [45])) (eVar 5)) (eVar 6)), .v (eVar 1), .v (eVar 7)] [])), .v (eVar 7)] [])))
    (sIf (eOr (eOp oIsN (eVar 8) (eC .non)) (eOp oNe (eN oLenS (aCons (eVar 8) aNil)) (eOp oAdd (eVar 5) (eN oLenS (aCons (eVar 6) aNil)))))
    (sRet (eC (.bl false)))
    sNil))
noncomputable def turn_law_known_right_2 : St := (sSeq (sSet 8 (eFrz (eCall fn_shortest_sequence [.v (eFrz (eCall fn_effect_of [.v (eOp oAddS (eOp oMulS (eC (.str [97])) (eVar 11)) (eOp oMulS (eC (.str [45])) (eVar 10))), .v (eVar 1), .v (eVar 7)] [])), .v (eVar 7)] [])))
    (sSeq (sIf (eAnd (eOp oLt (eVar 11) (eVar 10)) (eOp oNe (eN oLenS (aCons (eOrT (eVar 8) (eC (.str []))) aNil)) (eOp oAdd (eVar 11) (eVar 10))))
    (sRet (eC (.bl false)))
    sNil)
    (sIf (eOp oNe (eN oLenS (aCons (eFrz (eCall fn_shortest_sequence [.v (eFrz (eCall fn_Effect_failing [.v (eVar 1)] [])), .v (eVar 7)] [])) aNil)) (eOp oAdd (eVar 1) (eC (.int 1))))
    (sRet (eC (.bl false)))
    sNil)))
noncomputable def body_law_known_right : St := (sSeq (sPar [2, 3] (aCons (eFrz (eCall fn_law_text [.b 0, .v (eVar 1)] [])) (aCons (eOp oAdd (eC (.int 1)) (eFrz (eCall fn_law_take [.b 0, .v (eOp oPow (eC (.int 10)) (eC (.int 20)))] []))) aNil)))
    (sSeq (sSet 4 (eFrz (eCall fn_effect_of [.v (eOp oAddS (eOp oAddS (eC (.str [40, 97, 98, 45, 41])) (eN oStrI (aCons (eOp oAdd (eVar 1) (eVar 3)) aNil))) (eVar 2)), .v (eVar 1), .v (eC (.str [111, 108, 100, 101, 115, 116]))] [])))
    (sSeq (sIf (eOp oNe (eFrz (eCall fn_shortest_sequence [.v (eVar 4), .v (eC (.str [111, 108, 100, 101, 115, 116]))] [])) (eVar 2))
    (sRet (eC (.bl false)))
    sNil)
    (sSeq (sSet 5 (eFrz (eCall fn_law_take [.b 0, .v (eVar 1)] [])))
    (sSeq (sSet 6 (eFrz (eCall fn_law_text [.b 0, .v (eFrz (eCall fn_law_take [.b 0, .v (eOp oAdd (eVar 5) (eC (.int 1)))] []))] [])))
    (sSeq (sFor (iOf itL (eFrz (eN mkLst (aCons (eC (.str [111, 108, 100, 101, 115, 116])) (aCons (eC (.str [115, 116, 114, 105, 99, 116])) aNil))))) (gVar 7) turn_law_known_right_1)
    (sSeq (sSet 9 (eFrz (eCall fn_law_take [.b 0, .v (eOp oAdd (eVar 1) (eC (.int 1)))] [])))
    (sSeq (sSet 8 (eFrz (eCall fn_shortest_sequence [.v (eFrz (eCall fn_effect_of [.v (eOp oAddS (eOp oMulS (eC (.str [97])) (eVar 9)) (eOp oMulS (eC (.str [45])) (eVar 9))), .v (eVar 1), .v (eC (.str [115, 116, 114, 105, 99, 116]))] [])), .v (eC (.str [115, 116, 114, 105, 99, 116]))] [])))
    (sSeq (sIf (eOr (eOp oIsN (eVar 8) (eC .non)) (eOr (eOp oNe (eMs oCount (eVar 8) (eC (.str [45]))) (eVar 9)) (eOp oNe (eN oLenS (aCons (eVar 8) aNil)) (eOp oMul (eC (.int 2)) (eVar 9)))))
    (sRet (eC (.bl false)))
    sNil)
    (sSeq (sSet 10 (eOp oAdd (eC (.int 1)) (eFrz (eCall fn_law_take [.b 0, .v (eVar 1)] []))))
    (sSeq (sSet 11 (eN oMax2 (aCons (eOp oSub (eVar 1) (eVar 10)) (aCons (eFrz (eCall fn_law_take [.b 0, .v (eVar 10)] [])) aNil))))
    (sSeq (sFor (iOf itL (eFrz (eN mkLst (aCons (eC (.str [111, 108, 100, 101, 115, 116])) (aCons (eC (.str [115, 116, 114, 105, 99, 116])) aNil))))) (gVar 7) turn_law_known_right_2)
    (sRet (eOp oEq (eFrz (eCall fn_shortest_sequence [.v (eFrz (eCall fn_Effect_identity [.v (eVar 1)] [])), .v (eC (.str [111, 108, 100, 101, 115, 116]))] [])) (eC (.str []))))))))))))))))
noncomputable def fn_law_known_right : Fn := fnOf 2 10 body_law_known_right
noncomputable def turn_law_1 : St := (sSeq (sSet 2 (eCall fn_law_pool [.v (eVar 0), .v (eVar 1)] []))
    (sSeq (sSet 3 (eOp oAdd (eC (.int 1)) (eFrz (eCall fn_law_take [.b 2, .v (eOp oIxL (eFrz (eN mkLst (aCons (eC (.int 5)) (aCons (eC (.int 20)) (aCons (eC (.int 100)) aNil))))) (eFrz (eCall fn_law_take [.b 2, .v (eC (.int 3))] [])))] []))))
    (sSeq (sIf (eUn oNot (eFrz (eCall fn_law_known_right [.b 2, .v (eVar 3)] [])))
    (sRet (eC (.bl false)))
    sNil)
    (sSeq (sPar [4, 5] (aCons (eFrz (eCall fn_law_steps [.b 2, .v (eC (.int 40)), .v (eC (.str [97, 98, 99]))] [])) (aCons (eOp oIxL (eFrz (eN mkLst (aCons (eC (.str [111, 108, 100, 101, 115, 116])) (aCons (eC (.str [115, 116, 114, 105, 99, 116])) aNil)))) (eFrz (eCall fn_law_take [.b 2, .v (eC (.int 2))] []))) aNil)))
    (sSeq (sSet 6 (eFrz (eCall fn_effect_of [.v (eVar 4), .v (eN oMin2 (aCons (eVar 3) (aCons (eC (.int 12)) aNil))), .v (eVar 5)] [])))
    (sSeq (sSet 7 (eFrz (eCall fn_shortest_sequence [.v (eVar 6), .v (eVar 5)] [])))
    (sSeq (sIf (eOr (eOp oIsN (eVar 7) (eC .non)) (eOp oGt (eN oLenS (aCons (eVar 7) aNil)) (eN oLenS (aCons (eVar 4) aNil))))
    (sRet (eC (.bl false)))
    sNil)
    (sSeq (sIf (eUn oNot (eOp (oEqC "Effect" fn_Effect_eq) (eFrz (eCall fn_effect_of [.v (eVar 7), .v (eUn (oProp "Effect" fn_Effect_capacity) (eVar 6)), .v (eVar 5)] [])) (eVar 6)))
    (sRet (eC (.bl false)))
    sNil)
    (sSeq (sSet 8 (eOp oAddS (eOp oAddS (eOp oAddS (eOp oAddS (eC (.str [40])) (eSl oSlS (eVar 4) none (some (eC (.int 4))))) (eC (.str [41]))) (eN oStrI (aCons (eFrz (eCall fn_law_take [.b 2, .v (eOp oPow (eC (.int 10)) (eC (.int 30)))] [])) aNil))) (eSl oSlS (eVar 4) (some (eC (.int 4))) (some (eC (.int 9))))))
    (sSeq (sSet 6 (eFrz (eCall fn_effect_of [.v (eVar 8), .v (eN oMin2 (aCons (eVar 3) (aCons (eC (.int 12)) aNil))), .v (eVar 5)] [])))
    (sSeq (sSet 7 (eFrz (eCall fn_shortest_sequence [.v (eVar 6), .v (eVar 5)] [])))
    (sSeq (sIf (eOr (eOp oIsN (eVar 7) (eC .non)) (eUn oNot (eOp (oEqC "Effect" fn_Effect_eq) (eFrz (eCall fn_effect_of [.v (eVar 7), .v (eUn (oProp "Effect" fn_Effect_capacity) (eVar 6)), .v (eVar 5)] [])) (eVar 6))))
    (sRet (eC (.bl false)))
    sNil)
    (sIf (eOp oNe (eN oLenS (aCons (eFrz (eCall fn_shortest_sequence [.v (eFrz (eCall fn_effect_of [.v (eVar 7), .v (eUn (oProp "Effect" fn_Effect_capacity) (eVar 6)), .v (eVar 5)] [])), .v (eVar 5)] [])) aNil)) (eN oLenS (aCons (eVar 7) aNil)))
    (sRet (eC (.bl false)))
    sNil)))))))))))))
noncomputable def body_law : St := (sSeq (sFor (iOfA itR (aCons (eN oMax2 (aCons (eC (.int 1)) (aCons (eN oMin2 (aCons (eC (.int 4)) (aCons (eN oLenScr (aCons (eVar 0) aNil)) aNil))) aNil))) aNil)) (gVar 1) turn_law_1)
    (sRet (eC (.bl true))))
noncomputable def fn_law : Fn := fnOf 1 8 body_law
end U
namespace U
theorem cfgS {c : Nat} {fl t : List Nat} (h : ∀ n, n ≤ c → effR c strCw t n = effR c strCw fl n) {lo : Nat} (h0 : (wk fl).d = lo) (h1 : (lo : Int) + (wk fl).h ≤ c) : (wk t).d = (wk fl).d ∧ (wk t).h = (wk fl).h ∧ (wk t).e = (wk fl).e := by
  obtain ⟨a1, a2, a3, a4, a5, a6, a7, a8, a9⟩ := wk_ok fl
  obtain ⟨b1, b2, b3, b4, b5, b6, b7, b8, b9⟩ := wk_ok t
  have key : ∀ n, n ≤ c → (((wk fl).d ≤ n ∧ n + (wk fl).h ≤ c) ↔ ((wk t).d ≤ n ∧ n + (wk t).h ≤ c)) ∧ (((wk fl).d ≤ n ∧ n + (wk fl).h ≤ c) → (wk t).e = (wk fl).e) := by
    intro n hn
    have r1 := str_row hn fl
    have r2 := str_row hn t
    have e := h n hn
    unfold StrW at r1 r2
    rcases r1 with ⟨p1, p2, x, p3, p4⟩ | ⟨p1, p2⟩ <;> rcases r2 with ⟨q1, q2, y, q3, q4⟩ | ⟨q1, q2⟩
    · rw [p4, q4] at e
      have e2 := congrArg (fun r : Row => match r with | some z => z.1 + z.2.length | none => 0) e
      simp only [mk_sum] at e2
      exact ⟨⟨fun _ => ⟨q1, q2⟩, fun _ => ⟨p1, p2⟩⟩, fun _ => by omega⟩
    · rw [p4, q2] at e; cases e
    · rw [p2, q4] at e; cases e
    · exact ⟨⟨fun z => absurd z p1, fun z => absurd z q1⟩, fun z => absurd z p1⟩
  obtain ⟨hi, hhi⟩ : ∃ hi : Nat, (hi : Int) = c - (wk fl).h := ⟨((c : Int) - (wk fl).h).toNat, by omega⟩
  obtain ⟨k1, k2⟩ := key lo (by omega)
  obtain ⟨k3, k4⟩ := key hi (by omega)
  have e1 := k2 ⟨by omega, by omega⟩
  have m1 := k1.mp ⟨by omega, by omega⟩
  have m2 := k3.mp ⟨by omega, by omega⟩
  refine ⟨?_, ?_, e1⟩
  · obtain ⟨u, hu⟩ : ∃ u : Nat, (u : Int) = (wk t).d := ⟨(wk t).d.toNat, by omega⟩
    have := ((key u (by omega)).1).mpr ⟨by omega, by omega⟩
    omega
  · by_cases hz : (c : Int) - (wk t).h ≤ hi
    · omega
    · obtain ⟨u, hu⟩ : ∃ u : Nat, (u : Int) = c - (wk t).h := ⟨((c : Int) - (wk t).h).toNat, by omega⟩
      have := ((key u (by omega)).1).mpr ⟨by omega, by omega⟩
      omega
def lenO (c : Nat) (s : Wk) (n : Int) : Int := if n + s.h ≤ c then n + s.e else c - s.h + s.e
theorem cfgO {c : Nat} {fl t : List Nat} (hc : 1 ≤ c) (h : ∀ n, n ≤ c → effR c oldC' t n = effR c oldC' fl n) (hg : (wk fl).g ≤ c) {lo : Nat} (h0 : (wk fl).d = lo) : (wk t).d = (wk fl).d ∧ (wk t).g ≤ c ∧ lenO c (wk t) lo = lenO c (wk fl) lo ∧ lenO c (wk t) c = lenO c (wk fl) c := by
  obtain ⟨a1, a2, a3, a4, a5, a6, a7, a8, a9⟩ := wk_ok fl
  obtain ⟨b1, b2, b3, b4, b5, b6, b7, b8, b9⟩ := wk_ok t
  have key : ∀ n, n ≤ c → (((wk fl).g ≤ c ∧ (wk fl).d ≤ n) ↔ ((wk t).g ≤ c ∧ (wk t).d ≤ n)) ∧ (((wk fl).g ≤ c ∧ (wk fl).d ≤ n) → lenO c (wk t) n = lenO c (wk fl) n) := by
    intro n hn
    have r1 := old_row hc hn fl
    have r2 := old_row hc hn t
    have e := h n hn
    unfold OldW at r1 r2
    rcases r1 with ⟨p1, p2, x, p3, p4⟩ | ⟨p1, p2⟩ <;> rcases r2 with ⟨q1, q2, y, q3, q4⟩ | ⟨q1, q2⟩
    · rw [p4, q4] at e
      have e2 := congrArg (fun r : Row => match r with | some z => z.1 + z.2.length | none => 0) e
      simp only [mk_sum] at e2
      refine ⟨⟨fun _ => ⟨q1, q2⟩, fun _ => ⟨p1, p2⟩⟩, fun _ => ?_⟩
      unfold lenO
      rw [← p3, ← q3, e2]
    · rw [p4, q2] at e; cases e
    · rw [p2, q4] at e; cases e
    · exact ⟨⟨fun z => absurd z p1, fun z => absurd z q1⟩, fun z => absurd z p1⟩
  obtain ⟨k1, k2⟩ := key lo (by omega)
  obtain ⟨k3, k4⟩ := key c (Nat.le_refl _)
  obtain ⟨m1, m2⟩ := k1.mp ⟨hg, by omega⟩
  refine ⟨?_, m1, k2 ⟨hg, by omega⟩, k4 ⟨hg, by omega⟩⟩
  obtain ⟨u, hu⟩ : ∃ u : Nat, (u : Int) = (wk t).d := ⟨(wk t).d.toNat, by omega⟩
  have := ((key u (by omega)).1).mpr ⟨m1, by omega⟩
  omega
theorem lenO_or {c : Nat} {s : Wk} {n x : Int} (h : lenO c s n = x) : (n + s.h ≤ c ∧ x = n + s.e) ∨ (¬ n + s.h ≤ c ∧ x = c - s.h + s.e) := ite_two h.symm
theorem wk_putsT : ∀ (w : List Nat) (s : Wk), (∀ x ∈ w, x ≠ 45) → wkF s w = wkF s (rept w.length [43])
  | [], _, _ => rfl
  | x :: w, s, h => by
    rw [List.length_cons, rept_succ, wkF_app]
    have e : wkF s [43] = s.step x := by
      show s.step 43 = s.step x
      unfold Wk.step
      rw [if_neg (by decide), if_neg (h x List.mem_cons_self)]
    rw [e, ← wk_putsT w (s.step x) (fun y hy => h y (List.mem_cons_of_mem _ hy))]
    rfl
theorem wk_tp {k : Nat} {w : List Nat} (hw : ∀ x ∈ w, x ≠ 45) (hl : w.length ≤ k) : wk (rept k [45] ++ w) = ⟨(w.length : Int) - k, k, 0, k, w.length⟩ := by
  unfold wk
  rw [wkF_app, wk_dns _ _ (by simp [wk0]) (by simp [wk0]), wk_putsT _ _ hw]
  simp only [wk0]
  rw [wk_ups _ _ (by simp only; omega)]
  simp only
  congr 1 <;> (repeat' split) <;> omega
theorem wk_pt {a b : Nat} (h : a ≤ b) : wk (rept a [97] ++ rept b [45]) = ⟨(a : Int) - b, b - a, a, b, a⟩ := by
  unfold wk
  have e : ∀ s : Wk, wkF s (rept a [97]) = wkF s (rept a [43]) := fun s => by
    have := wk_putsT (rept a [97]) s (fun x hx => by rw [List.mem_singleton.mp (rept_mem hx)]; decide)
    rw [this, rept_len, List.length_singleton, Nat.mul_one]
  rw [wkF_app, e, wk_ups _ _ (by simp [wk0])]
  simp only [wk0]
  rw [wk_dns _ _ (by simp only; (repeat' split) <;> omega) (by simp only; (repeat' split) <;> omega)]
  simp only
  congr 1 <;> (repeat' split) <;> omega
theorem short_tp {c k : Nat} {w t z : List Nat} (hz : z = strCw ∨ z = oldC') (hc : 1 ≤ c) (hk : k < c) (hw : ∀ x ∈ w, x ≠ 45) (hl : w.length ≤ k) (h : ∀ n, n ≤ c → effR c z t n = effR c z (rept k [45] ++ w) n) : k + w.length ≤ t.length := by
  have e := wk_tp hw hl
  have hln := wk_len t
  obtain ⟨b1, b2, b3, b4, b5, b6, b7, b8, b9⟩ := wk_ok t
  rcases hz with rfl | rfl
  · obtain ⟨p1, p2, p3⟩ := cfgS (lo := k) h (by rw [e]) (by rw [e]; simp only; omega)
    rw [e] at p1 p2 p3
    simp only at p1 p2 p3
    omega
  · obtain ⟨p1, p2, p3, p4⟩ := cfgO (lo := k) hc h (by rw [e]; simp only; omega) (by rw [e])
    rw [e] at p1 p3 p4
    simp only [lenO] at p1 p3 p4
    rw [if_pos (show (k : Int) + 0 ≤ c by omega)] at p3
    rw [if_pos (show (c : Int) + 0 ≤ c by omega)] at p4
    rcases ite_two p3.symm with ⟨q1, q2⟩ | ⟨q1, q2⟩ <;> rcases ite_two p4.symm with ⟨r1, r2⟩ | ⟨r1, r2⟩ <;> omega
theorem short_back {c k : Nat} {t : List Nat} (hk : k ≤ c) (h : ∀ n, n ≤ c → effR c strCw t n = effR c strCw (rept k [97] ++ rept k [45]) n) (hl : t.length ≤ 2 * k) : t.length = 2 * k ∧ t.length - (putsL t).length = k := by
  have e := wk_pt (Nat.le_refl k)
  have hln := wk_len t
  have hp := wk_p t
  obtain ⟨b1, b2, b3, b4, b5, b6, b7, b8, b9⟩ := wk_ok t
  obtain ⟨p1, p2, p3⟩ := cfgS (lo := 0) h (by rw [e]; simp only; omega) (by rw [e]; simp only; omega)
  rw [e] at p1 p2 p3
  simp only at p1 p2 p3
  omega
theorem short_tall {c a b : Nat} {t z : List Nat} (hz : z = strCw ∨ z = oldC') (hc : 1 ≤ c) (hb : b ≤ c) (hab : a < b) (hac : c - b ≤ a) (h : ∀ n, n ≤ c → effR c z t n = effR c z (rept a [97] ++ rept b [45]) n) : a + b ≤ t.length := by
  have e := wk_pt (Nat.le_of_lt hab)
  have hln := wk_len t
  obtain ⟨b1, b2, b3, b4, b5, b6, b7, b8, b9⟩ := wk_ok t
  rcases hz with rfl | rfl
  · obtain ⟨p1, p2, p3⟩ := cfgS (lo := b - a) h (by rw [e]; simp only; omega) (by rw [e]; simp only; omega)
    rw [e] at p1 p2 p3
    simp only at p1 p2 p3
    omega
  · obtain ⟨p1, p2, p3, p4⟩ := cfgO (lo := b - a) hc h (by rw [e]; simp only; omega) (by rw [e]; simp only; omega)
    rw [e] at p1 p3 p4
    simp only at p1
    rcases lenO_or p3 with ⟨q1, q2⟩ | ⟨q1, q2⟩ <;> rcases lenO_or p4 with ⟨r1, r2⟩ | ⟨r1, r2⟩ <;> rcases lenO_or q2 with ⟨u1, u2⟩ | ⟨u1, u2⟩ <;> rcases lenO_or r2 with ⟨v1, v2⟩ | ⟨v1, v2⟩ <;> simp only at u1 u2 v1 v2 <;> omega
theorem wk_abt : ∀ (k : Nat) (s : Wk), s.d = 0 → 0 ≤ s.e → s.e ≤ s.h → s.h ≤ s.e + 1 → s.g ≤ 1 → (wkF s (rept k [97, 98, 45])).d = 0 ∧ (wkF s (rept k [97, 98, 45])).g ≤ 1
  | 0, s, h1, h2, h3, h4, h5 => ⟨h1, h5⟩
  | k + 1, s, h1, h2, h3, h4, h5 => by
    rw [rept_succ, wkF_app]
    have e : wkF s [97, 98, 45] = s.up.up.dn := rfl
    rw [e]
    refine wk_abt k s.up.up.dn ?_ ?_ ?_ ?_ ?_ <;> simp only [Wk.up, Wk.dn] <;> (repeat' split) <;> omega
theorem full_row {c : Nat} {u w : List Nat} (hc : 1 ≤ c) (hw : ∀ x ∈ w, x ≠ 45) (hl : w.length = c) (hd : (wk u).d = 0) (hg : (wk u).g ≤ c) {n : Nat} (hn : n ≤ c) : effR c oldC' (u ++ w) n = some (0, w) := by
  obtain ⟨b1, b2, b3, b4, b5, b6, b7, b8, b9⟩ := wk_ok u
  have e : wk (u ++ w) = ⟨(wk u).e + c, (wk u).d, if (wk u).h < (wk u).e + c then (wk u).e + c else (wk u).h, (wk u).g, (wk u).p + c⟩ := by
    unfold wk at *
    rw [wkF_app, wk_putsT _ _ hw, hl, wk_ups _ _ b4]
  have r := old_row hc hn (u ++ w)
  rw [e] at r
  unfold OldW at r
  simp only at r
  rcases r with ⟨p1, p2, t, p3, p4⟩ | ⟨p1, p2⟩
  · rw [p4]
    have ht : t = c := by
      rcases ite_two p3 with ⟨q1, q2⟩ | ⟨q1, q2⟩
      · split at q1 <;> omega
      · by_cases hz : (wk u).h < (wk u).e + c
        · rw [if_pos hz] at q2; omega
        · rw [if_neg hz] at q2; omega
    subst ht
    unfold mkRow
    have hp : putsL (u ++ w) = putsL u ++ w := by
      rw [puts_app]
      congr 1
      unfold putsL
      exact List.filter_eq_self.mpr fun x hx => by simpa using hw x hx
    rw [hp, lastL_full (by omega), lastL_all (by omega), List.length_append]
    congr 2
    omega
  · exact absurd ⟨hg, by omega⟩ p1
theorem short_full {c : Nat} {w t : List Nat} (hc : 1 ≤ c) (hl : w.length = c) (hr : effR c oldC' t c = some (0, w)) (ht : t.length ≤ w.length) : t = w := by
  have r := old_row hc (Nat.le_refl c) t
  unfold OldW at r
  have hpl : (putsL t).length ≤ t.length := by unfold putsL; exact List.length_filter_le _ _
  rcases r with ⟨p1, p2, x, p3, p4⟩ | ⟨p1, p2⟩
  · rw [p4] at hr
    have e1 := congrArg (fun r : Row => match r with | some z => z.2 | none => []) hr
    simp only [mkRow] at e1
    have e2 := congrArg List.length e1
    rw [lastL_len] at e2
    have e3 : (putsL t).length = t.length := by omega
    have e4 : putsL t = t := by
      unfold putsL at e3 ⊢
      exact List.filter_eq_self.mpr (List.length_filter_eq_length_iff.mp e3)
    rw [e4, lastL_all (by omega)] at e1
    exact e1
  · rw [p2] at hr; cases hr
end U
namespace U
def abcz : List Nat := [97, 98, 99, 122]
theorem abcz_ok : ∀ x ∈ abcz, 97 ≤ x ∧ x ≤ 122 := by decide
theorem abcz_at {x : Nat} (h : x < 4) : ∃ y, y ∈ abcz ∧ atD [97, 98, 99, 122] ((x : Nat) : Int) = some y := by
  rcases (by omega : x = 0 ∨ x = 1 ∨ x = 2 ∨ x = 3) with rfl | rfl | rfl | rfl
  · exact ⟨97, by decide, rfl⟩
  · exact ⟨98, by decide, rfl⟩
  · exact ⟨99, by decide, rfl⟩
  · exact ⟨122, by decide, rfl⟩
noncomputable def abczE : E := (eOp oIxS (eC (.str [97, 98, 99, 122])) (eFrz (eCall fn_law_take [.b 0, .v (eC (.int 4))] [])))
theorem abcz_comp {v1 : Option D} : ∀ (ds : List D) (p : D) (cs : List Nat), Pool p → (∀ d ∈ ds, d.isMut = false) → (∀ x ∈ cs, x ∈ abcz) → cs.length + ds.length ≤ 1000 →
    ∃ (p' : D) (cs' : List Nat), Pool p' ∧ (∀ x ∈ cs', x ∈ abcz) ∧ cs'.length = cs.length + ds.length ∧ compL (gVar 2) (eC (.bl true)) abczE [2] ds [some (.own 1 p), v1, none] (cs.map sg) = .ok (cs'.map sg) [some (.own 1 p'), v1, none]
  | [], p, cs, hp, _, hcs, _ => ⟨p, cs, hp, hcs, rfl, v_cl0⟩
  | d :: ds, p, cs, hp, hd, hcs, hn => by
    obtain ⟨x, p1, hp1, hx, e1⟩ := tke hp 4 (by decide) (by decide)
    obtain ⟨y, hy, ha⟩ := abcz_at (x := x) (by omega)
    obtain ⟨p2, cs2, a1, a2, a3, a4⟩ := abcz_comp (v1 := v1) ds p1 (cs ++ [y]) hp1 (fun e he => hd e (List.mem_cons_of_mem _ he)) (fun z hz => by
      rcases List.mem_append.mp hz with q | q
      · exact hcs z q
      · rw [List.mem_singleton.mp q]; exact hy) (by simp only [List.length_append, List.length_cons, List.length_nil] at hn ⊢; omega)
    refine ⟨p2, cs2, a1, a2, by rw [a3]; simp only [List.length_append, List.length_cons, List.length_nil]; omega, ?_⟩
    rw [← a4, List.map_append]
    have hl : (cs.map sg).length < 16777216 := by simp only [List.length_map, List.length_cons] at hn ⊢; omega
    have hdm := hd d List.mem_cons_self
    clear a4
    generalize cs.map sg = CS at *
    unfold abczE
    walk_at "evh"
theorem txt {p : D} (hp : Pool p) (m : Nat) (h1 : m ≤ 500) : ∃ (w : List Nat) (p' : D), Pool p' ∧ w.length = m ∧ (∀ x ∈ w, x ∈ abcz) ∧ fn_law_text [.own 1 p, .int (m : Nat)] = .ok (.str w) [some (.own 1 p'), some (.int (m : Nat))] := by
  obtain ⟨p2, w, a1, a2, a3, a4⟩ := abcz_comp (v1 := some (.int (m : Nat))) (rangeD 0 ((m : Nat) : Int).toNat) p [] hp range_plain (fun x hx => (List.not_mem_nil hx).elim) (by simp [rangeD]; omega)
  have hwl : w.length = m := by rw [a3]; simp [rangeD]
  have hR : okR ((m : Nat) : Int) = true := by unfold okR; exact decide_eq_true (by omega)
  have hj := o_join (l := w) (by omega)
  have hpl := plain_sg w
  rw [List.map_nil] at a4
  refine ⟨w, p2, a1, hwl, a2, ?_⟩
  generalize w.map sg = WS at *
  unfold abczE at a4
  unfold fn_law_text body_law_text
  walk_at "evh"
theorem shq {c : Nat} {z fl : List Nat} (hz : z = strCw ∨ z = oldC') (hc : 1 ≤ c) (hc2 : c ≤ 100) (hx : ∀ x ∈ fl, stpOk x) : ∃ t, (∃ o, fn_shortest_sequence [effD c (effR c z fl), .str z] = .ok (.str t) o) ∧ (∀ n, n ≤ c → effR c z t n = effR c z fl n) ∧ t.length ≤ fl.length ∧ (∀ y ∈ t, stpOk y) ∧ (shortF c (effR c z fl) z = some t) := by
  obtain ⟨t, e, h1, h2, h3⟩ := short_seq (fl := fl) hz hc hx
  obtain ⟨o, f⟩ := f_short (f := effR c z fl) hz hc hc2 (fun n hn => eff_ok hc hn hx)
  rw [e] at f
  exact ⟨t, ⟨o, f⟩, h1, h2, seq_mem hx h3, e⟩
theorem effP {c : Nat} {z tx fl : List Nat} (hc : 1 ≤ c) (hc2 : c ≤ 100) (hz : z ∈ modes) (hl : tx.length ≤ 100000) (h : _root_.Q.progF tx = some fl) : ∃ o, fn_effect_of [.str tx, .int (c : Nat), .str z] = .ok (effD c (effR c z fl)) o := by
  rw [Q.progF_P] at h
  obtain ⟨pg, hpg, hw⟩ := Option.map_eq_some_iff.mp h
  obtain ⟨oe, ee⟩ := f_effect_of (z := z) hc hc2 hz hl hpg
  rw [hw] at ee
  exact ⟨oe, ee⟩
theorem stp_mem {l : List Nat} (h : ∀ x ∈ l, stpOk x) : ∀ x ∈ l, x ∈ Q.stp := fun x hx => stpOk_stp (h x hx)
theorem rep_prog {b m : List Nat} {k : Nat} (hb : ∀ x ∈ b, stpOk x) (hm : ∀ x ∈ m, stpOk x) (hk : k ≤ KS30) : _root_.Q.progF ([40] ++ b ++ [41] ++ decL k ++ m) = some (rept k b ++ m) := by
  have h := ((Q.Spells.rep (Q.Spells.steps (n := 0) (stp_mem hb)) hk).app (Q.Spells.steps (n := 1) (stp_mem hm))).prog (by decide)
  have e : [40] ++ b ++ [41] ++ decL k ++ m = 40 :: (b ++ 41 :: TL.numL k) ++ m := by
    show [40] ++ b ++ [41] ++ TL.numL k ++ m = _
    simp
  rw [e]
  exact h
theorem decK_le {k : Nat} (h : k ≤ KS30) : (decL k).length ≤ 31 := TL.numL_len (n := k) (k := 31) (by decide) (Nat.lt_of_le_of_lt h (by decide))
theorem strK {k : Nat} (hk : k ≤ KS30) : oStrI [.int (k : Nat)] = some (.str (decL k)) := by
  show (if (0 : Int) ≤ (k : Nat) ∧ ((k : Nat) : Int).natAbs < lim1k then some (D.str (decL ((k : Nat) : Int).natAbs)) else none) = _
  rw [Int.natAbs_natCast, if_pos ⟨by omega, Nat.lt_of_le_of_lt hk (by decide +kernel)⟩]
theorem abt_ok : ∀ x ∈ ([97, 98, 45] : List Nat), stpOk x := by
  intro x hx
  simp only [List.mem_cons, List.not_mem_nil, or_false] at hx
  rcases hx with rfl | rfl | rfl
  · exact .inr (by decide)
  · exact .inr (by decide)
  · exact .inl rfl
theorem rep_ok {b : List Nat} {k : Nat} (hb : ∀ x ∈ b, stpOk x) : ∀ x ∈ rept k b, stpOk x := fun x hx => hb x (rept_mem hx)
theorem app_okS {a b : List Nat} (ha : ∀ x ∈ a, stpOk x) (hb : ∀ x ∈ b, stpOk x) : ∀ x ∈ a ++ b, stpOk x := fun x hx => (List.mem_append.mp hx).elim (ha x) (hb x)
theorem abcz_stp {w : List Nat} (h : ∀ x ∈ w, x ∈ abcz) : ∀ x ∈ w, stpOk x := fun x hx => .inr (abcz_ok x (h x hx))
theorem abcz_ne {w : List Nat} (h : ∀ x ∈ w, x ∈ abcz) : ∀ x ∈ w, x ≠ 45 := fun x hx => by have := abcz_ok x (h x hx); omega
theorem oldM : oldC' ∈ modes := by simp [modes]
theorem strM : strCw ∈ modes := by simp [modes, strCw]
theorem kr1 {P : D} {c : Nat} (hP : Pool P) (hc : c ≤ 100) : ∃ w P' x, Pool P' ∧ w.length = c ∧ (∀ y ∈ w, y ∈ abcz) ∧ x < 100000000000000000000 ∧
    sPar [2, 3] (aCons (eFrz (eCall fn_law_text [.b 0, .v (eVar 1)] [])) (aCons (eOp oAdd (eC (.int 1)) (eFrz (eCall fn_law_take [.b 0, .v (eOp oPow (eC (.int 10)) (eC (.int 20)))] []))) aNil)) [some (.own 1 P), some (.int (c : Nat)), none, none, none, none, none, none, none, none, none, none] =
      .nx [some (.own 1 P'), some (.int (c : Nat)), some (.str w), some (.int (1 + (x : Nat))), none, none, none, none, none, none, none, none] := by
  obtain ⟨w, P1, p1, hw, ha, e1⟩ := txt hP c (by omega)
  obtain ⟨x, P2, p2, hx, e2⟩ := tke p1 100000000000000000000 (by decide) (by decide)
  have t10 : (10 : Int).natAbs < 1000 := by decide
  refine ⟨w, P2, x, p2, hw, ha, by omega, ?_⟩
  clear hw ha hx
  walk_at "evh"
theorem kr2 {P : D} {c x : Nat} {w : List Nat} (hc : 1 ≤ c) (hc2 : c ≤ 100) (hx : x < 100000000000000000000) (hw : w.length = c) (ha : ∀ y ∈ w, y ∈ abcz) :
    sSet 4 (eFrz (eCall fn_effect_of [.v (eOp oAddS (eOp oAddS (eC (.str [40, 97, 98, 45, 41])) (eN oStrI (aCons (eOp oAdd (eVar 1) (eVar 3)) aNil))) (eVar 2)), .v (eVar 1), .v (eC (.str [111, 108, 100, 101, 115, 116]))] [])) [some (.own 1 P), some (.int (c : Nat)), some (.str w), some (.int (1 + (x : Nat))), none, none, none, none, none, none, none, none] =
      .nx [some (.own 1 P), some (.int (c : Nat)), some (.str w), some (.int (1 + (x : Nat))), some (effD c (effR c oldC' (rept (c + (1 + x)) [97, 98, 45] ++ w))), none, none, none, none, none, none, none] := by
  have hk : c + (1 + x) ≤ KS30 := by unfold KS30; omega
  have h := rep_prog (b := [97, 98, 45]) abt_ok (abcz_stp ha) hk
  have e0 : [40] ++ [97, 98, 45] ++ [41] ++ decL (c + (1 + x)) ++ w = [40, 97, 98, 45, 41] ++ decL (c + (1 + x)) ++ w := rfl
  rw [e0] at h
  have hd := decK_le hk
  obtain ⟨o, e⟩ := effP hc hc2 oldM (by simp only [List.length_append, List.length_cons, List.length_nil]; omega) h
  have hs := strK hk
  have hn : ((c + (1 + x) : Nat) : Int) = (c : Int) + (1 + (x : Int)) := by omega
  rw [hn] at hs
  have a1 := addS (a := [40, 97, 98, 45, 41]) (b := decL (c + (1 + x))) (by simp only [List.length_cons, List.length_nil]; omega)
  have a2 := addS (a := [40, 97, 98, 45, 41] ++ decL (c + (1 + x))) (b := w) (by simp only [List.length_append, List.length_cons, List.length_nil]; omega)
  unfold oldC' at e
  clear h e0 hd hn hk hw ha hx hc hc2
  generalize [40, 97, 98, 45, 41] ++ decL (c + (1 + x)) ++ w = T2 at *
  generalize [40, 97, 98, 45, 41] ++ decL (c + (1 + x)) = T1 at *
  generalize decL (c + (1 + x)) = T0 at *
  unfold oldC'
  unfold effD at *
  generalize rowsL c (effR c [111, 108, 100, 101, 115, 116] (rept (c + (1 + x)) [97, 98, 45] ++ w)) = L at *
  generalize oAddS = A at *
  generalize oStrI = SI at *
  walk_at "evh"
theorem kr3 {P v3 : D} {c k : Nat} {w : List Nat} (hc : 1 ≤ c) (hc2 : c ≤ 100) (hw : w.length = c) (ha : ∀ y ∈ w, y ∈ abcz) :
    sIf (eOp oNe (eFrz (eCall fn_shortest_sequence [.v (eVar 4), .v (eC (.str [111, 108, 100, 101, 115, 116]))] [])) (eVar 2)) (sRet (eC (.bl false))) sNil [some (.own 1 P), some (.int (c : Nat)), some (.str w), some v3, some (effD c (effR c oldC' (rept k [97, 98, 45] ++ w))), none, none, none, none, none, none, none] =
      .nx [some (.own 1 P), some (.int (c : Nat)), some (.str w), some v3, some (effD c (effR c oldC' (rept k [97, 98, 45] ++ w))), none, none, none, none, none, none, none] := by
  have hne := abcz_ne ha
  have hu : (wk (rept k [97, 98, 45])).d = 0 ∧ (wk (rept k [97, 98, 45])).g ≤ 1 := wk_abt k wk0 rfl (by simp [wk0]) (by simp [wk0]) (by simp [wk0]) (by simp [wk0])
  have hrow : ∀ n, n ≤ c → effR c oldC' (rept k [97, 98, 45] ++ w) n = effR c oldC' w n := fun n hn => by
    rw [full_row hc hne hw hu.1 (by omega) hn]
    have := full_row (u := []) hc hne hw (by simp [wk, wkF, wk0]) (by simp [wk, wkF, wk0]) hn
    rw [List.nil_append] at this
    exact this.symm
  obtain ⟨t, ⟨o, e⟩, h1, h2, h3, h4⟩ := shq (z := oldC') (fl := w) (.inr rfl) hc hc2 (abcz_stp ha)
  obtain ⟨o2, e2⟩ := f_short (f := effR c oldC' (rept k [97, 98, 45] ++ w)) (z := oldC') (.inr rfl) hc hc2 (fun n hn => by rw [hrow n hn]; exact eff_ok hc hn (abcz_stp ha))
  rw [short_congr hrow, h4] at e2
  have hw0 := full_row (u := []) hc hne hw (by simp [wk, wkF, wk0]) (by simp [wk, wkF, wk0]) (Nat.le_refl c)
  rw [List.nil_append] at hw0
  obtain rfl : t = w := short_full hc hw ((h1 c (Nat.le_refl c)).trans hw0) h2
  simp only [seqD] at e2
  have hn : oNe (.str t) (.str t) = some (.bl false) := neS_self (by rfl)
  unfold oldC' at *
  unfold effD at *
  clear h1 h2 h3 h4 hw0 hrow e hu hne ha hw
  generalize rowsL c (effR c [111, 108, 100, 101, 115, 116] (rept k [97, 98, 45] ++ t)) = L at *
  generalize oNe = N at *
  walk_at "evh"
end U
namespace U
theorem kr4 {P v2 v3 v4 : D} {c : Nat} (hP : Pool P) (hc : 1 ≤ c) (hc2 : c ≤ 100) : ∃ P' k, Pool P' ∧ k < c ∧ sSet 5 (eFrz (eCall fn_law_take [.b 0, .v (eVar 1)] [])) [some (.own 1 P), some (.int (c : Nat)), some v2, some v3, some v4, none, none, none, none, none, none, none] =
    .nx [some (.own 1 P'), some (.int (c : Nat)), some v2, some v3, some v4, some (.int (k : Nat)), none, none, none, none, none, none] := by
  obtain ⟨x, P1, p1, hx, e1⟩ := tke hP (c : Nat) (by omega) (by omega)
  refine ⟨P1, x, p1, by omega, ?_⟩
  clear hx
  walk_at "evh"
theorem kr5 {P v2 v3 v4 : D} {c k : Nat} (hP : Pool P) (hc2 : c ≤ 100) (hk : k < c) : ∃ P' w, Pool P' ∧ w.length ≤ k ∧ (∀ y ∈ w, y ∈ abcz) ∧
    sSet 6 (eFrz (eCall fn_law_text [.b 0, .v (eFrz (eCall fn_law_take [.b 0, .v (eOp oAdd (eVar 5) (eC (.int 1)))] []))] [])) [some (.own 1 P), some (.int (c : Nat)), some v2, some v3, some v4, some (.int (k : Nat)), none, none, none, none, none, none] =
    .nx [some (.own 1 P'), some (.int (c : Nat)), some v2, some v3, some v4, some (.int (k : Nat)), some (.str w), none, none, none, none, none] := by
  obtain ⟨x, P1, p1, hx, e1⟩ := tke hP ((k : Nat) + 1) (by omega) (by omega)
  obtain ⟨w, P2, p2, hw, ha, e2⟩ := txt p1 x (by omega)
  refine ⟨P2, w, p2, by omega, ha, ?_⟩
  clear hx hw ha
  walk_at "evh"
theorem md2 {z : List Nat} (h : z = [111, 108, 100, 101, 115, 116] ∨ z = [115, 116, 114, 105, 99, 116]) : (z = strCw ∨ z = oldC') ∧ z ∈ modes := by
  rcases h with rfl | rfl
  · exact ⟨.inr rfl, oldM⟩
  · exact ⟨.inl rfl, strM⟩
theorem kr6t {P v2 v3 v4 : D} {c k : Nat} {w z : List Nat} {v7 v8 : Option D} (hz : z = [111, 108, 100, 101, 115, 116] ∨ z = [115, 116, 114, 105, 99, 116]) (hc : 1 ≤ c) (hc2 : c ≤ 100) (hk : k < c) (hw : w.length ≤ k) (ha : ∀ y ∈ w, y ∈ abcz) (o7 : Fre v7) (o8 : Fre v8) :
    ∃ t, (toFl (gVar 7 (.str z) [some (.own 1 P), some (.int (c : Nat)), some v2, some v3, some v4, some (.int (k : Nat)), some (.str w), v7, v8, none, none, none])).bind turn_law_known_right_1 =
      .nx [some (.own 1 P), some (.int (c : Nat)), some v2, some v3, some v4, some (.int (k : Nat)), some (.str w), some (.str z), some (.str t), none, none, none] := by
  obtain ⟨hz1, hz2⟩ := md2 hz
  have hok := app_okS (rep_ok (k := k) (b := [45]) (fun x hx => .inl (List.mem_singleton.mp hx))) (abcz_stp ha)
  have hln : (rept k [45] ++ w).length = k + w.length := by rw [List.length_append, rept_len, List.length_singleton, Nat.mul_one]
  obtain ⟨t, ⟨o, e⟩, h1, h2, h3, h4⟩ := shq (z := z) (fl := rept k [45] ++ w) hz1 hc hc2 hok
  obtain ⟨o2, e2⟩ := eff_seqS hc hc2 hz2 (by omega) hok
  have hlow := short_tp hz1 hc hk (abcz_ne ha) hw h1
  have hl : ((t.length : Nat) : Int) = (k : Int) + (w.length : Int) := by omega
  have hm := mulS (a := [45]) (n := (k : Nat)) (by omega) (by omega) (by decide)
  rw [Int.toNat_natCast] at hm
  have hA := addS (a := rept k [45]) (b := w) (by rw [rept_len, List.length_singleton]; omega)
  have hL1 : oLenS [.str t] = some (.int (t.length : Nat)) := by
    show (if t.length ≤ cap then some (D.int (t.length : Nat)) else none) = _
    rw [if_pos (by show _ ≤ 16777216; omega)]
  have hL2 : oLenS [.str w] = some (.int (w.length : Nat)) := by
    show (if w.length ≤ cap then some (D.int (w.length : Nat)) else none) = _
    rw [if_pos (by show _ ≤ 16777216; omega)]
  have hN : oNe (.int (t.length : Nat)) (.int ((k : Int) + (w.length : Int))) = some (.bl false) := by
    rw [hl]; exact neS_self (by rfl)
  refine ⟨t, ?_⟩
  clear h1 h2 h3 h4 hlow hz hz1 hz2 hln hok hw ha hc hc2 hk hl
  unfold effD at *
  generalize rowsL c (effR c z (rept k [45] ++ w)) = L at *
  generalize rept k [45] ++ w = T at *
  generalize rept k [45] = T0 at *
  generalize ((t.length : Nat) : Int) = LT at *
  unfold turn_law_known_right_1
  generalize oMulS = M at *
  generalize oAddS = A at *
  generalize oLenS = OL at *
  generalize oNe = N at *
  walk_at "evh"
theorem kr6 {P v2 v3 v4 : D} {c k : Nat} {w : List Nat} (hc : 1 ≤ c) (hc2 : c ≤ 100) (hk : k < c) (hw : w.length ≤ k) (ha : ∀ y ∈ w, y ∈ abcz) :
    ∃ v7 v8, Fre v7 ∧ Fre v8 ∧ sFor (iOf itL (eFrz (eN mkLst (aCons (eC (.str [111, 108, 100, 101, 115, 116])) (aCons (eC (.str [115, 116, 114, 105, 99, 116])) aNil))))) (gVar 7) turn_law_known_right_1 [some (.own 1 P), some (.int (c : Nat)), some v2, some v3, some v4, some (.int (k : Nat)), some (.str w), none, none, none, none, none] =
      .nx [some (.own 1 P), some (.int (c : Nat)), some v2, some v3, some v4, some (.int (k : Nat)), some (.str w), v7, v8, none, none, none] := by
  obtain ⟨t1, e1⟩ := kr6t (P := P) (v2 := v2) (v3 := v3) (v4 := v4) (z := [111, 108, 100, 101, 115, 116]) (.inl rfl) hc hc2 hk hw ha (v7 := none) (v8 := none) fre_none fre_none
  obtain ⟨t2, e2⟩ := kr6t (P := P) (v2 := v2) (v3 := v3) (v4 := v4) (z := [115, 116, 114, 105, 99, 116]) (.inr rfl) hc hc2 hk hw ha (v7 := some (.str [111, 108, 100, 101, 115, 116])) (v8 := some (.str t1)) (fre_pl rfl) (fre_pl rfl)
  refine ⟨some (.str [115, 116, 114, 105, 99, 116]), some (.str t2), fre_pl rfl, fre_pl rfl, ?_⟩
  have hi : (iOf itL (eFrz (eN mkLst (aCons (eC (.str [111, 108, 100, 101, 115, 116])) (aCons (eC (.str [115, 116, 114, 105, 99, 116])) aNil))))) [some (.own 1 P), some (.int (c : Nat)), some v2, some v3, some v4, some (.int (k : Nat)), some (.str w), none, none, none, none, none] = .ok [.str [111, 108, 100, 101, 115, 116], .str [115, 116, 114, 105, 99, 116]] [some (.own 1 P), some (.int (c : Nat)), some v2, some v3, some v4, some (.int (k : Nat)), some (.str w), none, none, none, none, none] := rfl
  unfold sFor
  rw [hi]
  show forL _ _ _ _ = _
  rw [v_fl1, e1, v_fkN, v_fl1, e2, v_fkN, v_fl0]
theorem kr7 {P v2 v3 v4 v5 v6 : D} {v7 v8 : Option D} {c : Nat} (hP : Pool P) (hc2 : c ≤ 100) : ∃ P' k, Pool P' ∧ k ≤ c ∧ sSet 9 (eFrz (eCall fn_law_take [.b 0, .v (eOp oAdd (eVar 1) (eC (.int 1)))] [])) [some (.own 1 P), some (.int (c : Nat)), some v2, some v3, some v4, some v5, some v6, v7, v8, none, none, none] =
    .nx [some (.own 1 P'), some (.int (c : Nat)), some v2, some v3, some v4, some v5, some v6, v7, v8, some (.int (k : Nat)), none, none] := by
  obtain ⟨x, P1, p1, hx, e1⟩ := tke hP ((c : Nat) + 1) (by omega) (by omega)
  refine ⟨P1, x, p1, by omega, ?_⟩
  clear hx
  walk_at "evh"
theorem kr8 {P v2 v3 v4 v5 v6 : D} {v7 v8 : Option D} {c k : Nat} (hc : 1 ≤ c) (hc2 : c ≤ 100) (hk : k ≤ c) (o8 : Fre v8) : ∃ t, (t.length = 2 * k ∧ t.length - (putsL t).length = k) ∧ (∀ y ∈ t, stpOk y) ∧
    sSet 8 (eFrz (eCall fn_shortest_sequence [.v (eFrz (eCall fn_effect_of [.v (eOp oAddS (eOp oMulS (eC (.str [97])) (eVar 9)) (eOp oMulS (eC (.str [45])) (eVar 9))), .v (eVar 1), .v (eC (.str [115, 116, 114, 105, 99, 116]))] [])), .v (eC (.str [115, 116, 114, 105, 99, 116]))] [])) [some (.own 1 P), some (.int (c : Nat)), some v2, some v3, some v4, some v5, some v6, v7, v8, some (.int (k : Nat)), none, none] =
    .nx [some (.own 1 P), some (.int (c : Nat)), some v2, some v3, some v4, some v5, some v6, v7, some (.str t), some (.int (k : Nat)), none, none] := by
  have hok := app_okS (rep_ok (k := k) (b := [97]) (fun x hx => .inr (by rw [List.mem_singleton.mp hx]; decide))) (rep_ok (k := k) (b := [45]) (fun x hx => .inl (List.mem_singleton.mp hx)))
  have hln : (rept k [97] ++ rept k [45]).length = 2 * k := by rw [List.length_append, rept_len, rept_len, List.length_singleton, List.length_singleton]; omega
  obtain ⟨t, ⟨o, e⟩, h1, h2, h3, h4⟩ := shq (z := strCw) (fl := rept k [97] ++ rept k [45]) (.inl rfl) hc hc2 hok
  obtain ⟨o2, e2⟩ := eff_seqS hc hc2 strM (by omega) hok
  have hb := short_back hk h1 (by omega)
  have hm1 := mulS (a := [97]) (n := (k : Nat)) (by omega) (by omega) (by decide)
  have hm2 := mulS (a := [45]) (n := (k : Nat)) (by omega) (by omega) (by decide)
  rw [Int.toNat_natCast] at hm1 hm2
  have hA := addS (a := rept k [97]) (b := rept k [45]) (by rw [rept_len, rept_len, List.length_singleton, List.length_singleton]; omega)
  refine ⟨t, hb, h3, ?_⟩
  clear h1 h2 h3 h4 hb hln hok hc hc2 hk
  unfold strCw at *
  unfold effD at *
  generalize rowsL c (effR c [115, 116, 114, 105, 99, 116] (rept k [97] ++ rept k [45])) = L at *
  generalize rept k [97] ++ rept k [45] = T at *
  generalize rept k [97] = T1 at *
  generalize rept k [45] = T2 at *
  generalize oMulS = M at *
  generalize oAddS = A at *
  walk_at "evh"
theorem cnt_tk : ∀ t : List Nat, t.count 45 = t.length - (putsL t).length := by
  have key : ∀ t : List Nat, t.count 45 + (putsL t).length = t.length := fun t => by
    induction t with
    | nil => rfl
    | cons x t ih =>
      by_cases h : x = 45
      · subst h
        rw [List.count_cons_self]
        have : putsL (45 :: t) = putsL t := by simp [putsL]
        rw [this, List.length_cons]
        omega
      · have e1 : (x :: t).count 45 = t.count 45 := List.count_cons_of_ne (fun e => h e)
        have e2 : putsL (x :: t) = x :: putsL t := by simp [putsL, h]
        rw [e1, e2, List.length_cons, List.length_cons]
        omega
  intro t
  have := key t
  omega
theorem kr9 {P v2 v3 v4 v5 v6 : D} {v7 : Option D} {c k : Nat} {t : List Nat} (hk : k ≤ 100) (h : t.length = 2 * k ∧ t.length - (putsL t).length = k) :
    sIf (eOr (eOp oIsN (eVar 8) (eC .non)) (eOr (eOp oNe (eMs oCount (eVar 8) (eC (.str [45]))) (eVar 9)) (eOp oNe (eN oLenS (aCons (eVar 8) aNil)) (eOp oMul (eC (.int 2)) (eVar 9))))) (sRet (eC (.bl false))) sNil [some (.own 1 P), some (.int (c : Nat)), some v2, some v3, some v4, some v5, some v6, v7, some (.str t), some (.int (k : Nat)), none, none] =
    .nx [some (.own 1 P), some (.int (c : Nat)), some v2, some v3, some v4, some v5, some v6, v7, some (.str t), some (.int (k : Nat)), none, none] := by
  have hC : oCount (.str t) (.str [45]) = some (.int (k : Nat)) := by
    show some (D.int (t.count 45 : Nat)) = _
    rw [cnt_tk, h.2]
  have hL1 : oLenS [.str t] = some (.int (2 * (k : Int))) := by
    show (if t.length ≤ cap then some (D.int (t.length : Nat)) else none) = _
    rw [if_pos (by show _ ≤ 16777216; omega), h.1]
    congr 2
  have hM : oMul (.int 2) (.int (k : Nat)) = some (.int (2 * (k : Int))) := rfl
  have hN1 : oNe (.int (2 * (k : Int))) (.int (2 * (k : Int))) = some (.bl false) := neS_self (by rfl)
  have hN2 : oNe (.int (k : Nat)) (.int (k : Nat)) = some (.bl false) := neS_self (by rfl)
  clear h
  generalize 2 * (k : Int) = K2 at *
  generalize oCount = OC at *
  generalize oLenS = OL at *
  generalize oMul = OM at *
  generalize oNe = N at *
  walk_at "evh"
theorem kr10 {P v2 v3 v4 v5 v6 v8 v9 : D} {v7 : Option D} {c : Nat} (hP : Pool P) (hc : 1 ≤ c) (hc2 : c ≤ 100) : ∃ P' b a, Pool P' ∧ 1 ≤ b ∧ b ≤ c ∧ c - b ≤ a ∧ a ≤ c ∧
    sSeq (sSet 10 (eOp oAdd (eC (.int 1)) (eFrz (eCall fn_law_take [.b 0, .v (eVar 1)] [])))) (sSet 11 (eN oMax2 (aCons (eOp oSub (eVar 1) (eVar 10)) (aCons (eFrz (eCall fn_law_take [.b 0, .v (eVar 10)] [])) aNil)))) [some (.own 1 P), some (.int (c : Nat)), some v2, some v3, some v4, some v5, some v6, v7, some v8, some v9, none, none] =
    .nx [some (.own 1 P'), some (.int (c : Nat)), some v2, some v3, some v4, some v5, some v6, v7, some v8, some v9, some (.int (b : Nat)), some (.int (a : Nat))] := by
  obtain ⟨x, P1, p1, hx, e1⟩ := tke hP (c : Nat) (by omega) (by omega)
  obtain ⟨y, P2, p2, hy, e2⟩ := tke p1 (1 + (x : Nat)) (by omega) (by omega)
  obtain ⟨a, ha⟩ : ∃ a : Nat, (a : Int) = if (c : Int) - (1 + (x : Int)) < y then (y : Int) else (c : Int) - (1 + (x : Int)) := by
    split
    · exact ⟨y, rfl⟩
    · exact ⟨((c : Int) - (1 + (x : Int))).toNat, by omega⟩
  have hM : oMax2 [.int ((c : Int) - (1 + (x : Int))), .int (y : Nat)] = some (.int (a : Nat)) := by rw [ha]; rfl
  have hb : ((1 + x : Nat) : Int) = 1 + (x : Int) := by omega
  refine ⟨P2, 1 + x, a, p2, by omega, by omega, by split at ha <;> omega, by split at ha <;> omega, ?_⟩
  rw [hb]
  clear hb ha hx hy
  generalize oMax2 = OM at *
  walk_at "evh"
theorem kr12t {P v2 v3 v4 v5 v6 v9 : D} {c a b : Nat} {z : List Nat} {v7 v8 : Option D} (hz : z = [111, 108, 100, 101, 115, 116] ∨ z = [115, 116, 114, 105, 99, 116]) (hc : 1 ≤ c) (hc2 : c ≤ 100) (hb1 : 1 ≤ b) (hb : b ≤ c) (hac : c - b ≤ a) (ha : a ≤ c) (o7 : Fre v7) (o8 : Fre v8) :
    ∃ t, (toFl (gVar 7 (.str z) [some (.own 1 P), some (.int (c : Nat)), some v2, some v3, some v4, some v5, some v6, v7, v8, some v9, some (.int (b : Nat)), some (.int (a : Nat))])).bind turn_law_known_right_2 =
      .nx [some (.own 1 P), some (.int (c : Nat)), some v2, some v3, some v4, some v5, some v6, some (.str z), some (.str t), some v9, some (.int (b : Nat)), some (.int (a : Nat))] := by
  obtain ⟨hz1, hz2⟩ := md2 hz
  have hok := app_okS (rep_ok (k := a) (b := [97]) (fun x hx => .inr (by rw [List.mem_singleton.mp hx]; decide))) (rep_ok (k := b) (b := [45]) (fun x hx => .inl (List.mem_singleton.mp hx)))
  have hln : (rept a [97] ++ rept b [45]).length = a + b := by rw [List.length_append, rept_len, rept_len, List.length_singleton, List.length_singleton]; omega
  obtain ⟨t, ⟨o, e⟩, h1, h2, h3, h4⟩ := shq (z := z) (fl := rept a [97] ++ rept b [45]) hz1 hc hc2 hok
  obtain ⟨o2, e2⟩ := eff_seqS hc hc2 hz2 (by omega) hok
  obtain ⟨o3, e3⟩ := f_failing (c := c) hc hc2
  obtain ⟨o4, e4⟩ := f_short (f := noR) (z := z) hz1 hc hc2 (fun n hn => trivial)
  have hno : shortF c noR z = some (rept (c + 1) [45]) := by
    unfold shortF
    have : anyS c noR = false := by
      cases h : anyS c noR with
      | false => rfl
      | true => obtain ⟨n, _, hq⟩ := anyS_iff.mp h; exact absurd rfl hq
    rw [this, if_neg (by decide)]
  rw [hno] at e4
  simp only [seqD] at e4
  have hm1 := mulS (a := [97]) (n := (a : Nat)) (by omega) (by omega) (by decide)
  have hm2 := mulS (a := [45]) (n := (b : Nat)) (by omega) (by omega) (by decide)
  rw [Int.toNat_natCast] at hm1 hm2
  have hA := addS (a := rept a [97]) (b := rept b [45]) (by rw [rept_len, rept_len, List.length_singleton, List.length_singleton]; omega)
  have hL1 : oLenS [.str t] = some (.int (t.length : Nat)) := by
    show (if t.length ≤ cap then some (D.int (t.length : Nat)) else none) = _
    rw [if_pos (by show _ ≤ 16777216; omega)]
  have hL2 : oLenS [.str (rept (c + 1) [45])] = some (.int ((c : Int) + 1)) := by
    show (if (rept (c + 1) [45]).length ≤ cap then some (D.int ((rept (c + 1) [45]).length : Nat)) else none) = _
    have e : (((c + 1) * 1 : Nat) : Int) = (c : Int) + 1 := by omega
    rw [rept_len, List.length_singleton, if_pos (by show _ ≤ 16777216; omega), e]
  have hN2 : oNe (.int ((c : Int) + 1)) (.int ((c : Int) + 1)) = some (.bl false) := neS_self (by rfl)
  have hO : ∀ ρ : Env, ρ[8]? = some (some (.str t)) → (eN oLenS (aCons (eOrT (eVar 8) (eC (.str []))) aNil)) ρ = .ok (.int (t.length : Nat)) ρ := fun ρ hρ => by
    have hv : eVar 8 ρ = .ok (.str t) ρ := by unfold eVar; rw [hρ]; rfl
    have ho : eOrT (eVar 8) (eC (.str [])) ρ = .ok (.str t) ρ := by
      unfold eOrT
      rw [hv]
      simp only [ER.bind]
      rw [if_pos (by omega)]
      by_cases h0 : t.length = 0
      · rw [if_pos h0]
        have : t = [] := List.length_eq_zero_iff.mp h0
        rw [this]
        rfl
      · rw [if_neg h0]
    unfold eN aCons
    rw [ho]
    simp only [ER.bindA, aNil, AR.bindA, AR.bind, hL1]
    rfl
  refine ⟨t, ?_⟩
  have hbody : (toFl (gVar 7 (.str z) [some (.own 1 P), some (.int (c : Nat)), some v2, some v3, some v4, some v5, some v6, v7, v8, some v9, some (.int (b : Nat)), some (.int (a : Nat))])).bind turn_law_known_right_2 = turn_law_known_right_2 [some (.own 1 P), some (.int (c : Nat)), some v2, some v3, some v4, some v5, some v6, some (.str z), v8, some v9, some (.int (b : Nat)), some (.int (a : Nat))] := by
    clear h1 h2 h3 h4 hz hz1 hz2 hln hok hb hac ha hc hc2 hL1 hL2 hN2 hm1 hm2 hA e e2 e3 e4 hno hO hb1
    generalize turn_law_known_right_2 = TB
    walk_at "evh"
  rw [hbody]
  have hL : oLenS [.str t] = some (.int (t.length : Nat)) := hL1
  have key : a < b → ((t.length : Nat) : Int) = (a : Int) + (b : Int) := fun hab => by
    have := short_tall hz1 hc hb hab hac h1
    omega
  clear h1 h2 h3 h4 hz hz1 hz2 hln hok hb hac ha hc hc2 hno hbody hL hb1 hL1
  unfold effD at *
  generalize rowsL c (effR c z (rept a [97] ++ rept b [45])) = L at *
  generalize rowsL c noR = LN at *
  generalize rept a [97] ++ rept b [45] = T at *
  generalize rept a [97] = T1 at *
  generalize rept b [45] = T2 at *
  generalize rept (c + 1) [45] = T3 at *
  generalize hLT : ((t.length : Nat) : Int) = LT at *
  have hO1 := hO [some (.own 1 P), some (.int (c : Nat)), some v2, some v3, some v4, some v5, some v6, some (.str z), some (.str t), some v9, some (.int (b : Nat)), some (.int (a : Nat))] rfl
  clear hO hLT
  unfold turn_law_known_right_2
  generalize (eN oLenS (aCons (eOrT (eVar 8) (eC (.str []))) aNil)) = OO at *
  by_cases hab : a < b
  · have hab' : (a : Int) < (b : Int) := by omega
    have hN1 : oNe (.int LT) (.int ((a : Int) + (b : Int))) = some (.bl false) := by
      rw [key hab]; exact neS_self (by rfl)
    clear key hab
    generalize oMulS = M at *
    generalize oAddS = A at *
    generalize oLenS = OL at *
    generalize oNe = N at *
    walk_at "evh"
  · have hab' : ¬ (a : Int) < (b : Int) := by omega
    clear key hab
    generalize oMulS = M at *
    generalize oAddS = A at *
    generalize oLenS = OL at *
    generalize oNe = N at *
    walk_at "evh"
theorem kr12 {P v2 v3 v4 v5 v6 v8 v9 : D} {v7 : Option D} {c a b : Nat} (hc : 1 ≤ c) (hc2 : c ≤ 100) (hb1 : 1 ≤ b) (hb : b ≤ c) (hac : c - b ≤ a) (ha : a ≤ c) (o7 : Fre v7) (o8 : Fre (some v8)) :
    ∃ v7' v8', sFor (iOf itL (eFrz (eN mkLst (aCons (eC (.str [111, 108, 100, 101, 115, 116])) (aCons (eC (.str [115, 116, 114, 105, 99, 116])) aNil))))) (gVar 7) turn_law_known_right_2 [some (.own 1 P), some (.int (c : Nat)), some v2, some v3, some v4, some v5, some v6, v7, some v8, some v9, some (.int (b : Nat)), some (.int (a : Nat))] =
      .nx [some (.own 1 P), some (.int (c : Nat)), some v2, some v3, some v4, some v5, some v6, v7', v8', some v9, some (.int (b : Nat)), some (.int (a : Nat))] := by
  obtain ⟨t1, e1⟩ := kr12t (P := P) (v2 := v2) (v3 := v3) (v4 := v4) (v5 := v5) (v6 := v6) (v9 := v9) (z := [111, 108, 100, 101, 115, 116]) (.inl rfl) hc hc2 hb1 hb hac ha (v7 := v7) (v8 := some v8) o7 o8
  obtain ⟨t2, e2⟩ := kr12t (P := P) (v2 := v2) (v3 := v3) (v4 := v4) (v5 := v5) (v6 := v6) (v9 := v9) (z := [115, 116, 114, 105, 99, 116]) (.inr rfl) hc hc2 hb1 hb hac ha (v7 := some (.str [111, 108, 100, 101, 115, 116])) (v8 := some (.str t1)) (fre_pl rfl) (fre_pl rfl)
  refine ⟨some (.str [115, 116, 114, 105, 99, 116]), some (.str t2), ?_⟩
  have hi : (iOf itL (eFrz (eN mkLst (aCons (eC (.str [111, 108, 100, 101, 115, 116])) (aCons (eC (.str [115, 116, 114, 105, 99, 116])) aNil))))) [some (.own 1 P), some (.int (c : Nat)), some v2, some v3, some v4, some v5, some v6, v7, some v8, some v9, some (.int (b : Nat)), some (.int (a : Nat))] = .ok [.str [111, 108, 100, 101, 115, 116], .str [115, 116, 114, 105, 99, 116]] [some (.own 1 P), some (.int (c : Nat)), some v2, some v3, some v4, some v5, some v6, v7, some v8, some v9, some (.int (b : Nat)), some (.int (a : Nat))] := rfl
  unfold sFor
  rw [hi]
  show forL _ _ _ _ = _
  rw [v_fl1, e1, v_fkN, v_fl1, e2, v_fkN, v_fl0]
theorem short_nil {c : Nat} (hc : 1 ≤ c) (hc2 : c ≤ 100) : ∃ o, fn_shortest_sequence [effD c (effR c oldC' []), .str oldC'] = .ok (.str []) o := by
  obtain ⟨t, ⟨o, e⟩, _, h2, _, _⟩ := shq (c := c) (z := oldC') (fl := []) (.inr rfl) hc hc2 (fun x hx => by cases hx)
  have : t = [] := List.length_eq_zero_iff.mp (by simpa using h2)
  rw [this] at e
  exact ⟨o, e⟩
theorem kr13 {P : D} {r : Env} {c : Nat} (hc : 1 ≤ c) (hc2 : c ≤ 100) :
    sRet (eOp oEq (eFrz (eCall fn_shortest_sequence [.v (eFrz (eCall fn_Effect_identity [.v (eVar 1)] [])), .v (eC (.str [111, 108, 100, 101, 115, 116]))] [])) (eC (.str []))) (some (.own 1 P) :: some (.int (c : Nat)) :: r) = .rt (.bl true) (some (.own 1 P) :: some (.int (c : Nat)) :: r) := by
  obtain ⟨o1, e1⟩ := f_identity (z := oldC') hc hc2
  obtain ⟨o2, e2⟩ := short_nil hc hc2
  have hE : oEq (.str []) (.str []) = some (.bl true) := rfl
  unfold oldC' at *
  unfold effD at *
  generalize rowsL c (effR c [111, 108, 100, 101, 115, 116] []) = L at *
  generalize oEq = OE at *
  walk_at "evh"
theorem f_known {P : D} {c : Nat} (hP : Pool P) (hc : 1 ≤ c) (hc2 : c ≤ 100) : ∃ P', Pool P' ∧ fn_law_known_right [.own 1 P, .int (c : Nat)] = .ok (.bl true) [some (.own 1 P'), some (.int (c : Nat))] := by
  obtain ⟨w, P1, x, p1, hw, ha, hx, s1⟩ := kr1 hP hc2
  have s2 := kr2 (P := P1) hc hc2 hx hw ha
  have s3 := kr3 (P := P1) (v3 := .int (1 + (x : Nat))) (k := c + (1 + x)) hc hc2 hw ha
  obtain ⟨P2, k, p2, hk, s4⟩ := kr4 (v2 := .str w) (v3 := .int (1 + (x : Nat))) (v4 := effD c (effR c oldC' (rept (c + (1 + x)) [97, 98, 45] ++ w))) p1 hc hc2
  obtain ⟨P3, w2, p3, hw2, ha2, s5⟩ := kr5 (v2 := .str w) (v3 := .int (1 + (x : Nat))) (v4 := effD c (effR c oldC' (rept (c + (1 + x)) [97, 98, 45] ++ w))) p2 hc2 hk
  obtain ⟨v7, v8, o7, o8, s6⟩ := kr6 (P := P3) (v2 := .str w) (v3 := .int (1 + (x : Nat))) (v4 := effD c (effR c oldC' (rept (c + (1 + x)) [97, 98, 45] ++ w))) hc hc2 hk hw2 ha2
  obtain ⟨P4, kb, p4, hkb, s7⟩ := kr7 (v2 := .str w) (v3 := .int (1 + (x : Nat))) (v4 := effD c (effR c oldC' (rept (c + (1 + x)) [97, 98, 45] ++ w))) (v5 := .int (k : Nat)) (v6 := .str w2) (v7 := v7) (v8 := v8) p3 hc2
  obtain ⟨t, ht, _, s8⟩ := kr8 (P := P4) (v2 := .str w) (v3 := .int (1 + (x : Nat))) (v4 := effD c (effR c oldC' (rept (c + (1 + x)) [97, 98, 45] ++ w))) (v5 := .int (k : Nat)) (v6 := .str w2) (v7 := v7) (v8 := v8) hc hc2 hkb o8
  have s9 := kr9 (P := P4) (v2 := .str w) (v3 := .int (1 + (x : Nat))) (v4 := effD c (effR c oldC' (rept (c + (1 + x)) [97, 98, 45] ++ w))) (v5 := .int (k : Nat)) (v6 := .str w2) (v7 := v7) (c := c) (by omega) ht
  obtain ⟨P5, b, a, p5, hb1, hb, hac, haa, s10⟩ := kr10 (v2 := .str w) (v3 := .int (1 + (x : Nat))) (v4 := effD c (effR c oldC' (rept (c + (1 + x)) [97, 98, 45] ++ w))) (v5 := .int (k : Nat)) (v6 := .str w2) (v7 := v7) (v8 := .str t) (v9 := .int (kb : Nat)) p4 hc hc2
  obtain ⟨v7', v8', s12⟩ := kr12 (P := P5) (v2 := .str w) (v3 := .int (1 + (x : Nat))) (v4 := effD c (effR c oldC' (rept (c + (1 + x)) [97, 98, 45] ++ w))) (v5 := .int (k : Nat)) (v6 := .str w2) (v7 := v7) (v8 := .str t) (v9 := .int (kb : Nat)) hc hc2 hb1 hb hac haa o7 (fre_pl rfl)
  have s13 := kr13 (P := P5) (r := [some (.str w), some (.int (1 + (x : Nat))), some (effD c (effR c oldC' (rept (c + (1 + x)) [97, 98, 45] ++ w))), some (.int (k : Nat)), some (.str w2), v7', v8', some (.int (kb : Nat)), some (.int (b : Nat)), some (.int (a : Nat))]) hc hc2
  refine ⟨P5, p5, ?_⟩
  have hb : body_law_known_right [some (.own 1 P), some (.int (c : Nat)), none, none, none, none, none, none, none, none, none, none] = .rt (.bl true) [some (.own 1 P5), some (.int (c : Nat)), some (.str w), some (.int (1 + (x : Nat))), some (effD c (effR c oldC' (rept (c + (1 + x)) [97, 98, 45] ++ w))), some (.int (k : Nat)), some (.str w2), v7', v8', some (.int (kb : Nat)), some (.int (b : Nat)), some (.int (a : Nat))] := by
    unfold body_law_known_right
    rw [seq_nx s1, seq_nx s2, seq_nx s3, seq_nx s4, seq_nx s5, seq_nx s6, seq_nx s7, seq_nx s8, seq_nx s9]
    have ass : ∀ (A B C : St) (ρ : Env), sSeq A (sSeq B C) ρ = sSeq (sSeq A B) C ρ := fun A B C ρ => by
      unfold sSeq
      cases A ρ <;> rfl
    rw [ass, seq_nx s10, seq_nx s12]
    exact s13
  have hl0 : List.map some [D.own 1 P, D.int (c : Nat)] ++ List.replicate 10 none = [some (.own 1 P), some (.int (c : Nat)), none, none, none, none, none, none, none, none, none, none] := rfl
  unfold fn_law_known_right
  rw [v_fn, if_pos (show [D.own 1 P, D.int (c : Nat)].length = 2 from rfl), hl0, hb]
  rfl
end U
namespace U
def LawW (ns : List Int) (ρ : Env) : Prop := ∃ v1 v2 v3 v4 v5 v6 v7 v8, ρ = [some (.scr ns), v1, v2, v3, v4, v5, v6, v7, v8] ∧ Fre v1 ∧ Fre v2 ∧ Fre v3 ∧ Fre v4 ∧ Fre v5 ∧ Fre v6 ∧ Fre v7 ∧ Fre v8
theorem c_1 {ns : List Int} {k : Nat} (hns : ns.length ≤ 63) (hk : k ≤ 1000) {v2 v3 v4 v5 v6 v7 v8 : Option D} (o2 : Fre v2) : ∃ P, Pool P ∧ sSet 2 (eCall fn_law_pool [.v (eVar 0), .v (eVar 1)] []) [some (.scr ns), some (.int (k : Nat)), v2, v3, v4, v5, v6, v7, v8] =
    .nx [some (.scr ns), some (.int (k : Nat)), some (.own 0 P), v3, v4, v5, v6, v7, v8] := by
  obtain ⟨P, e, hP⟩ := pool_all (ns := ns) (k := (k : Nat)) hns (by omega) (by omega)
  refine ⟨P, hP, ?_⟩
  walk_at "evh"
theorem c_2 {ns : List Int} {v1 : D} {P : D} (hP : Pool P) {v3 v4 v5 v6 v7 v8 : Option D} (o3 : Fre v3) : ∃ P' c, Pool P' ∧ 1 ≤ c ∧ c ≤ 100 ∧
    sSet 3 (eOp oAdd (eC (.int 1)) (eFrz (eCall fn_law_take [.b 2, .v (eOp oIxL (eFrz (eN mkLst (aCons (eC (.int 5)) (aCons (eC (.int 20)) (aCons (eC (.int 100)) aNil))))) (eFrz (eCall fn_law_take [.b 2, .v (eC (.int 3))] [])))] []))) [some (.scr ns), some v1, some (.own 0 P), v3, v4, v5, v6, v7, v8] =
    .nx [some (.scr ns), some v1, some (.own 0 P'), some (.int (c : Nat)), v4, v5, v6, v7, v8] := by
  obtain ⟨x, P1, p1, hx, e1⟩ := tke hP 3 (by decide) (by decide)
  obtain ⟨m, hm, hat⟩ : ∃ m : Int, (1 ≤ m ∧ m ≤ 100) ∧ atD [D.int 5, .int 20, .int 100] ((x : Nat) : Int) = some (.int m) := by
    rcases (by omega : x = 0 ∨ x = 1 ∨ x = 2) with rfl | rfl | rfl
    · exact ⟨5, by decide, rfl⟩
    · exact ⟨20, by decide, rfl⟩
    · exact ⟨100, by decide, rfl⟩
  obtain ⟨y, P2, p2, hy, e2⟩ := tke p1 m hm.1 (by omega)
  refine ⟨P2, 1 + y, p2, by omega, by omega, ?_⟩
  have hc : ((1 + y : Nat) : Int) = 1 + (y : Int) := by omega
  rw [hc]
  clear hc hx hy hm
  walk_at "evh"
theorem c_3 {ns : List Int} {v1 : D} {P : D} {c : Nat} (hP : Pool P) (hc : 1 ≤ c) (hc2 : c ≤ 100) {v4 v5 v6 v7 v8 : Option D} : ∃ P', Pool P' ∧
    sIf (eUn oNot (eFrz (eCall fn_law_known_right [.b 2, .v (eVar 3)] []))) (sRet (eC (.bl false))) sNil [some (.scr ns), some v1, some (.own 0 P), some (.int (c : Nat)), v4, v5, v6, v7, v8] =
    .nx [some (.scr ns), some v1, some (.own 0 P'), some (.int (c : Nat)), v4, v5, v6, v7, v8] := by
  obtain ⟨P1, p1, e1⟩ := f_known hP hc hc2
  refine ⟨P1, p1, ?_⟩
  walk_at "evh"
theorem c_4 {ns : List Int} {v1 v3 : D} {P : D} (hP : Pool P) {v4 v5 v6 v7 v8 : Option D} (o4 : Fre v4) (o5 : Fre v5) : ∃ P' l z, Pool P' ∧ l.length ≤ 40 ∧ (∀ x ∈ l, stpOk x) ∧ (z = [111, 108, 100, 101, 115, 116] ∨ z = [115, 116, 114, 105, 99, 116]) ∧
    sPar [4, 5] (aCons (eFrz (eCall fn_law_steps [.b 2, .v (eC (.int 40)), .v (eC (.str [97, 98, 99]))] [])) (aCons (eOp oIxL (eFrz (eN mkLst (aCons (eC (.str [111, 108, 100, 101, 115, 116])) (aCons (eC (.str [115, 116, 114, 105, 99, 116])) aNil)))) (eFrz (eCall fn_law_take [.b 2, .v (eC (.int 2))] []))) aNil)) [some (.scr ns), some v1, some (.own 0 P), some v3, v4, v5, v6, v7, v8] =
    .nx [some (.scr ns), some v1, some (.own 0 P'), some v3, some (.str l), some (.str z), v6, v7, v8] := by
  obtain ⟨l, P1, p1, hl, hx, e1⟩ := stps hP 40 [97, 98, 99] (by decide) (by decide) (by decide)
  obtain ⟨x, P2, p2, hx2, e2⟩ := tke p1 2 (by decide) (by decide)
  obtain ⟨z, hz, hat⟩ : ∃ z : List Nat, (z = [111, 108, 100, 101, 115, 116] ∨ z = [115, 116, 114, 105, 99, 116]) ∧ atD [D.str [111, 108, 100, 101, 115, 116], .str [115, 116, 114, 105, 99, 116]] ((x : Nat) : Int) = some (.str z) := by
    rcases (by omega : x = 0 ∨ x = 1) with rfl | rfl
    · exact ⟨_, .inl rfl, rfl⟩
    · exact ⟨_, .inr rfl, rfl⟩
  have hok := stps_ok hx (fun x hx => by simp only [List.mem_cons, List.not_mem_nil, or_false] at hx; rcases hx with rfl | rfl | rfl <;> decide)
  refine ⟨P2, l, z, p2, by omega, hok, hz, ?_⟩
  clear hl hx hx2 hok hz
  walk_at "evh"
theorem minC {c : Nat} (hc : 1 ≤ c) (hc2 : c ≤ 100) : ∃ m : Nat, 1 ≤ m ∧ m ≤ 100 ∧ oMin2 [.int (c : Nat), .int 12] = some (.int (m : Nat)) := by
  by_cases h : (12 : Int) < (c : Nat)
  · refine ⟨12, by decide, by decide, ?_⟩
    show some (D.int (if (12 : Int) < (c : Nat) then 12 else (c : Nat))) = _
    rw [if_pos h]
    rfl
  · refine ⟨c, hc, hc2, ?_⟩
    show some (D.int (if (12 : Int) < (c : Nat) then 12 else (c : Nat))) = _
    rw [if_neg h]
theorem c_ask {ns : List Int} {v1 v4 P : D} {c : Nat} {z fl : List Nat} (hz : z = [111, 108, 100, 101, 115, 116] ∨ z = [115, 116, 114, 105, 99, 116]) (hc : 1 ≤ c) (hc2 : c ≤ 100) (hx : ∀ x ∈ fl, stpOk x) {v3 v7 v8 : Option D} (o7 : Fre v7) : ∃ t,
    (sSet 7 (eFrz (eCall fn_shortest_sequence [.v (eVar 6), .v (eVar 5)] [])) [some (.scr ns), some v1, some (.own 0 P), v3, some v4, some (.str z), some (effD c (effR c z fl)), v7, v8] = .nx [some (.scr ns), some v1, some (.own 0 P), v3, some v4, some (.str z), some (effD c (effR c z fl)), some (.str t), v8]) ∧
    t.length ≤ fl.length ∧ (∀ y ∈ t, stpOk y) ∧ (∀ n, n ≤ c → effR c z t n = effR c z fl n) ∧ shortF c (effR c z fl) z = some t ∧ t.length ≤ 100000 := by
  obtain ⟨hz1, hz2⟩ := md2 hz
  obtain ⟨t, ⟨o, e⟩, h1, h2, h3, h4⟩ := shq (z := z) (fl := fl) hz1 hc hc2 hx
  have hlen : t.length ≤ 100000 := by
    unfold shortF at h4
    cases ha : anyS c (effR c z fl) with
    | false =>
      rw [ha, if_neg (by decide)] at h4
      cases h4
      rw [rept_len, List.length_singleton]
      omega
    | true =>
      rw [ha, if_pos rfl] at h4
      cases hs : seqS c (effR c z fl) z with
      | none => rw [hs] at h4; cases h4
      | some t' =>
        rw [hs] at h4
        simp only at h4
        by_cases he : eqR c (effR c z t') (effR c z fl) = true
        · rw [if_pos he] at h4
          cases h4
          exact (seqS_steps hz1 hc2 (fun n hn => eff_ok hc hn hx) ha hs).2.2
        · rw [if_neg he] at h4; cases h4
  refine ⟨t, ?_, h2, h3, h1, h4, hlen⟩
  clear h1 h2 h3 h4 hlen hz hz1 hz2 hx hc hc2
  unfold effD at *
  generalize rowsL c (effR c z fl) = L at *
  walk_at "evh"
noncomputable abbrev sameE : E := (eOp (oEqC "Effect" fn_Effect_eq) (eFrz (eCall fn_effect_of [.v (eVar 7), .v (eUn (oProp "Effect" fn_Effect_capacity) (eVar 6)), .v (eVar 5)] [])) (eVar 6))
theorem sameE_at {v0 v1 v4 P : D} {c : Nat} {z fl t : List Nat} (hz : z = [111, 108, 100, 101, 115, 116] ∨ z = [115, 116, 114, 105, 99, 116]) (hc : 1 ≤ c) (hc2 : c ≤ 100) (hl : t.length ≤ 100000) (hx : ∀ x ∈ t, stpOk x) (h : ∀ n, n ≤ c → effR c z t n = effR c z fl n) {v3 v8 : Option D} :
    sameE [some v0, some v1, some (.own 0 P), v3, some v4, some (.str z), some (effD c (effR c z fl)), some (.str t), v8] = .ok (.bl true) [some v0, some v1, some (.own 0 P), v3, some v4, some (.str z), some (effD c (effR c z fl)), some (.str t), v8] := by
  obtain ⟨hz1, hz2⟩ := md2 hz
  obtain ⟨o1, e1⟩ := eff_seqS hc hc2 hz2 hl hx
  obtain ⟨o2, e2⟩ := f_capacity (c := c) (f := effR c z fl)
  obtain ⟨o3, e3⟩ := f_eq2 (c := c) (f := effR c z t) (g := effR c z fl)
  rw [eqR_of h] at e3
  unfold sameE
  clear h hx hl hz hz1 hz2 hc hc2
  unfold effD at *
  generalize rowsL c (effR c z fl) = L at *
  generalize rowsL c (effR c z t) = LT at *
  walk_at "evx"
theorem turn_ok {ns : List Int} {k : Nat} (hns : ns.length ≤ 63) (hk : k ≤ 1000) {ρ : Env} (hρ : LawW ns ρ) : ∃ ρ', (toFl (gVar 1 (.int (k : Nat)) ρ)).bind turn_law_1 = .nx ρ' ∧ LawW ns ρ' := by
  obtain ⟨v1, v2, v3, v4, v5, v6, v7, v8, rfl, o1, o2, o3, o4, o5, o6, o7, o8⟩ := hρ
  obtain ⟨P, p0, s1⟩ := c_1 (ns := ns) (k := k) hns hk (v3 := v3) (v4 := v4) (v5 := v5) (v6 := v6) (v7 := v7) (v8 := v8) o2
  obtain ⟨P1, c, p1, hc, hc2, s2⟩ := c_2 (ns := ns) (v1 := .int (k : Nat)) p0 (v4 := v4) (v5 := v5) (v6 := v6) (v7 := v7) (v8 := v8) o3
  obtain ⟨P2, p2, s3⟩ := c_3 (ns := ns) (v1 := .int (k : Nat)) p1 hc hc2 (v4 := v4) (v5 := v5) (v6 := v6) (v7 := v7) (v8 := v8)
  obtain ⟨P3, l, z, p3, hl, hx, hz, s4⟩ := c_4 (ns := ns) (v1 := .int (k : Nat)) (v3 := .int (c : Nat)) p2 (v6 := v6) (v7 := v7) (v8 := v8) o4 o5
  obtain ⟨hz1, hz2⟩ := md2 hz
  obtain ⟨m, hm, hm2, hmin⟩ := minC hc hc2
  obtain ⟨o9, e9⟩ := eff_seqS (z := z) hm hm2 hz2 (by omega) hx
  have s5 : sSet 6 (eFrz (eCall fn_effect_of [.v (eVar 4), .v (eN oMin2 (aCons (eVar 3) (aCons (eC (.int 12)) aNil))), .v (eVar 5)] [])) [some (.scr ns), some (.int (k : Nat)), some (.own 0 P3), some (.int (c : Nat)), some (.str l), some (.str z), v6, v7, v8] =
      .nx [some (.scr ns), some (.int (k : Nat)), some (.own 0 P3), some (.int (c : Nat)), some (.str l), some (.str z), some (effD m (effR m z l)), v7, v8] := by
    clear s1 s2 s3 s4 hx hl hz hz1 hz2 hm hm2 hc hc2
    unfold effD at *
    generalize rowsL m (effR m z l) = L at *
    generalize oMin2 = OM at *
    walk_at "evh"
  obtain ⟨t, s6, t1, t2, t3, t4, t5⟩ := c_ask (ns := ns) (v1 := .int (k : Nat)) (v4 := .str l) (P := P3) (fl := l) hz hm hm2 hx (v3 := some (.int (c : Nat))) (v7 := v7) (v8 := v8) o7
  have s7 : sIf (eOr (eOp oIsN (eVar 7) (eC .non)) (eOp oGt (eN oLenS (aCons (eVar 7) aNil)) (eN oLenS (aCons (eVar 4) aNil)))) (sRet (eC (.bl false))) sNil [some (.scr ns), some (.int (k : Nat)), some (.own 0 P3), some (.int (c : Nat)), some (.str l), some (.str z), some (effD m (effR m z l)), some (.str t), v8] =
      .nx [some (.scr ns), some (.int (k : Nat)), some (.own 0 P3), some (.int (c : Nat)), some (.str l), some (.str z), some (effD m (effR m z l)), some (.str t), v8] := by
    have h1 : t.length ≤ 16777216 := by omega
    have h2 : l.length ≤ 16777216 := by omega
    have h3 : ¬ ((l.length : Nat) : Int) < ((t.length : Nat) : Int) := by omega
    clear s1 s2 s3 s4 s5 s6 t1 t2 t3 t4 t5 hx hl hz hz1 hz2 hm hm2 hc hc2
    unfold effD at *
    generalize rowsL m (effR m z l) = L at *
    walk_at "evh"
  have s8 : sIf (eUn oNot sameE) (sRet (eC (.bl false))) sNil [some (.scr ns), some (.int (k : Nat)), some (.own 0 P3), some (.int (c : Nat)), some (.str l), some (.str z), some (effD m (effR m z l)), some (.str t), v8] =
      .nx [some (.scr ns), some (.int (k : Nat)), some (.own 0 P3), some (.int (c : Nat)), some (.str l), some (.str z), some (effD m (effR m z l)), some (.str t), v8] := by
    have h1 := sameE_at (v0 := .scr ns) (v1 := .int (k : Nat)) (v4 := .str l) (P := P3) (z := z) (fl := l) (t := t) hz hm hm2 t5 t2 t3 (v3 := some (.int (c : Nat))) (v8 := v8)
    rw [if_f (notS_t h1)]
    rfl
  obtain ⟨x, P4, p4, hxb, e10⟩ := tke p3 1000000000000000000000000000000 (by decide) (by decide)
  have hkk : x ≤ KS30 := by unfold KS30; omega
  have hb : ∀ y ∈ l.take 4, stpOk y := fun y hy => hx y (List.mem_of_mem_take hy)
  have hm5 : ∀ y ∈ (l.drop 4).take 5, stpOk y := fun y hy => hx y (List.mem_of_mem_drop (List.mem_of_mem_take hy))
  have hpr := rep_prog (b := l.take 4) (m := (l.drop 4).take 5) hb hm5 hkk
  have hd := decK_le hkk
  have hTl : ([40] ++ l.take 4 ++ [41] ++ decL x ++ (l.drop 4).take 5).length ≤ 1000 := by
    simp only [List.length_append, List.length_cons, List.length_nil, List.length_take, List.length_drop]
    omega
  have hcut1 : cutD l none (some ((4 : Nat) : Int)) = l.take 4 := by
    unfold cutD sIxD
    simp only
    rw [if_neg (by omega), Int.toNat_natCast]
    by_cases h : 4 ≤ l.length
    · rw [Nat.min_eq_left h]; rfl
    · rw [Nat.min_eq_right (by omega), List.take_of_length_le (by omega : l.length ≤ 4)]
      simp
  have hcut2 : cutD l (some ((4 : Nat) : Int)) (some ((9 : Nat) : Int)) = (l.drop 4).take 5 := by
    unfold cutD sIxD
    simp only
    rw [if_neg (by omega), if_neg (by omega), Int.toNat_natCast, Int.toNat_natCast]
    by_cases h : 4 ≤ l.length
    · rw [Nat.min_eq_left h]
      by_cases h9 : 9 ≤ l.length
      · rw [Nat.min_eq_left h9]
      · rw [Nat.min_eq_right (by omega), List.take_of_length_le (by rw [List.length_drop]; omega), List.take_of_length_le (by rw [List.length_drop]; omega)]
    · rw [Nat.min_eq_right (by omega), Nat.min_eq_right (by omega), List.drop_of_length_le (by omega), List.drop_of_length_le (by omega)]
      simp
  have hstr := strK hkk
  obtain ⟨o11, e11⟩ := effP (z := z) hm hm2 hz2 (by omega) hpr
  have a1 := addS (a := [40]) (b := l.take 4) (by rw [List.length_take]; simp only [List.length_cons, List.length_nil]; omega)
  have a2 := addS (a := [40] ++ l.take 4) (b := [41]) (by simp only [List.length_append, List.length_take, List.length_cons, List.length_nil]; omega)
  have a3 := addS (a := [40] ++ l.take 4 ++ [41]) (b := decL x) (by simp only [List.length_append, List.length_take, List.length_cons, List.length_nil]; omega)
  have a4 := addS (a := [40] ++ l.take 4 ++ [41] ++ decL x) (b := (l.drop 4).take 5) (by simp only [List.length_append, List.length_take, List.length_drop, List.length_cons, List.length_nil]; omega)
  generalize hFL : rept x (l.take 4) ++ (l.drop 4).take 5 = fl at *
  have hfl : ∀ y ∈ fl, stpOk y := by rw [← hFL]; exact app_okS (rep_ok hb) hm5
  have s9 : sSet 8 (eOp oAddS (eOp oAddS (eOp oAddS (eOp oAddS (eC (.str [40])) (eSl oSlS (eVar 4) none (some (eC (.int 4))))) (eC (.str [41]))) (eN oStrI (aCons (eFrz (eCall fn_law_take [.b 2, .v (eOp oPow (eC (.int 10)) (eC (.int 30)))] [])) aNil))) (eSl oSlS (eVar 4) (some (eC (.int 4))) (some (eC (.int 9))))) [some (.scr ns), some (.int (k : Nat)), some (.own 0 P3), some (.int (c : Nat)), some (.str l), some (.str z), some (effD m (effR m z l)), some (.str t), v8] =
      .nx [some (.scr ns), some (.int (k : Nat)), some (.own 0 P4), some (.int (c : Nat)), some (.str l), some (.str z), some (effD m (effR m z l)), some (.str t), some (.str ([40] ++ l.take 4 ++ [41] ++ decL x ++ (l.drop 4).take 5))] := by
    have t10 : (10 : Int).natAbs < 1000 := by decide
    have hll : l.length ≤ 16777216 := by omega
    replace hcut1 : cutD l none (some 4) = l.take 4 := hcut1
    replace hcut2 : cutD l (some 4) (some 9) = (l.drop 4).take 5 := hcut2
    clear s1 s2 s3 s4 s5 s6 s7 s8 t1 t2 t3 t4 t5 hx hl hz hz1 hz2 hm hm2 hc hc2 hxb hkk hb hm5 hpr hd hTl e11 hFL hfl e9
    unfold effD
    generalize rowsL m (effR m z l) = L at *
    generalize [40] ++ l.take 4 ++ [41] ++ decL x ++ (l.drop 4).take 5 = T5 at *
    generalize [40] ++ l.take 4 ++ [41] ++ decL x = T4 at *
    generalize [40] ++ l.take 4 ++ [41] = T3 at *
    generalize [40] ++ l.take 4 = T2 at *
    generalize l.take 4 = T1 at *
    generalize (l.drop 4).take 5 = T6 at *
    generalize decL x = DX at *
    generalize oAddS = A at *
    generalize oStrI = SI at *
    walk_at "evh"
  generalize [40] ++ l.take 4 ++ [41] ++ decL x ++ (l.drop 4).take 5 = tx at *
  have s10 : sSet 6 (eFrz (eCall fn_effect_of [.v (eVar 8), .v (eN oMin2 (aCons (eVar 3) (aCons (eC (.int 12)) aNil))), .v (eVar 5)] [])) [some (.scr ns), some (.int (k : Nat)), some (.own 0 P4), some (.int (c : Nat)), some (.str l), some (.str z), some (effD m (effR m z l)), some (.str t), some (.str tx)] =
      .nx [some (.scr ns), some (.int (k : Nat)), some (.own 0 P4), some (.int (c : Nat)), some (.str l), some (.str z), some (effD m (effR m z fl)), some (.str t), some (.str tx)] := by
    clear s1 s2 s3 s4 s5 s6 s7 s8 s9 t1 t2 t3 t4 t5 hx hl hz hz1 hz2 hm hm2 hc hc2 hxb hkk hb hm5 hpr hd hTl hFL hfl e9 a1 a2 a3 a4 hcut1 hcut2 hstr e10
    unfold effD at *
    generalize rowsL m (effR m z l) = L0 at *
    generalize rowsL m (effR m z fl) = L at *
    generalize oMin2 = OM at *
    walk_at "evh"
  obtain ⟨u, s11, u1, u2, u3, u4, u5⟩ := c_ask (ns := ns) (v1 := .int (k : Nat)) (v4 := .str l) (P := P4) (fl := fl) hz hm hm2 hfl (v3 := some (.int (c : Nat))) (v7 := some (.str t)) (v8 := some (.str tx)) (fre_pl rfl)
  have hsame := sameE_at (v0 := .scr ns) (v1 := .int (k : Nat)) (v4 := .str l) (P := P4) (z := z) (fl := fl) (t := u) hz hm hm2 u5 u2 u3 (v3 := some (.int (c : Nat))) (v8 := some (.str tx))
  have s12 : sIf (eOr (eOp oIsN (eVar 7) (eC .non)) (eUn oNot sameE)) (sRet (eC (.bl false))) sNil [some (.scr ns), some (.int (k : Nat)), some (.own 0 P4), some (.int (c : Nat)), some (.str l), some (.str z), some (effD m (effR m z fl)), some (.str u), some (.str tx)] =
      .nx [some (.scr ns), some (.int (k : Nat)), some (.own 0 P4), some (.int (c : Nat)), some (.str l), some (.str z), some (effD m (effR m z fl)), some (.str u), some (.str tx)] := by
    have hf : (eOp oIsN (eVar 7) (eC .non)) [some (.scr ns), some (.int (k : Nat)), some (.own 0 P4), some (.int (c : Nat)), some (.str l), some (.str z), some (effD m (effR m z fl)), some (.str u), some (.str tx)] = .ok (.bl false) [some (.scr ns), some (.int (k : Nat)), some (.own 0 P4), some (.int (c : Nat)), some (.str l), some (.str z), some (effD m (effR m z fl)), some (.str u), some (.str tx)] := rfl
    rw [if_f ((orS_f hf).trans (notS_t hsame))]
    rfl
  obtain ⟨o12, e12⟩ := eff_seqS hm hm2 hz2 u5 u2
  obtain ⟨o13, e13⟩ := f_capacity (c := m) (f := effR m z fl)
  obtain ⟨o14, e14⟩ := f_short (f := effR m z u) hz1 hm hm2 (fun n hn => eff_ok hm hn u2)
  rw [short_congr u3, u4] at e14
  simp only [seqD] at e14
  have s13 : sIf (eOp oNe (eN oLenS (aCons (eFrz (eCall fn_shortest_sequence [.v (eFrz (eCall fn_effect_of [.v (eVar 7), .v (eUn (oProp "Effect" fn_Effect_capacity) (eVar 6)), .v (eVar 5)] [])), .v (eVar 5)] [])) aNil)) (eN oLenS (aCons (eVar 7) aNil))) (sRet (eC (.bl false))) sNil [some (.scr ns), some (.int (k : Nat)), some (.own 0 P4), some (.int (c : Nat)), some (.str l), some (.str z), some (effD m (effR m z fl)), some (.str u), some (.str tx)] =
      .nx [some (.scr ns), some (.int (k : Nat)), some (.own 0 P4), some (.int (c : Nat)), some (.str l), some (.str z), some (effD m (effR m z fl)), some (.str u), some (.str tx)] := by
    have hL1 : oLenS [.str u] = some (.int (u.length : Nat)) := by
      show (if u.length ≤ cap then some (D.int (u.length : Nat)) else none) = _
      rw [if_pos (by show _ ≤ 16777216; omega)]
    have hN : oNe (.int (u.length : Nat)) (.int (u.length : Nat)) = some (.bl false) := neS_self (by rfl)
    clear s1 s2 s3 s4 s5 s6 s7 s8 s9 s10 s11 s12 t1 t2 t3 t4 t5 hx hl hz hz1 hz2 hm hm2 hc hc2 hxb hkk hb hm5 hpr hd hTl hFL hfl e9 a1 a2 a3 a4 hcut1 hcut2 hstr e10 u1 u2 u3 u4 u5 hsame
    unfold effD at *
    generalize rowsL m (effR m z fl) = L at *
    generalize rowsL m (effR m z u) = LU at *
    generalize ((u.length : Nat) : Int) = NU at *
    generalize oLenS = OL at *
    generalize oNe = N at *
    walk_at "evh"
  refine ⟨[some (.scr ns), some (.int (k : Nat)), some (.own 0 P4), some (.int (c : Nat)), some (.str l), some (.str z), some (effD m (effR m z fl)), some (.str u), some (.str tx)], ?_, _, _, _, _, _, _, _, _, rfl, fre_pl rfl, fre_own, fre_pl rfl, fre_pl rfl, fre_pl rfl, fre_pl rfl, fre_pl rfl, fre_pl rfl⟩
  have hg : (toFl (gVar 1 (.int (k : Nat)) [some (.scr ns), v1, v2, v3, v4, v5, v6, v7, v8])).bind turn_law_1 = turn_law_1 [some (.scr ns), some (.int (k : Nat)), v2, v3, v4, v5, v6, v7, v8] := by
    clear s1 s2 s3 s4 s5 s6 s7 s8 s9 s10 s11 s12 s13 e9 e10 e11 e12 e13 e14
    generalize turn_law_1 = TB
    walk_at "evh"
  rw [hg]
  unfold turn_law_1
  rw [seq_nx s1, seq_nx s2, seq_nx s3, seq_nx s4, seq_nx s5, seq_nx s6, seq_nx s7, seq_nx s8, seq_nx s9, seq_nx s10, seq_nx s11, seq_nx s12]
  exact s13
theorem law_holds (ns : List Int) (hns : ns.length ≤ 63) : ∃ o, fn_law [.scr ns] = .ok (.bl true) o := by
  obtain ⟨e4, hb⟩ := cells_for (m := 4) (by decide) (g := gVar 1) (b := turn_law_1) (ns := ns) (i := 0) (ρ := [some (.scr ns), none, none, none, none, none, none, none, none]) rfl
  obtain ⟨ρ', e5, _⟩ := for_rng (g := gVar 1) (b := turn_law_1) (lo := 0) (n := (cellN 4 ns).toNat) (fun _ => LawW ns) (fun i hi ρ hρ => by rw [Int.zero_add]; exact turn_ok hns (by omega) hρ) (ρ := [some (.scr ns), none, none, none, none, none, none, none, none]) ⟨_, _, _, _, _, _, _, _, rfl, fre_none, fre_none, fre_none, fre_none, fre_none, fre_none, fre_none, fre_none⟩
  rw [e5] at e4
  exact law_end e4
end U
namespace Q
open PySem PySem.Spec PyProof.Rows L2
variable {P : Program} {w : World} {K : PySem.W.Frag} {mg : Str → Option Value} {base : Heap}
local macro_rules | `(tactic| walk_at "rd") => `(tactic| simp only [tRet, tRetN, tSeq, tNext, tAsg, gName, gTup, gCons, gNil, gSub, tDrop, tIfS, tIf, tB, tTest, tAnd, tOr, tNot, tAndV, tOrV, tNotV, tVar, tC, tOp, tUn, rI, rI0, rU, tCons, tNil, tCB, tTup, tLst, tCall, tCallS, tCallSD, wOnly, WE, tPar, tPar3, tAug, ipI, tSl, tPart, tNoPart, tChain, tBM, tBM0, tM0, tM1, tYes, Q.tFor_eq, Q.tLc_eq, iRng1, iRng2, iList, iTup, iStr, iEnumS, rEq, rNe, rIxS, rIxL, rIxT, rSlL, rAll, rAny, rSum, wAs, wX, Ends.gone, tJs, tFmt, reduceCtorEq, false_and, exists_false, Q.tBy1, Q.tMk1, Q.tWhile_eq, tIfW, wCmp, wNm, wE, rAppend, rPop, CDiv, Q.cpow_9, Q.cpow_18, Q.cpow_20, Q.cpow_29, Q.cpow_30, sizeLine_eq, Nat.reduceLeDiff, Nat.reduceLT, Nat.zero_le, rRep, rCat, tDNewK, rSlS, Int.reduceNeg, Int.reduceToNat, Nat.reduceMul, Int.reducePow, List.flatten_cons, List.flatten_nil, ge_iff_le, gt_iff_lt, Int.reduceLE, Int.reduceLT, Q.rIxM, rSetL, Q.atI_zero, Q.atI_one, Q.ixN_20, Q.ixN_21, upd_same, upd_upd, HO.lst.injEq, HO.tup.injEq, Q.scal_ii, Q.scal_ss, Q.scal_bb, Q.rIsiA, Q.tyIs_str, Q.tyIs_int, Q.tyIs_bool, cxOf, L2.start, wipe, List.map_cons, List.map_nil, List.length_cons, List.length_nil, List.getElem?_cons_zero, List.getElem?_cons_succ, List.cons_append, List.nil_append, List.append_nil, List.set_cons_zero, List.set_cons_succ, Nat.reduceAdd, Nat.reduceSub, List.reduceReplicate, Option.some.injEq, List.cons.injEq, V.bl.injEq, V.int.injEq, V.str.injEq, V.ref.injEq, V.ty.injEq, and_assoc, and_true, true_and, exists_eq_left, exists_eq_left', exists_eq_right, exists_eq_right', exists_and_left, exists_eq, ite_true, ite_false, if_true, if_false, Bool.not_true, Bool.not_false, decide_eq_true_eq, Bool.not_eq_true', or_true, true_or, String.reduceEq, or_false, false_or, Bool.true_eq_false, Bool.false_eq_true])
def spanN (l : List Nat) (i : Nat) (cs : List Nat) : Nat := i + ((l.drop i).takeWhile fun c => decide (c ∈ cs)).length
theorem spanN_le {l cs : List Nat} {i : Nat} (h : i ≤ l.length) : spanN l i cs ≤ l.length := by
  unfold spanN
  have := (List.takeWhile_prefix (l := l.drop i) fun c => decide (c ∈ cs)).length_le
  rw [List.length_drop] at this
  omega
theorem spanN_step {l cs : List Nat} {k : Nat} (h : k < l.length) (hc : l[k] ∈ cs) : spanN l (k + 1) cs = spanN l k cs := by
  unfold spanN
  rw [List.drop_eq_getElem_cons h, List.takeWhile_cons_of_pos (by simpa using hc), List.length_cons]
  omega
theorem spanN_stop {l cs : List Nat} {k : Nat} (h : k < l.length) (hc : ¬ l[k] ∈ cs) : spanN l k cs = k := by
  unfold spanN
  rw [List.drop_eq_getElem_cons h, List.takeWhile_cons_of_neg (by simpa using hc)]
  rfl
theorem spanN_end {l cs : List Nat} {k : Nat} (h : l.length ≤ k) : spanN l k cs = k := by
  unfold spanN
  rw [List.drop_of_length_le h]
  rfl
theorem atI_str {x : Str} {k : Nat} (h : k < x.cps.toList.length) : atI x.cps.toList (k : Int) = some x.cps.toList[k] := by
  unfold atI
  rw [ixN_nat h]
  simp
def sp_span_of (K : PySem.W.Frag) : Sp := fun vs H Q _ => ∃ (x z : Str) (i : Nat), vs = [.str x, .int i, .str z] ∧ i ≤ x.length ∧ x.length ≤ 100000 ∧ Q (.int (spanN x.cps.toList i z.cps.toList : Nat)) H
theorem ok_span_of (T : Txt K mg) : FnOk P w K mg base (L2.CX P w) 1 (He.ga K "span_of") (fdA K (He.ga K "span_of")) ["text", "start", "characters"] (sp_span_of K) := by
  refine T.F_span_of.ok sc_span_of (fun vs H Q E h => ?_) (fun cdv A outer s H vs Q E hr h => ⟨_, (pss_cons (ps_set (i := 3) sc_span_of.nd rfl (by first | exact Or.inl rfl | exact Or.inr rfl) (pv 1))
      (pss_cons (ps_while (passes_of rfl) (PW.pt (pw_and (pt_cmpR op_lt (pv 3) (pe_callB call_len_str rfl T.b_len (by decide +kernel) (pa_cons (pv 0) pa_nil)) (nomark _)) (pw_and1 (pt_cmpR op_in_sign (pe_ix ix_str (pv 0) (pv 3) (fun _ _ => rfl)) (pv 2) rfl))))
      (pss_one (ps_aug (i := 3) sc_span_of.nd rfl (by first | exact Or.inl rfl | exact Or.inr rfl) pe_int ip_add)))
      (pss_one (ps_ret (pv 3))))), ?_⟩)
  · obtain ⟨x, z, i, rfl, _⟩ := h
    rfl
  · obtain ⟨x, z, i, rfl, hi, hl, q⟩ := h
    have el : x.length = x.cps.toList.length := Array.length_toList.symm
    walk_at "rd"
    refine WhileOk.by (fun σ H1 => ∃ k : Nat, σ = [some (.str x), some (.int i), some (.str z), some (.int k)] ∧ H1 = H ∧ k ≤ x.length ∧ spanN x.cps.toList k z.cps.toList = spanN x.cps.toList i z.cps.toList) (fun σ _ => match σ with
      | [_, _, _, some (.int k)] => x.length - k.toNat
      | _ => 0) ⟨i, rfl, rfl, hi, rfl⟩ ?_
    rintro σ H1 m W ⟨k, rfl, rfl, hk, e⟩ rfl nx
    walk_at "rd"
    refine ⟨by omega, ?_⟩
    by_cases c : (k : Int) < (x.length : Int)
    · rw [if_pos c]
      have hk' : k < x.cps.toList.length := by omega
      refine ⟨by omega, x.cps.toList[k], atI_str hk', _, rfl, ?_⟩
      by_cases d : x.cps.toList[k] ∈ z.cps.toList
      · rw [if_pos d]
        refine ⟨_, nxt nx, ⟨k + 1, rfl, rfl, by omega, by rw [spanN_step hk' d]; exact e⟩, ?_⟩
        show x.length - ((k : Int) + 1).toNat < x.length - (k : Int).toNat
        omega
      · rw [if_neg d]
        rw [← e, spanN_stop hk' d] at q
        exact q
    · rw [if_neg c]
      rw [← e, spanN_end (by omega)] at q
      exact q
theorem S_eq_ofString {l m : List Nat} {z : Str} (h : z.cps.toList = m) : (S l = z) = (l = m) := by
  subst h
  apply propext
  constructor
  · intro e; rw [← e]; rfl
  · intro e; rw [e, ← S_of]
theorem allDigits_of {l : List Nat} (h : ∀ c ∈ l, isDig c = true) : NumText.AllDigits l := fun c hc => (isDig_iff c).mp (h c hc)
def sp_is_count (K : PySem.W.Frag) : Sp := fun vs H Q _ => ∃ (x : Str), vs = [.str x] ∧ x.length ≤ 100000 ∧ (∀ c ∈ x.cps.toList, isDig c = true) ∧ Q (.bl (okCount x.cps.toList)) H
theorem ok_is_count (T : Txt K mg) : FnOk P w K mg base (L2.CX P w) 1 (He.ga K "is_count") (fdA K (He.ga K "is_count")) ["digits"] (sp_is_count K) := by
  refine T.F_is_count.ok sc_is_count (fun vs H Q E h => ?_) (fun cdv A outer s H vs Q E hr h => ⟨_, (pss_cons (ps_if (PW.pt (pw_or (pt_cmpR op_eq (pv 0) pe_str (nomark _)) (pw_or (pt_cmpR op_gt (pe_callB call_len_str rfl T.b_len (by decide +kernel) (pa_cons (pv 0) pa_nil)) pe_int (nomark _)) (pw_or1 (PW.pt (pw_and (pt_cmpR op_eq (pe_ix ix_str (pv 0) pe_int (fun _ _ => rfl)) pe_str (nomark _)) (pw_and1 (pt_cmpR op_ne (pv 0) pe_str (nomark _)))))))))
      (pss_one (ps_ret pe_bl))
      pss_nil)
      (pss_one (ps_ret (pe_cmpR op_le (pe_callTy call_int_str rfl T.b_int (by decide +kernel) (pa_cons (pv 0) pa_nil)) (pe_gc rfl T.c_MOST_COUNT) (nomark _))))), ?_⟩)
  · obtain ⟨x, rfl, _⟩ := h
    rfl
  · obtain ⟨x, rfl, hl, hd, q⟩ := h
    obtain ⟨l, rfl⟩ := S_ex x
    rw [S_cps] at hd q
    rw [S_length] at hl
    walk_at "rd"
    simp only [S_eq_ofString (z := "") (m := []) (by decide +kernel), S_eq_ofString (z := "0") (m := [48]) (by decide +kernel), S_one, S_length]
    cases l with
    | nil => rw [if_pos rfl]; exact q
    | cons c r =>
      rw [if_neg (by simp)]
      refine ⟨by omega, ?_⟩
      by_cases h31 : (31 : Int) < ((c :: r).length : Int)
      · rw [if_pos h31]
        have e : okCount (c :: r) = false := by
          have : decide ((c :: r).length ≤ 31) = false := decide_eq_false (by omega)
          simp only [okCount, this, Bool.false_and, Bool.and_false]
        rw [e] at q; exact q
      · rw [if_neg h31]
        have hlen : (c :: r).length ≤ 31 := by omega
        have hv : intText? (S (c :: r)) = some ((dval (c :: r) : Nat) : Int) := intText_digits (allDigits_of hd) (by simp [S_cps]) (by rw [S_length]; omega)
        refine ⟨by omega, c, atI_zero, ?_⟩
        have eb : decide (((dval (c :: r) : Nat) : Int) ≤ 1000000000000000000000000000000) = decide (dval (c :: r) ≤ 10 ^ 30) := by
          apply decide_eq_decide.mpr
          constructor <;> intro h <;> omega
        have eq : okCount (c :: r) = (!(decide (c = 48) && decide (c :: r ≠ [48])) && decide (dval (c :: r) ≤ 10 ^ 30)) := by
          simp only [okCount, ne_eq, reduceCtorEq, not_false_eq_true, decide_true, Bool.true_and, hlen, List.head?_cons, Option.some.injEq]
        rw [eq] at q
        by_cases c0 : c = 48
        · subst c0
          rw [if_pos rfl]
          by_cases c1 : 48 :: r = [48]
          · rw [if_neg (by simp only [c1, decide_true, Bool.true_eq_false, not_false_eq_true])]
            refine ⟨_, hv, by omega, ?_⟩
            rw [eb]
            simp only [c1, ne_eq, not_true_eq_false, decide_false, Bool.and_false, Bool.not_false, Bool.true_and] at q ⊢
            exact q
          · rw [if_pos (by simp only [c1, decide_false])]
            simp only [c1, ne_eq, not_false_eq_true, decide_true, Bool.and_self, Bool.not_true, Bool.false_and] at q
            exact q
        · rw [if_neg (by simp [c0])]
          refine ⟨_, hv, by omega, ?_⟩
          rw [eb]
          simp only [c0, decide_false, Bool.false_and, Bool.not_false, Bool.true_and] at q
          exact q
def ItemsN (H0 H : Hp) (a : Addr) (p : Pg) : Prop := ∃ us, H a = some (.lst us) ∧ RepL (fun b => H0 b ≠ none) H us p
theorem ItemsN.at {H0 H : Hp} {a : Addr} {p : Pg} (h : ItemsN H0 H a p) : ItemsAt H a p := by
  obtain ⟨us, e, r⟩ := h
  exact ⟨us, e, r.mono (fun _ z => z.elim) (fun b o z _ => z)⟩
def sp_parseP (K : PySem.W.Frag) : Sp := fun vs H Q _ => ∃ (x : Str), vs = [.str x] ∧ x.length ≤ 100000 ∧ (progP x.cps.toList = none → ∀ H', Same H H' → Q .non H') ∧
  ∀ p, progP x.cps.toList = some p → ∀ H' a, Same H H' → H a = none → ItemsN H H' a p → PgOk p → Q (.ref a) H'
theorem ok_parseP (T : Txt K mg) : FnOk P w K mg base (L2.CX P w) 2 (He.ga K "parse") (fdA K (He.ga K "parse")) ["text"] (sp_parseP K) := by
  refine T.F_parse.ok sc_parse (fun vs H Q E h => ?_) (fun cdv A outer s H vs Q E hr h => ⟨_, (pss_cons (ps_set (i := 1) sc_parse.nd rfl (by first | exact Or.inl rfl | exact Or.inr rfl) (pe_lst (pa_cons (pe_lst pa_nil) pa_nil)))
      (pss_cons (ps_set (i := 2) sc_parse.nd rfl (by first | exact Or.inl rfl | exact Or.inr rfl) pe_int)
      (pss_cons (ps_while (passes_of rfl) (pt_cmpR op_lt (pv 2) (pe_callB call_len_str rfl T.b_len (by decide +kernel) (pa_cons (pv 0) pa_nil)) (nomark _))
      (pss_one (ps_ifW (ptw_cmp op_gt (pew_named (i := 3) sc_parse.nd rfl (by first | exact Or.inl rfl | exact Or.inr rfl) (pew_of (pe_callD (ok_span_of T) (hr.mono (by omega)) rfl T.g_span_of T.F_span_of.kp (bd_span_of T) passE (pa_cons (pv 0) (pa_cons (pv 2) (pa_cons (pe_gc rfl T.c_STEPS) pa_nil)))))) (pv 2) (nomark _))
      (pss_cons (ps_expr (pe_bm PySem.F.plainAttrs_list PySem.F.slot_list_append PySem.F.type_list_append mt_append (pe_ix ix_listM (pv 1) (pe_un un_neg pe_int) (fun _ _ => rfl)) (pa_cons (pe_slice sl_str (pv 0) (po_some (pv 2)) (po_some (pv 3))) pa_nil)))
      (pss_one (ps_set (i := 2) sc_parse.nd rfl (by first | exact Or.inl rfl | exact Or.inr rfl) (pv 3))))
      (pss_one (ps_if (PW.pt (pw_and (pt_cmpR op_eq (pe_ix ix_str (pv 0) (pv 2) (fun _ _ => rfl)) pe_str (nomark _)) (pw_and1 (pt_cmpR op_le (pe_callB call_lenM rfl T.b_len (by decide +kernel) (pa_cons (pv 1) pa_nil)) (pe_gc rfl T.c_MOST_DEPTH) (nomark _)))))
      (pss_cons (ps_expr (pe_bm PySem.F.plainAttrs_list PySem.F.slot_list_append PySem.F.type_list_append mt_append (pv 1) (pa_cons (pe_lst pa_nil) pa_nil)))
      (pss_one (ps_aug (i := 2) sc_parse.nd rfl (by first | exact Or.inl rfl | exact Or.inr rfl) pe_int ip_add)))
      (pss_one (ps_if (PW.pt (pw_and (pt_cmpR op_eq (pe_ix ix_str (pv 0) (pv 2) (fun _ _ => rfl)) pe_str (nomark _)) (pw_and1 (pt_cmpR op_gt (pe_callB call_lenM rfl T.b_len (by decide +kernel) (pa_cons (pv 1) pa_nil)) pe_int (nomark _)))))
      (pss_cons (ps_set (i := 3) sc_parse.nd rfl (by first | exact Or.inl rfl | exact Or.inr rfl) (pe_callD (ok_span_of T) (hr.mono (by omega)) rfl T.g_span_of T.F_span_of.kp (bd_span_of T) passE (pa_cons (pv 0) (pa_cons (pe_op op_add (pv 2) pe_int) (pa_cons (pe_gc rfl T.c_DIGITS) pa_nil)))))
      (pss_cons (ps_if (pt_not (pt_val (pe_callD (ok_is_count T) (hr.mono (by omega)) rfl T.g_is_count T.F_is_count.kp (bd_is_count T) passE (pa_cons (pe_slice sl_str (pv 0) (po_some (pe_op op_add (pv 2) pe_int)) (po_some (pv 3))) pa_nil))))
      (pss_one (ps_ret pe_non))
      pss_nil)
      (pss_cons (ps_set (i := 4) sc_parse.nd rfl (by first | exact Or.inl rfl | exact Or.inr rfl) (pe_bm0 PySem.F.plainAttrs_list PySem.F.slot_list_pop PySem.F.type_list_pop mt_pop (pv 1)))
      (pss_cons (ps_expr (pe_bm PySem.F.plainAttrs_list PySem.F.slot_list_append PySem.F.type_list_append mt_append (pe_ix ix_listM (pv 1) (pe_un un_neg pe_int) (fun _ _ => rfl)) (pa_cons (pe_tup (pa_cons (pv 4) (pa_cons (pe_callTy call_int_str rfl T.b_int (by decide +kernel) (pa_cons (pe_slice sl_str (pv 0) (po_some (pe_op op_add (pv 2) pe_int)) (po_some (pv 3))) pa_nil)) pa_nil))) pa_nil)))
      (pss_one (ps_set (i := 2) sc_parse.nd rfl (by first | exact Or.inl rfl | exact Or.inr rfl) (pv 3)))))))
      (pss_one (ps_ret pe_non)))))))))
      (pss_one (ps_ret (pe_ifExp (pt_cmpR op_eq (pe_callB call_lenM rfl T.b_len (by decide +kernel) (pa_cons (pv 1) pa_nil)) pe_int (nomark _)) (pe_ix ix_listM (pv 1) pe_int (fun _ _ => rfl)) pe_non)))))), ?_⟩)
  · obtain ⟨x, rfl, _⟩ := h
    rfl
  · obtain ⟨x, rfl, hl, qn, qs⟩ := h
    have el : x.length = x.cps.toList.length := Array.length_toList.symm
    walk_at "rd"
    intro p1 h_p1 p2 h_p2
    refine WhileOk.by (fun σ H1 => ∃ (k : Nat) (as : List Addr) (ps : List Pg) (v3 v4 : Option V), σ = [some (.str x), some (.ref p2), some (.int k), v3, v4] ∧ k ≤ x.cps.toList.length ∧ as ≠ [] ∧ PSt H H1 p2 as ps ∧ (ps.map Pg.size).sum ≤ 2 * k ∧ goP (x.cps.toList.drop k) ps.reverse = progP x.cps.toList) (fun σ _ => match σ with
      | [_, _, some (.int k), _, _] => x.length - k.toNat
      | _ => 0) ?_ ?_
    · refine ⟨0, [p1], [.nil], none, none, rfl, by omega, by simp, ?_, by simp [Pg.size], rfl⟩
      have h2 : p2 ≠ p1 := fun e => by rw [e, upd_same] at h_p2; cases h_p2
      have h3 : H p2 = none := (Same.upd h_p1).free h_p2
      refine ⟨Same.upd3 (Same.upd h_p1) h_p2, h3, by simp [h_p1], upd_same, by simp [h2], .cons ⟨[], by rw [upd_ne h2.symm, upd_same], rfl⟩ .nil, by simp [Pg.ok], ?_⟩
      intro i p hp
      cases i with
      | zero =>
        have e : Pg.nil = p := Option.some.inj hp
        rw [← e]; decide
      | succ i => simp at hp
    · rintro σ H1 m W ⟨k, as, ps, v3, v4, rfl, hk, hne, st, hsz, hgo⟩ rfl nx
      walk_at "rd"
      have hlen := st.len
      have h21 : as.length ≤ 21 := by
        rcases Nat.lt_or_ge 21 as.length with c | c
        · obtain ⟨p, hp⟩ : ∃ p, ps[21]? = some p := ⟨ps[21]'(by omega), List.getElem?_eq_getElem (by omega)⟩
          have := st.dep 21 p hp
          omega
        · exact c
      simp only [one_eq (z := "(") (m := 40) (by decide +kernel), one_eq (z := ")") (m := 41) (by decide +kernel)]
      refine ⟨by omega, ?_⟩
      by_cases hlt : (k : Int) < (x.length : Int)
      · rw [if_pos hlt]
        have hk' : k < x.cps.toList.length := by omega
        have hdrop : x.cps.toList.drop k = x.cps.toList[k] :: x.cps.toList.drop (k + 1) := List.drop_eq_getElem_cons hk'
        obtain ⟨bs, t, rfl⟩ : ∃ bs t, as = bs ++ [t] := ⟨as.dropLast, as.getLast hne, (List.dropLast_concat_getLast hne).symm⟩
        refine ⟨_, nxt nx, x, _, k, rfl, by omega, hl, _, rfl, ?_⟩
        rw [show (Str.ofString "abcdefghijklmnopqrstuvwxyz-").cps.toList = stp from rfl]
        by_cases hsp : (k : Int) < (spanN x.cps.toList k stp : Nat)
        · -- a stretch of steps
          rw [if_pos hsp]
          have hcs : ∀ c ∈ (x.cps.toList.drop k).takeWhile (fun c => decide (c ∈ stp)), c ∈ stp := fun c hc => of_decide_eq_true (List.all_eq_true.mp List.all_takeWhile c hc)
          obtain ⟨qs, p, us, rfl, hus, st'⟩ := st.seq hcs
          have hus2 : us.length < 16777216 := by
            obtain ⟨_, _, e, _, us', e1, e2⟩ := Paired.snoc_inv st.rep
            obtain ⟨e3, e4⟩ := List.append_inj' e rfl
            have e5 : p = _ := (List.cons.inj e4).1
            rw [hus] at e1
            have e6 : us = us' := by injection (Option.some.inj e1)
            have := e2.len
            rw [← e6, ← e5] at this
            simp only [List.map_append, List.map_cons, List.map_nil, List.sum_append, List.sum_cons, List.sum_nil] at hsz
            omega
          refine ⟨_, st.lo, V.ref t, by rw [List.map_append]; exact atI_last, tyV_lst hus, _, rfl, by omega, t, rfl, us, hus, hus2, ?_⟩
          have hle := spanN_le (l := x.cps.toList) (cs := stp) hk
          unfold spanN at hsp hle ⊢
          rw [span_cut hk]
          have hpos : 0 < ((x.cps.toList.drop k).takeWhile fun c => decide (c ∈ stp)).length := by omega
          refine ⟨⟨_, bs ++ [t], _, _, _, rfl, hle, by simp, st', ?_, ?_⟩, ?_⟩
          · simp only [List.map_append, List.map_cons, List.map_nil, List.sum_append, List.sum_cons, List.sum_nil, Pg.size_app, Pg.size] at hsz ⊢
            omega
          · rw [← hgo]
            have hst : isStp x.cps.toList[k] = true := by
              cases e : isStp x.cps.toList[k] with
              | true => rfl
              | false =>
                rw [hdrop, List.takeWhile_cons_of_neg (by rw [show decide (x.cps.toList[k] ∈ stp) = isStp x.cps.toList[k] from rfl, e]; decide)] at hpos
                simp at hpos
            have e2 : (x.cps.toList.drop k).takeWhile (fun c => decide (c ∈ stp)) = x.cps.toList[k] :: (x.cps.toList.drop (k + 1)).takeWhile isStp := by
              rw [hdrop]; exact List.takeWhile_cons_of_pos hst
            have e3 : x.cps.toList.drop (k + ((x.cps.toList.drop k).takeWhile fun c => decide (c ∈ stp)).length) = (x.cps.toList.drop (k + 1)).dropWhile isStp := by
              rw [← List.drop_drop, tw_drop, hdrop]; exact List.dropWhile_cons_of_pos hst
            rw [e3, e2]
            conv => rhs; rw [hdrop]
            rw [List.reverse_append, List.reverse_append]
            show goP _ (p.app _ :: qs.reverse) = goP _ (p :: qs.reverse)
            rw [goP_step hst]
          · show x.length - ((k + _ : Nat) : Int).toNat < x.length - (k : Int).toNat
            omega
        · rw [if_neg hsp]
          have hns : isStp x.cps.toList[k] = false := by
            cases e : isStp x.cps.toList[k] with
            | false => rfl
            | true =>
              have : x.cps.toList[k] ∈ stp := of_decide_eq_true e
              have h2 := spanN_step hk' this
              have h3 : k + 1 ≤ spanN x.cps.toList (k + 1) stp := by unfold spanN; omega
              have h4 : ¬ k < spanN x.cps.toList k stp := fun z => hsp (by exact_mod_cast z)
              omega
          refine ⟨by omega, x.cps.toList[k], atI_str hk', ?_⟩
          rw [hdrop] at hgo
          have closeCase : x.cps.toList[k] ≠ 40 → x.length ≤ 16777216 ∧ True := fun _ => ⟨by omega, trivial⟩
          by_cases h40 : x.cps.toList[k] = 40
          · rw [if_pos h40]
            refine ⟨_, st.lo, ?_⟩
            rw [List.length_map]
            by_cases h20 : (((bs ++ [t]).length : Nat) : Int) ≤ 20
            · rw [if_pos h20]
              refine ⟨tyV_lst st.lo, fun n hn => ?_⟩
              have hnp : p2 ≠ n := fun e => by rw [← e, st.lo] at hn; cases hn
              refine ⟨_, by rw [upd_ne hnp]; exact st.lo, by rw [List.length_map]; omega, ⟨⟨k + 1, (bs ++ [t]) ++ [n], ps ++ [.nil], _, _, rfl, by omega, by simp, ?_, ?_, ?_⟩, ?_⟩⟩
              · have := st.push hn (by omega)
                rw [List.map_append] at this
                exact this
              · simp only [List.map_append, List.map_cons, List.map_nil, List.sum_append, List.sum_cons, List.sum_nil, Pg.size]
                omega
              · rw [← hgo, h40]
                obtain ⟨qs, p, rfl⟩ : ∃ qs p, ps = qs ++ [p] := by
                  obtain ⟨qs, p, e, _⟩ := Paired.snoc_inv st.rep
                  exact ⟨qs, p, e⟩
                have : (bs ++ [t]).length = (qs ++ [p]).length := hlen
                rw [List.reverse_append (bs := [Pg.nil]), List.reverse_append]
                show goP _ (Pg.nil :: p :: qs.reverse) = goP _ (p :: qs.reverse)
                rw [goP_open, if_pos (by simp only [List.length_reverse, List.length_map, List.length_append, List.length_cons, List.length_nil] at *; omega)]
              · show x.length - ((k : Int) + 1).toNat < x.length - (k : Int).toNat
                omega
            · rw [if_neg h20]
              refine ⟨by omega, x.cps.toList[k], atI_str hk', ?_⟩
              rw [if_neg (by omega)]
              refine qn ?_ _ st.same
              rw [← hgo, h40]
              obtain ⟨qs, p, e, _⟩ := Paired.snoc_inv st.rep
              have h1 : (bs ++ [t]).length = ps.length := hlen
              rw [e] at h1 ⊢
              rw [List.reverse_append]
              show goP _ (p :: qs.reverse) = none
              rw [goP_open, if_neg (by simp only [List.length_reverse, List.length_map, List.length_append, List.length_cons, List.length_nil] at *; omega)]
          · rw [if_neg h40]
            refine ⟨by omega, x.cps.toList[k], atI_str hk', ?_⟩
            by_cases h41 : x.cps.toList[k] = 41
            · rw [if_pos h41]
              refine ⟨_, st.lo, ?_⟩
              rw [List.length_map]
              by_cases h1 : (1 : Int) < (((bs ++ [t]).length : Nat) : Int)
              · rw [if_pos h1]
                obtain ⟨cs, u, rfl⟩ : ∃ cs u, bs = cs ++ [u] := by
                  have hb : bs ≠ [] := fun e => by rw [e] at h1; simp at h1
                  exact ⟨bs.dropLast, bs.getLast hb, (List.dropLast_concat_getLast hb).symm⟩
                have e2 : cs ++ [u] ++ [t] = cs ++ [u, t] := by simp
                rw [e2] at st h21
                refine ⟨x, _, k + 1, rfl, by omega, hl, _, rfl, by omega, ?_⟩
                rw [show (Str.ofString "0123456789").cps.toList = digsZ.cps.toList from rfl]
                have hle := spanN_le (l := x.cps.toList) (cs := digsZ.cps.toList) (i := k + 1) (by omega)
                unfold spanN at hle ⊢
                have ecut : cutS x (some ((k : Int) + 1)) (some ((k + 1 + ((x.cps.toList.drop (k + 1)).takeWhile fun c => decide (c ∈ digsZ.cps.toList)).length : Nat) : Int)) = S ((x.cps.toList.drop (k + 1)).takeWhile isDig) := span_cut (k := k + 1) (by omega)
                rw [ecut]
                have edig : ∀ c ∈ (x.cps.toList.drop (k + 1)).takeWhile isDig, isDig c = true := fun c hc => List.all_eq_true.mp List.all_takeWhile c hc
                refine ⟨_, rfl, by rw [S_length]; have := (List.takeWhile_prefix (l := x.cps.toList.drop (k + 1)) isDig).length_le; rw [List.length_drop] at this; omega, by rw [S_cps]; exact edig, _, rfl, ?_⟩
                rw [S_cps]
                -- the stack
                obtain ⟨qs', p, ep, hq1, ts, hts, rts⟩ := Paired.snoc_inv (l := cs ++ [u]) (a := t) (by rw [e2]; exact st.rep)
                obtain ⟨qs, r, er, hq2, us, hus, rus⟩ := Paired.snoc_inv hq1
                have egs : ps.reverse = p :: r :: qs.reverse := by rw [ep, er]; simp
                rw [egs, h41, goP_close] at hgo
                cases hc : okCount ((x.cps.toList.drop (k + 1)).takeWhile isDig) with
                | false =>
                  rw [if_pos rfl]
                  rw [hc, if_neg (by simp)] at hgo
                  exact qn hgo.symm _ st.same
                | true =>
                  rw [if_neg (by simp)]
                  rw [hc, if_pos rfl] at hgo
                  have hok := hc
                  simp only [okCount, Bool.and_eq_true, decide_eq_true_eq] at hok
                  obtain ⟨hne2, hlen2, _, hval⟩ := hok
                  have hint : intText? (S ((x.cps.toList.drop (k + 1)).takeWhile isDig)) = some ((dval ((x.cps.toList.drop (k + 1)).takeWhile isDig) : Nat) : Int) := intText_digits (by rw [S_cps]; exact allDigits_of edig) (by rw [S_cps]; exact hne2) (by rw [S_length]; omega)
                  have edl : ((cs ++ [u, t]).map V.ref).dropLast = (cs ++ [u]).map V.ref := by simp
                  have nd := st.nd
                  simp only [List.nodup_cons, List.nodup_append, List.mem_append, List.mem_cons, List.not_mem_nil, or_false] at nd
                  have hup : u ≠ p2 := fun e => nd.1 (.inr (.inl e.symm))
                  refine ⟨tyV_lst st.lo, _, st.lo, V.ref t, by simp, ?_⟩
                  rw [edl]
                  have hus3 : us.length < 16777216 := by
                    have := rus.len
                    rw [ep, er] at hsz
                    simp only [List.map_append, List.map_cons, List.map_nil, List.sum_append, List.sum_cons, List.sum_nil] at hsz
                    omega
                  refine ⟨V.ref u, by rw [List.map_append]; exact atI_last, tyV_lst (by rw [upd_ne hup]; exact hus), _, rfl, by omega, _, by rw [ecut]; exact hint, by rw [ecut, S_length]; omega, fun n hn => ?_⟩
                  have hnp : n ≠ p2 := fun e => by rw [e, upd_same] at hn; cases hn
                  have hn1 : H1 n = none := by rw [upd_ne hnp] at hn; exact hn
                  have hun : u ≠ n := ne_of_none hus hn1
                  refine ⟨u, rfl, us, by rw [upd_ne hun, upd_ne hup]; exact hus, hus3, ?_⟩
                  obtain ⟨qs2, p', r', us', ep', hus', st'⟩ := st.pop (k := dval ((x.cps.toList.drop (k + 1)).takeWhile isDig)) (n := n) hval hn1
                  have eu : us' = us := by
                    rw [hus] at hus'
                    injection (Option.some.inj hus') with h
                    exact h.symm
                  subst eu
                  have ep2 : ps = qs ++ [r, p] := by rw [ep, er]; simp
                  rw [ep2] at ep'
                  obtain ⟨eq1, eq2⟩ := List.append_inj' ep' rfl
                  obtain ⟨eq3, eq4⟩ := List.cons.inj eq2
                  obtain ⟨eq5, _⟩ := List.cons.inj eq4
                  subst eq1 eq3 eq5
                  refine ⟨⟨_, cs ++ [u], _, _, _, rfl, hle, by simp, st', ?_, ?_⟩, ?_⟩
                  · rw [ep2] at hsz
                    simp only [List.map_append, List.map_cons, List.map_nil, List.sum_append, List.sum_cons, List.sum_nil, Pg.size_app, Pg.size] at hsz ⊢
                    omega
                  · rw [← hgo, List.reverse_append]
                    show goP _ (r.app _ :: qs.reverse) = _
                    rw [← tw_drop, List.drop_drop]
                    rfl
                  · show x.length - ((k + 1 + _ : Nat) : Int).toNat < x.length - (k : Int).toNat
                    omega
              · rw [if_neg h1]
                refine qn ?_ _ st.same
                rw [← hgo, h41]
                obtain ⟨qs, p, e, _⟩ := Paired.snoc_inv st.rep
                have h2 : (bs ++ [t]).length = ps.length := hlen
                have h3 : qs = [] := by
                  rw [e] at h2
                  simp only [List.length_append, List.length_cons, List.length_nil] at h2 h1
                  exact List.eq_nil_of_length_eq_zero (by omega)
                rw [e, h3]
                exact goP_close0
            · rw [if_neg h41]
              refine qn ?_ _ st.same
              rw [← hgo]
              obtain ⟨qs, p, e, _⟩ := Paired.snoc_inv st.rep
              rw [e, List.reverse_append]
              exact goP_other hns h40 h41
      · rw [if_neg hlt]
        have ek : k = x.cps.toList.length := by omega
        refine ⟨_, st.lo, ?_⟩
        rw [ek, List.drop_length] at hgo
        rw [List.length_map]
        by_cases h1 : ((as.length : Nat) : Int) = 1
        · rw [if_pos h1]
          obtain ⟨t, rfl⟩ : ∃ t, as = [t] := by
            cases as with
            | nil => exact absurd rfl hne
            | cons t r =>
              cases r with
              | nil => exact ⟨t, rfl⟩
              | cons _ _ => simp at h1; omega
          obtain ⟨qs, p, e, hq, us, hus, hrep⟩ := Paired.snoc_inv (l := []) (a := t) st.rep
          have eq0 : qs = [] := by cases hq; rfl
          subst eq0
          subst e
          refine ⟨_, st.lo, V.ref t, atI_zero, ?_⟩
          have hres : progP x.cps.toList = some p := by
            rw [← hgo]
            show goP [] [p] = _
            rw [goP.eq_def]
          refine qs _ hres _ t st.same (st.fas t (by simp)) ⟨us, hus, hrep.mono (fun _ z => .inr z) (fun b o z _ => z)⟩ ⟨st.ok p (by simp), by have := st.dep 0 p rfl; omega, ?_⟩
          simp at hsz
          omega
        · rw [if_neg h1]
          refine qn ?_ _ st.same
          rw [← hgo]
          have : ps.length ≠ 1 := by omega
          rw [goP.eq_def]
          cases e : ps.reverse with
          | nil => rfl
          | cons a l =>
            cases l with
            | nil =>
              have := congrArg List.length e
              simp at this
              omega
            | cons _ _ => rfl
def sp_parse (K : PySem.W.Frag) : Sp := fun vs H Q _ => ∃ (x : Str), vs = [.str x] ∧ x.length ≤ 100000 ∧ (progF x.cps.toList = none → ∀ H', Same H H' → Q .non H') ∧
  ∀ f, progF x.cps.toList = some f → ∀ H' a p, Same H H' → H a = none → ItemsAt H' a p → PgOk p → p.wr = f → Q (.ref a) H'
def sp_items_ofP (K : PySem.W.Frag) : Sp := fun vs H Q E => ∃ (v : V), vs = [v] ∧ AnyV K H v ∧ Short v ∧
  (∀ p, progPV v = some p → ∀ H' a, Same H H' → H a = none → ItemsN H H' a p → PgOk p → Q (.ref a) H') ∧ (progPV v = none → ∀ H', Same H H' → E (.ref (He.ga K "InvalidProgram")) none H')
theorem ok_items_ofP (T : Txt K mg) : FnOk P w K mg base (L2.CX P w) 3 (He.ga K "items_of") (fdA K (He.ga K "items_of")) ["program"] (sp_items_ofP K) := by
  refine T.F_items_of.ok sc_items_of (fun vs H Q E h => ?_) (fun cdv A outer s H vs Q E hr h => ⟨_, (pss_cons (ps_set (i := 1) sc_items_of.nd rfl (by first | exact Or.inl rfl | exact Or.inr rfl) (pe_ifExp (pt_val (pe_callB call_isiA rfl T.b_isinstance (by decide +kernel) (pa_cons (pv 0) (pa_cons (pe_bltn (v := .ty "str") rfl T.b_str (by decide +kernel) rfl) pa_nil)))) (pe_callD (ok_parseP T) (hr.mono (by omega)) rfl T.g_parse T.F_parse.kp (bd_parse T) passE (pa_cons (pv 0) pa_nil)) pe_non))
      (pss_cons (ps_if (pt_cmpR op_isN (pv 1) pe_non (nomark _))
      (pss_one (ps_raise rfl (takes_of rfl rfl rfl rfl) (pmk_own PySem.F.excBase_ValueError T.x_InvalidProgram.x T.g_InvalidProgram T.x_InvalidProgram.k (raises_own T.x_InvalidProgram.b T.x_InvalidProgram.t) rfl)))
      pss_nil)
      (pss_one (ps_ret (pv 1))))), ?_⟩)
  · obtain ⟨v, rfl, _⟩ := h
    rfl
  · obtain ⟨v, rfl, a, hl, q, e⟩ := h
    walk_at "rd"
    refine ⟨a, bool_cases (fun hv => ?_) (fun hv => ?_)⟩
    · cases v with
      | str x =>
        refine ⟨x, rfl, hl x rfl, fun hn H1 s1 => ?_, fun p hp H1 b s1 hb hi hk => ?_⟩
        · exact e hn _ s1
        · exact q p hp _ b s1 hb hi hk
      | _ => cases hv
    · cases v <;> first | exact e rfl _ (Same.refl _) | cases hv
def sp_items_of (K : PySem.W.Frag) : Sp := fun vs H Q E => ∃ (v : V), vs = [v] ∧ AnyV K H v ∧ Short v ∧
  (∀ f, progV v = some f → ∀ H' a p, Same H H' → H a = none → ItemsAt H' a p → PgOk p → p.wr = f → Q (.ref a) H') ∧ (progV v = none → ∀ H', Same H H' → E (.ref (He.ga K "InvalidProgram")) none H')
end Q
namespace Q
open PySem PySem.Spec PyProof.Rows L2 U
variable {P : Program} {w : World} {K : PySem.W.Frag} {mg : Str → Option Value} {base : Heap}
theorem atomX_mut {d : D} (h : atomX d = true) : d.isMut = false := by cases d <;> first | rfl | cases h
theorem okU_law_pool (T : Txt K mg) : FnOk P w K mg base (L2.CX P w) 1 (He.ga K "_law_pool") (fdA K (He.ga K "_law_pool")) ["_law_script", "_law_k"] (spD K fn_law_pool) :=
  fn_ok (b := body_law_pool) T.F_law_pool sc_law_pool rfl rfl (fun cdv A outer s H E B hr => (s_cons (s_set (ps_set (i := 2) sc_law_pool.nd rfl (by first | exact Or.inl rfl | exact Or.inr rfl) (d_dm (d_c c_int pe_int))))
      (s_cons (s_if (ps_if (t_op p_neScr (pt_cmpR (op_neD hr.units) (d_var (pv 0)) (d_frz (d_lst (pe_lst a_nil))) (nomark _)))
      (s_one (s_set (ps_set (i := 2) sc_law_pool.nd rfl (by first | exact Or.inl rfl | exact Or.inr rfl) (d_dm (d_op p_ixScr (pe_ix ix_list (d_var (pv 0)) (d_op p_mod (pe_op op_mod (d_var (pv 1)) (d_n p_lenScr (pe_callB call_len_seq rfl T.b_len (by decide +kernel) (a_cons (d_var (pv 0)) a_nil))))) (fun _ _ => rfl)))))))
      s_nil))
      (s_cons (s_set (ps_set (i := 3) sc_law_pool.nd rfl (by first | exact Or.inl rfl | exact Or.inr rfl) (d_dm (d_op p_mod (pe_op op_mod (d_op p_mul (pe_op op_mul (d_op p_add (pe_op op_add (d_op p_add (pe_op op_add (d_op p_mod (pe_op op_mod (d_var (pv 2)) (d_c c_int pe_int))) (d_op p_mul (pe_op op_mul (d_c c_int pe_int) (d_var (pv 1)))))) (d_c c_int pe_int))) (d_c c_int pe_int))) (d_c c_int pe_int))))))
      (s_one (s_ret (ps_ret (d_lst (pe_lst (a_cons (d_op p_mul (pe_op op_mul (d_n p_abs (pe_callB call_abs rfl T.b_abs (by decide +kernel) (a_cons (d_var (pv 2)) a_nil))) (d_n p_int (pe_callTy call_int1 rfl T.b_int (by decide +kernel) (a_cons (d_op p_ge (pe_cmpR op_ge (d_n p_abs (pe_callB call_abs rfl T.b_abs (by decide +kernel) (a_cons (d_var (pv 2)) a_nil))) (d_op p_pow (pe_op op_pow (d_c c_int pe_int) (d_c c_int pe_int))) (nomark _))) a_nil))))) (a_cons (d_var (pv 3)) a_nil)))))))))))
theorem okU_law_take (T : Txt K mg) : FnOk P w K mg base (L2.CX P w) 1 (He.ga K "_law_take") (fdA K (He.ga K "_law_take")) ["_law_pool_here", "_law_bound"] (spD K fn_law_take) :=
  fn_ok (b := body_law_take) T.F_law_take sc_law_take rfl rfl (fun cdv A outer s H E B hr => (s_cons (s_if (ps_if (t_op p_gt (pt_cmpR op_gt (d_ixO (pe_ix Q.ix_listM (pv 0) (d_c c_int pe_int) (fun _ _ => rfl))) (d_c c_int pe_int) (nomark _)))
      (s_cons (s_set (ps_set (i := 2) sc_law_take.nd rfl (by first | exact Or.inl rfl | exact Or.inr rfl) (d_dm (d_op p_mod (pe_op op_mod (d_ixO (pe_ix Q.ix_listM (pv 0) (d_c c_int pe_int) (fun _ _ => rfl))) (d_var (pv 1)))))))
      (s_cons (s_putO (ps_asg (d_op p_div (pe_op op_fdivW (d_ixO (pe_ix Q.ix_listM (pv 0) (d_c c_int pe_int) (fun _ _ => rfl))) (d_var (pv 1)))) (pg_sub (pv 0) (d_c c_int pe_int) set_list)))
      (s_one (s_ret (ps_ret (d_dm (d_var (pv 2))))))))
      s_nil))
      (s_cons (s_putO (ps_asg (d_op p_mod (pe_op op_mod (d_op p_add (pe_op op_add (d_op p_mul (pe_op op_mul (d_ixO (pe_ix Q.ix_listM (pv 0) (d_c c_int pe_int) (fun _ _ => rfl))) (d_c c_int pe_int))) (d_c c_int pe_int))) (d_c c_int pe_int))) (pg_sub (pv 0) (d_c c_int pe_int) set_list)))
      (s_one (s_ret (ps_ret (d_dm (d_op p_mod (pe_op op_mod (d_op p_div (pe_op op_fdivW (d_op p_mod (pe_op op_mod (d_op p_mul (pe_op op_mul (d_ixO (pe_ix Q.ix_listM (pv 0) (d_c c_int pe_int) (fun _ _ => rfl))) (d_ixO (pe_ix Q.ix_listM (pv 0) (d_c c_int pe_int) (fun _ _ => rfl))))) (d_c c_int pe_int))) (d_c c_int pe_int))) (d_var (pv 1)))))))))))
theorem okU_law_text (T : Txt K mg) : FnOk P w K mg base (L2.CX P w) 2 (He.ga K "_law_text") (fdA K (He.ga K "_law_text")) ["_law_pool_here", "_law_many"] (spD K fn_law_text) :=
  fn_ok (b := body_law_text) T.F_law_text sc_law_text rfl rfl (fun cdv A outer s H E B hr => (s_one (s_ret (ps_ret (d_dm (d_m1 p_join (pe_join (d_c (c_str (by decide +kernel)) pe_str) (d_frz (d_comp1 wg_var (by decide) (pe_lc (own := [("_law_turn", 2)]) rfl sc_law_text.nd (i_rng1 len1 (pi_range1 rfl T.b_range (a_cons (d_var (pv 1)) a_nil))) (blkOk_by (N := ["_law_pool_here", "_law_many", "_law_turn"]) (sc := defScope s_law_text) (own := [("_law_turn", 2)]) (by decide +kernel)) (fun _ _ _ _ _ => pg_name (i := 2) sc_law_text.nd rfl (by first | exact Or.inl rfl | exact Or.inr rfl)) (fun _ _ _ _ _ => pts_nil) (fun _ _ _ _ _ => (d_op p_ixS (pe_ix ix_str (d_c (c_str (by decide +kernel)) pe_str) (d_frz (d_call c_nil (pe_callW (okU_law_take T) (hr.mono (by omega)) rfl T.g_law_take T.F_law_take.kp (bd_law_take T) (fun σ => passAt takes0 σ) (g_b (pv 0) (g_v (d_c c_int pe_int) g_nil))))) (fun _ _ => rfl))))))))))))))
theorem pg_rvs {F : Fz} {H0 H : Hp} : ∀ {p : Pg} {us : List V}, p.ok → RepL (fun b => H0 b ≠ none) H us p → RVs K (fun b => F b ∨ (H0 b = none ∧ ∃ o, H b = some o)) H us (pgD p)
  | .nil, us, _, r => by
    have e : us = [] := r
    subst e
    simp only [pgD, RVs]
  | .seq l q, us, ok, ⟨ws, e, r⟩ => by
    subst e
    simp only [pgD, RVs, RV]
    exact ⟨⟨rfl, fun c hc => by have := stp_asc (ok.1 c hc); omega⟩, pg_rvs ok.2 r⟩
  | .rep b n q, us, ok, ⟨t, a, vs, ws, e, e1, n1, n2, e2, r1, r2⟩ => by
    subst e
    simp only [pgD, RVs, RV]
    refine ⟨⟨t, _, rfl, .inl ⟨.inr ⟨?_, _, e1⟩, .inl e1⟩, ?_⟩, pg_rvs ok.2.2 r2⟩
    · exact Classical.byContradiction fun z => n1 z
    · simp only [RVs, RV, and_true]
      refine ⟨a, vs, rfl, ⟨.inr ⟨?_, _, e2⟩, e2⟩, pg_rvs ok.1 r1⟩
      exact Classical.byContradiction fun z => n2 z
theorem g_items_pl (ds : List D) (h : g_items ds ≠ .bad) : ∀ d ∈ ds, d.isMut = false := by
  rcases ds with _ | ⟨a, _ | ⟨_, _⟩⟩ <;> try exact absurd rfl h
  by_cases ha : atomX a = true
  · intro x hx
    rw [List.mem_singleton.mp hx]
    exact atomX_mut ha
  · exact absurd (by simp only [g_items]; rw [if_neg ha]) h
theorem prP_v {F : Fz} {H : Hp} {v : V} {d : D} (h : RV K F H v d) (ha : atomX d = true) : progPV v = prP d := by
  cases d with
  | lst l => simp only [RV] at h; obtain ⟨a, _, rfl, _⟩ := h; rfl
  | tup l => simp only [RV] at h; obtain ⟨a, _, rfl, _⟩ := h; rfl
  | dic l => simp only [RV] at h; obtain ⟨a, rfl, _⟩ := h; rfl
  | non => simp only [RV] at h; subst h; rfl
  | bl b => simp only [RV] at h; subst h; rfl
  | int b => simp only [RV] at h; subst h; rfl
  | str l => simp only [RV] at h; rw [h.1]; exact progPV_S l
  | _ => cases ha
theorem okU_items_of (T : Txt K mg) : FnOk P w K mg base (L2.CX P w) 3 (He.ga K "items_of") (fdA K (He.ga K "items_of")) ["program"] (spD K fn_items_of) := by
  refine (ok_items_ofP T).imp fun vs H Q E h => ?_
  obtain ⟨F, ds, rs, hm⟩ := spP g_items_pl h
  rcases ds with _ | ⟨a, _ | ⟨_, _⟩⟩ <;> try exact False.elim hm
  rcases vs with _ | ⟨x, _ | ⟨_, _⟩⟩ <;> simp only [RVs, and_true, and_false] at rs
  by_cases ha : atomX a = true
  case neg => simp only [g_items] at hm; rw [if_neg ha] at hm; exact hm.elim
  simp only [g_items] at hm
  rw [if_pos ha] at hm
  have a1 := atomX_v rs ha
  have e := prP_v rs ha
  refine ⟨x, rfl, a1.1, a1.2.1, fun p hp H' b s hb hi hk => ?_, fun hn H' s => ?_⟩
  · rw [← e, hp] at hm
    obtain ⟨us, h1, h2⟩ := hi
    refine hm _ (fun c => F c ∨ (H c = none ∧ ∃ o, H' c = some o)) H' ?_ ⟨fun _ h => .inl h, s, fun k hk => hk.imp id And.left, fun dm k hk => ?_⟩
    · simp only [RV]
      exact ⟨b, us, rfl, ⟨.inr ⟨hb, _, h1⟩, h1⟩, pg_rvs hk.ok h2⟩
    · rcases hk with hk | ⟨_, hk⟩
      · obtain ⟨o, z⟩ := dm k hk; exact ⟨o, s k o z⟩
      · exact hk
  · rw [← e, hn] at hm
    exact hm _ _ (Grow.same s)
theorem okU_is_integer (T : Txt K mg) : FnOk P w K mg base (L2.CX P w) 1 (He.ga K "is_integer") (fdA K (He.ga K "is_integer")) ["value", "least"] (spD K fn_is_integer) :=
  fn_ok (b := body_is_integer) T.F_is_integer sc_is_integer rfl rfl (fun cdv A outer s H E B hr => (s_one (s_ret (ps_ret (d_dm (d_and (pe_and (d_isi (by decide) (pe_callB call_isiB rfl T.b_isinstance (by decide +kernel) (pa_cons (d_var (pv 0)) (pa_cons (pe_bltn (v := .ty "int") rfl T.b_int (by decide +kernel) rfl) pa_nil)))) (d_and (pe_and (d_not (pe_not (d_isi (by decide) (pe_callB call_isiB rfl T.b_isinstance (by decide +kernel) (pa_cons (d_var (pv 0)) (pa_cons (pe_bltn (v := .ty "bool") rfl T.b_bool (by decide +kernel) rfl) pa_nil)))))) (pe_one (d_op p_ge (pe_cmpR op_ge (d_var (pv 0)) (d_var (pv 1)) (nomark _)))))))))))))
theorem okU_is_capacity (T : Txt K mg) : FnOk P w K mg base (L2.CX P w) 2 (He.ga K "is_capacity") (fdA K (He.ga K "is_capacity")) ["value"] (spD K fn_is_capacity) :=
  fn_ok (b := body_is_capacity) T.F_is_capacity sc_is_capacity rfl rfl (fun cdv A outer s H E B hr => (s_one (s_ret (ps_ret (d_dm (d_and (pe_and (d_frz (d_call c_nil (pe_callW (okU_is_integer T) (hr.mono (by omega)) rfl T.g_is_integer T.F_is_integer.kp (bd_is_integer T) (fun σ => passAt (takes_of rfl rfl rfl rfl) σ) (g_v (d_var (pv 0)) (g_v (d_c c_int pe_int) g_nil))))) (pe_one (d_op p_le (pe_cmpR op_le (d_var (pv 0)) (d_c c_int (pe_gc rfl T.c_MOST)) (nomark _)))))))))))
theorem okU_check_capacity (T : Txt K mg) : FnOk P w K mg base (L2.CX P w) 3 (He.ga K "check_capacity") (fdA K (He.ga K "check_capacity")) ["value"] (spD K fn_check_capacity) :=
  fn_ok (b := body_check_capacity) T.F_check_capacity sc_check_capacity rfl rfl (fun cdv A outer s H E B hr => (s_one (s_if (ps_if (t_not (pt_not (t_valB (pt_val (d_frz (d_call c_nil (pe_callW (okU_is_capacity T) (hr.mono (by omega)) rfl T.g_is_capacity T.F_is_capacity.kp (bd_is_capacity T) (fun σ => passAt (takes_of rfl rfl rfl rfl) σ) (g_v (d_var (pv 0)) g_nil))))))))
      (s_one (s_raiseO PySem.F.excBase_ValueError T.x_InvalidCapacity.x T.g_InvalidCapacity T.x_InvalidCapacity.k (raises_own T.x_InvalidCapacity.b T.x_InvalidCapacity.t) rfl rfl (takes_of rfl rfl rfl rfl) rfl))
      s_nil))))
theorem okU_is_mode (T : Txt K mg) : FnOk P w K mg base (L2.CX P w) 1 (He.ga K "is_mode") (fdA K (He.ga K "is_mode")) ["value"] (spD K fn_is_mode) :=
  fn_ok (b := body_is_mode) T.F_is_mode sc_is_mode rfl rfl (fun cdv A outer s H E B hr => (s_one (s_ret (ps_ret (d_dm (d_and (pe_and (d_isi (by decide) (pe_callB call_isiB rfl T.b_isinstance (by decide +kernel) (pa_cons (d_var (pv 0)) (pa_cons (pe_bltn (v := .ty "str") rfl T.b_str (by decide +kernel) rfl) pa_nil)))) (pe_one (d_op p_inQ (pe_cmpR op_in_seq (d_var (pv 0)) (d_c (c_tup T.q_MODES (c_cons (c_str (by decide +kernel)) (c_cons (c_str (by decide +kernel)) (c_cons (c_str (by decide +kernel)) c_nil)))) (pe_gc (v := .ref _) rfl ⟨_, T.g_MODES, rfl⟩)) (by with_unfolding_all rfl)))))))))))
theorem okU_check_mode (T : Txt K mg) : FnOk P w K mg base (L2.CX P w) 2 (He.ga K "check_mode") (fdA K (He.ga K "check_mode")) ["value"] (spD K fn_check_mode) :=
  fn_ok (b := body_check_mode) T.F_check_mode sc_check_mode rfl rfl (fun cdv A outer s H E B hr => (s_one (s_if (ps_if (t_not (pt_not (t_valB (pt_val (d_frz (d_call c_nil (pe_callW (okU_is_mode T) (hr.mono (by omega)) rfl T.g_is_mode T.F_is_mode.kp (bd_is_mode T) (fun σ => passAt (takes_of rfl rfl rfl rfl) σ) (g_v (d_var (pv 0)) g_nil))))))))
      (s_one (s_raiseO PySem.F.excBase_ValueError T.x_InvalidMode.x T.g_InvalidMode T.x_InvalidMode.k (raises_own T.x_InvalidMode.b T.x_InvalidMode.t) rfl rfl (takes_of rfl rfl rfl rfl) rfl))
      s_nil))))
theorem okU_is_text_of (T : Txt K mg) : FnOk P w K mg base (L2.CX P w) 1 (He.ga K "is_text_of") (fdA K (He.ga K "is_text_of")) ["value", "letters"] (spD K fn_is_text_of) :=
  fn_ok (b := body_is_text_of) T.F_is_text_of sc_is_text_of rfl rfl (fun cdv A outer s H E B hr => (s_one (s_ret (ps_ret (d_dm (d_and (pe_and (d_isi (by decide) (pe_callB call_isiB rfl T.b_isinstance (by decide +kernel) (pa_cons (d_var (pv 0)) (pa_cons (pe_bltn (v := .ty "str") rfl T.b_str (by decide +kernel) rfl) pa_nil)))) (pe_one (d_n p_all (pe_callB (cr_all rfl) rfl T.b_all (by decide +kernel) (a_cons (d_frz (d_comp1 wg_var (by decide) (pe_lc (own := [("letter", 2)]) rfl sc_is_text_of.nd (i_str (d_var (pv 0))) (blkOk_by (N := ["value", "letters", "letter"]) (sc := defScope s_is_text_of) (own := [("letter", 2)]) (by decide +kernel)) (fun _ _ _ _ _ => pg_name (i := 2) sc_is_text_of.nd rfl (by first | exact Or.inl rfl | exact Or.inr rfl)) (fun _ _ _ _ _ => pts_nil) (fun _ _ _ _ _ => (d_op p_inS (pe_cmpR op_in_sign (d_var (pv 2)) (d_var (pv 1)) rfl)))))) a_nil)))))))))))
theorem okU_is_queue (T : Txt K mg) : FnOk P w K mg base (L2.CX P w) 4 (He.ga K "is_queue") (fdA K (He.ga K "is_queue")) ["value", "capacity"] (spD K fn_is_queue) :=
  fn_ok (b := body_is_queue) T.F_is_queue sc_is_queue rfl rfl (fun cdv A outer s H E B hr => (s_cons (s_drop (ps_expr (d_call c_nil (pe_callW (okU_check_capacity T) (hr.mono (by omega)) rfl T.g_check_capacity T.F_check_capacity.kp (bd_check_capacity T) (fun σ => passAt (takes_of rfl rfl rfl rfl) σ) (g_v (d_var (pv 1)) g_nil)))))
      (s_one (s_ret (ps_ret (d_dm (d_and (pe_and (d_frz (d_call c_nil (pe_callW (okU_is_text_of T) (hr.mono (by omega)) rfl T.g_is_text_of T.F_is_text_of.kp (bd_is_text_of T) (fun σ => passAt (takes_of rfl rfl rfl rfl) σ) (g_v (d_var (pv 0)) (g_v (d_c (c_str (by decide +kernel)) (pe_gc rfl T.c_LETTERS)) g_nil))))) (pe_one (d_op p_le (pe_cmpR op_le (d_n p_lenS (pe_callB call_len_str rfl T.b_len (by decide +kernel) (a_cons (d_var (pv 0)) a_nil))) (d_var (pv 1)) (nomark _))))))))))))
theorem okU_is_row (T : Txt K mg) : FnOk P w K mg base (L2.CX P w) 5 (He.ga K "is_row") (fdA K (He.ga K "is_row")) ["value", "length", "capacity"] (spD K fn_is_row) :=
  fn_ok (b := body_is_row) T.F_is_row sc_is_row rfl rfl (fun cdv A outer s H E B hr => (s_cons (s_if (ps_if (t_op p_isN (pt_cmpR op_isN (d_var (pv 0)) (d_c c_non pe_non) (nomark _)))
      (s_one (s_ret (ps_ret (d_dm (d_c c_bl pe_bl)))))
      s_nil))
      (s_cons (s_if (ps_if (PW.pt (t_or (pw_or (t_not (pt_not (t_valB (pt_val (d_isi (by decide) (pe_callB call_isiB rfl T.b_isinstance (by decide +kernel) (pa_cons (d_var (pv 0)) (pa_cons (pe_bltn (v := .ty "tuple") rfl T.b_tuple (by decide +kernel) rfl) pa_nil)))))))) (t_or (pw_or (t_op p_ne (pt_cmpR (op_neD hr.units) (d_n p_lenQ (pe_callB call_len_seq rfl T.b_len (by decide +kernel) (a_cons (d_var (pv 0)) a_nil))) (d_c c_int pe_int) (nomark _))) (t_or (pw_or (t_not (pt_not (t_valB (pt_val (d_frz (d_call (c_cons c_int c_nil) (pe_callW (okU_is_integer T) (hr.mono (by omega)) rfl T.g_is_integer T.F_is_integer.kp (bd_is_integer_1 T) (fun σ => passAt (takes_of rfl rfl rfl rfl) σ) (g_v (d_op p_ixT (pe_ix ix_tup (d_var (pv 0)) (d_c c_int pe_int) (fun _ _ => rfl))) g_nil)))))))) (pw_or1 (t_op p_gt (pt_cmpR op_gt (d_op p_ixT (pe_ix ix_tup (d_var (pv 0)) (d_c c_int pe_int) (fun _ _ => rfl))) (d_var (pv 1)) (nomark _)))))))))))
      (s_one (s_ret (ps_ret (d_dm (d_c c_bl pe_bl)))))
      s_nil))
      (s_one (s_ret (ps_ret (d_dm (d_and (pe_and (d_frz (d_call c_nil (pe_callW (okU_is_queue T) (hr.mono (by omega)) rfl T.g_is_queue T.F_is_queue.kp (bd_is_queue T) (fun σ => passAt (takes_of rfl rfl rfl rfl) σ) (g_v (d_op p_ixT (pe_ix ix_tup (d_var (pv 0)) (d_c c_int pe_int) (fun _ _ => rfl))) (g_v (d_var (pv 2)) g_nil))))) (pe_one (d_op p_le (pe_cmpR op_le (d_op p_add (pe_op op_add (d_op p_ixT (pe_ix ix_tup (d_var (pv 0)) (d_c c_int pe_int) (fun _ _ => rfl))) (d_n p_lenS (pe_callB call_len_str rfl T.b_len (by decide +kernel) (a_cons (d_op p_ixT (pe_ix ix_tup (d_var (pv 0)) (d_c c_int pe_int) (fun _ _ => rfl))) a_nil))))) (d_var (pv 2)) (nomark _)))))))))))))
theorem okU_Effect_init (T : Txt K mg) : FnOk P w K mg base (L2.CX P w) 6 (He.ma K (He.ga K "Effect") "__init__") (fdA K (He.ma K (He.ga K "Effect") "__init__")) ["self", "capacity", "rows"] (spD K fn_Effect_init) :=
  fn_ok (b := body_Effect_init) T.F_Effect_init sc_Effect_init rfl rfl (fun cdv A outer s H E B hr => (s_cons (s_drop (ps_expr (d_call c_nil (pe_callW (okU_check_capacity T) (hr.mono (by omega)) rfl T.g_check_capacity T.F_check_capacity.kp (bd_check_capacity T) (fun σ => passAt (takes_of rfl rfl rfl rfl) σ) (g_v (d_var (pv 1)) g_nil)))))
      (s_cons (s_if (ps_if (PW.pt (t_or (pw_or (t_not (pt_not (t_valB (pt_val (d_isi2 (S := "list") (T := "tuple") (by decide) (by decide) (pe_callB call_isiT rfl T.b_isinstance (by decide +kernel) (pa_cons (d_var (pv 2)) (pa_cons (pe_tup (pa_cons (pe_bltn (v := .ty "list") rfl T.b_list (by decide +kernel) rfl) (pa_cons (pe_bltn (v := .ty "tuple") rfl T.b_tuple (by decide +kernel) rfl) pa_nil))) pa_nil)))))))) (pw_or1 (t_op p_ne (pt_cmpR (op_neD hr.units) (d_n p_lenQ (pe_callB call_len_seq rfl T.b_len (by decide +kernel) (a_cons (d_var (pv 2)) a_nil))) (d_op p_add (pe_op op_add (d_var (pv 1)) (d_c c_int pe_int))) (nomark _)))))))
      (s_one (s_raise1 rfl len1 (ps_raise rfl (takes_of rfl rfl rfl rfl) (Q.pmk_1 PySem.F.excBase_ValueError T.x_InvalidEffect (init_InvalidEffect T) T.g_InvalidEffect hr rfl (a_cons (d_c c_non pe_non) a_nil)))))
      s_nil))
      (s_cons (s_for (wg_tup rfl (wg_cons wg_var (wg_cons wg_var wg_nil))) (ps_for (passes_of rfl) rfl (i_enumQ (pi_enumQ rfl T.b_enumerate (a_cons (d_var (pv 2)) a_nil))) (pg_tup rfl (pgs_cons (pg_name (i := 3) sc_Effect_init.nd rfl (by first | exact Or.inl rfl | exact Or.inr rfl)) (pgs_cons (pg_name (i := 4) sc_Effect_init.nd rfl (by first | exact Or.inl rfl | exact Or.inr rfl)) pgs_nil)))
      (s_one (s_if (ps_if (t_not (pt_not (t_valB (pt_val (d_frz (d_call c_nil (pe_callW (okU_is_row T) (hr.mono (by omega)) rfl T.g_is_row T.F_is_row.kp (bd_is_row T) (fun σ => passAt (takes_of rfl rfl rfl rfl) σ) (g_v (d_var (pv 4)) (g_v (d_var (pv 3)) (g_v (d_var (pv 1)) g_nil))))))))))
      (s_one (s_raise1 rfl len1 (ps_raise rfl (takes_of rfl rfl rfl rfl) (Q.pmk_1 PySem.F.excBase_ValueError T.x_InvalidEffect (init_InvalidEffect T) T.g_InvalidEffect hr rfl (a_cons (d_var (pv 3)) a_nil)))))
      s_nil)))))
      (s_one (s_fldO T.k_Effect T.n_Effect_all_rows (ps_fld (pv 0) (d_dm (d_n p_tupOf (pe_callTy call_tuple_of rfl T.b_tuple (by decide +kernel) (a_cons (d_var (pv 2)) a_nil)))) rfl)))))))
theorem okU_identity_rows (T : Txt K mg) : FnOk P w K mg base (L2.CX P w) 1 (He.ga K "identity_rows") (fdA K (He.ga K "identity_rows")) ["capacity"] (spD K fn_identity_rows) :=
  fn_ok (b := body_identity_rows) T.F_identity_rows sc_identity_rows rfl rfl (fun cdv A outer s H E B hr => (s_one (s_ret (ps_ret (d_dm (d_n p_tupOf (pe_callTy call_tuple_of rfl T.b_tuple (by decide +kernel) (a_cons (d_frz (d_comp1 wg_var (by decide) (pe_lc (own := [("length", 1)]) rfl sc_identity_rows.nd (i_rng1 len1 (pi_range1 rfl T.b_range (a_cons (d_op p_add (pe_op op_add (d_var (pv 0)) (d_c c_int pe_int))) a_nil))) (blkOk_by (N := ["capacity", "length"]) (sc := defScope s_identity_rows) (own := [("length", 1)]) (by decide +kernel)) (fun _ _ _ _ _ => pg_name (i := 1) sc_identity_rows.nd rfl (by first | exact Or.inl rfl | exact Or.inr rfl)) (fun _ _ _ _ _ => pts_nil) (fun _ _ _ _ _ => (d_tup (pe_tup (a_cons (d_var (pv 1)) (a_cons (d_c (c_str (by decide +kernel)) pe_str) a_nil)))))))) a_nil))))))))
theorem okU_row_after (T : Txt K mg) : FnOk P w K mg base (L2.CX P w) 1 (He.ga K "row_after") (fdA K (He.ga K "row_after")) ["row", "step", "capacity", "mode"] (spD K fn_row_after) :=
  fn_ok (b := body_row_after) T.F_row_after sc_row_after rfl rfl (fun cdv A outer s H E B hr => (s_cons (s_if (ps_if (t_op p_isN (pt_cmpR op_isN (d_var (pv 0)) (d_c c_non pe_non) (nomark _)))
      (s_one (s_ret (ps_ret (d_dm (d_c c_non pe_non)))))
      s_nil))
      (s_cons (s_asg (wg_tup rfl (wg_cons wg_var (wg_cons wg_var wg_nil))) (ps_asg (d_var (pv 0)) (pg_tup rfl (pgs_cons (pg_name (i := 4) sc_row_after.nd rfl (by first | exact Or.inl rfl | exact Or.inr rfl)) (pgs_cons (pg_name (i := 5) sc_row_after.nd rfl (by first | exact Or.inl rfl | exact Or.inr rfl)) pgs_nil)))))
      (s_cons (s_set (ps_set (i := 6) sc_row_after.nd rfl (by first | exact Or.inl rfl | exact Or.inr rfl) (d_dm (d_op p_add (pe_op op_add (d_var (pv 4)) (d_n p_lenS (pe_callB call_len_str rfl T.b_len (by decide +kernel) (a_cons (d_var (pv 5)) a_nil))))))))
      (s_cons (s_if (ps_if (t_op p_eq (pt_cmpR (op_eqD hr.units) (d_var (pv 1)) (d_c (c_str (by decide +kernel)) (pe_gc rfl T.c_TAKE)) (nomark _)))
      (s_cons (s_if (ps_if (t_op p_eq (pt_cmpR (op_eqD hr.units) (d_var (pv 6)) (d_c c_int pe_int) (nomark _)))
      (s_one (s_ret (ps_ret (d_dm (d_c c_non pe_non)))))
      s_nil))
      (s_one (s_ret (ps_ret (d_dm (d_if (pe_ifExp (t_op p_gt (pt_cmpR op_gt (d_var (pv 4)) (d_c c_int pe_int) (nomark _))) (d_tup (pe_tup (a_cons (d_op p_sub (pe_op op_sub (d_var (pv 4)) (d_c c_int pe_int))) (a_cons (d_var (pv 5)) a_nil)))) (d_tup (pe_tup (a_cons (d_c c_int pe_int) (a_cons (d_sl p_slS (pe_slice sl_str (d_var (pv 5)) (d_po (d_c c_int pe_int)) d_po0)) a_nil)))))))))))
      s_nil))
      (s_cons (s_if (ps_if (t_op p_lt (pt_cmpR op_lt (d_var (pv 6)) (d_var (pv 2)) (nomark _)))
      (s_one (s_ret (ps_ret (d_dm (d_tup (pe_tup (a_cons (d_var (pv 4)) (a_cons (d_op p_addS (pe_op op_add_str (d_var (pv 5)) (d_var (pv 1)))) a_nil))))))))
      s_nil))
      (s_cons (s_if (ps_if (t_op p_eq (pt_cmpR (op_eqD hr.units) (d_var (pv 3)) (d_c (c_str (by decide +kernel)) pe_str) (nomark _)))
      (s_one (s_ret (ps_ret (d_dm (d_if (pe_ifExp (t_op p_gt (pt_cmpR op_gt (d_var (pv 4)) (d_c c_int pe_int) (nomark _))) (d_tup (pe_tup (a_cons (d_op p_sub (pe_op op_sub (d_var (pv 4)) (d_c c_int pe_int))) (a_cons (d_op p_addS (pe_op op_add_str (d_var (pv 5)) (d_var (pv 1)))) a_nil)))) (d_tup (pe_tup (a_cons (d_c c_int pe_int) (a_cons (d_op p_addS (pe_op op_add_str (d_sl p_slS (pe_slice sl_str (d_var (pv 5)) (d_po (d_c c_int pe_int)) d_po0)) (d_var (pv 1)))) a_nil))))))))))
      s_nil))
      (s_one (s_ret (ps_ret (d_dm (d_if (pe_ifExp (t_op p_eq (pt_cmpR (op_eqD hr.units) (d_var (pv 3)) (d_c (c_str (by decide +kernel)) pe_str) (nomark _))) (d_var (pv 0)) (d_c c_non pe_non))))))))))))))
theorem okU_joined_row (T : Txt K mg) : FnOk P w K mg base (L2.CX P w) 1 (He.ga K "joined_row") (fdA K (He.ga K "joined_row")) ["row", "rows"] (spD K fn_joined_row) :=
  fn_ok (b := body_joined_row) T.F_joined_row sc_joined_row rfl rfl (fun cdv A outer s H E B hr => (s_cons (s_if (ps_if (t_op p_isN (pt_cmpR op_isN (d_var (pv 0)) (d_c c_non pe_non) (nomark _)))
      (s_one (s_ret (ps_ret (d_dm (d_c c_non pe_non)))))
      s_nil))
      (s_cons (s_asg (wg_tup rfl (wg_cons wg_var (wg_cons wg_var wg_nil))) (ps_asg (d_var (pv 0)) (pg_tup rfl (pgs_cons (pg_name (i := 2) sc_joined_row.nd rfl (by first | exact Or.inl rfl | exact Or.inr rfl)) (pgs_cons (pg_name (i := 3) sc_joined_row.nd rfl (by first | exact Or.inl rfl | exact Or.inr rfl)) pgs_nil)))))
      (s_cons (s_set (ps_set (i := 4) sc_joined_row.nd rfl (by first | exact Or.inl rfl | exact Or.inr rfl) (d_dm (d_op p_ixT (pe_ix ix_tup (d_var (pv 1)) (d_op p_add (pe_op op_add (d_var (pv 2)) (d_n p_lenS (pe_callB call_len_str rfl T.b_len (by decide +kernel) (a_cons (d_var (pv 3)) a_nil))))) (fun _ _ => rfl))))))
      (s_cons (s_if (ps_if (t_op p_isN (pt_cmpR op_isN (d_var (pv 4)) (d_c c_non pe_non) (nomark _)))
      (s_one (s_ret (ps_ret (d_dm (d_c c_non pe_non)))))
      s_nil))
      (s_cons (s_if (ps_if (t_op p_le (pt_cmpR op_le (d_op p_ixT (pe_ix ix_tup (d_var (pv 4)) (d_c c_int pe_int) (fun _ _ => rfl))) (d_n p_lenS (pe_callB call_len_str rfl T.b_len (by decide +kernel) (a_cons (d_var (pv 3)) a_nil))) (nomark _)))
      (s_one (s_ret (ps_ret (d_dm (d_tup (pe_tup (a_cons (d_c c_int pe_int) (a_cons (d_op p_addS (pe_op op_add_str (d_sl p_slS (pe_slice sl_str (d_var (pv 3)) (d_po (d_op p_sub (pe_op op_sub (d_n p_lenS (pe_callB call_len_str rfl T.b_len (by decide +kernel) (a_cons (d_var (pv 3)) a_nil))) (d_op p_ixT (pe_ix ix_tup (d_var (pv 4)) (d_c c_int pe_int) (fun _ _ => rfl)))))) d_po0)) (d_op p_ixT (pe_ix ix_tup (d_var (pv 4)) (d_c c_int pe_int) (fun _ _ => rfl))))) a_nil))))))))
      s_nil))
      (s_one (s_ret (ps_ret (d_dm (d_tup (pe_tup (a_cons (d_op p_sub (pe_op op_sub (d_op p_ixT (pe_ix ix_tup (d_var (pv 4)) (d_c c_int pe_int) (fun _ _ => rfl))) (d_n p_lenS (pe_callB call_len_str rfl T.b_len (by decide +kernel) (a_cons (d_var (pv 3)) a_nil))))) (a_cons (d_op p_addS (pe_op op_add_str (d_var (pv 3)) (d_op p_ixT (pe_ix ix_tup (d_var (pv 4)) (d_c c_int pe_int) (fun _ _ => rfl))))) a_nil))))))))))))))
theorem okU_joined_rows (T : Txt K mg) : FnOk P w K mg base (L2.CX P w) 2 (He.ga K "joined_rows") (fdA K (He.ga K "joined_rows")) ["first", "second"] (spD K fn_joined_rows) :=
  fn_ok (b := body_joined_rows) T.F_joined_rows sc_joined_rows rfl rfl (fun cdv A outer s H E B hr => (s_one (s_ret (ps_ret (d_dm (d_n p_tupOf (pe_callTy call_tuple_of rfl T.b_tuple (by decide +kernel) (a_cons (d_frz (d_comp1 wg_var (by decide) (pe_lc (own := [("row", 2)]) rfl sc_joined_rows.nd (i_tup (d_var (pv 0))) (blkOk_by (N := ["first", "second", "row"]) (sc := defScope s_joined_rows) (own := [("row", 2)]) (by decide +kernel)) (fun _ _ _ _ _ => pg_name (i := 2) sc_joined_rows.nd rfl (by first | exact Or.inl rfl | exact Or.inr rfl)) (fun _ _ _ _ _ => pts_nil) (fun _ _ _ _ _ => (d_frz (d_call c_nil (pe_callW (okU_joined_row T) (hr.mono (by omega)) rfl T.g_joined_row T.F_joined_row.kp (bd_joined_row T) (fun σ => passAt takes0 σ) (g_v (d_var (pv 2)) (g_v (d_var (pv 1)) g_nil))))))))) a_nil))))))))
theorem okU_power_rows (T : Txt K mg) : FnOk P w K mg base (L2.CX P w) 3 (He.ga K "power_rows") (fdA K (He.ga K "power_rows")) ["rows", "exponent"] (spD K fn_power_rows) :=
  fn_ok (b := body_power_rows) T.F_power_rows sc_power_rows rfl rfl (fun cdv A outer s H E B hr => (s_cons (s_par3 (ps_par3 (i := 2) (j := 3) (l := 4) (by rfl) sc_power_rows.nd rfl rfl rfl (by decide) (by decide) (by decide) rfl rfl rfl (a_cons (d_frz (d_call c_nil (pe_callW (okU_identity_rows T) (hr.mono (by omega)) rfl T.g_identity_rows T.F_identity_rows.kp (bd_identity_rows T) (fun σ => passAt (takes_of rfl rfl rfl rfl) σ) (g_v (d_op p_sub (pe_op op_sub (d_n p_lenQ (pe_callB call_len_seq rfl T.b_len (by decide +kernel) (a_cons (d_var (pv 0)) a_nil))) (d_c c_int pe_int))) g_nil)))) (a_cons (d_var (pv 0)) (a_cons (d_var (pv 1)) a_nil))) (by first | rfl | kernel_rfl)))
      (s_cons (s_while (ps_while (passes_of rfl) (t_op p_gt (pt_cmpR op_gt (d_var (pv 4)) (d_c c_int pe_int) (nomark _)))
      (s_cons (s_if (ps_if (t_op p_eq (pt_cmpR (op_eqD hr.units) (d_op p_mod (pe_op op_mod (d_var (pv 4)) (d_c c_int pe_int))) (d_c c_int pe_int) (nomark _)))
      (s_one (s_set (ps_set (i := 2) sc_power_rows.nd rfl (by first | exact Or.inl rfl | exact Or.inr rfl) (d_dm (d_frz (d_call c_nil (pe_callW (okU_joined_rows T) (hr.mono (by omega)) rfl T.g_joined_rows T.F_joined_rows.kp (bd_joined_rows T) (fun σ => passAt (takes_of rfl rfl rfl rfl) σ) (g_v (d_var (pv 2)) (g_v (d_var (pv 3)) g_nil)))))))))
      s_nil))
      (s_cons (s_set (ps_set (i := 3) sc_power_rows.nd rfl (by first | exact Or.inl rfl | exact Or.inr rfl) (d_dm (d_frz (d_call c_nil (pe_callW (okU_joined_rows T) (hr.mono (by omega)) rfl T.g_joined_rows T.F_joined_rows.kp (bd_joined_rows T) (fun σ => passAt (takes_of rfl rfl rfl rfl) σ) (g_v (d_var (pv 3)) (g_v (d_var (pv 3)) g_nil))))))))
      (s_one (s_set (ps_set (i := 4) sc_power_rows.nd rfl (by first | exact Or.inl rfl | exact Or.inr rfl) (d_dm (d_op p_div (pe_op op_fdivW (d_var (pv 4)) (d_c c_int pe_int)))))))))))
      (s_one (s_ret (ps_ret (d_dm (d_var (pv 2)))))))))
theorem okun_rows_of (T : Txt K mg) (n : Nat) : FnOk P w K mg base (L2.CX P w) (n + 3) (He.ga K "rows_of") (fdA K (He.ga K "rows_of")) ["items", "capacity", "mode"] (spD K (fn_rows_of n)) := by
  induction n with
  | zero => exact ⟨fun vs H Q E h => by obtain ⟨_, _, _, _, _, _, _, _, h⟩ := h; exact h.elim, fun _ _ _ _ _ _ _ _ _ _ _ _ _ h => by obtain ⟨_, _, _, _, _, _, _, _, h⟩ := h; exact h.elim⟩
  | succ n ih =>
    have hl : n + 1 + 3 = n + 3 + 1 := by omega
    rw [hl]
    exact fn_ok T.F_rows_of sc_rows_of rfl rfl (fun cdv A outer s H E B hr => (s_cons (s_set (ps_set (i := 3) sc_rows_of.nd rfl (by first | exact Or.inl rfl | exact Or.inr rfl) (d_dm (d_frz (d_call c_nil (pe_callW (okU_identity_rows T) (hr.mono (by omega)) rfl T.g_identity_rows T.F_identity_rows.kp (bd_identity_rows T) (fun σ => passAt (takes_of rfl rfl rfl rfl) σ) (g_v (d_var (pv 1)) g_nil)))))))
      (s_cons (s_for wg_var (ps_for (passes_of rfl) rfl (i_list (d_var (pv 0))) (pg_name (i := 4) sc_rows_of.nd rfl (by first | exact Or.inl rfl | exact Or.inr rfl))
      (s_one (s_if (ps_if (t_valB (pt_val (d_isi (by decide) (pe_callB call_isiB rfl T.b_isinstance (by decide +kernel) (pa_cons (d_var (pv 4)) (pa_cons (pe_bltn (v := .ty "str") rfl T.b_str (by decide +kernel) rfl) pa_nil))))))
      (s_one (s_for wg_var (ps_for (passes_of rfl) rfl (i_str (d_var (pv 4))) (pg_name (i := 5) sc_rows_of.nd rfl (by first | exact Or.inl rfl | exact Or.inr rfl))
      (s_one (s_set (ps_set (i := 3) sc_rows_of.nd rfl (by first | exact Or.inl rfl | exact Or.inr rfl) (d_dm (d_n p_tupOf (pe_callTy call_tuple_of rfl T.b_tuple (by decide +kernel) (a_cons (d_frz (d_comp1 wg_var (by decide) (pe_lc (own := [("row", 6)]) rfl sc_rows_of.nd (i_tup (d_var (pv 3))) (blkOk_by (N := ["items", "capacity", "mode", "rows", "item", "step", "row"]) (sc := defScope s_rows_of) (own := [("row", 6)]) (by decide +kernel)) (fun _ _ _ _ _ => pg_name (i := 6) sc_rows_of.nd rfl (by first | exact Or.inl rfl | exact Or.inr rfl)) (fun _ _ _ _ _ => pts_nil) (fun _ _ _ _ _ => (d_frz (d_call c_nil (pe_callW (okU_row_after T) (hr.mono (by omega)) rfl T.g_row_after T.F_row_after.kp (bd_row_after T) (fun σ => passAt takes0 σ) (g_v (d_var (pv 6)) (g_v (d_var (pv 5)) (g_v (d_var (pv 1)) (g_v (d_var (pv 2)) g_nil))))))))))) a_nil))))))))))
      (s_one (s_set (ps_set (i := 3) sc_rows_of.nd rfl (by first | exact Or.inl rfl | exact Or.inr rfl) (d_dm (d_frz (d_call c_nil (pe_callW (okU_joined_rows T) (hr.mono (by omega)) rfl T.g_joined_rows T.F_joined_rows.kp (bd_joined_rows T) (fun σ => passAt (takes_of rfl rfl rfl rfl) σ) (g_v (d_var (pv 3)) (g_v (d_frz (d_call c_nil (pe_callW (okU_power_rows T) (hr.mono (by omega)) rfl T.g_power_rows T.F_power_rows.kp (bd_power_rows T) (fun σ => passAt (takes_of rfl rfl rfl rfl) σ) (g_v (d_frz (d_call c_nil (pe_callW ih hr rfl T.g_rows_of T.F_rows_of.kp (bd_rows_of T) (fun σ => passAt (takes_of rfl rfl rfl rfl) σ) (g_v (d_op p_ixT (pe_ix ix_tup (d_var (pv 4)) (d_c c_int pe_int) (fun _ _ => rfl))) (g_v (d_var (pv 1)) (g_v (d_var (pv 2)) g_nil)))))) (g_v (d_op p_ixT (pe_ix ix_tup (d_var (pv 4)) (d_c c_int pe_int) (fun _ _ => rfl))) g_nil))))) g_nil))))))))))))))
      (s_one (s_ret (ps_ret (d_dm (d_var (pv 3)))))))))
theorem okU_rows_of (T : Txt K mg) : FnOk P w K mg base (L2.CX P w) 24 (He.ga K "rows_of") (fdA K (He.ga K "rows_of")) ["items", "capacity", "mode"] (spD K (fn_rows_of 21)) := okun_rows_of T 21
theorem okU_effect_of (T : Txt K mg) : FnOk P w K mg base (L2.CX P w) 25 (He.ga K "effect_of") (fdA K (He.ga K "effect_of")) ["program", "capacity", "mode"] (spD K fn_effect_of) :=
  fn_ok (b := body_effect_of) T.F_effect_of sc_effect_of rfl rfl (fun cdv A outer s H E B hr => (s_cons (s_set (ps_set (i := 3) sc_effect_of.nd rfl (by first | exact Or.inl rfl | exact Or.inr rfl) (d_dm (d_frz (d_call c_nil (pe_callW (okU_items_of T) (hr.mono (by omega)) rfl T.g_items_of T.F_items_of.kp (bd_items_of T) (fun σ => passAt (takes_of rfl rfl rfl rfl) σ) (g_v (d_var (pv 0)) g_nil)))))))
      (s_cons (s_drop (ps_expr (d_call c_nil (pe_callW (okU_check_capacity T) (hr.mono (by omega)) rfl T.g_check_capacity T.F_check_capacity.kp (bd_check_capacity T) (fun σ => passAt (takes_of rfl rfl rfl rfl) σ) (g_v (d_var (pv 1)) g_nil)))))
      (s_cons (s_drop (ps_expr (d_call c_nil (pe_callW (okU_check_mode T) (hr.mono (by omega)) rfl T.g_check_mode T.F_check_mode.kp (bd_check_mode T) (fun σ => passAt (takes_of rfl rfl rfl rfl) σ) (g_v (d_var (pv 2)) g_nil)))))
      (s_one (s_ret (ps_ret (d_dm (d_frz (d_make c_nil (pe_makeSD T.m_Effect (okU_Effect_init T) (hr.mono (by omega)) rfl T.g_Effect (bd_Effect_init T) (fun σ => passAt (takes_of rfl rfl rfl rfl) σ) (a_cons (d_var (pv 1)) (a_cons (d_frz (d_call c_nil (pe_callW (okU_rows_of T) (hr.mono (by omega)) rfl T.g_rows_of T.F_rows_of.kp (bd_rows_of T) (fun σ => passAt (takes_of rfl rfl rfl rfl) σ) (g_v (d_var (pv 3)) (g_v (d_var (pv 1)) (g_v (d_var (pv 2)) g_nil)))))) a_nil)))))))))))))
theorem okU_check_effect (T : Txt K mg) : FnOk P w K mg base (L2.CX P w) 1 (He.ga K "check_effect") (fdA K (He.ga K "check_effect")) ["value"] (spD K fn_check_effect) :=
  fn_ok (b := body_check_effect) T.F_check_effect sc_check_effect rfl rfl (fun cdv A outer s H E B hr => (s_one (s_if (ps_if (t_not (pt_not (t_valB (pt_val (d_isiC (tb := [("Effect", true)]) T.is_Effect (fun p hp => by simp only [List.mem_cons, List.not_mem_nil, or_false] at hp; rcases hp with rfl <;> first | exact ⟨T.it_Effect, T.ic_Effect_Effect⟩) (pe_callB call_isi rfl T.b_isinstance (by decide +kernel) (pa_cons (d_var (pv 0)) (pa_cons (pe_gc (v := .ref _) rfl ⟨_, T.g_Effect, rfl⟩) pa_nil))))))))
      (s_one (s_raise1 rfl len1 (ps_raise rfl (takes_of rfl rfl rfl rfl) (Q.pmk_1 PySem.F.excBase_ValueError T.x_InvalidEffect (init_InvalidEffect T) T.g_InvalidEffect hr rfl (a_cons (d_c c_non pe_non) a_nil)))))
      s_nil))))
theorem okU_Effect_bool (T : Txt K mg) : FnOk P w K mg base (L2.CX P w) 1 (He.ma K (He.ga K "Effect") "__bool__") (fdA K (He.ma K (He.ga K "Effect") "__bool__")) ["self"] (spD K fn_Effect_bool) :=
  fn_ok (b := body_Effect_bool) T.F_Effect_bool sc_Effect_bool rfl rfl (fun cdv A outer s H E B hr => (s_one (s_ret (ps_ret (d_dm (d_n p_any (pe_callB (cr_any rfl) rfl T.b_any (by decide +kernel) (a_cons (d_frz (d_comp1 wg_var (by decide) (pe_lc (own := [("row", 1)]) rfl sc_Effect_bool.nd (i_tup (d_fld T.k_Effect T.n_Effect_all_rows (pe_fld (d_var (pv 0)) rfl))) (blkOk_by (N := ["self", "row"]) (sc := defScope s_Effect_bool) (own := [("row", 1)]) (by decide +kernel)) (fun _ _ _ _ _ => pg_name (i := 1) sc_Effect_bool.nd rfl (by first | exact Or.inl rfl | exact Or.inr rfl)) (fun _ _ _ _ _ => pts_nil) (fun _ _ _ _ _ => (d_op p_notN (pe_cmpR op_notN (d_var (pv 1)) (d_c c_non pe_non) (nomark _))))))) a_nil))))))))
theorem okU_Effect_capacity (T : Txt K mg) : FnOk P w K mg base (L2.CX P w) 1 (He5.wf K (He.ga K "Effect") "property" "capacity") (fdA K (He5.wf K (He.ga K "Effect") "property" "capacity")) ["self"] (spD K fn_Effect_capacity) :=
  fn_ok (b := body_Effect_capacity) T.F_Effect_capacity sc_Effect_capacity rfl rfl (fun cdv A outer s H E B hr => (s_one (s_ret (ps_ret (d_dm (d_op p_sub (pe_op op_sub (d_n p_lenQ (pe_callB call_len_seq rfl T.b_len (by decide +kernel) (a_cons (d_fld T.k_Effect T.n_Effect_all_rows (pe_fld (d_var (pv 0)) rfl)) a_nil))) (d_c c_int pe_int))))))))
theorem okU_Effect_rows (T : Txt K mg) : FnOk P w K mg base (L2.CX P w) 1 (He5.wf K (He.ga K "Effect") "property" "rows") (fdA K (He5.wf K (He.ga K "Effect") "property" "rows")) ["self"] (spD K fn_Effect_rows) :=
  fn_ok (b := body_Effect_rows) T.F_Effect_rows sc_Effect_rows rfl rfl (fun cdv A outer s H E B hr => (s_one (s_ret (ps_ret (d_dm (d_fld T.k_Effect T.n_Effect_all_rows (pe_fld (d_var (pv 0)) rfl)))))))
theorem okU_end_of (T : Txt K mg) : FnOk P w K mg base (L2.CX P w) 1 (He.ga K "end_of") (fdA K (He.ga K "end_of")) ["row"] (spD K fn_end_of) :=
  fn_ok (b := body_end_of) T.F_end_of sc_end_of rfl rfl (fun cdv A outer s H E B hr => (s_one (s_ret (ps_ret (d_dm (d_op p_add (pe_op op_add (d_op p_ixT (pe_ix ix_tup (d_var (pv 0)) (d_c c_int pe_int) (fun _ _ => rfl))) (d_n p_lenS (pe_callB call_len_str rfl T.b_len (by decide +kernel) (a_cons (d_op p_ixT (pe_ix ix_tup (d_var (pv 0)) (d_c c_int pe_int) (fun _ _ => rfl))) a_nil))))))))))
theorem okU_Walk_init (T : Txt K mg) : FnOk P w K mg base (L2.CX P w) 1 (He.ma K (He.ga K "Walk") "__init__") (fdA K (He.ma K (He.ga K "Walk") "__init__")) ["self", "depth", "height", "last", "limit"] (spD K fn_Walk_init) :=
  fn_ok (b := body_Walk_init) T.F_Walk_init sc_Walk_init rfl rfl (fun cdv A outer s H E B hr => (s_cons (s_fldO T.k_Walk T.n_Walk_depth (ps_fld (pv 0) (d_dm (d_var (pv 1))) rfl))
      (s_cons (s_fldO T.k_Walk T.n_Walk_height (ps_fld (pv 0) (d_dm (d_var (pv 2))) rfl))
      (s_cons (s_fldO T.k_Walk T.n_Walk_last (ps_fld (pv 0) (d_dm (d_var (pv 3))) rfl))
      (s_one (s_fldO T.k_Walk T.n_Walk_is_up_first (ps_fld (pv 0) (d_dm (d_and (pe_and (d_op p_lt (pe_cmpR op_lt (d_var (pv 3)) (d_c c_int pe_int) (nomark _))) (pe_one (d_op p_le (pe_cmpR op_le (d_op p_add (pe_op op_add (d_var (pv 1)) (d_var (pv 2)))) (d_var (pv 4)) (nomark _))))))) rfl)))))))
theorem okG_candidates_oldest (T : Txt K mg) : GQ.GFnQ P w K mg base 3 (He.ga K "candidates_oldest") (fdA K (He.ga K "candidates_oldest")) ["rows"] (spQ K fn_candidates_oldest) :=
  fn_okG (b := body_candidates_oldest) T.F_candidates_oldest gsc_candidates_oldest rfl rfl (fun cdv A outer s H pn B hr => (y_cons (y_do (s_set (ps_set (i := 1) gsc_candidates_oldest.nd rfl (by first | exact Or.inl rfl | exact Or.inr rfl) (d_dm (d_op p_sub (pe_op op_sub (d_n p_lenQ (pe_callB call_len_seq rfl T.b_len (by decide +kernel) (a_cons (d_var (pv 0)) a_nil))) (d_c c_int pe_int)))))))
      (y_cons (y_do (s_set (ps_set (i := 2) gsc_candidates_oldest.nd rfl (by first | exact Or.inl rfl | exact Or.inr rfl) (d_dm (d_op p_ixL (pe_ix ix_list (d_frz (d_comp (wg_tup rfl (wg_cons wg_var (wg_cons wg_var wg_nil))) (by decide) (pe_lc (own := [("length", 3), ("row", 4)]) rfl gsc_candidates_oldest.nd (i_enumQ (pi_enumQ rfl T.b_enumerate (a_cons (d_var (pv 0)) a_nil))) (blkOk_by (N := ["rows", "capacity", "low", "length", "row", "least", "most", "offset"]) (sc := defScope s_candidates_oldest) (own := [("length", 3), ("row", 4)]) (by decide +kernel)) (fun _ _ _ _ _ => pg_tup rfl (pgs_cons (pg_name (i := 3) gsc_candidates_oldest.nd rfl (by first | exact Or.inl rfl | exact Or.inr rfl)) (pgs_cons (pg_name (i := 4) gsc_candidates_oldest.nd rfl (by first | exact Or.inl rfl | exact Or.inr rfl)) pgs_nil))) (fun _ _ _ _ _ => pts_one (t_op p_notN (pt_cmpR op_notN (d_var (pv 4)) (d_c c_non pe_non) (nomark _)))) (fun _ _ _ _ _ => (d_var (pv 3)))))) (d_c c_int pe_int) (fun _ _ => rfl)))))))
      (y_cons (y_do (s_par2 (ps_par (i := 5) (j := 6) (by rfl) gsc_candidates_oldest.nd rfl rfl (by decide) rfl rfl (a_cons (d_frz (d_call c_nil (pe_callW (okU_end_of T) (hr.mono (by omega)) rfl T.g_end_of T.F_end_of.kp (bd_end_of T) (fun σ => passAt takes_gcx σ) (g_v (d_op p_ixT (pe_ix ix_tup (d_var (pv 0)) (d_var (pv 2)) (fun _ _ => rfl))) g_nil)))) (a_cons (d_frz (d_call c_nil (pe_callW (okU_end_of T) (hr.mono (by omega)) rfl T.g_end_of T.F_end_of.kp (bd_end_of T) (fun σ => passAt takes_gcx σ) (g_v (d_op p_ixT (pe_ix ix_tup (d_var (pv 0)) (d_var (pv 1)) (fun _ _ => rfl))) g_nil)))) a_nil)) (by first | rfl | kernel_rfl))))
      (y_one (y_if (t_op p_lt (pt_cmpR op_lt (d_var (pv 5)) (d_var (pv 6)) (nomark _)))
      (y_one (y_yield (d_frz (d_make c_nil (pe_makeSD T.m_Walk (okU_Walk_init T) (hr.mono (by omega)) rfl T.g_Walk (bd_Walk_init T) (fun σ => passAt takes_gcx σ) (a_cons (d_var (pv 2)) (a_cons (d_op p_sub (pe_op op_sub (d_op p_sub (pe_op op_sub (d_op p_add (pe_op op_add (d_var (pv 1)) (d_var (pv 5)))) (d_var (pv 2)))) (d_var (pv 6)))) (a_cons (d_op p_sub (pe_op op_sub (d_var (pv 5)) (d_var (pv 2)))) (a_cons (d_var (pv 1)) a_nil)))))))))
      (y_one (y_for wg_var owns_gcx rfl (i_rng2 len2 (pi_range2 rfl T.b_range (a_cons (d_op p_sub (pe_op op_sub (d_var (pv 6)) (d_var (pv 2)))) (a_cons (d_op p_add (pe_op op_add (d_op p_add (pe_op op_add (d_var (pv 6)) (d_var (pv 1)))) (d_c c_int pe_int))) a_nil)))) (pg_name (i := 7) gsc_candidates_oldest.nd rfl (by first | exact Or.inl rfl | exact Or.inr rfl))
      (y_one (y_yield (d_frz (d_make c_nil (pe_makeSD T.m_Walk (okU_Walk_init T) (hr.mono (by omega)) rfl T.g_Walk (bd_Walk_init T) (fun σ => passAt takes_gcx σ) (a_cons (d_var (pv 2)) (a_cons (d_op p_sub (pe_op op_sub (d_op p_add (pe_op op_add (d_var (pv 1)) (d_var (pv 7)))) (d_var (pv 6)))) (a_cons (d_var (pv 7)) (a_cons (d_var (pv 1)) a_nil)))))))))))))))))
theorem okU_walks_for (T : Txt K mg) : FnOk P w K mg base (L2.CX P w) 7 (He.ga K "walks_for") (fdA K (He.ga K "walks_for")) ["rows", "mode"] (spD K fn_walks_for) :=
  fn_ok (b := body_walks_for) T.F_walks_for sc_walks_for rfl rfl (fun cdv A outer s H E B hr => (s_cons (s_set (ps_set (i := 2) sc_walks_for.nd rfl (by first | exact Or.inl rfl | exact Or.inr rfl) (d_dm (d_op p_sub (pe_op op_sub (d_n p_lenQ (pe_callB call_len_seq rfl T.b_len (by decide +kernel) (a_cons (d_var (pv 0)) a_nil))) (d_c c_int pe_int))))))
      (s_cons (s_setLcF (wg_tup rfl (wg_cons wg_var (wg_cons wg_var wg_nil))) (by decide) (ps_setLc (i := 3) (own := [("length", 4), ("row", 5)]) rfl sc_walks_for.nd rfl rfl (sw_true rfl rfl rfl (by decide +kernel)) (i_enumQ (pi_enumQ rfl T.b_enumerate (a_cons (d_var (pv 0)) a_nil))) (blkOk_by (N := ["rows", "mode", "capacity", "lengths", "length", "row", "low", "most", "offset"]) (sc := defScope s_walks_for) (own := [("length", 4), ("row", 5)]) (by decide +kernel)) (fun _ _ _ _ _ => pg_tup rfl (pgs_cons (pg_name (i := 4) sc_walks_for.nd rfl (by first | exact Or.inl rfl | exact Or.inr rfl)) (pgs_cons (pg_name (i := 5) sc_walks_for.nd rfl (by first | exact Or.inl rfl | exact Or.inr rfl)) pgs_nil))) (fun _ _ _ _ _ => pts_one (t_op p_notN (pt_cmpR op_notN (d_var (pv 5)) (d_c c_non pe_non) (nomark _)))) (fun _ _ _ _ _ => (d_var (pv 4)))))
      (s_cons (s_par2 (ps_par (i := 6) (j := 7) (by rfl) sc_walks_for.nd rfl rfl (by decide) rfl rfl (a_cons (d_op p_ixL (pe_ix ix_list (d_var (pv 3)) (d_c c_int pe_int) (fun _ _ => rfl))) (a_cons (d_op p_ixL (pe_ix ix_list (d_var (pv 3)) (d_un p_neg (pe_un un_neg (d_c c_int pe_int))) (fun _ _ => rfl))) a_nil)) (by first | rfl | kernel_rfl)))
      (s_cons (s_if (ps_if (t_op p_eq (pt_cmpR (op_eqD hr.units) (d_var (pv 1)) (d_c (c_str (by decide +kernel)) pe_str) (nomark _)))
      (s_cons (s_set (ps_set (i := 8) sc_walks_for.nd rfl (by first | exact Or.inl rfl | exact Or.inr rfl) (d_dm (d_op p_sub (pe_op op_sub (d_frz (d_call c_nil (pe_callW (okU_end_of T) (hr.mono (by omega)) rfl T.g_end_of T.F_end_of.kp (bd_end_of T) (fun σ => passAt (takes_of rfl rfl rfl rfl) σ) (g_v (d_op p_ixT (pe_ix ix_tup (d_var (pv 0)) (d_var (pv 6)) (fun _ _ => rfl))) g_nil)))) (d_var (pv 6)))))))
      (s_one (s_ret (ps_ret (d_dm (d_tup (pe_tup (a_cons (d_frz (d_lst (pe_lst (a_cons (d_frz (d_make c_nil (pe_makeSD T.m_Walk (okU_Walk_init T) (hr.mono (by omega)) rfl T.g_Walk (bd_Walk_init T) (fun σ => passAt (takes_of rfl rfl rfl rfl) σ) (a_cons (d_var (pv 6)) (a_cons (d_op p_sub (pe_op op_sub (d_var (pv 2)) (d_var (pv 7)))) (a_cons (d_var (pv 8)) (a_cons (d_var (pv 2)) a_nil))))))) a_nil)))) (a_cons (d_op p_ixT (pe_ix ix_tup (d_var (pv 0)) (d_var (pv 7)) (fun _ _ => rfl))) a_nil)))))))))
      s_nil))
      (s_one (s_ret (ps_ret (d_dm (d_tup (pe_tup (a_cons (d_if (pe_ifExp (t_op p_eq (pt_cmpR (op_eqD hr.units) (d_var (pv 7)) (d_var (pv 2)) (nomark _))) (d_frz (d_genC c_nil (GQ.pe_listQ (GQ.pgq_call (okG_candidates_oldest T) (hr.mono (by omega)) rfl T.g_candidates_oldest T.F_candidates_oldest.kp (bd_candidates_oldest T) (g_v (d_var (pv 0)) g_nil)) (hr.mono (by omega)) rfl T.b_list (by decide +kernel)))) (d_frz (d_lst (pe_lst a_nil))))) (a_cons (d_op p_ixT (pe_ix ix_tup (d_var (pv 0)) (d_var (pv 7)) (fun _ _ => rfl))) a_nil)))))))))))))
theorem okU_Walk_least_puts (T : Txt K mg) : FnOk P w K mg base (L2.CX P w) 1 (He.ma K (He.ga K "Walk") "least_puts") (fdA K (He.ma K (He.ga K "Walk") "least_puts")) ["self"] (spD K fn_Walk_least_puts) :=
  fn_ok (b := body_Walk_least_puts) T.F_Walk_least_puts sc_Walk_least_puts rfl rfl (fun cdv A outer s H E B hr => (s_one (s_ret (ps_ret (d_dm (d_op p_add (pe_op op_add (d_op p_add (pe_op op_add (d_fld T.k_Walk T.n_Walk_depth (pe_fld (d_var (pv 0)) rfl)) (d_fld T.k_Walk T.n_Walk_height (pe_fld (d_var (pv 0)) rfl)))) (d_if (pe_ifExp (t_valB (pt_val (d_fld T.k_Walk T.n_Walk_is_up_first (pe_fld (d_var (pv 0)) rfl)))) (d_fld T.k_Walk T.n_Walk_last (pe_fld (d_var (pv 0)) rfl)) (d_c c_int pe_int))))))))))
theorem okU_Walk_allows (T : Txt K mg) : FnOk P w K mg base (L2.CX P w) 2 (He.ma K (He.ga K "Walk") "allows") (fdA K (He.ma K (He.ga K "Walk") "allows")) ["self", "puts"] (spD K fn_Walk_allows) :=
  fn_ok (b := body_Walk_allows) T.F_Walk_allows sc_Walk_allows rfl rfl (fun cdv A outer s H E B hr => (s_cons (s_set (ps_set (i := 2) sc_Walk_allows.nd rfl (by first | exact Or.inl rfl | exact Or.inr rfl) (d_dm (d_frz (d_meth0 c_nil (pe_methSD0 (d_var (pv 0)) T.k_Walk T.h_Walk_least_puts (okU_Walk_least_puts T) (hr.mono (by omega)) (bd_Walk_least_puts T) (fun σ => passAt (takes_of rfl rfl rfl rfl) σ)))))))
      (s_one (s_ret (ps_ret (d_dm (d_or (pe_or (d_op p_eq (pe_cmpR (op_eqD hr.units) (d_var (pv 1)) (d_var (pv 2)) (nomark _))) (pe_one (d_and (pe_and (d_op p_gt (pe_cmpR op_gt (d_var (pv 1)) (d_var (pv 2)) (nomark _))) (pe_one (d_op p_gt (pe_cmpR op_gt (d_op p_add (pe_op op_add (d_fld T.k_Walk T.n_Walk_depth (pe_fld (d_var (pv 0)) rfl)) (d_fld T.k_Walk T.n_Walk_height (pe_fld (d_var (pv 0)) rfl)))) (d_c c_int pe_int) (nomark _)))))))))))))))
theorem okU_puts_for (T : Txt K mg) : FnOk P w K mg base (L2.CX P w) 3 (He.ga K "puts_for") (fdA K (He.ga K "puts_for")) ["walk", "row", "seen"] (spD K fn_puts_for) :=
  fn_ok (b := body_puts_for) T.F_puts_for sc_puts_for rfl rfl (fun cdv A outer s H E B hr => (s_cons (s_asg (wg_tup rfl (wg_cons wg_var (wg_cons wg_var wg_nil))) (ps_asg (d_var (pv 1)) (pg_tup rfl (pgs_cons (pg_name (i := 3) sc_puts_for.nd rfl (by first | exact Or.inl rfl | exact Or.inr rfl)) (pgs_cons (pg_name (i := 4) sc_puts_for.nd rfl (by first | exact Or.inl rfl | exact Or.inr rfl)) pgs_nil)))))
      (s_cons (s_set (ps_set (i := 5) sc_puts_for.nd rfl (by first | exact Or.inl rfl | exact Or.inr rfl) (d_dm (d_if (pe_ifExp (t_op p_gt (pt_cmpR op_gt (d_var (pv 3)) (d_c c_int pe_int) (nomark _))) (d_n p_lenS (pe_callB call_len_str rfl T.b_len (by decide +kernel) (a_cons (d_var (pv 4)) a_nil))) (d_n p_max2 (pe_callB (call_max2 rfl) rfl T.b_max (by decide +kernel) (a_cons (d_var (pv 2)) (a_cons (d_frz (d_meth0 c_nil (pe_methSD0 (d_var (pv 0)) T.k_Walk T.h_Walk_least_puts (okU_Walk_least_puts T) (hr.mono (by omega)) (bd_Walk_least_puts T) (fun σ => passAt (takes_of rfl rfl rfl rfl) σ)))) a_nil)))))))))
      (s_one (s_ret (ps_ret (d_dm (d_if (pe_ifExp (t_valB (pt_val (d_frz (d_meth c_nil (pe_methSD (d_var (pv 0)) T.k_Walk T.h_Walk_allows (okU_Walk_allows T) (hr.mono (by omega)) (bd_Walk_allows T) (fun σ => passAt (takes_of rfl rfl rfl rfl) σ) (g_v (d_var (pv 5)) g_nil)))))) (d_var (pv 5)) (d_c c_non pe_non))))))))))
theorem okU_Walk_drawn (T : Txt K mg) : FnOk P w K mg base (L2.CX P w) 2 (He.ma K (He.ga K "Walk") "drawn") (fdA K (He.ma K (He.ga K "Walk") "drawn")) ["self", "puts"] (spD K fn_Walk_drawn) :=
  fn_ok (b := body_Walk_drawn) T.F_Walk_drawn sc_Walk_drawn rfl rfl (fun cdv A outer s H E B hr => (s_cons (s_set (ps_set (i := 2) sc_Walk_drawn.nd rfl (by first | exact Or.inl rfl | exact Or.inr rfl) (d_dm (d_op p_mulS (pe_op Q.op_mul_str (d_op p_addS (pe_op op_add_str (d_c (c_str (by decide +kernel)) (pe_gc rfl T.c_PUT)) (d_c (c_str (by decide +kernel)) (pe_gc rfl T.c_TAKE)))) (d_op p_sub (pe_op op_sub (d_var (pv 1)) (d_frz (d_meth0 c_nil (pe_methSD0 (d_var (pv 0)) T.k_Walk T.h_Walk_least_puts (okU_Walk_least_puts T) (hr.mono (by omega)) (bd_Walk_least_puts T) (fun σ => passAt (takes_of rfl rfl rfl rfl) σ)))))))))))
      (s_cons (s_set (ps_set (i := 3) sc_Walk_drawn.nd rfl (by first | exact Or.inl rfl | exact Or.inr rfl) (d_dm (d_op p_add (pe_op op_add (d_fld T.k_Walk T.n_Walk_depth (pe_fld (d_var (pv 0)) rfl)) (d_fld T.k_Walk T.n_Walk_height (pe_fld (d_var (pv 0)) rfl)))))))
      (s_cons (s_if (ps_if (t_valB (pt_val (d_fld T.k_Walk T.n_Walk_is_up_first (pe_fld (d_var (pv 0)) rfl))))
      (s_one (s_ret (ps_ret (d_dm (d_op p_addS (pe_op op_add_str (d_op p_addS (pe_op op_add_str (d_op p_addS (pe_op op_add_str (d_op p_mulS (pe_op Q.op_mul_str (d_c (c_str (by decide +kernel)) (pe_gc rfl T.c_PUT)) (d_fld T.k_Walk T.n_Walk_height (pe_fld (d_var (pv 0)) rfl)))) (d_op p_mulS (pe_op Q.op_mul_str (d_c (c_str (by decide +kernel)) (pe_gc rfl T.c_TAKE)) (d_var (pv 3)))))) (d_var (pv 2)))) (d_op p_mulS (pe_op Q.op_mul_str (d_c (c_str (by decide +kernel)) (pe_gc rfl T.c_PUT)) (d_op p_add (pe_op op_add (d_fld T.k_Walk T.n_Walk_last (pe_fld (d_var (pv 0)) rfl)) (d_fld T.k_Walk T.n_Walk_depth (pe_fld (d_var (pv 0)) rfl))))))))))))
      s_nil))
      (s_one (s_ret (ps_ret (d_dm (d_op p_addS (pe_op op_add_str (d_op p_addS (pe_op op_add_str (d_op p_addS (pe_op op_add_str (d_op p_mulS (pe_op Q.op_mul_str (d_c (c_str (by decide +kernel)) (pe_gc rfl T.c_TAKE)) (d_fld T.k_Walk T.n_Walk_depth (pe_fld (d_var (pv 0)) rfl)))) (d_var (pv 2)))) (d_op p_mulS (pe_op Q.op_mul_str (d_c (c_str (by decide +kernel)) (pe_gc rfl T.c_PUT)) (d_var (pv 3)))))) (d_op p_mulS (pe_op Q.op_mul_str (d_c (c_str (by decide +kernel)) (pe_gc rfl T.c_TAKE)) (d_op p_sub (pe_op op_sub (d_fld T.k_Walk T.n_Walk_height (pe_fld (d_var (pv 0)) rfl)) (d_fld T.k_Walk T.n_Walk_last (pe_fld (d_var (pv 0)) rfl))))))))))))))))
theorem okU_lettered (T : Txt K mg) : FnOk P w K mg base (L2.CX P w) 1 (He.ga K "lettered") (fdA K (He.ga K "lettered")) ["walk", "letters"] (spD K fn_lettered) :=
  fn_ok (b := body_lettered) T.F_lettered sc_lettered rfl rfl (fun cdv A outer s H E B hr => (s_cons (s_set (ps_set (i := 2) sc_lettered.nd rfl (by first | exact Or.inl rfl | exact Or.inr rfl) (d_dm (d_m1 p_count (pe_count (d_var (pv 0)) (d_c (c_str (by decide +kernel)) (pe_gc rfl T.c_PUT)))))))
      (s_cons (s_set (ps_set (i := 3) sc_lettered.nd rfl (by first | exact Or.inl rfl | exact Or.inr rfl) (d_nM p_lstS (pe_callTy (LT.call_list_txt rfl) rfl T.b_list (by decide +kernel) (a_cons (d_op p_addS (pe_op op_add_str (d_op p_mulS (pe_op Q.op_mul_str (d_c (c_str (by decide +kernel)) (pe_gc rfl T.c_FILLER)) (d_op p_sub (pe_op op_sub (d_var (pv 2)) (d_n p_lenS (pe_callB call_len_str rfl T.b_len (by decide +kernel) (a_cons (d_var (pv 1)) a_nil))))))) (d_var (pv 1)))) a_nil)))))
      (s_one (s_ret (ps_ret (d_dm (d_m1 p_join (pe_join (d_c (c_str (by decide +kernel)) pe_str) (d_frz (d_comp1 wg_var (by decide) (pe_lc (own := [("step", 4)]) rfl sc_lettered.nd (i_str (d_var (pv 0))) (blkOk_by (N := ["walk", "letters", "puts", "left", "step"]) (sc := defScope s_lettered) (own := [("step", 4)]) (by decide +kernel)) (fun _ _ _ _ _ => pg_name (i := 4) sc_lettered.nd rfl (by first | exact Or.inl rfl | exact Or.inr rfl)) (fun _ _ _ _ _ => pts_nil) (fun _ _ _ _ _ => (d_if (pe_ifExp (t_op p_eq (pt_cmpR (op_eqD hr.units) (d_var (pv 4)) (d_c (c_str (by decide +kernel)) (pe_gc rfl T.c_PUT)) (nomark _))) (d_popAt (pe_bm PySem.F.plainAttrs_list PySem.F.slot_list_pop PySem.F.type_list_pop mt_popAt (pv 3) (pa_cons (d_c c_int pe_int) pa_nil))) (d_var (pv 4)))))))))))))))))
theorem okU_sequence_for (T : Txt K mg) : FnOk P w K mg base (L2.CX P w) 8 (He.ga K "sequence_for") (fdA K (He.ga K "sequence_for")) ["rows", "mode"] (spD K fn_sequence_for) :=
  fn_ok (b := body_sequence_for) T.F_sequence_for sc_sequence_for rfl rfl (fun cdv A outer s H E B hr => (s_cons (s_asg (wg_tup rfl (wg_cons wg_var (wg_cons wg_var wg_nil))) (ps_asg (d_frz (d_call c_nil (pe_callW (okU_walks_for T) (hr.mono (by omega)) rfl T.g_walks_for T.F_walks_for.kp (bd_walks_for T) (fun σ => passAt (takes_of rfl rfl rfl rfl) σ) (g_v (d_var (pv 0)) (g_v (d_var (pv 1)) g_nil))))) (pg_tup rfl (pgs_cons (pg_name (i := 2) sc_sequence_for.nd rfl (by first | exact Or.inl rfl | exact Or.inr rfl)) (pgs_cons (pg_name (i := 3) sc_sequence_for.nd rfl (by first | exact Or.inl rfl | exact Or.inr rfl)) pgs_nil)))))
      (s_cons (s_set (ps_set (i := 4) sc_sequence_for.nd rfl (by first | exact Or.inl rfl | exact Or.inr rfl) (d_dm (d_c c_non pe_non))))
      (s_cons (s_for wg_var (ps_for (passes_of rfl) rfl (i_list (d_var (pv 2))) (pg_name (i := 5) sc_sequence_for.nd rfl (by first | exact Or.inl rfl | exact Or.inr rfl))
      (s_cons (s_if (ps_if (PW.pt (t_or (pw_or (t_op p_lt (pt_cmpR op_lt (d_fld T.k_Walk T.n_Walk_height (pe_fld (d_var (pv 5)) rfl)) (d_n p_max2 (pe_callB (call_max2 rfl) rfl T.b_max (by decide +kernel) (a_cons (d_c c_int pe_int) (a_cons (d_fld T.k_Walk T.n_Walk_last (pe_fld (d_var (pv 5)) rfl)) a_nil)))) (nomark _))) (pw_or1 (t_op p_lt (pt_cmpR op_lt (d_fld T.k_Walk T.n_Walk_last (pe_fld (d_var (pv 5)) rfl)) (d_un p_neg (pe_un un_neg (d_fld T.k_Walk T.n_Walk_depth (pe_fld (d_var (pv 5)) rfl)))) (nomark _)))))))
      (s_one (s_ct ps_continue))
      s_nil))
      (s_cons (s_set (ps_set (i := 6) sc_sequence_for.nd rfl (by first | exact Or.inl rfl | exact Or.inr rfl) (d_dm (d_frz (d_call c_nil (pe_callW (okU_puts_for T) (hr.mono (by omega)) rfl T.g_puts_for T.F_puts_for.kp (bd_puts_for T) (fun σ => passAt (takes_of rfl rfl rfl rfl) σ) (g_v (d_var (pv 5)) (g_v (d_var (pv 3)) (g_v (d_frz (d_call c_nil (pe_callW (okU_end_of T) (hr.mono (by omega)) rfl T.g_end_of T.F_end_of.kp (bd_end_of T) (fun σ => passAt (takes_of rfl rfl rfl rfl) σ) (g_v (d_var (pv 3)) g_nil)))) g_nil)))))))))
      (s_one (s_if (ps_if (PW.pt (t_and (pw_and (t_op p_notN (pt_cmpR op_notN (d_var (pv 6)) (d_c c_non pe_non) (nomark _))) (pw_and1 (PW.pt (t_or (pw_or (t_op p_isN (pt_cmpR op_isN (d_var (pv 4)) (d_c c_non pe_non) (nomark _))) (pw_or1 (t_op p_lt (pt_cmpR op_lt (d_op p_sub (pe_op op_sub (d_op p_mul (pe_op op_mul (d_c c_int pe_int) (d_var (pv 6)))) (d_fld T.k_Walk T.n_Walk_last (pe_fld (d_var (pv 5)) rfl)))) (d_op p_ixT (pe_ix ix_tup (d_var (pv 4)) (d_c c_int pe_int) (fun _ _ => rfl))) (nomark _)))))))))))
      (s_one (s_set (ps_set (i := 4) sc_sequence_for.nd rfl (by first | exact Or.inl rfl | exact Or.inr rfl) (d_dm (d_tup (pe_tup (a_cons (d_op p_sub (pe_op op_sub (d_op p_mul (pe_op op_mul (d_c c_int pe_int) (d_var (pv 6)))) (d_fld T.k_Walk T.n_Walk_last (pe_fld (d_var (pv 5)) rfl)))) (a_cons (d_var (pv 5)) (a_cons (d_var (pv 6)) a_nil)))))))))
      s_nil)))))))
      (s_one (s_ret (ps_ret (d_dm (d_if (pe_ifExp (t_op p_isN (pt_cmpR op_isN (d_var (pv 4)) (d_c c_non pe_non) (nomark _))) (d_c c_non pe_non) (d_frz (d_call c_nil (pe_callW (okU_lettered T) (hr.mono (by omega)) rfl T.g_lettered T.F_lettered.kp (bd_lettered T) (fun σ => passAt (takes_of rfl rfl rfl rfl) σ) (g_v (d_frz (d_meth c_nil (pe_methSD (d_op p_ixT (pe_ix ix_tup (d_var (pv 4)) (d_c c_int pe_int) (fun _ _ => rfl))) T.k_Walk T.h_Walk_drawn (okU_Walk_drawn T) (hr.mono (by omega)) (bd_Walk_drawn T) (fun σ => passAt (takes_of rfl rfl rfl rfl) σ) (g_v (d_op p_ixT (pe_ix ix_tup (d_var (pv 4)) (d_c c_int pe_int) (fun _ _ => rfl))) g_nil)))) (g_v (d_op p_ixT (pe_ix ix_tup (d_var (pv 3)) (d_c c_int pe_int) (fun _ _ => rfl))) g_nil)))))))))))))))
theorem okU_Effect_eq (T : Txt K mg) : FnOk P w K mg base (L2.CX P w) 1 (He.ma K (He.ga K "Effect") "__eq__") (fdA K (He.ma K (He.ga K "Effect") "__eq__")) ["self", "other"] (spD K fn_Effect_eq) :=
  fn_ok (b := body_Effect_eq) T.F_Effect_eq sc_Effect_eq rfl rfl (fun cdv A outer s H E B hr => (s_one (s_ret (ps_ret (d_dm (d_and (pe_and (d_isiC (tb := [("Effect", true)]) T.is_Effect (fun p hp => by simp only [List.mem_cons, List.not_mem_nil, or_false] at hp; rcases hp with rfl <;> first | exact ⟨T.it_Effect, T.ic_Effect_Effect⟩) (pe_callB call_isi rfl T.b_isinstance (by decide +kernel) (pa_cons (d_var (pv 1)) (pa_cons (pe_gc (v := .ref _) rfl ⟨_, T.g_Effect, rfl⟩) pa_nil)))) (pe_one (d_op p_eq (pe_cmpR (op_eqD hr.units) (d_fld T.k_Effect T.n_Effect_all_rows (pe_fld (d_var (pv 0)) rfl)) (d_fld T.k_Effect T.n_Effect_all_rows (pe_fld (d_var (pv 1)) rfl)) (nomark _)))))))))))
theorem okU_shortest_sequence (T : Txt K mg) : FnOk P w K mg base (L2.CX P w) 26 (He.ga K "shortest_sequence") (fdA K (He.ga K "shortest_sequence")) ["effect", "mode"] (spD K fn_shortest_sequence) :=
  fn_ok (b := body_shortest_sequence) T.F_shortest_sequence sc_shortest_sequence rfl rfl (fun cdv A outer s H E B hr => (s_cons (s_drop (ps_expr (d_call c_nil (pe_callW (okU_check_effect T) (hr.mono (by omega)) rfl T.g_check_effect T.F_check_effect.kp (bd_check_effect T) (fun σ => passAt (takes_of rfl rfl rfl rfl) σ) (g_v (d_var (pv 0)) g_nil)))))
      (s_cons (s_if (ps_if (t_op p_notInQ (pt_cmpR op_notIn_seq (d_var (pv 1)) (d_tup (pe_tup (a_cons (d_c (c_str (by decide +kernel)) pe_str) (a_cons (d_c (c_str (by decide +kernel)) pe_str) a_nil)))) (by with_unfolding_all rfl)))
      (s_one (s_raiseO PySem.F.excBase_ValueError T.x_InvalidMode.x T.g_InvalidMode T.x_InvalidMode.k (raises_own T.x_InvalidMode.b T.x_InvalidMode.t) rfl rfl (takes_of rfl rfl rfl rfl) rfl))
      s_nil))
      (s_cons (s_if (ps_if (t_not (pt_not (t_boolC (pt_ownB (okU_Effect_bool T) T.d_Effect_bool.1 T.d_Effect_bool.2 (bd_Effect_bool T) (hr.mono (by omega)) (d_var (pv 0))))))
      (s_one (s_ret (ps_ret (d_dm (d_op p_mulS (pe_op Q.op_mul_str (d_c (c_str (by decide +kernel)) (pe_gc rfl T.c_TAKE)) (d_op p_add (pe_op op_add (d_prop (pe_propU (d_var (pv 0)) T.k_Effect T.p_Effect_capacity (okU_Effect_capacity T) (hr.mono (by omega)) (bd_Effect_capacity T) rfl)) (d_c c_int pe_int)))))))))
      s_nil))
      (s_cons (s_set (ps_set (i := 2) sc_shortest_sequence.nd rfl (by first | exact Or.inl rfl | exact Or.inr rfl) (d_dm (d_frz (d_call c_nil (pe_callW (okU_sequence_for T) (hr.mono (by omega)) rfl T.g_sequence_for T.F_sequence_for.kp (bd_sequence_for T) (fun σ => passAt (takes_of rfl rfl rfl rfl) σ) (g_v (d_prop (pe_propU (d_var (pv 0)) T.k_Effect T.p_Effect_rows (okU_Effect_rows T) (hr.mono (by omega)) (bd_Effect_rows T) rfl)) (g_v (d_var (pv 1)) g_nil))))))))
      (s_one (s_ret (ps_ret (d_dm (d_if (pe_ifExp (PW.pt (t_and (pw_and (t_op p_notN (pt_cmpR op_notN (d_var (pv 2)) (d_c c_non pe_non) (nomark _))) (pw_and1 (t_opD p_eqC (pt_cmpR (op_own2 (okU_Effect_eq T) T.d_Effect_eq.1 T.d_Effect_eq.2 (bd_Effect_eq T) (hr.mono (by omega))) (d_frz (d_call c_nil (pe_callW (okU_effect_of T) (hr.mono (by omega)) rfl T.g_effect_of T.F_effect_of.kp (bd_effect_of T) (fun σ => passAt (takes_of rfl rfl rfl rfl) σ) (g_v (d_var (pv 2)) (g_v (d_prop (pe_propU (d_var (pv 0)) T.k_Effect T.p_Effect_capacity (okU_Effect_capacity T) (hr.mono (by omega)) (bd_Effect_capacity T) rfl)) (g_v (d_var (pv 1)) g_nil)))))) (d_var (pv 0)) (nomark _))))))) (d_var (pv 2)) (d_c c_non pe_non))))))))))))
theorem okU_Effect_failing (T : Txt K mg) : FnOk P w K mg base (L2.CX P w) 8 (He5.wf K (He.ga K "Effect") "classmethod" "failing") (fdA K (He5.wf K (He.ga K "Effect") "classmethod" "failing")) ["cls", "capacity"] (spC K "Effect" fn_Effect_failing) :=
  fnC_ok (b := body_Effect_failing) T.F_Effect_failing sc_Effect_failing rfl rfl (fun cdv A outer s H E hr => (s_cons (s_drop (ps_expr (d_call c_nil (pe_callW (okU_check_capacity T) (hr.mono (by omega)) rfl T.g_check_capacity T.F_check_capacity.kp (bd_check_capacity T) (fun σ => passAt (takes_of rfl rfl rfl rfl) σ) (g_v (d_var (pv 1)) g_nil)))))
      (s_one (s_ret (ps_ret (d_dm (d_frz (d_makeL c_nil (pe_makeL (i := 0) T.m_Effect (okU_Effect_init T) (hr.mono (by omega)) rfl (by first | exact Or.inl rfl | exact Or.inr (Or.inl rfl) | exact Or.inr (Or.inr rfl) | exact Or.inr rfl) (bd_Effect_init T) (fun σ => passAt (takes_of rfl rfl rfl rfl) σ) (a_cons (d_var (pv 1)) (a_cons (d_op p_repT (pe_op op_repT (d_tup (pe_tup (a_cons (d_c c_non pe_non) a_nil))) (d_op p_add (pe_op op_add (d_var (pv 1)) (d_c c_int pe_int))))) a_nil)))))))))))
theorem okU_Effect_identity (T : Txt K mg) : FnOk P w K mg base (L2.CX P w) 8 (He5.wf K (He.ga K "Effect") "classmethod" "identity") (fdA K (He5.wf K (He.ga K "Effect") "classmethod" "identity")) ["cls", "capacity"] (spC K "Effect" fn_Effect_identity) :=
  fnC_ok (b := body_Effect_identity) T.F_Effect_identity sc_Effect_identity rfl rfl (fun cdv A outer s H E hr => (s_cons (s_drop (ps_expr (d_call c_nil (pe_callW (okU_check_capacity T) (hr.mono (by omega)) rfl T.g_check_capacity T.F_check_capacity.kp (bd_check_capacity T) (fun σ => passAt (takes_of rfl rfl rfl rfl) σ) (g_v (d_var (pv 1)) g_nil)))))
      (s_one (s_ret (ps_ret (d_dm (d_frz (d_makeL c_nil (pe_makeL (i := 0) T.m_Effect (okU_Effect_init T) (hr.mono (by omega)) rfl (by first | exact Or.inl rfl | exact Or.inr (Or.inl rfl) | exact Or.inr (Or.inr rfl) | exact Or.inr rfl) (bd_Effect_init T) (fun σ => passAt (takes_of rfl rfl rfl rfl) σ) (a_cons (d_var (pv 1)) (a_cons (d_frz (d_call c_nil (pe_callW (okU_identity_rows T) (hr.mono (by omega)) rfl T.g_identity_rows T.F_identity_rows.kp (bd_identity_rows T) (fun σ => passAt (takes_of rfl rfl rfl rfl) σ) (g_v (d_var (pv 1)) g_nil)))) a_nil)))))))))))
theorem okU_law_known_right (T : Txt K mg) : FnOk P w K mg base (L2.CX P w) 27 (He.ga K "_law_known_right") (fdA K (He.ga K "_law_known_right")) ["_law_pool_here", "_law_capacity"] (spD K fn_law_known_right) :=
  fn_ok (b := body_law_known_right) T.F_law_known_right sc_law_known_right rfl rfl (fun cdv A outer s H E B hr => (s_cons (s_par2 (ps_par (i := 2) (j := 3) (by rfl) sc_law_known_right.nd rfl rfl (by decide) rfl rfl (a_cons (d_frz (d_call c_nil (pe_callW (okU_law_text T) (hr.mono (by omega)) rfl T.g_law_text T.F_law_text.kp (bd_law_text T) (fun σ => passAt (takes_of rfl rfl rfl rfl) σ) (g_b (pv 0) (g_v (d_var (pv 1)) g_nil))))) (a_cons (d_op p_add (pe_op op_add (d_c c_int pe_int) (d_frz (d_call c_nil (pe_callW (okU_law_take T) (hr.mono (by omega)) rfl T.g_law_take T.F_law_take.kp (bd_law_take T) (fun σ => passAt (takes_of rfl rfl rfl rfl) σ) (g_b (pv 0) (g_v (d_op p_pow (pe_op op_pow (d_c c_int pe_int) (d_c c_int pe_int))) g_nil))))))) a_nil)) (by first | rfl | kernel_rfl)))
      (s_cons (s_set (ps_set (i := 4) sc_law_known_right.nd rfl (by first | exact Or.inl rfl | exact Or.inr rfl) (d_dm (d_frz (d_call c_nil (pe_callW (okU_effect_of T) (hr.mono (by omega)) rfl T.g_effect_of T.F_effect_of.kp (bd_effect_of T) (fun σ => passAt (takes_of rfl rfl rfl rfl) σ) (g_v (d_op p_addS (pe_op op_add_str (d_op p_addS (pe_op op_add_str (d_c (c_str (by decide +kernel)) pe_str) (d_n p_strI (pe_callTy call_str_int rfl T.b_str (by decide +kernel) (a_cons (d_op p_add (pe_op op_add (d_var (pv 1)) (d_var (pv 3)))) a_nil))))) (d_var (pv 2)))) (g_v (d_var (pv 1)) (g_v (d_c (c_str (by decide +kernel)) pe_str) g_nil)))))))))
      (s_cons (s_if (ps_if (t_op p_ne (pt_cmpR (op_neD hr.units) (d_frz (d_call c_nil (pe_callW (okU_shortest_sequence T) (hr.mono (by omega)) rfl T.g_shortest_sequence T.F_shortest_sequence.kp (bd_shortest_sequence T) (fun σ => passAt (takes_of rfl rfl rfl rfl) σ) (g_v (d_var (pv 4)) (g_v (d_c (c_str (by decide +kernel)) pe_str) g_nil))))) (d_var (pv 2)) (nomark _)))
      (s_one (s_ret (ps_ret (d_dm (d_c c_bl pe_bl)))))
      s_nil))
      (s_cons (s_set (ps_set (i := 5) sc_law_known_right.nd rfl (by first | exact Or.inl rfl | exact Or.inr rfl) (d_dm (d_frz (d_call c_nil (pe_callW (okU_law_take T) (hr.mono (by omega)) rfl T.g_law_take T.F_law_take.kp (bd_law_take T) (fun σ => passAt (takes_of rfl rfl rfl rfl) σ) (g_b (pv 0) (g_v (d_var (pv 1)) g_nil))))))))
      (s_cons (s_set (ps_set (i := 6) sc_law_known_right.nd rfl (by first | exact Or.inl rfl | exact Or.inr rfl) (d_dm (d_frz (d_call c_nil (pe_callW (okU_law_text T) (hr.mono (by omega)) rfl T.g_law_text T.F_law_text.kp (bd_law_text T) (fun σ => passAt (takes_of rfl rfl rfl rfl) σ) (g_b (pv 0) (g_v (d_frz (d_call c_nil (pe_callW (okU_law_take T) (hr.mono (by omega)) rfl T.g_law_take T.F_law_take.kp (bd_law_take T) (fun σ => passAt (takes_of rfl rfl rfl rfl) σ) (g_b (pv 0) (g_v (d_op p_add (pe_op op_add (d_var (pv 5)) (d_c c_int pe_int))) g_nil))))) g_nil))))))))
      (s_cons (s_for wg_var (ps_for (passes_of rfl) rfl (i_list (d_frz (d_lst (pe_lst (a_cons (d_c (c_str (by decide +kernel)) pe_str) (a_cons (d_c (c_str (by decide +kernel)) pe_str) a_nil)))))) (pg_name (i := 7) sc_law_known_right.nd rfl (by first | exact Or.inl rfl | exact Or.inr rfl))
      (s_cons (s_set (ps_set (i := 8) sc_law_known_right.nd rfl (by first | exact Or.inl rfl | exact Or.inr rfl) (d_dm (d_frz (d_call c_nil (pe_callW (okU_shortest_sequence T) (hr.mono (by omega)) rfl T.g_shortest_sequence T.F_shortest_sequence.kp (bd_shortest_sequence T) (fun σ => passAt (takes_of rfl rfl rfl rfl) σ) (g_v (d_frz (d_call c_nil (pe_callW (okU_effect_of T) (hr.mono (by omega)) rfl T.g_effect_of T.F_effect_of.kp (bd_effect_of T) (fun σ => passAt (takes_of rfl rfl rfl rfl) σ) (g_v (d_op p_addS (pe_op op_add_str (d_op p_mulS (pe_op Q.op_mul_str (d_c (c_str (by decide +kernel)) pe_str) (d_var (pv 5)))) (d_var (pv 6)))) (g_v (d_var (pv 1)) (g_v (d_var (pv 7)) g_nil)))))) (g_v (d_var (pv 7)) g_nil))))))))
      (s_one (s_if (ps_if (PW.pt (t_or (pw_or (t_op p_isN (pt_cmpR op_isN (d_var (pv 8)) (d_c c_non pe_non) (nomark _))) (pw_or1 (t_op p_ne (pt_cmpR (op_neD hr.units) (d_n p_lenS (pe_callB call_len_str rfl T.b_len (by decide +kernel) (a_cons (d_var (pv 8)) a_nil))) (d_op p_add (pe_op op_add (d_var (pv 5)) (d_n p_lenS (pe_callB call_len_str rfl T.b_len (by decide +kernel) (a_cons (d_var (pv 6)) a_nil))))) (nomark _)))))))
      (s_one (s_ret (ps_ret (d_dm (d_c c_bl pe_bl)))))
      s_nil))))))
      (s_cons (s_set (ps_set (i := 9) sc_law_known_right.nd rfl (by first | exact Or.inl rfl | exact Or.inr rfl) (d_dm (d_frz (d_call c_nil (pe_callW (okU_law_take T) (hr.mono (by omega)) rfl T.g_law_take T.F_law_take.kp (bd_law_take T) (fun σ => passAt (takes_of rfl rfl rfl rfl) σ) (g_b (pv 0) (g_v (d_op p_add (pe_op op_add (d_var (pv 1)) (d_c c_int pe_int))) g_nil))))))))
      (s_cons (s_set (ps_set (i := 8) sc_law_known_right.nd rfl (by first | exact Or.inl rfl | exact Or.inr rfl) (d_dm (d_frz (d_call c_nil (pe_callW (okU_shortest_sequence T) (hr.mono (by omega)) rfl T.g_shortest_sequence T.F_shortest_sequence.kp (bd_shortest_sequence T) (fun σ => passAt (takes_of rfl rfl rfl rfl) σ) (g_v (d_frz (d_call c_nil (pe_callW (okU_effect_of T) (hr.mono (by omega)) rfl T.g_effect_of T.F_effect_of.kp (bd_effect_of T) (fun σ => passAt (takes_of rfl rfl rfl rfl) σ) (g_v (d_op p_addS (pe_op op_add_str (d_op p_mulS (pe_op Q.op_mul_str (d_c (c_str (by decide +kernel)) pe_str) (d_var (pv 9)))) (d_op p_mulS (pe_op Q.op_mul_str (d_c (c_str (by decide +kernel)) pe_str) (d_var (pv 9)))))) (g_v (d_var (pv 1)) (g_v (d_c (c_str (by decide +kernel)) pe_str) g_nil)))))) (g_v (d_c (c_str (by decide +kernel)) pe_str) g_nil))))))))
      (s_cons (s_if (ps_if (PW.pt (t_or (pw_or (t_op p_isN (pt_cmpR op_isN (d_var (pv 8)) (d_c c_non pe_non) (nomark _))) (t_or (pw_or (t_op p_ne (pt_cmpR (op_neD hr.units) (d_m1 p_count (pe_count (d_var (pv 8)) (d_c (c_str (by decide +kernel)) pe_str))) (d_var (pv 9)) (nomark _))) (pw_or1 (t_op p_ne (pt_cmpR (op_neD hr.units) (d_n p_lenS (pe_callB call_len_str rfl T.b_len (by decide +kernel) (a_cons (d_var (pv 8)) a_nil))) (d_op p_mul (pe_op op_mul (d_c c_int pe_int) (d_var (pv 9)))) (nomark _)))))))))
      (s_one (s_ret (ps_ret (d_dm (d_c c_bl pe_bl)))))
      s_nil))
      (s_cons (s_set (ps_set (i := 10) sc_law_known_right.nd rfl (by first | exact Or.inl rfl | exact Or.inr rfl) (d_dm (d_op p_add (pe_op op_add (d_c c_int pe_int) (d_frz (d_call c_nil (pe_callW (okU_law_take T) (hr.mono (by omega)) rfl T.g_law_take T.F_law_take.kp (bd_law_take T) (fun σ => passAt (takes_of rfl rfl rfl rfl) σ) (g_b (pv 0) (g_v (d_var (pv 1)) g_nil))))))))))
      (s_cons (s_set (ps_set (i := 11) sc_law_known_right.nd rfl (by first | exact Or.inl rfl | exact Or.inr rfl) (d_dm (d_n p_max2 (pe_callB (call_max2 rfl) rfl T.b_max (by decide +kernel) (a_cons (d_op p_sub (pe_op op_sub (d_var (pv 1)) (d_var (pv 10)))) (a_cons (d_frz (d_call c_nil (pe_callW (okU_law_take T) (hr.mono (by omega)) rfl T.g_law_take T.F_law_take.kp (bd_law_take T) (fun σ => passAt (takes_of rfl rfl rfl rfl) σ) (g_b (pv 0) (g_v (d_var (pv 10)) g_nil))))) a_nil)))))))
      (s_cons (s_for wg_var (ps_for (passes_of rfl) rfl (i_list (d_frz (d_lst (pe_lst (a_cons (d_c (c_str (by decide +kernel)) pe_str) (a_cons (d_c (c_str (by decide +kernel)) pe_str) a_nil)))))) (pg_name (i := 7) sc_law_known_right.nd rfl (by first | exact Or.inl rfl | exact Or.inr rfl))
      (s_cons (s_set (ps_set (i := 8) sc_law_known_right.nd rfl (by first | exact Or.inl rfl | exact Or.inr rfl) (d_dm (d_frz (d_call c_nil (pe_callW (okU_shortest_sequence T) (hr.mono (by omega)) rfl T.g_shortest_sequence T.F_shortest_sequence.kp (bd_shortest_sequence T) (fun σ => passAt (takes_of rfl rfl rfl rfl) σ) (g_v (d_frz (d_call c_nil (pe_callW (okU_effect_of T) (hr.mono (by omega)) rfl T.g_effect_of T.F_effect_of.kp (bd_effect_of T) (fun σ => passAt (takes_of rfl rfl rfl rfl) σ) (g_v (d_op p_addS (pe_op op_add_str (d_op p_mulS (pe_op Q.op_mul_str (d_c (c_str (by decide +kernel)) pe_str) (d_var (pv 11)))) (d_op p_mulS (pe_op Q.op_mul_str (d_c (c_str (by decide +kernel)) pe_str) (d_var (pv 10)))))) (g_v (d_var (pv 1)) (g_v (d_var (pv 7)) g_nil)))))) (g_v (d_var (pv 7)) g_nil))))))))
      (s_cons (s_if (ps_if (PW.pt (t_and (pw_and (t_op p_lt (pt_cmpR op_lt (d_var (pv 11)) (d_var (pv 10)) (nomark _))) (pw_and1 (t_op p_ne (pt_cmpR (op_neD hr.units) (d_n p_lenS (pe_callB call_len_str rfl T.b_len (by decide +kernel) (a_cons (d_orT (OrT.pe_orT (d_var (pv 8)) (pe_one (d_c (c_str (by decide +kernel)) pe_str)))) a_nil))) (d_op p_add (pe_op op_add (d_var (pv 11)) (d_var (pv 10)))) (nomark _)))))))
      (s_one (s_ret (ps_ret (d_dm (d_c c_bl pe_bl)))))
      s_nil))
      (s_one (s_if (ps_if (t_op p_ne (pt_cmpR (op_neD hr.units) (d_n p_lenS (pe_callB call_len_str rfl T.b_len (by decide +kernel) (a_cons (d_frz (d_call c_nil (pe_callW (okU_shortest_sequence T) (hr.mono (by omega)) rfl T.g_shortest_sequence T.F_shortest_sequence.kp (bd_shortest_sequence T) (fun σ => passAt (takes_of rfl rfl rfl rfl) σ) (g_v (d_frz (d_cmeth c_nil (ClX.pe_cmethSD (pe_gc (v := .ref _) rfl ⟨_, T.g_Effect, rfl⟩) T.cr_Effect T.cm_Effect_failing (okU_Effect_failing T) (hr.mono (by omega)) (bd_Effect_failing T) (fun σ => passAt (takes_of rfl rfl rfl rfl) σ) (g_v (d_var (pv 1)) g_nil)))) (g_v (d_var (pv 7)) g_nil))))) a_nil))) (d_op p_add (pe_op op_add (d_var (pv 1)) (d_c c_int pe_int))) (nomark _)))
      (s_one (s_ret (ps_ret (d_dm (d_c c_bl pe_bl)))))
      s_nil)))))))
      (s_one (s_ret (ps_ret (d_dm (d_op p_eq (pe_cmpR (op_eqD hr.units) (d_frz (d_call c_nil (pe_callW (okU_shortest_sequence T) (hr.mono (by omega)) rfl T.g_shortest_sequence T.F_shortest_sequence.kp (bd_shortest_sequence T) (fun σ => passAt (takes_of rfl rfl rfl rfl) σ) (g_v (d_frz (d_cmeth c_nil (ClX.pe_cmethSD (pe_gc (v := .ref _) rfl ⟨_, T.g_Effect, rfl⟩) T.cr_Effect T.cm_Effect_identity (okU_Effect_identity T) (hr.mono (by omega)) (bd_Effect_identity T) (fun σ => passAt (takes_of rfl rfl rfl rfl) σ) (g_v (d_var (pv 1)) g_nil)))) (g_v (d_c (c_str (by decide +kernel)) pe_str) g_nil))))) (d_c (c_str (by decide +kernel)) pe_str) (nomark _))))))))))))))))))))
theorem okU_law_steps (T : Txt K mg) : FnOk P w K mg base (L2.CX P w) 2 (He.ga K "_law_steps") (fdA K (He.ga K "_law_steps")) ["_law_pool_here", "_law_most", "_law_letters"] (spD K fn_law_steps) :=
  fn_ok (b := body_law_steps) T.F_law_steps sc_law_steps rfl rfl (fun cdv A outer s H E B hr => (s_cons (s_set (ps_set (i := 3) sc_law_steps.nd rfl (by first | exact Or.inl rfl | exact Or.inr rfl) (d_dm (d_c (c_str (by decide +kernel)) pe_str))))
      (s_cons (s_for wg_var (ps_for (passes_of rfl) rfl (i_rng1 len1 (pi_range1 rfl T.b_range (a_cons (d_frz (d_call c_nil (pe_callW (okU_law_take T) (hr.mono (by omega)) rfl T.g_law_take T.F_law_take.kp (bd_law_take T) (fun σ => passAt (takes_of rfl rfl rfl rfl) σ) (g_b (pv 0) (g_v (d_op p_add (pe_op op_add (d_var (pv 1)) (d_c c_int pe_int))) g_nil))))) a_nil))) (pg_name (i := 4) sc_law_steps.nd rfl (by first | exact Or.inl rfl | exact Or.inr rfl))
      (s_one (s_set (ps_set (i := 3) sc_law_steps.nd rfl (by first | exact Or.inl rfl | exact Or.inr rfl) (d_dm (d_op p_addS (pe_op op_add_str (d_var (pv 3)) (d_op p_ixS (pe_ix ix_str (d_op p_addS (pe_op op_add_str (d_var (pv 2)) (d_c (c_str (by decide +kernel)) pe_str))) (d_frz (d_call c_nil (pe_callW (okU_law_take T) (hr.mono (by omega)) rfl T.g_law_take T.F_law_take.kp (bd_law_take T) (fun σ => passAt (takes_of rfl rfl rfl rfl) σ) (g_b (pv 0) (g_v (d_op p_add (pe_op op_add (d_n p_lenS (pe_callB call_len_str rfl T.b_len (by decide +kernel) (a_cons (d_var (pv 2)) a_nil))) (d_c c_int pe_int))) g_nil))))) (fun _ _ => rfl)))))))))))
      (s_one (s_ret (ps_ret (d_dm (d_var (pv 3)))))))))
theorem okU_law (T : Txt K mg) : FnOk P w K mg base (L2.CX P w) 28 (He.ga K "law") (fdA K (He.ga K "law")) ["_law_script"] (spD K fn_law) :=
  fn_ok (b := body_law) T.F_law sc_law rfl rfl (fun cdv A outer s H E B hr => (s_cons (s_for wg_var (ps_for (passes_of rfl) rfl (i_rng1 len1 (pi_range1 rfl T.b_range (a_cons (d_n p_max2 (pe_callB (call_max2 rfl) rfl T.b_max (by decide +kernel) (a_cons (d_c c_int pe_int) (a_cons (d_n p_min2 (pe_callB (call_min2 rfl) rfl T.b_min (by decide +kernel) (a_cons (d_c c_int pe_int) (a_cons (d_n p_lenScr (pe_callB call_len_seq rfl T.b_len (by decide +kernel) (a_cons (d_var (pv 0)) a_nil))) a_nil)))) a_nil)))) a_nil))) (pg_name (i := 1) sc_law.nd rfl (by first | exact Or.inl rfl | exact Or.inr rfl))
      (s_cons (s_set (ps_set (i := 2) sc_law.nd rfl (by first | exact Or.inl rfl | exact Or.inr rfl) (d_call c_nil (pe_callW (okU_law_pool T) (hr.mono (by omega)) rfl T.g_law_pool T.F_law_pool.kp (bd_law_pool T) (fun σ => passAt (takes_of rfl rfl rfl rfl) σ) (g_v (d_var (pv 0)) (g_v (d_var (pv 1)) g_nil))))))
      (s_cons (s_set (ps_set (i := 3) sc_law.nd rfl (by first | exact Or.inl rfl | exact Or.inr rfl) (d_dm (d_op p_add (pe_op op_add (d_c c_int pe_int) (d_frz (d_call c_nil (pe_callW (okU_law_take T) (hr.mono (by omega)) rfl T.g_law_take T.F_law_take.kp (bd_law_take T) (fun σ => passAt (takes_of rfl rfl rfl rfl) σ) (g_b (pv 2) (g_v (d_op p_ixL (pe_ix ix_list (d_frz (d_lst (pe_lst (a_cons (d_c c_int pe_int) (a_cons (d_c c_int pe_int) (a_cons (d_c c_int pe_int) a_nil)))))) (d_frz (d_call c_nil (pe_callW (okU_law_take T) (hr.mono (by omega)) rfl T.g_law_take T.F_law_take.kp (bd_law_take T) (fun σ => passAt (takes_of rfl rfl rfl rfl) σ) (g_b (pv 2) (g_v (d_c c_int pe_int) g_nil))))) (fun _ _ => rfl))) g_nil))))))))))
      (s_cons (s_if (ps_if (t_not (pt_not (t_valB (pt_val (d_frz (d_call c_nil (pe_callW (okU_law_known_right T) (hr.mono (by omega)) rfl T.g_law_known_right T.F_law_known_right.kp (bd_law_known_right T) (fun σ => passAt (takes_of rfl rfl rfl rfl) σ) (g_b (pv 2) (g_v (d_var (pv 3)) g_nil)))))))))
      (s_one (s_ret (ps_ret (d_dm (d_c c_bl pe_bl)))))
      s_nil))
      (s_cons (s_par2 (ps_par (i := 4) (j := 5) (by rfl) sc_law.nd rfl rfl (by decide) rfl rfl (a_cons (d_frz (d_call c_nil (pe_callW (okU_law_steps T) (hr.mono (by omega)) rfl T.g_law_steps T.F_law_steps.kp (bd_law_steps T) (fun σ => passAt (takes_of rfl rfl rfl rfl) σ) (g_b (pv 2) (g_v (d_c c_int pe_int) (g_v (d_c (c_str (by decide +kernel)) pe_str) g_nil)))))) (a_cons (d_op p_ixL (pe_ix ix_list (d_frz (d_lst (pe_lst (a_cons (d_c (c_str (by decide +kernel)) pe_str) (a_cons (d_c (c_str (by decide +kernel)) pe_str) a_nil))))) (d_frz (d_call c_nil (pe_callW (okU_law_take T) (hr.mono (by omega)) rfl T.g_law_take T.F_law_take.kp (bd_law_take T) (fun σ => passAt (takes_of rfl rfl rfl rfl) σ) (g_b (pv 2) (g_v (d_c c_int pe_int) g_nil))))) (fun _ _ => rfl))) a_nil)) (by first | rfl | kernel_rfl)))
      (s_cons (s_set (ps_set (i := 6) sc_law.nd rfl (by first | exact Or.inl rfl | exact Or.inr rfl) (d_dm (d_frz (d_call c_nil (pe_callW (okU_effect_of T) (hr.mono (by omega)) rfl T.g_effect_of T.F_effect_of.kp (bd_effect_of T) (fun σ => passAt (takes_of rfl rfl rfl rfl) σ) (g_v (d_var (pv 4)) (g_v (d_n p_min2 (pe_callB (call_min2 rfl) rfl T.b_min (by decide +kernel) (a_cons (d_var (pv 3)) (a_cons (d_c c_int pe_int) a_nil)))) (g_v (d_var (pv 5)) g_nil)))))))))
      (s_cons (s_set (ps_set (i := 7) sc_law.nd rfl (by first | exact Or.inl rfl | exact Or.inr rfl) (d_dm (d_frz (d_call c_nil (pe_callW (okU_shortest_sequence T) (hr.mono (by omega)) rfl T.g_shortest_sequence T.F_shortest_sequence.kp (bd_shortest_sequence T) (fun σ => passAt (takes_of rfl rfl rfl rfl) σ) (g_v (d_var (pv 6)) (g_v (d_var (pv 5)) g_nil))))))))
      (s_cons (s_if (ps_if (PW.pt (t_or (pw_or (t_op p_isN (pt_cmpR op_isN (d_var (pv 7)) (d_c c_non pe_non) (nomark _))) (pw_or1 (t_op p_gt (pt_cmpR op_gt (d_n p_lenS (pe_callB call_len_str rfl T.b_len (by decide +kernel) (a_cons (d_var (pv 7)) a_nil))) (d_n p_lenS (pe_callB call_len_str rfl T.b_len (by decide +kernel) (a_cons (d_var (pv 4)) a_nil))) (nomark _)))))))
      (s_one (s_ret (ps_ret (d_dm (d_c c_bl pe_bl)))))
      s_nil))
      (s_cons (s_if (ps_if (t_not (pt_not (t_opD p_eqC (pt_cmpR (op_own2 (okU_Effect_eq T) T.d_Effect_eq.1 T.d_Effect_eq.2 (bd_Effect_eq T) (hr.mono (by omega))) (d_frz (d_call c_nil (pe_callW (okU_effect_of T) (hr.mono (by omega)) rfl T.g_effect_of T.F_effect_of.kp (bd_effect_of T) (fun σ => passAt (takes_of rfl rfl rfl rfl) σ) (g_v (d_var (pv 7)) (g_v (d_prop (pe_propU (d_var (pv 6)) T.k_Effect T.p_Effect_capacity (okU_Effect_capacity T) (hr.mono (by omega)) (bd_Effect_capacity T) rfl)) (g_v (d_var (pv 5)) g_nil)))))) (d_var (pv 6)) (nomark _)))))
      (s_one (s_ret (ps_ret (d_dm (d_c c_bl pe_bl)))))
      s_nil))
      (s_cons (s_set (ps_set (i := 8) sc_law.nd rfl (by first | exact Or.inl rfl | exact Or.inr rfl) (d_dm (d_op p_addS (pe_op op_add_str (d_op p_addS (pe_op op_add_str (d_op p_addS (pe_op op_add_str (d_op p_addS (pe_op op_add_str (d_c (c_str (by decide +kernel)) pe_str) (d_sl p_slS (pe_slice sl_str (d_var (pv 4)) d_po0 (d_po (d_c c_int pe_int)))))) (d_c (c_str (by decide +kernel)) pe_str))) (d_n p_strI (pe_callTy call_str_int rfl T.b_str (by decide +kernel) (a_cons (d_frz (d_call c_nil (pe_callW (okU_law_take T) (hr.mono (by omega)) rfl T.g_law_take T.F_law_take.kp (bd_law_take T) (fun σ => passAt (takes_of rfl rfl rfl rfl) σ) (g_b (pv 2) (g_v (d_op p_pow (pe_op op_pow (d_c c_int pe_int) (d_c c_int pe_int))) g_nil))))) a_nil))))) (d_sl p_slS (pe_slice sl_str (d_var (pv 4)) (d_po (d_c c_int pe_int)) (d_po (d_c c_int pe_int)))))))))
      (s_cons (s_set (ps_set (i := 6) sc_law.nd rfl (by first | exact Or.inl rfl | exact Or.inr rfl) (d_dm (d_frz (d_call c_nil (pe_callW (okU_effect_of T) (hr.mono (by omega)) rfl T.g_effect_of T.F_effect_of.kp (bd_effect_of T) (fun σ => passAt (takes_of rfl rfl rfl rfl) σ) (g_v (d_var (pv 8)) (g_v (d_n p_min2 (pe_callB (call_min2 rfl) rfl T.b_min (by decide +kernel) (a_cons (d_var (pv 3)) (a_cons (d_c c_int pe_int) a_nil)))) (g_v (d_var (pv 5)) g_nil)))))))))
      (s_cons (s_set (ps_set (i := 7) sc_law.nd rfl (by first | exact Or.inl rfl | exact Or.inr rfl) (d_dm (d_frz (d_call c_nil (pe_callW (okU_shortest_sequence T) (hr.mono (by omega)) rfl T.g_shortest_sequence T.F_shortest_sequence.kp (bd_shortest_sequence T) (fun σ => passAt (takes_of rfl rfl rfl rfl) σ) (g_v (d_var (pv 6)) (g_v (d_var (pv 5)) g_nil))))))))
      (s_cons (s_if (ps_if (PW.pt (t_or (pw_or (t_op p_isN (pt_cmpR op_isN (d_var (pv 7)) (d_c c_non pe_non) (nomark _))) (pw_or1 (t_not (pt_not (t_opD p_eqC (pt_cmpR (op_own2 (okU_Effect_eq T) T.d_Effect_eq.1 T.d_Effect_eq.2 (bd_Effect_eq T) (hr.mono (by omega))) (d_frz (d_call c_nil (pe_callW (okU_effect_of T) (hr.mono (by omega)) rfl T.g_effect_of T.F_effect_of.kp (bd_effect_of T) (fun σ => passAt (takes_of rfl rfl rfl rfl) σ) (g_v (d_var (pv 7)) (g_v (d_prop (pe_propU (d_var (pv 6)) T.k_Effect T.p_Effect_capacity (okU_Effect_capacity T) (hr.mono (by omega)) (bd_Effect_capacity T) rfl)) (g_v (d_var (pv 5)) g_nil)))))) (d_var (pv 6)) (nomark _)))))))))
      (s_one (s_ret (ps_ret (d_dm (d_c c_bl pe_bl)))))
      s_nil))
      (s_one (s_if (ps_if (t_op p_ne (pt_cmpR (op_neD hr.units) (d_n p_lenS (pe_callB call_len_str rfl T.b_len (by decide +kernel) (a_cons (d_frz (d_call c_nil (pe_callW (okU_shortest_sequence T) (hr.mono (by omega)) rfl T.g_shortest_sequence T.F_shortest_sequence.kp (bd_shortest_sequence T) (fun σ => passAt (takes_of rfl rfl rfl rfl) σ) (g_v (d_frz (d_call c_nil (pe_callW (okU_effect_of T) (hr.mono (by omega)) rfl T.g_effect_of T.F_effect_of.kp (bd_effect_of T) (fun σ => passAt (takes_of rfl rfl rfl rfl) σ) (g_v (d_var (pv 7)) (g_v (d_prop (pe_propU (d_var (pv 6)) T.k_Effect T.p_Effect_capacity (okU_Effect_capacity T) (hr.mono (by omega)) (bd_Effect_capacity T) rfl)) (g_v (d_var (pv 5)) g_nil)))))) (g_v (d_var (pv 5)) g_nil))))) a_nil))) (d_n p_lenS (pe_callB call_len_str rfl T.b_len (by decide +kernel) (a_cons (d_var (pv 7)) a_nil))) (nomark _)))
      (s_one (s_ret (ps_ret (d_dm (d_c c_bl pe_bl)))))
      s_nil)))))))))))))))))
      (s_one (s_ret (ps_ret (d_dm (d_c c_bl pe_bl)))))))
end Q
open PySem PySem.W PySem.Calls PyProof.Rows
theorem PySem.Challenge.cw_fullqueue_k47_shortest_of_long_effects_holds : PySem.Challenge.rw_fullqueue_k47_shortest_of_long_effects.Holds := by
  w_on; o_law
  refine HandSHeadRun.head_any (r := OpenLaw.row PySem.Challenge.rw_fullqueue_k47_shortest_of_long_effects) (q := view (OpenLaw.row PySem.Challenge.rw_fullqueue_k47_shortest_of_long_effects).prog [66]) (H := Q.hk) (ob := Q.ob) (M := 20000) (loose := Q.loose) (d := HandSHeadRun.topDef (OpenLaw.row PySem.Challenge.rw_fullqueue_k47_shortest_of_long_effects).prog 66) (kwd := []) Q.ob_eq
    (by kernel_rfl) (fun s => by kernel_rfl) Q.run (by kernel_rfl) (by kernel_rfl) (by kernel_rfl) (by rfl) (by first | assumption | decide +kernel) (by decide +kernel) ⟨rfl, rfl, rfl, rfl, rfl, by decide +kernel⟩ ?hw ?hc
  case hw => w_witness2
  case hc =>
    refine L2.walk_ofE (l := PySem.Challenge.rw_fullqueue_k47_shortest_of_long_effects) (n := 63) (k := 28) (x := "_law_script") (CX := U.CXa) rfl (by decide) (by kernel_rfl) ⟨rfl, by decide, by decide⟩ ?F U.cxa_end
    intro w mg fa h Y G hmg0
    obtain ⟨K, KX, c⟩ := Y
    have hmg : mg ("law" : PySem.Str) = some (.ref fa) := by
      have e : (HandSHeadRun.topDef (OpenLaw.row PySem.Challenge.rw_fullqueue_k47_shortest_of_long_effects).prog 66).name = ("law" : PySem.Str) := by kernel_rfl
      rw [← e]
      exact hmg0
    have T : Q.Txt K mg := Q.txt_of KX G c
    have e := hmg.symm.trans T.g_law
    cases e
    exact ⟨K, _, U.spD K U.fn_law, KX, fun s v => T.F_law.bindsA (ps := ["_law_script"]) (fun _ _ _ _ _ _ us hl => match us, hl with | [_], _ => rfl) s [v] rfl, fun H a ns hl _ hS => U.law_sp U.law_holds H a ns hl hS, fun base _ _ => U.fn_a (Q.okU_law T)⟩
