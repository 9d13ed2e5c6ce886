import PyProof.Rows.All
import Wide.All
import OpenK.AllK
import Wide.FinOn
import KE.KStateDown
import Lean
import HandS.ForMost
import HandS.Exc
import HandS.ExcOwn
import HandS.TryOnly
import HandS.WordsExc
import HandS.Defaults
import HandS.Codes
import HandS.CallSlots
import HandS.IsInst
import HandS.Flow
import HandS.Walk
import HandS.Wide
import HandS.FStr
import HandS.Flt
import HandS.Style
import KE.IntTextLaws
import KE.KExcInit
import HandS.HeadEnd
import HandS.Head0
import HandS.Head1
import HandS.Head2
import HandS.HeadHook1
import HandS.HeadHook2
import HandS.HeadNt
import PyProof.ToksMono
import HandS.ExcValue
import HandS.ExcField
import HandS.Zip0
import HandS.Property
import HandS.ClsMeth
import HandS.TupAny
import HandS.Conv
import HandS.TupMul
import HandS.StrMore
import HandS.ReplaceList
import HandS.NoneIn
import HandS.Zip
import HandS.ExcInit
import HandS.Deep
import HandS.Small
import HandS.MakeKw
import HandS.Lambda
import HandS.ExcIs
import HandS.SuiteRaise
import HandS.RaiseFrom
import HandS.RaiseMore
import HandS.SortInts
import HandS.DictComp
import HandS.SetKeys
import HandS.Strs
import HandS.GenOver
import HandS.GenBody
import HandS.GenYield
import HandS.GenCall
import HandS.GenList
import HandS.Star
import HandS.MethStar
import HandS.ReplaceLit
import HandS.CallRecv
import HandS.StrSplit
import HandS.OwnEq
import PySem.Challenge.RW_fullqueue_k02_errors_and_fields
set_option Elab.async false
set_option linter.all false
set_option maxRecDepth 100000
set_option maxHeartbeats 4000000
set_option pp.deepTerms true
set_option pp.maxSteps 200000
namespace Q
open PySem PySem.Spec PyProof.Rows L2
abbrev St := L2.St
noncomputable def fdA (K : PySem.W.Frag) (a : Addr) : FuncData := match K.lookup a with
  | some ⟨_, _, .func fd, _⟩ => fd
  | _ => PySem.W.fnOf "" "" { posonlyargs := [], args := [], vararg := none, kwonlyargs := [], kw_defaults := [], kwarg := none, defaults := [] } [] { kind := .function, names := [], isGenerator := false, isCoroutine := false, more := [] } .none .none .none .none none .none .none
theorem funD_fdA {K : PySem.W.Frag} {x qual : Str} {params : Arguments} {body : List Stmt} {scope : Scope} {dvs : List V} {kws : List (Str × V)} {f : Addr}
    (h : ∃ fd, FunD K x qual params body scope dvs kws f fd) : FunD K x qual params body scope dvs kws f (fdA K f) := by
  obtain ⟨fd, F⟩ := h
  obtain ⟨oc, od, dV, kV, doc, pm, an, cdv, ct, osl, e, lk, r⟩ := F.ex
  have q : fdA K f = fd := by unfold fdA; rw [lk]
  rw [q]; exact F
def obsM (ex : List (PySem.W.Frag → Bool)) (fn : List He5.DefA) (K : PySem.W.Frag) : He.AlD := ((ex.all fun f => f K) && fn.all fun d => d.ok K, fn.map fun d => He5.fnA K (d.at_ K))
def valM (fn : List He5.DefA) : He.AlD := (true, fn.map He5.DefA.val)
def SaysM (ex : List (PySem.W.Frag → Bool)) (fn : List He5.DefA) (K : PySem.W.Frag) : Prop := obsM ex fn K = valM fn
def obsMG (n : Nat) (ex : List (PySem.W.Frag → Bool)) (fn : List He5.DefA) (g : Addr → Option Obj) : He.AlD := obsM ex fn (He.frG g (He5.asA g n))
def hookM (n : Nat) (ex : List (PySem.W.Frag → Bool)) (fn : List He5.DefA) : PySem.W.Hook where
  α := He.AlD
  obs := fun s => obsMG n ex fn s.heap.get?
  val := fun _ => valM fn
  says := fun _ h => ∃ K : PySem.W.Frag, K.In h ∧ SaysM ex fn K
  of := fun _ _ e => ⟨_, He.frG_in, e⟩
  keeps := fun _ _ _ ⟨K, hK, c⟩ k => ⟨K, PySem.W.Frag.In.keeps hK k, c⟩
section
variable {ex : List (PySem.W.Frag → Bool)} {fn : List He5.DefA} {K : PySem.W.Frag}
theorem SaysM.fact (c : SaysM ex fn K) (i : Nat) {f : PySem.W.Frag → Bool} (h : ex[i]? = some f := by rfl) : f K = true := by
  have c1 := (He.ba (show ((ex.all fun f => f K) && fn.all fun d => d.ok K) = true from congrArg (fun z : He.AlD => z.1) c)).1
  exact List.all_eq_true.mp c1 f (List.mem_of_getElem? h)
theorem SaysM.def_ (c : SaysM ex fn K) (i : Nat) {d : He5.DefA} (h : fn[i]? = some d := by rfl) : FunD K d.name d.qual d.params d.body d.scope (d.dvs K) (d.kws K) (d.at_ K) (fdA K (d.at_ K)) := by
  have c2 := (He.ba (show ((ex.all fun f => f K) && fn.all fun d => d.ok K) = true from congrArg (fun z : He.AlD => z.1) c)).2
  have e : fn.map (fun d => He5.fnA K (d.at_ K)) = fn.map He5.DefA.val := congrArg (fun z : He.AlD => z.2) c
  have e2 : (fn.map fun d => He5.fnA K (d.at_ K))[i]? = (fn.map He5.DefA.val)[i]? := by rw [e]
  rw [List.getElem?_map, List.getElem?_map, h] at e2
  exact funD_fdA (He5.DefA.funD (Option.some.inj e2) (List.all_eq_true.mp c2 d (List.mem_of_getElem? h)))
end
structure ExcF (K : PySem.W.Frag) (C : Addr) (bm : List Value) (newId : String) : Prop where
  x : PySem.W.excIn K C bm newId = true
  k : PySem.W.keepIn K (.ref C) = true
  b : PySem.W.subIn K (.ref C) (.type "BaseException") = some true
  t : PySem.W.typeIn K (.ref C) = some (.type "type")
def excB (x : Str) (bm : List Value) (newId : String) (K : PySem.W.Frag) : Bool := PySem.W.excIn K (He.ga K x) bm newId && (PySem.W.keepIn K (.ref (He.ga K x)) && (decide (PySem.W.subIn K (.ref (He.ga K x)) (.type "BaseException") = some true) && decide (PySem.W.typeIn K (.ref (He.ga K x)) = some (.type "type"))))
theorem excB_ok {K : PySem.W.Frag} {x : Str} {bm : List Value} {newId : String} (h : excB x bm newId K = true) : ExcF K (He.ga K x) bm newId := by
  obtain ⟨c1, c⟩ := He.ba h
  obtain ⟨c2, c⟩ := He.ba c
  obtain ⟨c3, c4⟩ := He.ba c
  exact ⟨c1, c2, of_decide_eq_true c3, of_decide_eq_true c4⟩
section
variable {X : Cx} {CX : CXT} {k : Nat} {f : Addr} {fd : FuncData} {ps : List Str} {sp : Sp} {E : XK} {x : Str} {p pos : Pos} {e : Expr} {es : List Expr} {t : TA} {dvs : List V}
end
theorem pe_gc {X : Cx} {x : Str} {v : V} {pos : Pos} (hg : Gl X x) (h : ∃ u, X.mg x = some u ∧ RelV v u) (hd : (x == ("__debug__" : Str)) = false := by decide) : PE X (.Name x pos) (tC v) := by
  obtain ⟨u, h1, h2⟩ := h
  exact pe_glob hg h1 h2 hd
def isStrV : V → Bool
  | .str _ => true
  | _ => false
def isBlV : V → Bool
  | .bl _ => true
  | _ => false
def isIntV : V → Bool
  | .int _ => true
  | .bl _ => true
  | _ => false
structure AnyV (K : PySem.W.Frag) (H : Hp) (v : V) : Prop where
  ty : ∃ t, TyX K H v t ∧ PySem.W.kitOne K t (.type "str") = some (isStrV v) ∧ PySem.W.kitOne K t (.type "int") = some (isIntV v) ∧ PySem.W.kitOne K t (.type "bool") = some (isBlV v)
section
variable {K : PySem.W.Frag} {H : Hp}
theorem AnyV.non : AnyV K H .non := ⟨_, .base .non, kit_ty (by decide +kernel), kit_ty (by decide +kernel), kit_ty (by decide +kernel)⟩
theorem AnyV.bl {b : Bool} : AnyV K H (.bl b) := ⟨_, .base (.bl b), kit_ty (show kitB "bool" "str" = some false by decide +kernel), kit_ty (show kitB "bool" "int" = some true by decide +kernel), kit_ty (show kitB "bool" "bool" = some true by decide +kernel)⟩
theorem AnyV.int {i : Int} : AnyV K H (.int i) := ⟨_, .base (.int i), kit_ty (show kitB "int" "str" = some false by decide +kernel), kit_ty (show kitB "int" "int" = some true by decide +kernel), kit_ty (show kitB "int" "bool" = some false by decide +kernel)⟩
theorem AnyV.str {z : Str} : AnyV K H (.str z) := ⟨_, .base (.str z), kit_ty (show kitB "str" "str" = some true by decide +kernel), kit_ty (show kitB "str" "int" = some false by decide +kernel), kit_ty (show kitB "str" "bool" = some false by decide +kernel)⟩
theorem AnyV.lst {a : Addr} {xs : List V} (h : H a = some (.lst xs)) : AnyV K H (.ref a) := ⟨_, .base (.lst h), kit_ty (show kitB "list" "str" = some false by decide +kernel), kit_ty (show kitB "list" "int" = some false by decide +kernel), kit_ty (show kitB "list" "bool" = some false by decide +kernel)⟩
theorem AnyV.tup {a : Addr} {xs : List V} (h : H a = some (.tup xs)) : AnyV K H (.ref a) := ⟨_, .base (.tup h), kit_ty (show kitB "tuple" "str" = some false by decide +kernel), kit_ty (show kitB "tuple" "int" = some false by decide +kernel), kit_ty (show kitB "tuple" "bool" = some false by decide +kernel)⟩
theorem AnyV.dK {a : Addr} {xs : List (Key × V)} (h : H a = some (.dK xs)) : AnyV K H (.ref a) := ⟨_, .base (.dK h), kit_ty (show kitB "dict" "str" = some false by decide +kernel), kit_ty (show kitB "dict" "int" = some false by decide +kernel), kit_ty (show kitB "dict" "bool" = some false by decide +kernel)⟩
end
theorem Same.upd {H : Hp} {p : Addr} {o : HO} (h : H p = none) : Same H (L2.upd H p o) := fun b u q => by
  rw [upd_ne (ne_of_none q h)]; exact q
theorem kp {H : Hp} {a p : Addr} {o u : HO} (h : H a = some o) (n : H p = none) : L2.upd H p u a = some o := by rw [upd_ne (ne_of_none h n)]; exact h
theorem TyOf.mono {K : PySem.W.Frag} {H H' : Hp} {v : V} {t : Value} (s : Same H H') (h : TyOf K H v t) : TyOf K H' v t := by
  cases h with
  | non => exact .non
  | bl x => exact .bl x
  | int i => exact .int i
  | str x => exact .str x
  | flt x => exact .flt x
  | lst e => exact .lst (s _ _ e)
  | frz e => exact .frz (s _ _ e)
  | tup e => exact .tup (s _ _ e)
  | dK e => exact .dK (s _ _ e)
  | dT e => exact .dT (s _ _ e)
  | ins e cl ha hn htk hm => exact .ins (s _ _ e) cl ha hn htk hm
theorem TyX.mono {K : PySem.W.Frag} {H H' : Hp} {v : V} {t : Value} (s : Same H H') (h : TyX K H v t) : TyX K H' v t := by
  cases h with
  | base b => exact .base (TyOf.mono s b)
  | byt b => exact .byt b
  | set e => exact .set (s _ _ e)
  | kList e c => exact .kList e c
  | kTuple e c => exact .kTuple e c
  | kDict e c => exact .kDict e c
  | fTuple e => exact .fTuple (s _ _ e)
  | fDict e => exact .fDict (s _ _ e)
theorem AnyV.mono {K : PySem.W.Frag} {H H' : Hp} {v : V} (s : Same H H') (h : AnyV K H v) : AnyV K H' v := by
  obtain ⟨t, h1, h2⟩ := h.ty
  exact ⟨t, TyX.mono s h1, h2⟩
theorem scal_ii (i j : Int) : scal (.int i) (.int j) = true := rfl
theorem scal_ss (i j : Str) : scal (.str i) (.str j) = true := rfl
theorem scal_bb (i j : Bool) : scal (.bl i) (.bl j) = true := rfl
def LoopOk (J : It) (g : TG) (tb : TS) (D : Ends) (σ : St) (H1 : Hp) : Prop := ∃ W : Nat → Nat → St → Hp → Prop, (∃ m, W 0 m σ H1) ∧ ∀ i m σ H, W i m σ H →
  (J.stop i H ∧ D.nx σ H) ∨ (J.go i H ∧ ∃ N : St → Hp → Prop, (∀ σ' H', N σ' H' → ∃ m', m' < m ∧ W (i + 1) m' σ' H') ∧ ∀ x H', J.yld i H x H' → g x σ H' fun σ2 H2 => tb { D with nx := N, ct := N, bk := D.nx } σ2 H2)
theorem tFor_eq (wi : TI) (g : TG) (tb : TS) (D : Ends) (σ : St) (H : Hp) : tFor wi g tb D σ H = wi σ H fun J H1 => LoopOk J g tb D σ H1 := rfl
theorem LoopOk.walk {J : It} {n : Nat} {G : Hp → Prop} {Y : Nat → Hp → V → Hp → Prop} {g : TG} {tb : TS} {D : Ends} {σ : St} {H : Hp} (w : Walk J n G Y) (Pv : Nat → St → Hp → Prop) (h0 : Pv 0 σ H) (hG : ∀ i σ H, i ≤ n → Pv i σ H → G H)
    (hs : ∀ i x σ H H', i < n → Pv i σ H → Y i H x H' → g x σ H' fun σ2 H2 => tb { D with nx := Pv (i + 1), ct := Pv (i + 1), bk := D.nx } σ2 H2) (hd : ∀ σ H, Pv n σ H → D.nx σ H) : LoopOk J g tb D σ H :=
  for_it w Pv h0 hG hs hd
def LcOk (J : It) (g : TG) (tt : TT) (te : TE) (vs : List Nat) (σ : St) (H1 : Hp) (D : Addr) (Q : VK) : Prop := ∃ W : Nat → Nat → Hp → Prop, (∃ m, W 0 m (upd H1 D (.lst []))) ∧ ∀ i m H, W i m H →
  (J.stop i H ∧ Q (.ref D) H) ∨ (J.go i H ∧ ∃ Nx : Hp → Prop, (∀ H', Nx H' → ∃ m', m' < m ∧ W (i + 1) m' H') ∧ ∀ x H', J.yld i H x H' → g x (wipe σ vs) H' fun σ2 H2 => wipe σ2 vs = wipe σ vs ∧ tt σ2 H2 fun b H3 =>
    if b = true then te σ2 H3 fun y H4 => ∃ acc, H4 D = some (.lst acc) ∧ acc.length < sizeLine ∧ Nx (upd H4 D (.lst (acc ++ [y]))) else Nx H3)
theorem tLc_eq (wi : TI) (g : TG) (tt : TT) (te : TE) (vs : List Nat) (σ : St) (H : Hp) (Q : VK) : tLc wi g tt te vs σ H Q = wi σ H fun J H1 => ∀ D, H1 D = none → LcOk J g tt te vs σ H1 D Q := rfl
theorem LcOk.walk {J : It} {n : Nat} {G : Hp → Prop} {Y : Nat → Hp → V → Hp → Prop} {g : TG} {tt : TT} {te : TE} {vs : List Nat} {σ : St} {H1 : Hp} {D : Addr} {Q : VK} (w : Walk J n G Y) (Pv : Nat → Hp → Prop) (h0 : Pv 0 (upd H1 D (.lst []))) (hG : ∀ i H, i ≤ n → Pv i H → G H)
    (hs : ∀ i x H H', i < n → Pv i H → Y i H x H' → g x (wipe σ vs) H' fun σ2 H2 => wipe σ2 vs = wipe σ vs ∧ tt σ2 H2 fun b H3 =>
      if b = true then te σ2 H3 fun y H4 => ∃ acc, H4 D = some (.lst acc) ∧ acc.length < sizeLine ∧ Pv (i + 1) (upd H4 D (.lst (acc ++ [y]))) else Pv (i + 1) H3) (hd : ∀ H, Pv n H → Q (.ref D) H) : LcOk J g tt te vs σ H1 D Q :=
  lc_it w Pv h0 hG hs hd
theorem Paired.snoc {α β : Type} {F : α → β → Prop} {a : α} {b : β} : ∀ {l : List α} {m : List β}, Paired F l m → F a b → Paired F (l ++ [a]) (m ++ [b])
  | _, _, .nil, h => .cons h .nil
  | _, _, .cons r t, h => .cons r (Paired.snoc t h)
theorem LcOk.rep {δ : Type} {J : It} {n : Nat} {G : Hp → Prop} {Y : Nat → Hp → V → Hp → Prop} {g : TG} {te : TE} {vs : List Nat} {σ : St} {H1 : Hp} {D : Addr} {Q : VK} (w : Walk J n G Y) (hD : H1 D = none) (ds : List δ) (Rp : Hp → V → δ → Prop) (hn : ds.length = n) (hsz : n ≤ sizeLine)
    (mono : ∀ H H' v d, (∃ acc, H D = some (.lst acc)) → (∀ b o, H b = some o → b ≠ D → H' b = some o) → Rp H v d → Rp H' v d) (hG : ∀ H, Same H1 H → G H)
    (hs : ∀ i d x H H' (Nx : VK), ds[i]? = some d → Same H1 H → (∃ acc, H D = some (.lst acc)) → Y i H x H' → (∀ y H4, Same H H4 → Rp H4 y d → Nx y H4) → g x (wipe σ vs) H' fun σ2 H2 => wipe σ2 vs = wipe σ vs ∧ tYes σ2 H2 fun b H3 => if b = true then te σ2 H3 Nx else Nx .non H3)
    (gx : ∀ (x : V) (σ2 : St) (H2 : Hp) (Q1 Q2 : St → Hp → Prop), (∀ σ H, Q1 σ H → Q2 σ H) → g x σ2 H2 Q1 → g x σ2 H2 Q2)
    (hd : ∀ H ys, Same H1 H → H D = some (.lst ys) → Paired (Rp H) ys ds → Q (.ref D) H) : LcOk J g tYes te vs σ H1 D Q := by
  refine LcOk.walk w (fun i H => Same H1 H ∧ ∃ ys, H D = some (.lst ys) ∧ ys.length = i ∧ Paired (Rp H) ys (ds.take i)) ⟨Same.upd hD, [], upd_same, rfl, .nil⟩ (fun i H _ h => hG H h.1) ?_ ?_
  · intro i x H H' hi ⟨s1, ys, hy, hl, hp⟩ y
    have hdi : ds[i]? = some ds[i] := List.getElem?_eq_getElem (by omega)
    refine gx _ _ _ _ _ (fun σ2 H2 h => ⟨h.1, h.2⟩) (hs i ds[i] x H H' (fun v H4 => ∃ acc, H4 D = some (.lst acc) ∧ acc.length < sizeLine ∧ (Same H1 (upd H4 D (.lst (acc ++ [v]))) ∧ ∃ ys, upd H4 D (.lst (acc ++ [v])) D = some (.lst ys) ∧ ys.length = i + 1 ∧ Paired (Rp (upd H4 D (.lst (acc ++ [v])))) ys (ds.take (i + 1)))) hdi s1 ⟨ys, hy⟩ y fun v H4 s4 r => ?_)
    have e4 : H4 D = some (.lst ys) := s4 _ _ hy
    have s5 : Same H1 (upd H4 D (.lst (ys ++ [v]))) := fun b u z => by
      rw [upd_ne (ne_of_none z hD)]; exact s4 _ _ (s1 _ _ z)
    have kp : ∀ b o, H4 b = some o → b ≠ D → upd H4 D (.lst (ys ++ [v])) b = some o := fun b o z ne => by rw [upd_ne ne]; exact z
    refine ⟨ys, e4, by omega, s5, ys ++ [v], upd_same, by simp [hl], ?_⟩
    have et : ds.take (i + 1) = ds.take i ++ [ds[i]] := by rw [List.take_succ, hdi]; rfl
    rw [et]
    exact Paired.snoc (Paired.mapP hp fun a b z => mono _ _ _ _ ⟨ys, hy⟩ (fun b o z ne => kp b o (s4 _ _ z) ne) z) (mono _ _ _ _ ⟨ys, e4⟩ kp r)
  · intro H ⟨s1, ys, hy, hl, hp⟩
    rw [List.take_of_length_le (by omega)] at hp
    exact hd H ys s1 hy hp
theorem LcOk.val {J : It} {n : Nat} {G : Hp → Prop} {Y : Nat → Hp → V → Hp → Prop} {i0 : Nat} {te : TE} {vs : List Nat} {σ : St} {H1 : Hp} {D : Addr} {Q : VK} (w : Walk J n G Y) (hD : H1 D = none) (ds : List V) (hn : ds.length = n) (hsz : n ≤ sizeLine) (hG : ∀ H, Same H1 H → G H)
    (hs : ∀ i d x H H' (Nx : VK), ds[i]? = some d → Same H1 H → (∃ acc, H D = some (.lst acc)) → Y i H x H' → (∀ H4, Same H H4 → Nx d H4) → wipe ((wipe σ vs).set i0 (some x)) vs = wipe σ vs ∧ te ((wipe σ vs).set i0 (some x)) H' Nx)
    (hd : ∀ H, Same H1 H → H D = some (.lst ds) → Q (.ref D) H) : LcOk J (gName i0) tYes te vs σ H1 D Q := by
  refine LcOk.rep w hD ds (fun _ v d => v = d) hn hsz (fun _ _ _ _ _ _ h => h) hG (fun i d x H H' Nx h1 h2 h3 h4 h5 => ?_) (fun x σ2 H2 Q1 Q2 h => h _ _) (fun H ys h1 h2 h3 => hd H h1 ?_)
  · have q := hs i d x H H' Nx h1 h2 h3 h4 (fun H4 s4 => h5 d H4 s4 rfl)
    exact ⟨q.1, by simp only [tYes, if_true]; exact q.2⟩
  · have e : ys = ds := by
      clear h2 h1 hs hd hn
      induction h3 with
      | nil => rfl
      | cons r t ih => rw [r, ih]
    rw [← e]; exact h2
def tyIs (T : String) (v : V) : Bool := if T = "str" then isStrV v else if T = "int" then isIntV v else isBlV v
def rIsiA (K : PySem.W.Frag) : List V → Hp → VK → Prop := fun xs H Q => ∃ (v : V) (T : String), xs = [v, .ty T] ∧ (T = "str" ∨ T = "int" ∨ T = "bool") ∧ AnyV K H v ∧ Q (.bl (tyIs T v)) H
theorem tyIs_str (v : V) : tyIs "str" v = isStrV v := rfl
theorem tyIs_int (v : V) : tyIs "int" v = isIntV v := rfl
theorem tyIs_bool (v : V) : tyIs "bool" v = isBlV v := rfl
def rIxM : R2 := fun x y H Q => ∃ p xs i v, x = .ref p ∧ y = .int i ∧ H p = some (.lst xs) ∧ atI xs i = some v ∧ Q v H
theorem ix_listM {X : Cx} : IxR X rIxM := by
  intro value slice pins s σ H x y v u Q I rx ry h hs
  obtain ⟨p, xs, i, z, h1, h2, h3, h4, h5⟩ := h
  exact ix_list value slice pins s σ H x y v u Q I rx ry ⟨p, xs, i, z, h1, h2, SqL.of h3, h4, h5⟩ hs
theorem ixN_nat {n j : Nat} (h : j < n) : ixN n (j : Int) = some j := by
  unfold ixN
  rw [if_pos (by omega), if_pos (by omega)]
  simp
theorem atI_zero {α : Type} {x : α} {xs : List α} : atI (x :: xs) 0 = some x := by
  unfold atI
  rw [show ixN (x :: xs).length 0 = some 0 from ixN_nat (j := 0) (by simp)]
  rfl
theorem atI_one {α : Type} {x y : α} {xs : List α} : atI (x :: y :: xs) 1 = some y := by
  unfold atI
  rw [show ixN (x :: y :: xs).length 1 = some 1 from ixN_nat (j := 1) (by simp)]
  rfl
theorem ixN_20 : ixN 2 0 = some 0 := by decide
theorem ixN_21 : ixN 2 1 = some 1 := by decide
theorem dpAll_ints {K : PySem.W.Frag} {H : Hp} : ∀ ns : List Int, DpAll K H (ns.map V.int) (ns.map PyData.int)
  | [] => .nil
  | n :: ns => .cons (.int n) (dpAll_ints ns)
def SameX (d : Addr) (H H' : Hp) : Prop := ∀ b o, H b = some o → b ≠ d → H' b = some o
theorem SameX.refl {d : Addr} {H : Hp} : SameX d H H := fun _ _ h _ => h
theorem SameX.trans {d : Addr} {H H1 H2 : Hp} (a : SameX d H H1) (b : SameX d H1 H2) : SameX d H H2 := fun c o h n => b c o (a c o h n) n
theorem SameX.of {d : Addr} {H H' : Hp} (s : Same H H') : SameX d H H' := fun b o h _ => s b o h
theorem SameX.upd {d : Addr} {H : Hp} {o : HO} : SameX d H (L2.upd H d o) := fun b u h n => by rw [upd_ne n]; exact h
theorem SameX.seq {K : PySem.W.Frag} {d : Addr} {H H' : Hp} {a : Addr} {xs : List V} (e : SameX d H H') (n : a ≠ d) (h : SqL K H a xs) : SqL K H' a xs := by
  rcases h with (h | ⟨o, h⟩) | h
  · exact .inl (.inl (e _ _ h n))
  · exact .inl (.inr ⟨o, e _ _ h n⟩)
  · exact .inr h
theorem SameX.at {d : Addr} {H H' : Hp} {a : Addr} {o : HO} (e : SameX d H H') (n : H d = none) (h : H a = some o) : H' a = some o := e _ _ h (ne_of_none h n)
section
variable {X : Cx} {CX : CXT} {k : Nat} {f : Addr} {fd : FuncData} {ps : List Str} {sp : Sp} {E : St → XK} {x : Str} {p pos : Pos} {e : Expr} {es : List Expr} {t : TA} {dvs : List V}
theorem pe_callW (F : FnOk X.prog X.w X.K X.mg X.base CX k f fd ps sp) (hr : Room k X.A) (hg : Gl X x) (hm : X.mg x = some (.ref f)) (hk : PySem.W.keepIn X.K (.ref f) = true) (hb : ∃ ds, Vals dvs ds ∧ Binds X.K fd ps ds) (hx : ∀ σ, PassesAt CX X σ (E σ))
    (ha : PA X (e :: es) t) (hdb : (x == ("__debug__" : Str)) = false := by decide) (he : starEach (e :: es) X.env = (false, eval e X.env) :: starEach es X.env := by rfl) (hpl : (backTo pos (starEach es X.env)).any (·.1) = false := by rfl) :
    PE X (.Call (.Name x p) (e :: es) [] pos) (tCallSD sp dvs E t) := by
  obtain ⟨ds, hd, hb⟩ := hb
  exact pe_callSD F hr hg hm hk hb hd hx ha hdb he hpl
end
theorem cpow_18 : CPow 10 18 ↔ True := ⟨fun _ => trivial, fun _ => ⟨by decide, by decide, by decide⟩⟩
theorem cpow_30 : CPow 10 30 ↔ True := ⟨fun _ => trivial, fun _ => ⟨by decide, by decide, by decide⟩⟩
theorem cpow_20 : CPow 10 20 ↔ True := ⟨fun _ => trivial, fun _ => ⟨by decide, by decide, by decide⟩⟩
theorem cpow_9 : CPow 10 9 ↔ True := ⟨fun _ => trivial, fun _ => ⟨by decide, by decide, by decide⟩⟩
theorem cpow_29 : CPow 10 29 ↔ True := ⟨fun _ => trivial, fun _ => ⟨by decide, by decide, by decide⟩⟩
def S (l : List Nat) : Str := ⟨l.toArray⟩
theorem S_cps (l : List Nat) : (S l).cps.toList = l := rfl
theorem S_length (l : List Nat) : (S l).length = l.length := by simp [S, Str.length]
theorem S_of (x : Str) : x = S x.cps.toList := by
  obtain ⟨c⟩ := x
  simp [S]
theorem S_inj {l m : List Nat} : S l = S m ↔ l = m := ⟨fun h => by have := congrArg (fun z : Str => z.cps.toList) h; exact this, fun h => by rw [h]⟩
theorem S_append (l m : List Nat) : S l ++ S m = S (l ++ m) := by
  show Str.append (S l) (S m) = S (l ++ m)
  simp [Str.append, S]
theorem S_one (c : Nat) : (⟨#[c]⟩ : Str) = S [c] := rfl
def WhileOk (c : TT) (tb : TS) (D : Ends) (σ : St) (H : Hp) : Prop := ∃ W : Nat → St → Hp → Prop, (∃ m, W m σ H) ∧ ∀ m σ H, W m σ H →
  c σ H fun b H1 => if b = true then ∃ N : St → Hp → Prop, (∀ σ' H', N σ' H' → ∃ m', m' < m ∧ W m' σ' H') ∧ tb { D with nx := N, ct := N, bk := D.nx } σ H1 else D.nx σ H1
theorem tWhile_eq (c : TT) (tb : TS) (D : Ends) (σ : St) (H : Hp) : tWhile c tb D σ H = WhileOk c tb D σ H := rfl
theorem WhileOk.by {c : TT} {tb : TS} {D : Ends} {σ : St} {H : Hp} (Pv : St → Hp → Prop) (μ : St → Hp → Nat) (h0 : Pv σ H)
    (hs : ∀ (σ : St) (H : Hp) (m : Nat) (W : Nat → St → Hp → Prop), Pv σ H → m = μ σ H → (∀ σ' H', Pv σ' H' → μ σ' H' < m → ∃ m', m' < m ∧ W m' σ' H') → c σ H fun b H1 => if b = true then ∃ N : St → Hp → Prop, (∀ σ' H', N σ' H' → ∃ m', m' < m ∧ W m' σ' H') ∧ tb { D with nx := N, ct := N, bk := D.nx } σ H1 else D.nx σ H1) : WhileOk c tb D σ H :=
  ⟨fun m σ H => m = μ σ H ∧ Pv σ H, ⟨_, rfl, h0⟩, fun m σ H ⟨e, p⟩ => hs σ H m _ p e fun σ' H' p' l => ⟨_, l, rfl, p'⟩⟩
def mulS (z : Str) (n : Int) : Str := S (List.replicate n.toNat z.cps.toList).flatten
theorem Paired.mapP_mem {α β : Type} {F G : α → β → Prop} : ∀ {l : List α} {m : List β}, Paired F l m → (∀ a b, a ∈ l → F a b → G a b) → Paired G l m
  | _, _, .nil, _ => .nil
  | _, _, .cons r t, f => .cons (f _ _ List.mem_cons_self r) (Paired.mapP_mem t fun a b h => f a b (List.mem_cons_of_mem _ h))
theorem Paired.left {α β : Type} {F : α → β → Prop} {a : α} : ∀ {l : List α} {m : List β}, Paired F l m → a ∈ l → ∃ b, F a b
  | _, _, .cons r t, h => by
    rcases List.mem_cons.mp h with e | h
    · subst e; exact ⟨_, r⟩
    · exact Paired.left t h
  | _, _, .nil, h => by cases h
def Short (v : V) : Prop := ∀ x, v = .str x → x.length ≤ 100000
abbrev lettersZ : Str := "abcdefghijklmnopqrstuvwxyz"
abbrev ltr : List Nat := lettersZ.cps.toList
end Q
namespace Q
open PySem PySem.Spec PyProof.Rows L2
end Q
namespace L2
open PySem PySem.Spec PyProof.Rows
def Ends.gone (D : Ends) (i : Nat) : Ends := { nx := fun σ H => D.nx (σ.set i none) H, rt := D.rt, bk := fun σ H => D.bk (σ.set i none) H, ct := fun σ H => D.ct (σ.set i none) H }
def wX (K : PySem.W.Frag) (Wout : WX) (D : Ends) : List (Value × Option Nat × (Addr → Value → Option Addr → TS)) → WX
  | [] => Wout
  | (c, none, ts) :: r => fun cls d σ H => ∃ b, PySem.W.exmOne K cls c = some b ∧ (b = true → ∀ a, H a = none → ts a cls d D σ H) ∧ (b = false → wX K Wout D r cls d σ H)
  | (c, some i, ts) :: r => fun cls d σ H => ∃ b, PySem.W.exmOne K cls c = some b ∧ (b = true → ∀ a, H a = none → ts a cls d (D.gone i) (σ.set i (some (.ref a))) H) ∧ (b = false → wX K Wout D r cls d σ H)
inductive HdX (X : Cx) : List ExceptHandler → List (Value × Option Nat × (Addr → Value → Option Addr → TS)) → Prop
  | nil : HdX X [] []
  | plain {x : Str} {c : Value} {ts : Addr → Value → Option Addr → TS} {b₀ : Stmt} {suite : List Stmt} {np pos' : Pos} {hds : List ExceptHandler} {l : List (Value × Option Nat × (Addr → Value → Option Addr → TS))} (hc : Names X x c)
      (hsu : ∀ (a : Addr) (oe : Obj) (cls : Value) (d : Option Addr) (pn : List (Addr × Obj)), Zc cls d oe → (∃ vs, oe.data = .fields vs) → PSs (X.suite a ((a, oe) :: pn)) (b₀ :: suite) (ts a cls d)) (r : HdX X hds l) :
      HdX X (.ExceptHandler (some (.Name x np)) none (b₀ :: suite) pos' :: hds) ((c, none, ts) :: l)
  | named {x n : Str} {i : Nat} {c : Value} {ts : Addr → Value → Option Addr → TS} {b₀ : Stmt} {suite : List Stmt} {np pos' : Pos} {hds : List ExceptHandler} {l : List (Value × Option Nat × (Addr → Value → Option Addr → TS))} (hi : X.N[i]? = some n) (hln : X.env.kindOf n = some .local) (hc : Names X x c)
      (hsu : ∀ (a : Addr) (oe : Obj) (cls : Value) (d : Option Addr) (pn : List (Addr × Obj)), Zc cls d oe → (∃ vs, oe.data = .fields vs) → PSs (X.suite a ((a, oe) :: pn)) (b₀ :: suite) (ts a cls d)) (r : HdX X hds l) :
      HdX X (.ExceptHandler (some (.Name x np)) (some n) (b₀ :: suite) pos' :: hds) ((c, some i, ts) :: l)
section
variable {X : Cx} {body orelse : List Stmt} {h₀ : ExceptHandler} {hds : List ExceptHandler} {l : List (Value × Option Nat × (Addr → Value → Option Addr → TS))} {pos : Pos} {tb : WX → TS} {u : TS} {Wout : WX}
end
end L2
namespace L2
open PySem PySem.Spec PyProof.Rows
def IteS (x : Str) : It :=
  ⟨fun i _ => i < x.cps.size, fun i H v H' => ∃ T c, v = .ref T ∧ H T = none ∧ H' = upd H T (.tup [.int (i : Nat), .str ⟨#[c]⟩]) ∧ x.cps[i]? = some c, fun i _ => x.cps.size ≤ i⟩
def iEnumS (ta : TA) : TI := fun σ H R => ta σ H fun vs H1 => ∃ x, vs = [.str x] ∧ R (IteS x) H1
end L2
namespace Q
open PySem PySem.Spec PyProof.Rows L2
def hookT (n : Nat) (ex : List (PySem.W.Frag → Bool)) (fn : List He5.DefA) (N : Nat) : PySem.W.Hook where
  α := He.AlD × Bool
  obs := fun s => (obsMG n ex fn s.heap.get?, Nat.ble N s.toks)
  val := fun _ => (valM fn, true)
  says := fun _ h => ∃ K : PySem.W.Frag, K.In h ∧ SaysM ex fn K
  of := fun _ _ e => ⟨_, He.frG_in, congrArg (fun z : He.AlD × Bool => z.1) e⟩
  keeps := fun _ _ _ z k => let ⟨K, hK, c⟩ := z; ⟨K, PySem.W.Frag.In.keeps hK k, c⟩
def tokB (x z : Str) (N : Nat) (K : PySem.W.Frag) : Bool := match PySem.W.nsIn K mainGlobals x with
  | some (some (.str y t)) => decide (y = z) && (decide (t ≠ 0) && decide (t < N))
  | _ => false
end Q
namespace Q
open PySem PySem.Spec PyProof.Rows L2
def obsSG (n : Nat) (ex : List (PySem.W.Frag → Bool)) (fn : List He5.DefA) (g : Addr → Option Obj) : He.AlD := obsM ex fn (He.frG g (sysModules :: He5.asA g n))
def hookS (n : Nat) (ex : List (PySem.W.Frag → Bool)) (fn : List He5.DefA) (N : Nat) : PySem.W.Hook where
  α := He.AlD × Bool
  obs := fun s => (obsSG n ex fn s.heap.get?, Nat.ble N s.toks)
  val := fun _ => (valM fn, true)
  says := fun _ h => ∃ K : PySem.W.Frag, K.In h ∧ SaysM ex fn K
  of := fun _ _ e => ⟨_, He.frG_in, congrArg (fun z : He.AlD × Bool => z.1) e⟩
  keeps := fun _ _ _ z k => let ⟨K, hK, c⟩ := z; ⟨K, PySem.W.Frag.In.keeps hK k, c⟩
theorem hookS_toks {n N : Nat} {ex : List (PySem.W.Frag → Bool)} {fn : List He5.DefA} {w : World} {s : Shared} (e : (hookS n ex fn N).obs s = (hookS n ex fn N).val w) : N ≤ s.toks :=
  Nat.le_of_ble_eq_true (congrArg (fun z : He.AlD × Bool => z.2) e)
theorem obsSG_eq {n : Nat} {ex : List (PySem.W.Frag → Bool)} {fn : List He5.DefA} {g : Addr → Option Obj} {s : Shared} (h : ∀ a, g a = s.heap.get? a) : obsSG n ex fn g = obsSG n ex fn s.heap.get? := by
  have e : g = s.heap.get? := funext h
  rw [e]
theorem obsS_eq {n N : Nat} {ex : List (PySem.W.Frag → Bool)} {fn : List He5.DefA} (s : PySem.W.SharedT) : (obsSG n ex fn (HandSHeadRun.getT s), Nat.ble N s.toks) = (hookS n ex fn N).obs s.abs := by
  have e := obsSG_eq (n := n) (ex := ex) (fn := fn) (HandSHeadRun.getT_eq s)
  show (_, _) = (_, _)
  rw [e]
  rfl
def sysB (K : PySem.W.Frag) : Bool := match K.lookup sysModules with
  | some ⟨_, _, .dict _ _, _⟩ => true
  | _ => false
theorem sysB_ok {K : PySem.W.Frag} (h : sysB K = true) : ∃ o es n, K.lookup sysModules = some o ∧ o.data = .dict es n := by
  unfold sysB at h
  split at h
  · rename_i c d es n sl e
    exact ⟨_, es, n, e, rfl⟩
  · cases h
end Q
namespace Q
open PySem PySem.Spec PyProof.Rows L2
abbrev stepsZ : Str := "abcdefghijklmnopqrstuvwxyz-"
abbrev stp : List Nat := stepsZ.cps.toList
def isStp (c : Nat) : Bool := decide (c ∈ stp)
abbrev digsZ : Str := "0123456789"
def isDig (c : Nat) : Bool := decide (c ∈ digsZ.cps.toList)
theorem isDig_iff (c : Nat) : isDig c = true ↔ 48 ≤ c ∧ c ≤ 57 := by
  have e : digsZ.cps.toList = [48, 49, 50, 51, 52, 53, 54, 55, 56, 57] := by decide +kernel
  unfold isDig
  rw [e, decide_eq_true_eq]
  simp only [List.mem_cons, List.not_mem_nil, or_false]
  omega
abbrev dval (ds : List Nat) : Nat := NumText.digitsVal ds
def okCount (ds : List Nat) : Bool := decide (ds ≠ []) && (decide (ds.length ≤ 31) && (!(decide (ds.head? = some 48) && decide (ds ≠ [48])) && decide (dval ds ≤ 10 ^ 30)))
inductive Pg where
  | nil
  | seq (l : List Nat) (r : Pg)
  | rep (b : Pg) (n : Nat) (r : Pg)
def Pg.wr : Pg → List Nat
  | .nil => []
  | .seq l r => l ++ r.wr
  | .rep b n r => (List.replicate n b.wr).flatten ++ r.wr
def Pg.app : Pg → Pg → Pg
  | .nil, q => q
  | .seq l r, q => .seq l (r.app q)
  | .rep b n r, q => .rep b n (r.app q)
def Pg.ok : Pg → Prop
  | .nil => True
  | .seq l r => (∀ c ∈ l, c ∈ stp) ∧ r.ok
  | .rep b n r => b.ok ∧ n ≤ 10 ^ 30 ∧ r.ok
theorem Pg.ok_app {p q : Pg} (hp : p.ok) (hq : q.ok) : (p.app q).ok := by
  induction p with
  | nil => exact hq
  | seq l r ih => exact ⟨hp.1, ih hp.2⟩
  | rep b n r _ ih => exact ⟨hp.1, hp.2.1, ih hp.2.2⟩
def Pg.depth : Pg → Nat
  | .nil => 0
  | .seq _ r => r.depth
  | .rep b _ r => max (b.depth + 1) r.depth
theorem Pg.depth_app (p q : Pg) : (p.app q).depth = max p.depth q.depth := by
  induction p with
  | nil => simp [Pg.app, Pg.depth]
  | seq l r ih => simp [Pg.app, Pg.depth, ih]
  | rep b n r _ ih => simp [Pg.app, Pg.depth, ih, Nat.max_assoc]
def Pg.size : Pg → Nat
  | .nil => 0
  | .seq l r => l.length + 1 + r.size
  | .rep b _ r => b.size + 1 + r.size
def goF (t : List Nat) (st : List (List Nat)) : Option (List Nat) := match t, st with
  | [], [f] => some f
  | [], _ => none
  | _ :: _, [] => none
  | c :: t, f :: fs => if isStp c = true then goF t ((f ++ [c]) :: fs) else
    if c = 40 then (if fs.length < 20 then goF t ([] :: f :: fs) else none) else
    if c = 41 then (match fs with
      | [] => none
      | g :: gs => if okCount (t.takeWhile isDig) = true then goF (t.dropWhile isDig) ((g ++ (List.replicate (dval (t.takeWhile isDig)) f).flatten) :: gs) else none) else none
  termination_by t.length
  decreasing_by
    all_goals simp_wf
    have := (List.dropWhile_suffix (l := t) isDig).length_le
    omega
def progF (l : List Nat) : Option (List Nat) := goF l [[]]
theorem stp_40 : isStp 40 = false := by decide +kernel
theorem stp_41 : isStp 41 = false := by decide +kernel
theorem goF_open {t : List Nat} {f : List Nat} {fs : List (List Nat)} : goF (40 :: t) (f :: fs) = if fs.length < 20 then goF t ([] :: f :: fs) else none := by
  rw [goF.eq_def]
  simp only [stp_40, Bool.false_eq_true, if_false, if_true]
theorem goF_close {t : List Nat} {f g : List Nat} {gs : List (List Nat)} : goF (41 :: t) (f :: g :: gs) = if okCount (t.takeWhile isDig) = true then goF (t.dropWhile isDig) ((g ++ (List.replicate (dval (t.takeWhile isDig)) f).flatten) :: gs) else none := by
  rw [goF.eq_def]
  simp only [stp_41, Bool.false_eq_true, if_false, if_true, show ¬ ((41 : Nat) = 40) by decide]
def goP (t : List Nat) (st : List Pg) : Option Pg := match t, st with
  | [], [f] => some f
  | [], _ => none
  | _ :: _, [] => none
  | c :: t, f :: fs => if isStp c = true then goP (t.dropWhile isStp) (f.app (.seq (c :: t.takeWhile isStp) .nil) :: fs) else
    if c = 40 then (if fs.length < 20 then goP t (.nil :: f :: fs) else none) else
    if c = 41 then (match fs with
      | [] => none
      | g :: gs => if okCount (t.takeWhile isDig) = true then goP (t.dropWhile isDig) (g.app (.rep f (dval (t.takeWhile isDig)) .nil) :: gs) else none) else none
  termination_by t.length
  decreasing_by
    all_goals simp_wf
    · have := (List.dropWhile_suffix (l := t) isStp).length_le
      omega
    · have := (List.dropWhile_suffix (l := t) isDig).length_le
      omega
def progP (l : List Nat) : Option Pg := goP l [.nil]
def RepL (X : Addr → Prop) (H : Hp) : List V → Pg → Prop
  | vs, .nil => vs = []
  | vs, .seq l r => ∃ ws, vs = .str (S l) :: ws ∧ RepL X H ws r
  | vs, .rep b n r => ∃ (t a : Addr) (us ws : List V), vs = .ref t :: ws ∧ H t = some (.tup [.ref a, .int (n : Int)]) ∧ ¬ X t ∧ ¬ X a ∧ H a = some (.lst us) ∧ RepL X H us b ∧ RepL X H ws r
theorem RepL.mono {X X' : Addr → Prop} {H H' : Hp} (hx : ∀ a, X' a → X a) (h : ∀ b o, H b = some o → ¬ X b → H' b = some o) : ∀ {p : Pg} {vs : List V}, RepL X H vs p → RepL X' H' vs p
  | .nil, _, r => r
  | .seq l q, _, ⟨ws, e, r⟩ => ⟨ws, e, RepL.mono hx h r⟩
  | .rep b n q, _, ⟨t, a, us, ws, e, e1, n1, n2, e2, r1, r2⟩ => ⟨t, a, us, ws, e, h _ _ e1 n1, fun z => n1 (hx _ z), fun z => n2 (hx _ z), h _ _ e2 n2, RepL.mono hx h r1, RepL.mono hx h r2⟩
theorem RepL.app {X : Addr → Prop} {H : Hp} : ∀ {p q : Pg} {vs ws : List V}, RepL X H vs p → RepL X H ws q → RepL X H (vs ++ ws) (p.app q)
  | .nil, _, _, _, e, r => by
    have e' : _ = [] := e
    rw [e']; exact r
  | .seq l q, _, _, _, ⟨us, e, r⟩, s => ⟨_, by rw [e]; rfl, RepL.app r s⟩
  | .rep b n q, _, _, _, ⟨t, a, us, us2, e, e1, n1, n2, e2, r1, r2⟩, s => ⟨t, a, us, _, by rw [e]; rfl, e1, n1, n2, e2, r1, RepL.app r2 s⟩
abbrev NoX : Addr → Prop := fun _ => False
def ItemsAt (H : Hp) (a : Addr) (p : Pg) : Prop := ∃ us, H a = some (.lst us) ∧ RepL NoX H us p
theorem ItemsAt.mono {H H' : Hp} {a : Addr} {p : Pg} (s : Same H H') (h : ItemsAt H a p) : ItemsAt H' a p := by
  obtain ⟨us, e, r⟩ := h
  exact ⟨us, s _ _ e, r.mono (fun _ z => z) fun b o z _ => s b o z⟩
structure PgOk (p : Pg) : Prop where
  ok : p.ok
  depth : p.depth ≤ 20
  size : p.size ≤ 1000000
theorem RepL.fresh {X X' : Addr → Prop} {H : Hp} {n : Addr} (hn : H n = none) (hx : ∀ a, X' a → X a ∨ a = n) : ∀ {p : Pg} {vs : List V}, RepL X H vs p → RepL X' H vs p
  | .nil, _, r => r
  | .seq l q, _, ⟨ws, e, r⟩ => ⟨ws, e, RepL.fresh hn hx r⟩
  | .rep b k q, _, ⟨t, a, us, ws, e, e1, n1, n2, e2, r1, r2⟩ => ⟨t, a, us, ws, e, e1, fun z => (hx _ z).elim n1 (ne_of_none e1 hn), fun z => (hx _ z).elim n2 (ne_of_none e2 hn), e2, RepL.fresh hn hx r1, RepL.fresh hn hx r2⟩
theorem Paired.snoc_inv {α β : Type} {F : α → β → Prop} : ∀ {l : List α} {a : α} {m : List β}, Paired F (l ++ [a]) m → ∃ m' b, m = m' ++ [b] ∧ Paired F l m' ∧ F a b
  | [], a, _, .cons r .nil => ⟨[], _, rfl, .nil, r⟩
  | x :: l, a, _, .cons r t => by
    obtain ⟨m', b, e, h1, h2⟩ := Paired.snoc_inv t
    exact ⟨_ :: m', b, by rw [e]; rfl, .cons r h1, h2⟩
def XS (H0 : Hp) (l : List Addr) : Addr → Prop := fun b => b ∈ l ∨ H0 b ≠ none
structure PSt (H0 H : Hp) (o : Addr) (as : List Addr) (ps : List Pg) : Prop where
  same : Same H0 H
  fo : H0 o = none
  fas : ∀ a ∈ as, H0 a = none
  lo : H o = some (.lst (as.map V.ref))
  nd : (o :: as).Nodup
  rep : Paired (fun a p => ∃ us, H a = some (.lst us) ∧ RepL (XS H0 (o :: as)) H us p) as ps
  ok : ∀ p ∈ ps, p.ok
  dep : ∀ (i : Nat) p, ps[i]? = some p → p.depth + i ≤ 20
theorem PSt.len {H0 H : Hp} {o : Addr} {as : List Addr} {ps : List Pg} (h : PSt H0 H o as ps) : as.length = ps.length := Paired.length h.rep
theorem PSt.seq {H0 H : Hp} {o t : Addr} {as : List Addr} {ps : List Pg} {l : List Nat} (h : PSt H0 H o (as ++ [t]) ps) (hl : ∀ c ∈ l, c ∈ stp) :
    ∃ qs p us, ps = qs ++ [p] ∧ H t = some (.lst us) ∧ PSt H0 (upd H t (.lst (us ++ [.str (S l)]))) o (as ++ [t]) (qs ++ [p.app (.seq l .nil)]) := by
  obtain ⟨qs, p, rfl, h1, us, h2, h3⟩ := Paired.snoc_inv h.rep
  have hnt : H0 t = none := h.fas t (by simp)
  have hto : t ≠ o := by have := h.nd; simp at this; exact fun e => this.1.2 e.symm
  have keep : ∀ b u, H b = some u → ¬ XS H0 (o :: (as ++ [t])) b → upd H t (.lst (us ++ [.str (S l)])) b = some u := fun b u e n => by
    rw [upd_ne (fun z => n (.inl (by simp [z])))]; exact e
  refine ⟨qs, p, us, rfl, h2, ⟨fun b u e => ?_, h.fo, h.fas, ?_, h.nd, Paired.snoc (Paired.mapP_mem h1 ?_) ?_, ?_, ?_⟩⟩
  · rw [upd_ne (ne_of_none e hnt)]; exact h.same b u e
  · rw [upd_ne hto.symm]; exact h.lo
  · rintro a q ha ⟨ws, e, r⟩
    have nat : a ≠ t := by
      have := h.nd
      simp only [List.nodup_cons, List.nodup_append] at this
      exact this.2.2.2 a ha t (by simp)
    exact ⟨ws, by rw [upd_ne nat]; exact e, r.mono (fun _ z => z) keep⟩
  · exact ⟨_, upd_same, RepL.app (h3.mono (fun _ z => z) keep) ⟨[], rfl, rfl⟩⟩
  · intro q hq
    rcases List.mem_append.mp hq with z | z
    · exact h.ok q (List.mem_append_left _ z)
    · rw [List.mem_singleton.mp z]
      exact Pg.ok_app (h.ok p (by simp)) ⟨hl, trivial⟩
  · intro i q hq
    by_cases c : i < qs.length
    · rw [List.getElem?_append_left c] at hq
      exact h.dep i q (by rw [List.getElem?_append_left c]; exact hq)
    · rw [List.getElem?_append_right (by omega)] at hq
      have e0 : i - qs.length = 0 := by
        cases z : i - qs.length with
        | zero => rfl
        | succ k => rw [z] at hq; simp at hq
      rw [e0] at hq
      have e1 : p.app (.seq l .nil) = q := Option.some.inj hq
      have := h.dep i p (by rw [List.getElem?_append_right (by omega), e0]; rfl)
      rw [← e1, Pg.depth_app]
      simp only [Pg.depth]
      omega
theorem PSt.push {H0 H : Hp} {o n : Addr} {as : List Addr} {ps : List Pg} (h : PSt H0 H o as ps) (hn : H n = none) (hd : as.length ≤ 20) :
    PSt H0 (upd (upd H n (.lst [])) o (.lst ((as ++ [n]).map V.ref))) o (as ++ [n]) (ps ++ [.nil]) := by
  have h0n : H0 n = none := h.same.free hn
  have hno : n ≠ o := fun e => by rw [e, h.lo] at hn; cases hn
  have hna : ∀ a ∈ as, a ≠ n := fun a ha e => by
    obtain ⟨p, us, z, _⟩ := Paired.left h.rep ha
    rw [e, hn] at z; cases z
  have keep : ∀ b u, H b = some u → ¬ b ∈ o :: as → upd (upd H n (.lst [])) o (.lst ((as ++ [n]).map V.ref)) b = some u := fun b u e m => by
    rw [upd_ne (fun z => m (by simp [z])), upd_ne (ne_of_none e hn)]; exact e
  have conv : ∀ (q : Pg) (ws : List V), RepL (XS H0 (o :: as)) H ws q → RepL (XS H0 (o :: (as ++ [n]))) (upd (upd H n (.lst [])) o (.lst ((as ++ [n]).map V.ref))) ws q := fun q ws r =>
    (r.fresh (X' := XS H0 (o :: (as ++ [n]))) hn (fun a z => by
      rcases z with z | z
      · have : a ∈ o :: as ∨ a = n := by simpa [or_assoc] using z
        exact this.imp .inl id
      · exact .inl (.inr z))).mono (fun _ z => z) fun b u e m => keep b u e fun z => m (.inl (by
      rcases List.mem_cons.mp z with z | z
      · simp [z]
      · simp [z]))
  refine ⟨fun b u e => ?_, h.fo, ?_, upd_same, ?_, Paired.snoc (Paired.mapP_mem h.rep ?_) ⟨[], by rw [upd_ne hno, upd_same], rfl⟩, ?_, ?_⟩
  · rw [upd_ne (ne_of_none e h.fo), upd_ne (ne_of_none e h0n)]; exact h.same b u e
  · intro a ha
    rcases List.mem_append.mp ha with z | z
    · exact h.fas a z
    · rw [List.mem_singleton.mp z]; exact h0n
  · have := h.nd
    simp only [List.nodup_cons, List.nodup_append, List.mem_append, List.mem_singleton] at this ⊢
    refine ⟨fun z => z.elim this.1 (fun e => hno e.symm), this.2, by simp, ?_⟩
    intro a ha b hb
    rw [hb]
    exact hna a ha
  · rintro a q ha ⟨ws, e, r⟩
    have nao : a ≠ o := by
      have := h.nd
      simp only [List.nodup_cons] at this
      exact fun z => this.1 (z ▸ ha)
    exact ⟨ws, by rw [upd_ne nao, upd_ne (hna a ha)]; exact e, conv q ws r⟩
  · intro q hq
    rcases List.mem_append.mp hq with z | z
    · exact h.ok q z
    · rw [List.mem_singleton.mp z]; trivial
  · intro i q hq
    have hl := h.len
    by_cases c : i < ps.length
    · rw [List.getElem?_append_left c] at hq
      exact h.dep i q hq
    · rw [List.getElem?_append_right (by omega)] at hq
      cases z : i - ps.length with
      | zero =>
        rw [z] at hq
        have e1 : Pg.nil = q := Option.some.inj hq
        rw [← e1]
        show 0 + i ≤ 20
        omega
      | succ k => rw [z] at hq; simp at hq
theorem RepL.len {X : Addr → Prop} {H : Hp} : ∀ {p : Pg} {vs : List V}, RepL X H vs p → vs.length ≤ p.size
  | .nil, _, e => by
    have e' : _ = [] := e
    rw [e']; exact Nat.zero_le _
  | .seq l q, _, ⟨ws, e, r⟩ => by
    have := r.len
    rw [e, List.length_cons]
    simp only [Pg.size]; omega
  | .rep b k q, _, ⟨t, a, us, ws, e, e1, n1, n2, e2, r1, r2⟩ => by
    have := r2.len
    rw [e, List.length_cons]
    simp only [Pg.size]; omega
def NoDig (l : List Nat) : Prop := ∀ c ∈ l.head?, isDig c = false
def dstep (s : Int × Int) (c : Nat) : Int × Int :=
  let d := if c = 40 then s.1 + 1 else if c = 41 then s.1 - 1 else s.1
  (d, if s.2 < d then d else s.2)
def DepIn (n : Nat) (tx : List Nat) : Prop := ∀ d m : Int, d ≤ m → ∃ m', tx.foldl dstep (d, m) = (d, m') ∧ m ≤ m' ∧ (m' ≤ m ∨ m' ≤ d + n)
theorem DepIn.flat {l : List Nat} (n : Nat) (h : ∀ c ∈ l, c ≠ 40 ∧ c ≠ 41) : DepIn n l := by
  induction l with
  | nil => exact fun d m h => ⟨m, rfl, by omega, by omega⟩
  | cons c l ih =>
    intro d m hd
    obtain ⟨h1, h2⟩ := h c List.mem_cons_self
    have e : dstep (d, m) c = (d, m) := by
      simp only [dstep, if_neg h1, if_neg h2]
      rw [if_neg (by omega)]
    rw [List.foldl_cons, e]
    exact ih (fun c hc => h c (List.mem_cons_of_mem _ hc)) d m hd
theorem DepIn.app {n : Nat} {a b : List Nat} (ha : DepIn n a) (hb : DepIn n b) : DepIn n (a ++ b) := by
  intro d m hd
  obtain ⟨m1, e1, l1, u1⟩ := ha d m hd
  obtain ⟨m2, e2, l2, u2⟩ := hb d m1 (by omega)
  exact ⟨m2, by rw [List.foldl_append, e1, e2], by omega, by omega⟩
theorem DepIn.rep {n : Nat} {a b : List Nat} (ha : DepIn n a) (hb : ∀ c ∈ b, c ≠ 40 ∧ c ≠ 41) : DepIn (n + 1) (40 :: (a ++ 41 :: b)) := by
  intro d m hd
  have e0 : dstep (d, m) 40 = (d + 1, if m < d + 1 then d + 1 else m) := rfl
  have e1 : ∀ z : Int, dstep (d + 1, z) 41 = (d, if z < d then d else z) := fun z => by
    have : (d + 1 - 1 : Int) = d := by omega
    simp only [dstep, if_neg (show ¬ ((41 : Nat) = 40) by decide), if_true, this]
  obtain ⟨m1, f1, l1, u1⟩ := ha (d + 1) (if m < d + 1 then d + 1 else m) (by split <;> omega)
  obtain ⟨m2, f2, l2, u2⟩ := DepIn.flat 0 hb d (if m1 < d then d else m1) (by split <;> omega)
  refine ⟨m2, by rw [List.foldl_cons, e0, List.foldl_append, f1, List.foldl_cons, e1, f2], ?_, ?_⟩
  · split at l1 <;> split at l2 <;> omega
  · split at l1 <;> split at u2 <;> split at u1 <;> omega
theorem DepIn.mono {m n : Nat} {a : List Nat} (h : DepIn m a) (hm : m ≤ n) : DepIn n a := fun d z hd => by
  obtain ⟨m', e, l, u⟩ := h d z hd
  exact ⟨m', e, l, by omega⟩
theorem stp_asc {c : Nat} (h : c ∈ stp) : c < 128 := by
  have e : stp.all (fun c => decide (c < 128)) = true := by decide +kernel
  exact of_decide_eq_true (List.all_eq_true.mp e c h)
structure Spells (n : Nat) (tx fl : List Nat) : Prop where
  go : ∀ rest f fs, fs.length + n ≤ 20 → NoDig rest → goF (tx ++ rest) (f :: fs) = goF rest ((f ++ fl) :: fs)
  nd : ∀ rest, NoDig rest → NoDig (tx ++ rest)
  ok : ∀ c ∈ fl, c ∈ stp
  dep : DepIn n tx
  asc : ∀ c ∈ tx, c < 128
theorem NoDig.nil : NoDig [] := fun c h => by cases h
theorem Spells.nil {n : Nat} : Spells n [] [] := ⟨fun rest f fs _ _ => by simp, fun rest h => h, fun c h => (List.not_mem_nil h).elim, DepIn.flat n fun c h => (List.not_mem_nil h).elim, fun c h => (List.not_mem_nil h).elim⟩
theorem Spells.mono {m n : Nat} {tx fl : List Nat} (h : Spells m tx fl) (hm : m ≤ n) : Spells n tx fl := ⟨fun rest f fs hl hd => h.go rest f fs (by omega) hd, h.nd, h.ok, h.dep.mono hm, h.asc⟩
theorem Spells.app {n : Nat} {t1 f1 t2 f2 : List Nat} (h1 : Spells n t1 f1) (h2 : Spells n t2 f2) : Spells n (t1 ++ t2) (f1 ++ f2) :=
  ⟨fun rest f fs hl hd => by rw [List.append_assoc, h1.go _ _ _ hl (h2.nd _ hd), h2.go _ _ _ hl hd, List.append_assoc],
   fun rest hd => by rw [List.append_assoc]; exact h1.nd _ (h2.nd _ hd),
   fun c hc => (List.mem_append.mp hc).elim (h1.ok c) (h2.ok c), h1.dep.app h2.dep, fun c hc => (List.mem_append.mp hc).elim (h1.asc c) (h2.asc c)⟩
theorem numL_zero : ∀ {k : Nat}, (TL.numL k).head? = some 48 → TL.numL k = [48] := by
  intro k
  induction k using Nat.strongRecOn with
  | _ k ih =>
    intro h
    by_cases c : k < 10
    · rw [TL.numL_lt c] at h ⊢
      simp at h
      subst h
      rfl
    · rw [TL.numL_step (by omega)] at h
      have h2 : (TL.numL (k / 10)).head? = some 48 := by
        cases e : TL.numL (k / 10) with
        | nil => exact absurd e (TL.numL_ne _)
        | cons a l => rw [e] at h; simpa using h
      have h3 := ih (k / 10) (by omega) h2
      have h4 := TL.numL_val (k / 10)
      rw [h3] at h4
      have h5 : NumText.digitsVal [48] = 0 := by decide +kernel
      omega
theorem okCount_num {k : Nat} (h : k ≤ 10 ^ 30) : okCount (TL.numL k) = true := by
  have h1 : (TL.numL k).length ≤ 31 := TL.numL_len (by decide) (Nat.lt_of_le_of_lt h (by decide))
  have h2 : dval (TL.numL k) = k := TL.numL_val k
  have h3 : (decide ((TL.numL k).head? = some 48) && decide (TL.numL k ≠ [48])) = false := by
    by_cases c : (TL.numL k).head? = some 48
    · have : TL.numL k = [48] := numL_zero c
      simp [this]
    · simp [c]
  unfold okCount
  rw [h3, h2]
  simp [TL.numL_ne, h1, h]
theorem tw_num (k : Nat) {rest : List Nat} (h : NoDig rest) : (TL.numL k ++ rest).takeWhile isDig = TL.numL k ∧ (TL.numL k ++ rest).dropWhile isDig = rest := by
  have hd : ∀ c ∈ TL.numL k, isDig c = true := fun c hc => (isDig_iff c).mpr (TL.numL_digits k c hc)
  have hr : rest.takeWhile isDig = [] ∧ rest.dropWhile isDig = rest := by
    cases rest with
    | nil => exact ⟨rfl, rfl⟩
    | cons a l =>
      have := h a rfl
      simp [this]
  constructor
  · rw [List.takeWhile_append_of_pos hd, hr.1, List.append_nil]
  · rw [List.dropWhile_append_of_pos hd, hr.2]
theorem Spells.rep {n : Nat} {tx fl : List Nat} (h : Spells n tx fl) {k : Nat} (hk : k ≤ 10 ^ 30) : Spells (n + 1) (40 :: (tx ++ 41 :: TL.numL k)) (List.replicate k fl).flatten := by
  refine ⟨fun rest f fs hl hd => ?_, fun rest hd c hc => ?_, fun c hc => ?_, h.dep.rep fun c hc => ?_, fun c hc => ?_⟩
  · obtain ⟨e1, e2⟩ := tw_num k hd
    rw [List.cons_append, List.append_assoc, List.cons_append, goF_open, if_pos (by omega), h.go _ _ _ (by simp; omega) (fun c hc => by cases hc; decide +kernel), goF_close, e1, e2, if_pos (okCount_num hk), show dval (TL.numL k) = k from TL.numL_val k]
    simp
  · cases hc
    decide +kernel
  · obtain ⟨l, hl, hc⟩ := List.mem_flatten.mp hc
    rw [(List.mem_replicate.mp hl).2] at hc
    exact h.ok c hc
  · have := TL.numL_digits k c hc
    omega
  · rcases List.mem_cons.mp hc with z | z
    · omega
    · rcases List.mem_append.mp z with z | z
      · exact h.asc c z
      · rcases List.mem_cons.mp z with z | z
        · omega
        · have := TL.numL_digits k c z
          omega
theorem Spells.prog {n : Nat} {tx fl : List Nat} (h : Spells n tx fl) (hn : n ≤ 20) : progF tx = some fl := by
  have := h.go [] [] [] (by simpa using hn) NoDig.nil
  rw [List.append_nil] at this
  rw [progF, this, List.nil_append, goF.eq_def]
def progV (v : V) : Option (List Nat) := match v with
  | .str x => progF x.cps.toList
  | _ => none
def progPV (v : V) : Option Pg := match v with
  | .str x => progP x.cps.toList
  | _ => none
theorem strOk_asc {l : List Nat} (h : ∀ c ∈ l, c < 128) : PyData.strOk (S l) = true := by
  show l.toArray.all _ = true
  rw [List.all_toArray, List.all_eq_true]
  exact fun c hc => decide_eq_true (by have := h c hc; omega)
theorem strOk_S {l : List Nat} (h : ∀ c ∈ l, c ∈ stp) : PyData.strOk (S l) = true := strOk_asc fun c hc => stp_asc (h c hc)
end Q
namespace PySem
namespace QX
open PySem.W PySem.Calls PyProof.Rows PySem.HandSPX
open Builtin Builtin.ObjectAttr
section
variable {prog : Program} {w : World} {A : Around} {E : Value → Shared → Prop} {R : Result → Shared → Prop} {hp : Heap} {g : Array GenState} {d : Drawn} {t : Nat} {os : OsState}
theorem osaG {K : W.Frag} {B : String} {bmB : List Value} {name : Str} {tk : Tok} {v : Value} {x C : Addr} {fv : Array Value} (SF : StoreFacts B bmB "object.__setattr__" "object")
    (X : K.In hp) (hx : hp.get? x = some { cls := .ref C, data := .fields fv }) (ho : excOver K C bmB = true) (hh : hasDictIn K C = true) (ht : takerIn K C name = some none)
    (hq : ∀ h' tk' dx, (∀ b o, b ≠ x → hp.get? b = some o → h'.get? b = some o) → hp.objs.size ≤ dx → dx ≠ x → h'.get? x = some { cls := .ref C, dict := some dx, data := .fields fv } →
      h'.Ns1 dx (fun y => if y = name then some v else none) → R (.ok (.ret .none)) ⟨h', g, d, tk', os⟩) :
    codeAny (model prog w) A (.call (.builtin "object.__setattr__") ⟨[.ref x, .str name tk, v], []⟩) R ⟨hp, g, d, t, os⟩ := by
  have hxs : x ≠ hp.objs.size := Nat.ne_of_lt (Heap.lt_size hx)
  have I0 : W.InstAt hp x { cls := .ref C, data := .fields fv } C none := ⟨hx, rfl, rfl, trivial⟩
  obtain ⟨cd, hc, hd⟩ := any_some (show (clsIn K C).any (·.hasDict) = true from hh)
  have Lc : W.Looks (model prog w) hp (classData C) cd := W.looks_clsIn X hc
  refine osa_openX SF X I0 ho ht fun b => ?_
  obtain ⟨nm, bs, mro, ns, qn, hd', sn, sb, ab, col, del⟩ := cd
  have hd2 : hd' = true := hd
  subst hd2
  unfold storeInOwnDict ownDictForStores
  repeat (first | with_reducible refine store_in_new ?_ ?_ | with_reducible refine wpAny_loadPart_at hx ?_ | with_reducible refine Lc.at ?_ | wp_step)
  · exact ⟨_, #[], _, (Heap.get?_update_ne _ _ _ _ hxs.symm).trans (Heap.get?_push_at rfl rfl), rfl, fun e he => absurd he (by simp), fun _ => rfl⟩
  · intro h' tk' hn' hs
    have hx1 : (hp.push { cls := .type "dict", data := .dict #[] }).get? x = some { cls := .ref C, data := .fields fv } := Heap.get?_push_of_some _ hx
    refine hq h' tk' hp.objs.size (fun c o hb hc => ?_) (Nat.le_refl _) hxs.symm ?_ hn'
    · exact (hs.2 c (Nat.ne_of_lt (Heap.lt_size hc))).trans ((Heap.get?_update_ne _ _ _ _ hb).trans (Heap.get?_push_of_some _ hc))
    · exact (hs.2 x hxs).trans (Heap.get?_update_self _ hx1 rfl)
end
structure XTxt (K : Frag) (C fI : Addr) (fld : Str) (bmB : List Value) (newId : String) : Prop where
  ini : excInitIn K C bmB newId = true
  ovr : excOver K C bmB = true
  tkr : takerIn K C fld = some none
  hd : hasDictIn K C = true
  sa : findIn K (.ref C) "__setattr__" = some (some (.builtin "object.__setattr__"))
  ga : findIn K (.ref C) "__getattribute__" = some (some (.builtin "BaseException.__getattribute__"))
  gg : findIn K (.ref C) "__getattr__" = some none
  no : findIn K (.ref C) fld = some none
  iC : findIn K (.ref C) "__init__" = some (some (.ref fI))
  tI : typeIn K (.ref fI) = some (.type "function")
  kC : keepIn K (.ref C) = true
  exC : subIn K (.ref C) (.type "BaseException") = some true
  tyC : typeIn K (.ref C) = some (.type "type")
  fnI : isFn K (.ref fI) = true
structure InitEnd (fld : Str) (h h' : Heap) (x C dx t1 : Addr) (v : Value) : Prop where
  keep : ∀ b o, b ≠ x → h.get? b = some o → h'.get? b = some o
  obj : h'.get? x = some { cls := .ref C, dict := some dx, data := .fields #[.ref t1, .none, .none, .none, .bool false, .none] }
  dbig : h.objs.size ≤ dx
  dne : dx ≠ x
  ns : h'.Ns1 dx (fun y => if y = fld then some v else none)
structure Made1 (fld : Str) (h h' : Heap) (e C d : Addr) (v : Value) : Prop where
  keep : ∀ b o, h.get? b = some o → h'.get? b = some o
  new : h.objs.size ≤ e
  obj : ∃ oe vs, h'.get? e = some oe ∧ oe.cls = .ref C ∧ oe.dict = some d ∧ oe.data = .fields vs ∧ vs[1]? = some .none
  dbig : h.objs.size ≤ d
  dne : d ≠ e
  ns : h'.Ns1 d (fun y => if y = fld then some v else none)
  ctx : ∀ oe vs, h'.get? e = some oe → oe.data = .fields vs → vs[2]? = some .none ∧ 4 < vs.size
theorem ldQ {M : Model} {s : Shared} {name : Str} {scope : Scope} {L a : Addr} {cd : Value} {m : Str → Option Value} {x : Str} {pos : Pos} {v : Value} {Q : Value → Shared → Prop} {A : Around} {E : Value → Shared → Prop} (hn : s.heap.Ns L m) (hv : m x = some v) (h : Q v s)
    (hk : scope.kind = .function := by rfl) (hl : (envOfC name scope L a cd).kindOf x = some .local := by rfl) (hd : (x == ("__debug__" : Str)) = false := by decide) :
    wpAny M A (eval (.Name x pos) (envOfC name scope L a cd)) Q E s := wpAny_Name (wpAny_loadName_local hk hl hn hv h) hd
def InitRuns (prog : Program) (w : World) (K : Frag) (C fI : Addr) (fld : Str) : Prop := ∀ (A : Around) (R : Result → Shared → Prop) (s : Shared) (x t0 : Addr) (v : Value), K.In s.heap → s.heap.NoLimit → s.heap.get? x = some (excO C t0) → K.lookup x = none → A.depth < recursionLimit →
  (∀ h' tk dx, InitEnd fld s.heap h' x C dx t0 v → R (.ok (.ret .none)) { s with heap := h', toks := tk }) → codeAny (model prog w) A (.call (.ref fI) ⟨[.ref x, v], []⟩) R s
section
variable {prog : Program} {w : World} {A : Around} {E : Value → Shared → Prop} {R : Result → Shared → Prop} {s : Shared} {K : Frag} {C fI : Addr} {fld : Str} {bmB : List Value} {newId initId B : String}
theorem made1 (FB : ExcBaseFacts B newId initId bmB) (T : XTxt K C fI fld bmB newId) (hI : InitRuns prog w K C fI fld) {v : Value} (X : K.In s.heap) (hlim : s.heap.NoLimit) (hroom : A.depth + 1 < recursionLimit)
    (hq : ∀ h' tk e d, Made1 fld s.heap h' e C d v → R (.ok (.ret (.ref e))) { s with heap := h', toks := tk }) :
    codeAny (model prog w) A (.call (.ref C) ⟨[v], []⟩) R s := by
  obtain ⟨nm, N, q, bs, bm, hdct, sn, sub, ab, col, dd, k0, k1, k2, k3, k5, hC, hT⟩ := excInit_of X T.ini
  obtain ⟨hp, g, dr, tk, os⟩ := s
  have k : ∀ b o, hp.get? b = some o → ((hp.push (kdv_tup [v])).push (excO C hp.objs.size)).get? b = some o := fun b o e => Heap.get?_push_of_some _ (Heap.get?_push_of_some _ e)
  have hget : ((hp.push (kdv_tup [v])).push (excO C hp.objs.size)).get? (hp.objs.size + 1) = some (excO C hp.objs.size) := by heap_get
  have hnx : K.lookup (hp.objs.size + 1) = none := by
    cases e : K.lookup (hp.objs.size + 1) with
    | none => rfl
    | some o =>
      have z : hp.get? (hp.objs.size + 1) = some o := X _ _ e
      exact absurd (Nat.lt_of_succ_lt (Heap.lt_size z)) (Nat.lt_irrefl _)
  have one : [v].length ≤ sizeLine := by rw [sizeLine_eq]; exact (by decide : 1 ≤ 16777216)
  refine call_own FB hT hC (looks_findIn X T.iC) (fun self => bind_fn X self T.tI) one ?_
  refine hI _ _ ⟨(hp.push (kdv_tup [v])).push (excO C hp.objs.size), g, dr, tk, os⟩ (hp.objs.size + 1) hp.objs.size v (X.keeps k) (hlim.keeps k) hget hnx ?_ fun h' tk' dx ⟨k', hx, dn, dne, hns⟩ => ?_
  · show A.depth + 1 < recursionLimit
    exact hroom
  · have old : ∀ b o, hp.get? b = some o → h'.get? b = some o := fun b o e => k' b o (Nat.ne_of_lt (Nat.lt_succ_of_lt (Heap.lt_size e))) (k b o e)
    have z : hp.objs.size + 1 + 1 ≤ dx := by
      first
        | (simpa only [Heap.size_push] using dn)
        | exact dn
        | (have q := dn; rw [Heap.size_push, Heap.size_push] at q; exact q)
    exact ⟨rfl, hq h' tk' (hp.objs.size + 1) dx ⟨old, Nat.le_succ _, ⟨_, _, hx, rfl, rfl, rfl, rfl⟩, Nat.le_trans (Nat.le_trans (Nat.le_succ _) (Nat.le_succ _)) z, dne, hns, fun oe vs e1 e2 => by
      rw [hx] at e1
      cases e1
      cases e2
      exact ⟨rfl, show 4 < 6 by decide⟩⟩⟩
end
end QX
end PySem
namespace Q
open PySem PySem.Spec PyProof.Rows L2
theorem relO_one {fld : Str} {v : V} {v' : Value} (r : RelV v v') (f : Str) : RelO (List.lookup f [(fld, v)]) (if f = fld then some v' else none) := by
  by_cases hw : f = fld
  · subst hw
    rw [if_pos rfl]
    have q : List.lookup f [(f, v)] = some v := by simp [List.lookup]
    rw [q]
    exact r
  · rw [if_neg hw]
    have qw : (f == fld) = false := by simpa using hw
    have q2 : List.lookup f [(fld, v)] = none := by simp [List.lookup, qw]
    rw [q2]
    trivial
section
variable {X : Cx} {C fI : Addr} {cn fld : Str} {bmB : List Value} {newId initId B : String}
def tMk1 (C : Addr) (fld : Str) (ta : TA) : St → Hp → XK → Prop := fun σ H Q => ta σ H fun vs H1 => ∃ v, vs = [v] ∧ ∀ d, H1 d = none → Q (.ref C) (some d) (upd H1 d (.xd [(fld, v)]))
theorem pmk_1 {a : Expr} {ta : TA} {p pos : Pos} {k : Nat} (FB : ExcBaseFacts B newId initId bmB) (T : PySem.QX.XTxt X.K C fI fld bmB newId) (hI : PySem.QX.InitRuns X.prog X.w X.K C fI fld) (gC : X.mg cn = some (.ref C)) (hr : Room k X.A) (hg : Gl X cn) (ha : PA X [a] ta)
    (hdb : (cn == ("__debug__" : Str)) = false := by decide) (he : starEach (a :: []) X.env = (false, eval a X.env) :: starEach [] X.env := by rfl) (hpl : (backTo pos (starEach [] X.env)).any (·.1) = false := by rfl) :
    PMk X (.Call (.Name cn p) [a] [] pos) (tMk1 C fld ta) := by
  intro pins s σ H Q I h
  refine wpAny_Call_Name_kw (ld_glob I hg gC ?_ hdb)
  refine PySem.W.callWith_K (h₀ := X.base) I.ok.mod.kin T.kC (thn (ha.run pos pins s σ H _ I h) fun us s1 hh => ?_) he hpl
  obtain ⟨vs, H1, I1, r1, v, ev, q1⟩ := hh
  subst ev
  refine ⟨I1.kIn, ?_⟩
  cases r1 with
  | cons rv rn =>
    rename_i v' us'
    cases rn
    show wpAny _ _ (call (.ref C) [v']) _ _ _
    have hlim := I1.nolimit
    obtain ⟨hp, g, dr, tk, os⟩ := s1
    refine wpAny_call (PySem.QX.made1 FB T hI I1.kIn hlim (by have := hr.dp; omega) fun h' tk' e d M => ?_)
    show MkP X pins σ Q (.ref e) ⟨h', g, dr, tk', os⟩
    obtain ⟨oe, fv, hoe, hc, hd, hdat, h1⟩ := M.obj
    have hns := M.ns
    obtain ⟨G', g1, g2⟩ := restrict h' fun b => decide (b ≠ e)
    have gk : ∀ b, b ≠ e → G'.get? b = h'.get? b := fun b hb => g1 b (decide_eq_true hb)
    have ge : G'.get? e = none := g2 e (by simp)
    have old : ∀ b o, hp.get? b = some o → G'.get? b = some o := fun b o q => (gk b (Nat.ne_of_lt (Nat.lt_of_lt_of_le (Heap.lt_size q) M.new))).trans (M.keep b o q)
    have ob : ObjOk X.prog X.w (upd H1 d (.xd [(fld, v)])) G' d (.xd [(fld, v)]) := ⟨_, hns.at (fun o q => (gk d M.dne).trans q), fun f => relO_one rv f⟩
    have J : Inv X pins σ (upd H1 d (.xd [(fld, v)])) ⟨G', g, dr, tk', os⟩ := I1.laid (t' := tk') old M.dbig ob
    refine ⟨e, oe, fv, ⟨G', g, dr, tk', os⟩, _, .ref C, some d, rfl, J, fun b o q => ?_, ge, hoe, ⟨hc, hd⟩, hdat, h1, ?_, rfl, I1.bare, raises_own T.exC T.tyC, q1 d (I1.hok.fresh M.dbig)⟩
    · by_cases hb : b = e
      · have q' : G'.get? b = some o := q
        rw [hb, ge] at q'; cases q'
      · exact (gk b hb).symm.trans q
    · rw [upd_ne (Ne.symm M.dne)]
      exact I1.hok.fresh M.new
def tBy1 (C : Addr) (fld : Str) (a : Addr) (cls : Value) (d : Option Addr) (te : TE) : TE := fun σ H Q => te σ H fun x H1 => x = .ref a ∧ cls = .ref C ∧ ∃ (dd : Addr) (v : V), d = some dd ∧ H1 dd = some (.xd [(fld, v)]) ∧ Q v H1
end
def x1B (cn fld : Str) (bmB : List Value) (newId : String) (K : PySem.W.Frag) : Bool :=
  PySem.W.excInitIn K (He.ga K cn) bmB newId && (PySem.W.excOver K (He.ga K cn) bmB && (decide (PySem.W.takerIn K (He.ga K cn) fld = some none) && (PySem.W.hasDictIn K (He.ga K cn) && (He.eqO (PySem.W.findIn K (.ref (He.ga K cn)) "__setattr__") (some (some (.builtin "object.__setattr__"))) &&
  (He.eqO (PySem.W.findIn K (.ref (He.ga K cn)) "__getattribute__") (some (some (.builtin "BaseException.__getattribute__"))) && (He.eqO (PySem.W.findIn K (.ref (He.ga K cn)) "__getattr__") (some none) && (He.eqO (PySem.W.findIn K (.ref (He.ga K cn)) fld) (some none) &&
  (He.eqO (PySem.W.findIn K (.ref (He.ga K cn)) "__init__") (some (some (.ref (He.ma K (He.ga K cn) "__init__")))) && (decide (PySem.W.typeIn K (.ref (He.ma K (He.ga K cn) "__init__")) = some (.type "function")) && (PySem.W.keepIn K (.ref (He.ga K cn)) &&
  (decide (PySem.W.subIn K (.ref (He.ga K cn)) (.type "BaseException") = some true) && (decide (PySem.W.typeIn K (.ref (He.ga K cn)) = some (.type "type")) && PySem.W.isFn K (.ref (He.ma K (He.ga K cn) "__init__"))))))))))))))
theorem x1B_ok {K : PySem.W.Frag} {cn fld : Str} {bmB : List Value} {newId : String} (h : x1B cn fld bmB newId K = true) : PySem.QX.XTxt K (He.ga K cn) (He.ma K (He.ga K cn) "__init__") fld bmB newId := by
  obtain ⟨c1, h⟩ := He.ba h
  obtain ⟨c2, h⟩ := He.ba h
  obtain ⟨c3, h⟩ := He.ba h
  obtain ⟨c4, h⟩ := He.ba h
  obtain ⟨c5, h⟩ := He.ba h
  obtain ⟨c6, h⟩ := He.ba h
  obtain ⟨c7, h⟩ := He.ba h
  obtain ⟨c8, h⟩ := He.ba h
  obtain ⟨c9, h⟩ := He.ba h
  obtain ⟨c10, h⟩ := He.ba h
  obtain ⟨c11, h⟩ := He.ba h
  obtain ⟨c12, h⟩ := He.ba h
  obtain ⟨c13, c14⟩ := He.ba h
  exact ⟨c1, c2, of_decide_eq_true c3, c4, He.eqO_ok c5, He.eqO_ok c6, He.eqO_ok c7, He.eqO_ok c8, He.eqO_ok c9, of_decide_eq_true c10, c11, of_decide_eq_true c12, of_decide_eq_true c13, c14⟩
end Q
namespace PySem
namespace QX
open PySem.W PySem.Calls PyProof.Rows PySem.HandSPX
open Builtin Builtin.ObjectAttr
section
variable {prog : Program} {w : World} {A : Around} {E : Value → Shared → Prop} {R : Result → Shared → Prop} {hp : Heap} {g : Array GenState} {d : Drawn} {t : Nat} {os : OsState}
theorem osaG2 {K : W.Frag} {B : String} {bmB : List Value} {name : Str} {tk : Tok} {v : Value} {x C dx : Addr} {fv : Array Value} {m0 : Str → Option Value} {nl : List Str} (SF : StoreFacts B bmB "object.__setattr__" "object")
    (X : K.In hp) (hx : hp.get? x = some { cls := .ref C, dict := some dx, data := .fields fv }) (hns : hp.Ns1 dx m0) (hw : Within m0 nl) (hz : nl.length ≤ 1000) (ho : excOver K C bmB = true) (hh : hasDictIn K C = true) (ht : takerIn K C name = some none)
    (hq : ∀ h' tk', (∀ b o, b ≠ dx → hp.get? b = some o → h'.get? b = some o) → h'.Ns1 dx (fun y => if y = name then some v else m0 y) → R (.ok (.ret .none)) ⟨h', g, d, tk', os⟩) :
    codeAny (model prog w) A (.call (.builtin "object.__setattr__") ⟨[.ref x, .str name tk, v], []⟩) R ⟨hp, g, d, t, os⟩ := by
  obtain ⟨oD, esD, epD, hoD, hdD, _⟩ := hns.count hw
  have I0 : W.InstAt hp x { cls := .ref C, dict := some dx, data := .fields fv } C (some oD) := ⟨hx, rfl, rfl, hoD⟩
  obtain ⟨cd, hc, hd⟩ := any_some (show (clsIn K C).any (·.hasDict) = true from hh)
  have Lc : W.Looks (model prog w) hp (classData C) cd := W.looks_clsIn X hc
  refine osa_openX SF X I0 ho ht fun b => ?_
  obtain ⟨nm, bs, mro, ns, qn, hd', sn, sb, ab, col, del⟩ := cd
  have hd2 : hd' = true := hd
  subst hd2
  unfold storeInOwnDict ownDictForStores
  repeat (first | with_reducible refine PySem.OEX.store_in_old hns hw hz ?_ | with_reducible refine wpAny_loadPart_at hx ?_ | with_reducible refine Lc.at ?_ | wp_step)
  intro h' tk' hn' hs
  exact hq h' tk' (fun b o hb ho => (hs.2 b hb).trans ho) hn'
end
structure InitEnd2 (f1 f2 : Str) (h h' : Heap) (x C dx t1 : Addr) (v1 v2 : Value) : Prop where
  keep : ∀ b o, b ≠ x → h.get? b = some o → h'.get? b = some o
  obj : h'.get? x = some { cls := .ref C, dict := some dx, data := .fields #[.ref t1, .none, .none, .none, .bool false, .none] }
  dbig : h.objs.size ≤ dx
  dne : dx ≠ x
  ns : h'.Ns1 dx (fun y => if y = f2 then some v2 else if y = f1 then some v1 else none)
structure Made2 (f1 f2 : Str) (h h' : Heap) (e C d : Addr) (v1 v2 : Value) : Prop where
  keep : ∀ b o, h.get? b = some o → h'.get? b = some o
  new : h.objs.size ≤ e
  obj : ∃ oe vs, h'.get? e = some oe ∧ oe.cls = .ref C ∧ oe.dict = some d ∧ oe.data = .fields vs ∧ vs[1]? = some .none
  dbig : h.objs.size ≤ d
  dne : d ≠ e
  ns : h'.Ns1 d (fun y => if y = f2 then some v2 else if y = f1 then some v1 else none)
def InitRuns2 (prog : Program) (w : World) (K : Frag) (C fI : Addr) (f1 f2 : Str) : Prop := ∀ (A : Around) (R : Result → Shared → Prop) (s : Shared) (x t0 : Addr) (v1 v2 : Value), K.In s.heap → s.heap.NoLimit → s.heap.get? x = some (excO C t0) → K.lookup x = none → A.depth < recursionLimit →
  (∀ h' tk dx, InitEnd2 f1 f2 s.heap h' x C dx t0 v1 v2 → R (.ok (.ret .none)) { s with heap := h', toks := tk }) → codeAny (model prog w) A (.call (.ref fI) ⟨[.ref x, v1, v2], []⟩) R s
theorem within_one {f1 : Str} {v1 : Value} : Within (fun y => if y = f1 then some v1 else none) [f1] := fun y hy => by
  by_cases h : y = f1
  · rw [h]; exact List.mem_singleton.mpr rfl
  · simp [h] at hy
section
variable {prog : Program} {w : World} {A : Around} {E : Value → Shared → Prop} {R : Result → Shared → Prop} {s : Shared} {K : Frag} {C fI : Addr} {f1 f2 : Str} {bmB : List Value} {newId initId B : String}
theorem made2 (FB : ExcBaseFacts B newId initId bmB) (T : XTxt K C fI f1 bmB newId) (hI : InitRuns2 prog w K C fI f1 f2) {v1 v2 : Value} (X : K.In s.heap) (hlim : s.heap.NoLimit) (hroom : A.depth + 1 < recursionLimit)
    (hq : ∀ h' tk e d, Made2 f1 f2 s.heap h' e C d v1 v2 → R (.ok (.ret (.ref e))) { s with heap := h', toks := tk }) :
    codeAny (model prog w) A (.call (.ref C) ⟨[v1, v2], []⟩) R s := by
  obtain ⟨nm, N, q, bs, bm, hdct, sn, sub, ab, col, dd, k0, k1, k2, k3, k5, hC, hT⟩ := excInit_of X T.ini
  obtain ⟨hp, g, dr, tk, os⟩ := s
  have k : ∀ b o, hp.get? b = some o → ((hp.push (kdv_tup [v1, v2])).push (excO C hp.objs.size)).get? b = some o := fun b o e => Heap.get?_push_of_some _ (Heap.get?_push_of_some _ e)
  have hget : ((hp.push (kdv_tup [v1, v2])).push (excO C hp.objs.size)).get? (hp.objs.size + 1) = some (excO C hp.objs.size) := by heap_get
  have hnx : K.lookup (hp.objs.size + 1) = none := by
    cases e : K.lookup (hp.objs.size + 1) with
    | none => rfl
    | some o =>
      have z : hp.get? (hp.objs.size + 1) = some o := X _ _ e
      exact absurd (Nat.lt_of_succ_lt (Heap.lt_size z)) (Nat.lt_irrefl _)
  have one : [v1, v2].length ≤ sizeLine := by rw [sizeLine_eq]; exact (by decide : 2 ≤ 16777216)
  refine call_own FB hT hC (looks_findIn X T.iC) (fun self => bind_fn X self T.tI) one ?_
  refine hI _ _ ⟨(hp.push (kdv_tup [v1, v2])).push (excO C hp.objs.size), g, dr, tk, os⟩ (hp.objs.size + 1) hp.objs.size v1 v2 (X.keeps k) (hlim.keeps k) hget hnx ?_ fun h' tk' dx ⟨k', hx, dn, dne, hns⟩ => ?_
  · show A.depth + 1 < recursionLimit
    exact hroom
  · have old : ∀ b o, hp.get? b = some o → h'.get? b = some o := fun b o e => k' b o (Nat.ne_of_lt (Nat.lt_succ_of_lt (Heap.lt_size e))) (k b o e)
    have z : hp.objs.size + 1 + 1 ≤ dx := by
      first
        | (simpa only [Heap.size_push] using dn)
        | exact dn
        | (have q := dn; rw [Heap.size_push, Heap.size_push] at q; exact q)
    exact ⟨rfl, hq h' tk' (hp.objs.size + 1) dx ⟨old, Nat.le_succ _, ⟨_, _, hx, rfl, rfl, rfl, rfl⟩, Nat.le_trans (Nat.le_trans (Nat.le_succ _) (Nat.le_succ _)) z, dne, hns⟩⟩
end
end QX
end PySem
namespace Q
open PySem PySem.Spec PyProof.Rows L2
theorem relO_two {f1 f2 : Str} (hne : f1 ≠ f2) {v1 v2 : V} {u1 u2 : Value} (r1 : RelV v1 u1) (r2 : RelV v2 u2) (f : Str) : RelO (List.lookup f [(f1, v1), (f2, v2)]) (if f = f2 then some u2 else if f = f1 then some u1 else none) := by
  by_cases h2 : f = f2
  · subst h2
    have q : List.lookup f [(f1, v1), (f, v2)] = some v2 := by
      have : (f == f1) = false := by simpa using fun z => hne z.symm
      simp [List.lookup, this]
    rw [if_pos rfl, q]; exact r2
  · rw [if_neg h2]
    by_cases h1 : f = f1
    · subst h1
      rw [if_pos rfl]
      have q : List.lookup f [(f, v1), (f2, v2)] = some v1 := by simp [List.lookup]
      rw [q]; exact r1
    · rw [if_neg h1]
      have q1 : (f == f1) = false := by simpa using h1
      have q2 : (f == f2) = false := by simpa using h2
      have q : List.lookup f [(f1, v1), (f2, v2)] = none := by simp [List.lookup, q1, q2]
      rw [q]; trivial
section
variable {X : Cx} {C fI : Addr} {cn f1 f2 fld : Str} {bmB : List Value} {newId initId B : String}
def tMk2 (C : Addr) (f1 f2 : Str) (ta : TA) : St → Hp → XK → Prop := fun σ H Q => ta σ H fun vs H1 => ∃ v1 v2, vs = [v1, v2] ∧ ∀ d, H1 d = none → Q (.ref C) (some d) (upd H1 d (.xd [(f1, v1), (f2, v2)]))
theorem pmk_2 {a b : Expr} {ta : TA} {p pos : Pos} {k : Nat} (FB : ExcBaseFacts B newId initId bmB) (hne : f1 ≠ f2) (T : PySem.QX.XTxt X.K C fI f1 bmB newId) (hI : PySem.QX.InitRuns2 X.prog X.w X.K C fI f1 f2) (gC : X.mg cn = some (.ref C)) (hr : Room k X.A) (hg : Gl X cn) (ha : PA X [a, b] ta)
    (hdb : (cn == ("__debug__" : Str)) = false := by decide) (he : starEach (a :: b :: []) X.env = (false, eval a X.env) :: starEach [b] X.env := by rfl) (hpl : (backTo pos (starEach [b] X.env)).any (·.1) = false := by rfl) :
    PMk X (.Call (.Name cn p) [a, b] [] pos) (tMk2 C f1 f2 ta) := by
  intro pins s σ H Q I h
  refine wpAny_Call_Name_kw (ld_glob I hg gC ?_ hdb)
  refine PySem.W.callWith_K (h₀ := X.base) I.ok.mod.kin T.kC (thn (ha.run pos pins s σ H _ I h) fun us s1 hh => ?_) he hpl
  obtain ⟨vs, H1, I1, r1, v1, v2, ev, q1⟩ := hh
  subst ev
  refine ⟨I1.kIn, ?_⟩
  cases r1 with
  | cons rv rn =>
    rename_i u1 us'
    cases rn with
    | cons rv2 rn2 =>
    rename_i u2 us2
    cases rn2
    show wpAny _ _ (call (.ref C) [u1, u2]) _ _ _
    have hlim := I1.nolimit
    obtain ⟨hp, g, dr, tk, os⟩ := s1
    refine wpAny_call (PySem.QX.made2 FB T hI I1.kIn hlim (by have := hr.dp; omega) fun h' tk' e d M => ?_)
    show MkP X pins σ Q (.ref e) ⟨h', g, dr, tk', os⟩
    obtain ⟨oe, fv, hoe, hc, hd, hdat, h1⟩ := M.obj
    have hns := M.ns
    obtain ⟨G', g1, g2⟩ := restrict h' fun b => decide (b ≠ e)
    have gk : ∀ b, b ≠ e → G'.get? b = h'.get? b := fun b hb => g1 b (decide_eq_true hb)
    have ge : G'.get? e = none := g2 e (by simp)
    have old : ∀ b o, hp.get? b = some o → G'.get? b = some o := fun b o q => (gk b (Nat.ne_of_lt (Nat.lt_of_lt_of_le (Heap.lt_size q) M.new))).trans (M.keep b o q)
    have ob : ObjOk X.prog X.w (upd H1 d (.xd [(f1, v1), (f2, v2)])) G' d (.xd [(f1, v1), (f2, v2)]) := ⟨_, hns.at (fun o q => (gk d M.dne).trans q), fun f => relO_two hne rv rv2 f⟩
    have J : Inv X pins σ (upd H1 d (.xd [(f1, v1), (f2, v2)])) ⟨G', g, dr, tk', os⟩ := I1.laid (t' := tk') old M.dbig ob
    refine ⟨e, oe, fv, ⟨G', g, dr, tk', os⟩, _, .ref C, some d, rfl, J, fun b o q => ?_, ge, hoe, ⟨hc, hd⟩, hdat, h1, ?_, rfl, I1.bare, raises_own T.exC T.tyC, q1 d (I1.hok.fresh M.dbig)⟩
    · by_cases hb : b = e
      · have q' : G'.get? b = some o := q
        rw [hb, ge] at q'; cases q'
      · exact (gk b hb).symm.trans q
    · rw [upd_ne (Ne.symm M.dne)]
      exact I1.hok.fresh M.new
def tByN (C : Addr) (fld : Str) (a : Addr) (cls : Value) (d : Option Addr) (te : TE) : TE := fun σ H Q => te σ H fun x H1 => x = .ref a ∧ cls = .ref C ∧ ∃ (dd : Addr) (fs : List (Str × V)) (v : V), d = some dd ∧ H1 dd = some (.xd fs) ∧ fs.lookup fld = some v ∧ Q v H1
end
end Q
namespace Q
open PySem PySem.Spec PyProof.Rows L2
structure Five where
  p : Int
  t : Int
  l : Int
  h : Int
  f : Int
deriving DecidableEq
def Five.vs (F : Five) : List V := [.int F.p, .int F.t, .int F.l, .int F.h, .int F.f]
def mx (a b : Int) : Int := if a < b then b else a
def mn (a b : Int) : Int := if b < a then b else a
def Five.join (F G : Five) : Five := ⟨F.p + G.p, F.t + G.t, mn F.l (F.p - F.t + G.l), mx F.h (F.p - F.t + G.h), mx (mx F.f G.f) (F.h - (F.p - F.t) - G.l)⟩
def Five.none : Five := ⟨0, 0, 0, 0, 0⟩
structure Five.Good (F : Five) : Prop where
  l : F.l ≤ 0
  h : 0 ≤ F.h
  f : 0 ≤ F.f
  f1 : -F.l ≤ F.f
  f2 : F.h - (F.p - F.t) ≤ F.f
  lo : F.l ≤ F.p - F.t
  ho : F.p - F.t ≤ F.h
  p0 : 0 ≤ F.p
  t0 : 0 ≤ F.t
def Five.pow (F : Five) : Nat → Five
  | 0 => Five.none
  | n + 1 => F.join (F.pow n)
def stepF (c : Nat) : Five := if c = 45 then ⟨0, 1, -1, 0, 1⟩ else ⟨1, 0, 0, 1, 0⟩
def fiveF : List Nat → Five
  | [] => Five.none
  | c :: l => (stepF c).join (fiveF l)
def rangeF (F : Five) (c : Int) (strict : Bool) : Option (Int × Int) :=
  if strict = true then (if F.h - F.l ≤ c then some (-F.l, c - F.h) else none) else (if F.f ≤ c then some (-F.l, c) else none)
def isStrict (z : Str) : Bool := decide (z = "strict")
def modeZ (v : V) : Bool := match v with
  | .str z => isStrict z
  | _ => false
def runs (F : Five) (c : Int) (strict : Bool) (n : Int) : Bool := match rangeF F c strict with
  | none => false
  | some (x, y) => decide (x ≤ n) && decide (n ≤ y)
def endF (F : Five) (c n : Int) : Int := if c + (F.p - F.t) - F.h < n + (F.p - F.t) then c + (F.p - F.t) - F.h else n + (F.p - F.t)
def lostF (F : Five) (c n : Int) : Int := if 0 < n + F.h - c then n + F.h - c else 0
end Q
namespace PySem
open Sem (wp)
open AutoSeq1 (wpAny_loadPart')
set_option maxRecDepth 100000
section
variable {prog : Program} {w : World} {A : Around} {E : Value → Shared → Prop} {s : Shared}
end
section
variable {prog : Program} {w : World} {A : Around} {E : Value → Shared → Prop} {s : Shared}
end
end PySem
namespace L2
open PySem PySem.Spec PyProof.Rows
def IteT (K : PySem.W.Frag) (a : Addr) : It :=
  ⟨fun i H => ∃ (xs : List V) (x : V), SqT K H a xs ∧ xs[i]? = some x, fun i H v H' => ∃ T x, v = .ref T ∧ H T = none ∧ H' = upd H T (.tup [.int (i : Nat), x]) ∧ ∀ xs, SqT K H a xs → xs[i]? = some x, fun i H => ∃ xs : List V, SqT K H a xs ∧ xs.length ≤ i⟩
def iEnumT (K : PySem.W.Frag) (ta : TA) : TI := fun σ H R => ta σ H fun vs H1 => ∃ a xs, vs = [.ref a] ∧ SqT K H1 a xs ∧ R (IteT K a) H1
def propB (x f : Str) (K : PySem.W.Frag) : Bool :=
  He.eqO (PySem.W.findIn K (.ref (He.ga K x)) f) (some (some (.ref (He.ma K (He.ga K x) f)))) && (He.eqO (PySem.W.specialIn K (.ref (He.ma K (He.ga K x) f)) "__get__") (some (some (.builtin "property.__get__"))) &&
    (decide (PySem.W.takesIn K (.ref (He.ma K (He.ga K x) f)) = some true) && (match PySem.W.recIn K (He.ma K (He.ga K x) f) "property" with
      | some (.ref g :: _) => g == He5.wf K (He.ga K x) "property" f
      | _ => false)))
def isiB (x : Str) (K : PySem.W.Frag) : Bool := ["NoneType", "bool", "int", "str", "tuple", "list", "dict"].all fun n => decide (PySem.W.kitOne K (.type n) (.ref (He.ga K x)) = some false)
def isiC (x y : Str) (b : Bool) (K : PySem.W.Frag) : Bool := decide (PySem.W.kitOne K (.ref (He.ga K x)) (.ref (He.ga K y)) = some b)
def dunB (x m : Str) (K : PySem.W.Frag) : Bool := He.eqO (PySem.W.findIn K (.ref (He.ga K x)) m) (some (some (.ref (He.ma K (He.ga K x) m)))) && PySem.W.isFn K (.ref (He.ma K (He.ga K x) m))
def fnB (x m : Str) (K : PySem.W.Frag) : Bool := PySem.W.fnIn K (He.ma K (He.ga K x) m)
def neB (x : Str) (K : PySem.W.Frag) : Bool := He.eqO (PySem.W.findIn K (.ref (He.ga K x)) "__ne__") (some (some (.builtin "object.__ne__")))
def sfB (x : Str) (K : PySem.W.Frag) : Bool := PySem.W.selfFirst K (He.ga K x)
def siB (x : Str) (K : PySem.W.Frag) : Bool := decide (PySem.W.subIn K (.type "int") (.ref (He.ga K x)) = some false)
def creadB (x : Str) (K : PySem.W.Frag) : Bool := PySem.W.readsIn K (He.ga K x) (.type "type") && He.eqO (PySem.W.specialIn K (.ref (He.ga K x)) "__getattribute__") (some (some (.builtin "type.__getattribute__")))
def cmetB (x m : Str) (K : PySem.W.Frag) : Bool := He5.wrapB K (He.ga K x) "classmethod" "classmethod.__get__" m && PySem.W.fnIn K (He5.wf K (He.ga K x) "classmethod" m)
end L2
namespace L2
open PySem PySem.Spec PyProof.Rows
def iEnumQ (K : PySem.W.Frag) (ta : TA) : TI := fun σ H R => ta σ H fun vs H1 => (∃ a xs, vs = [.ref a] ∧ SqL K H1 a xs ∧ R (Ite K a) H1) ∨ ∃ a xs, vs = [.ref a] ∧ SqT K H1 a xs ∧ R (IteT K a) H1
structure InsTy (K : PySem.W.Frag) (C : Addr) : Prop where
  cl : Cls K C
  ha : PySem.W.findIn K (.ref C) "__class__" = some (some (.builtin "object.__class__"))
  hn : PySem.W.specialIn K (.builtin "object.__class__") "__get__" = some (some (.builtin "getset_descriptor.__get__"))
  htk : PySem.W.takesIn K (.builtin "object.__class__") = some true
  hm : PySem.W.mroIn K C (.type "object") = some true
def insTyB (x : Str) (K : PySem.W.Frag) : Bool := (He.Fa.cls x).ok K && (He.eqO (PySem.W.findIn K (.ref (He.ga K x)) "__class__") (some (some (.builtin "object.__class__"))) && (He.eqO (PySem.W.specialIn K (.builtin "object.__class__") "__get__") (some (some (.builtin "getset_descriptor.__get__"))) &&
  (decide (PySem.W.takesIn K (.builtin "object.__class__") = some true) && decide (PySem.W.mroIn K (He.ga K x) (.type "object") = some true))))
end L2
namespace L2
open PySem PySem.Spec PyProof.Rows
def excCB (x : Str) (K : PySem.W.Frag) : Bool := He.eqO (PySem.W.findIn K (.ref (He.ga K x)) "__getattribute__") (some (some (.builtin "BaseException.__getattribute__"))) && (He.eqO (PySem.W.findIn K (.ref (He.ga K x)) "__getattr__") (some none) &&
  (decide (PySem.W.subIn K (.ref (He.ga K x)) (.type "BaseException") = some true) && (PySem.W.hasDictIn K (He.ga K x) && (He.eqO (PySem.W.findIn K (.ref (He.ga K x)) "__class__") (some (some (.builtin "object.__class__"))) &&
  (He.eqO (PySem.W.specialIn K (.builtin "object.__class__") "__get__") (some (some (.builtin "getset_descriptor.__get__"))) && (decide (PySem.W.takesIn K (.builtin "object.__class__") = some true) && decide (PySem.W.mroIn K (He.ga K x) (.type "object") = some true)))))))
theorem excCB_ok {K : PySem.W.Frag} {x : Str} (h : excCB x K = true) : ExcC K (He.ga K x) := by
  unfold excCB at h
  simp only [Bool.and_eq_true] at h
  exact ⟨He.eqO_ok h.1, He.eqO_ok h.2.1, of_decide_eq_true h.2.2.1, h.2.2.2.1, He.eqO_ok h.2.2.2.2.1, He.eqO_ok h.2.2.2.2.2.1, of_decide_eq_true h.2.2.2.2.2.2.1, of_decide_eq_true h.2.2.2.2.2.2.2⟩
end L2
namespace L2
open PySem PySem.Spec PyProof.Rows
def sbB (x : Str) (K : PySem.W.Frag) : Bool := decide (PySem.W.subIn K (.type "bool") (.ref (He.ga K x)) = some false)
def nfB (x : Str) (K : PySem.W.Frag) : Bool := ["NoneType", "bool", "int", "str", "tuple", "list", "dict"].all fun n => decide (PySem.W.subIn K (.type n) (.ref (He.ga K x)) = some false)
end L2
namespace PySem
namespace QX
open PySem.W PySem.Calls PyProof.Rows PySem.HandSPX
open Builtin
section
variable {M : Model} {A : Around} {E : Value → Shared → Prop} {h : Heap} {g : Array GenState} {d : Drawn} {t : Nat} {os : OsState}
variable {nm q : Str} {C N : Addr} {bs bm bmB : List Value} {hdct : Bool} {sn : List Str} {sub : List Value} {ab : Bool} {col : Option Bool} {dd : Option Addr} {k0 k1 k2 k3 k5 : Option Value} {B newId initId : String}
theorem check_newK (F : ExcBaseFacts B newId initId bmB) (hT : ∀ X : String, bm.contains (.type X) = bmB.contains (.type X)) {kw : List (Str × Value)} {Q : Unit → Shared → Prop}
    (hC : h.get? C = some (excClassObj nm q C N bs bm hdct sn sub ab col dd k0 k1 k2 k3 k5 newId)) (hq : Q () ⟨h, g, d, t, os⟩) : wpAny M A (checkBuiltinCall newId ⟨[.ref C], kw⟩) Q E ⟨h, g, d, t, os⟩ := by
  have hcont : (Value.ref C :: bm).contains (.type B) = true := by rw [List.contains_cons, hT, F.hasB, Bool.or_true]
  have hstar := F.noStar
  simp only [checkBuiltinCall, F.newKind, F.newSplit, F.newRow]
  repeat (first | refine wpAny_loadPart_at hC ?_ | (refine wpAny_isSubtype_exc hC ?_; rw [hcont]) | refine wpAny_staticBase_exc hC ?_ | refine wpAny_madeBy_exc hC ?_ | simp only [bne_self_eq_false, Bool.false_eq_true, if_false] | wp_step)
  exact hq
end
section
variable {prog : Program} {w : World} {A : Around} {E : Value → Shared → Prop} {R : Result → Shared → Prop} {h : Heap} {g : Array GenState} {d : Drawn} {t : Nat} {os : OsState}
variable {nm q : Str} {C N : Addr} {bs bm bmB : List Value} {hdct : Bool} {sn : List Str} {sub : List Value} {ab : Bool} {col : Option Bool} {dd : Option Addr} {k0 k1 k2 k3 k5 : Option Value} {B newId initId : String}
theorem newK (F : ExcBaseFacts B newId initId bmB) (hT : ∀ X : String, bm.contains (.type X) = bmB.contains (.type X)) {kw : List (Str × Value)}
    (hC : h.get? C = some (excClassObj nm q C N bs bm hdct sn sub ab col dd k0 k1 k2 k3 k5 newId))
    (hq : R (.ok (.ret (.ref (h.objs.size + 1)))) ⟨(h.push { cls := .type "tuple", data := .seq ([] : List Value).toArray }).push
      { cls := .ref C, data := .fields #[.ref h.objs.size, .none, .none, .none, .bool false, .none] }, g, d, t, os⟩) :
    codeAny (model prog w) A (.builtin newId ⟨[.ref C], kw⟩) R ⟨h, g, d, t, os⟩ := by
  have hrest : ([] : List Value).length ≤ sizeLine := Nat.zero_le _
  have hends := F.ends
  have hcB : (Value.ref C :: bm).contains (.type B) = true := by rw [List.contains_cons, hT, F.hasB, Bool.or_true]
  have hcA : (Value.ref C :: bm).contains (.type "AttributeError") = false := by rw [List.contains_cons, hT, F.noAttr]; rfl
  have hcN : (Value.ref C :: bm).contains (.type "NameError") = false := by rw [List.contains_cons, hT, F.noName]; rfl
  refine codeAny_builtinAt F.entry ?_
  unfold Builtin.«BaseException.__new__»
  refine wpAt_bind ?_
  show wpAt _ _ _ (stack >>= _) _ _ _
  refine wpAt_bind (wpAt_stack fun p below => wpAt_of_wpAny ?_)
  wp_walk
  refine wpAt_of_wpAny ?_
  rw [F.owner]
  repeat (first | with_reducible refine wpAny_madeHere_exc F.canon hC ?_ | with_reducible refine wpAny_loadPart_at hC ?_ | (with_reducible refine wpAny_isSubtype_exc hC ?_; first | rw [hcB] | rw [hcA] | rw [hcN]) | wp_step)
  show R _ _
  rw [Heap.size_push]
  exact hq
theorem type_callK (F : ExcBaseFacts B newId initId bmB) (hT : ∀ X : String, bm.contains (.type X) = bmB.contains (.type X)) {kw : List (Str × Value)} {fI : Addr} {Q : Fin → Shared → Prop}
    (hC : h.get? C = some (excClassObj nm q C N bs bm hdct sn sub ab col dd k0 k1 k2 k3 k5 newId))
    (hi : W.Looks (model prog w) h (typeLookup (.ref C) "__init__") (some (.ref fI))) (hb : ∀ self, W.Looks (model prog w) h (bindSpecial (.ref fI) self) (.ref fI, [self]))
    (hq : codeAny (model prog w) A (.call (.ref fI) ⟨[.ref (h.objs.size + 1)], kw⟩)
      (fun r s' => match r with | .ok (.ret v) => v = .none ∧ Q (.done (.ret (.ref (h.objs.size + 1)))) s' | .ok _ => False | .error e => E e s')
      ⟨(h.push (W.kdv_tup [])).push (excO C h.objs.size), g, d, t, os⟩) :
    wpAny (model prog w) A (Builtin.«type.__call__» ⟨[.ref C], kw⟩) Q E ⟨h, g, d, t, os⟩ := by
  repeat (first | with_reducible refine wpAny_loadPart_at hC ?_ | with_reducible refine wpAny_madeBy_exc hC ?_ | wp_step)
  refine codeAny_call_builtin_code (Code.quiet_builtin _ F.quiet) (check_newK F hT hC ?_)
  refine newK F hT hC ?_
  show wpAny _ _ _ _ _ _
  have k : ∀ b o, h.get? b = some o → ((h.push (W.kdv_tup [])).push (excO C h.objs.size)).get? b = some o := fun b o e => Heap.get?_push_of_some _ (Heap.get?_push_of_some _ e)
  have hC₁ := k _ _ hC
  have hget : ((h.push (W.kdv_tup [])).push (excO C h.objs.size)).get? (h.objs.size + 1) = some (excO C h.objs.size) := by heap_get
  have hcC : (Value.ref C :: bm).contains (.ref C) = true := by simp
  have i1 := hi.keeps k
  have b1 := (hb (.ref (h.objs.size + 1))).keeps k
  unfold isInstance
  repeat (first | with_reducible refine wpAny_loadPart_at hget ?_ | (with_reducible refine wpAny_isSubtype_exc hC₁ ?_; rw [hcC]) | wp_step)
  show wpAny _ _ (typeLookup (.ref C) _) _ _ _
  refine i1.at ?_
  refine wpAny_holding (wpAny_bind (b1.at ?_))
  refine wpAny_bind (wpAny_call (codeAny_mono hq fun r s' z => ?_))
  rcases r with e | (v | _ | _ | _) <;> first | exact z | exact z.elim | skip
  obtain ⟨rfl, z⟩ := z
  first
    | exact wpAny_pure (wpAny_pure z)
    | (wp_walk; exact z)
theorem check_type_callK {kw : List (Str × Value)} {Q : Unit → Shared → Prop} (hC : h.get? C = some (excClassObj nm q C N bs bm hdct sn sub ab col dd k0 k1 k2 k3 k5 newId)) {M : Model}
    (hq : Q () ⟨h, g, d, t, os⟩) : wpAny M A (checkBuiltinCall "type.__call__" ⟨[.ref C], kw⟩) Q E ⟨h, g, d, t, os⟩ := by
  have f3 := tc_sub
  have hT : (⟨h, g, d, t, os⟩ : Shared).TypeIs (.ref C) "type" := ⟨_, hC, rfl⟩
  simp only [checkBuiltinCall, tc_kind, tc_split]
  repeat (any_goals (first | assumption | with_reducible refine wpAny_loadPart_at hC ?_ | with_reducible refine wpAny_onRaise ?_ | with_reducible refine wpAny_map ?_ | wp_step))
theorem call_ownK (F : ExcBaseFacts B newId initId bmB) (hT : ∀ X : String, bm.contains (.type X) = bmB.contains (.type X)) {kw : List (Str × Value)} {fI : Addr}
    (hC : h.get? C = some (excClassObj nm q C N bs bm hdct sn sub ab col dd k0 k1 k2 k3 k5 newId))
    (hi : W.Looks (model prog w) h (typeLookup (.ref C) "__init__") (some (.ref fI))) (hb : ∀ self, W.Looks (model prog w) h (bindSpecial (.ref fI) self) (.ref fI, [self]))
    (hq : codeAny (model prog w) (A.under (.builtin "type.__call__" ⟨[.ref C], kw⟩)) (.call (.ref fI) ⟨[.ref (h.objs.size + 1)], kw⟩) (W.InitBack (h.objs.size + 1) R)
      ⟨(h.push (W.kdv_tup [])).push (excO C h.objs.size), g, d, t, os⟩) :
    codeAny (model prog w) A (.call (.ref C) ⟨[], kw⟩) R ⟨h, g, d, t, os⟩ := by
  have f1 := tc_lookup
  have f2 := tc_bind (.ref C)
  have hTy : (⟨h, g, d, t, os⟩ : Shared).TypeIs (.ref C) "type" := ⟨_, hC, rfl⟩
  refine codeAny_of_tree ?_
  show wpAny _ _ (callAny (.ref C) _) _ _ _
  repeat (any_goals (first | assumption | with_reducible refine wpAny_loadPart_at hC ?_ | wp_step))
  refine ⟨rfl, ?_⟩
  refine codeAny_call_builtin_at (Code.quiet_builtin _ (by decide +kernel)) entry_typeCall (check_type_callK hC (type_callK F hT hC hi hb ?_))
  refine codeAny_mono hq fun r s' z => ?_
  rcases r with e | (v | _ | _ | _) <;> exact z
end
end QX
end PySem
namespace PySem
namespace QX
open PySem.W PySem.Calls PyProof.Rows PySem.HandSPX
def InitRunsK (prog : Program) (w : World) (K : Frag) (C fI : Addr) (fld : Str) : Prop := ∀ (A : Around) (R : Result → Shared → Prop) (s : Shared) (x t0 : Addr) (v : Value), K.In s.heap → s.heap.NoLimit → s.heap.get? x = some (excO C t0) → K.lookup x = none → A.depth < recursionLimit →
  (∀ h' tk dx, InitEnd fld s.heap h' x C dx t0 v → R (.ok (.ret .none)) { s with heap := h', toks := tk }) → codeAny (model prog w) A (.call (.ref fI) ⟨[.ref x], [(fld, v)]⟩) R s
def InitRunsR (prog : Program) (w : World) (K : Frag) (C fI : Addr) (f1 f2 : Str) : Prop := ∀ (A : Around) (R : Result → Shared → Prop) (s : Shared) (x t0 : Addr) (v1 v2 : Value), K.In s.heap → s.heap.NoLimit → s.heap.get? x = some (excO C t0) → K.lookup x = none → A.depth < recursionLimit →
  (∀ h' tk dx, InitEnd2 f1 f2 s.heap h' x C dx t0 v1 v2 → R (.ok (.ret .none)) { s with heap := h', toks := tk }) → codeAny (model prog w) A (.call (.ref fI) ⟨[.ref x], [(f2, v2), (f1, v1)]⟩) R s
section
variable {prog : Program} {w : World} {A : Around} {E : Value → Shared → Prop} {R : Result → Shared → Prop} {s : Shared} {K : Frag} {C fI : Addr} {fld f1 f2 : Str} {bmB : List Value} {newId initId B : String}
theorem made1K (FB : ExcBaseFacts B newId initId bmB) (T : XTxt K C fI fld bmB newId) (hI : InitRunsK prog w K C fI fld) {v : Value} (X : K.In s.heap) (hlim : s.heap.NoLimit) (hroom : A.depth + 1 < recursionLimit)
    (hq : ∀ h' tk e d, Made1 fld s.heap h' e C d v → R (.ok (.ret (.ref e))) { s with heap := h', toks := tk }) :
    codeAny (model prog w) A (.call (.ref C) ⟨[], [(fld, v)]⟩) R s := by
  obtain ⟨nm, N, q, bs, bm, hdct, sn, sub, ab, col, dd, k0, k1, k2, k3, k5, hC, hT⟩ := excInit_of X T.ini
  obtain ⟨hp, g, dr, tk, os⟩ := s
  have k : ∀ b o, hp.get? b = some o → ((hp.push (kdv_tup [])).push (excO C hp.objs.size)).get? b = some o := fun b o e => Heap.get?_push_of_some _ (Heap.get?_push_of_some _ e)
  have hget : ((hp.push (kdv_tup [])).push (excO C hp.objs.size)).get? (hp.objs.size + 1) = some (excO C hp.objs.size) := by heap_get
  have hnx : K.lookup (hp.objs.size + 1) = none := by
    cases e : K.lookup (hp.objs.size + 1) with
    | none => rfl
    | some o =>
      have z : hp.get? (hp.objs.size + 1) = some o := X _ _ e
      exact absurd (Nat.lt_of_succ_lt (Heap.lt_size z)) (Nat.lt_irrefl _)
  refine call_ownK FB hT hC (looks_findIn X T.iC) (fun self => bind_fn X self T.tI) ?_
  refine hI _ _ ⟨(hp.push (kdv_tup [])).push (excO C hp.objs.size), g, dr, tk, os⟩ (hp.objs.size + 1) hp.objs.size v (X.keeps k) (hlim.keeps k) hget hnx ?_ fun h' tk' dx ⟨k', hx, dn, dne, hns⟩ => ?_
  · show A.depth + 1 < recursionLimit
    exact hroom
  · have old : ∀ b o, hp.get? b = some o → h'.get? b = some o := fun b o e => k' b o (Nat.ne_of_lt (Nat.lt_succ_of_lt (Heap.lt_size e))) (k b o e)
    have z : hp.objs.size + 1 + 1 ≤ dx := by
      first
        | (simpa only [Heap.size_push] using dn)
        | exact dn
        | (have q := dn; rw [Heap.size_push, Heap.size_push] at q; exact q)
    exact ⟨rfl, hq h' tk' (hp.objs.size + 1) dx ⟨old, Nat.le_succ _, ⟨_, _, hx, rfl, rfl, rfl, rfl⟩, Nat.le_trans (Nat.le_trans (Nat.le_succ _) (Nat.le_succ _)) z, dne, hns, fun oe vs e1 e2 => by
      rw [hx] at e1
      cases e1
      cases e2
      exact ⟨rfl, show 4 < 6 by decide⟩⟩⟩
theorem made2R (FB : ExcBaseFacts B newId initId bmB) (T : XTxt K C fI f1 bmB newId) (hI : InitRunsR prog w K C fI f1 f2) {v1 v2 : Value} (X : K.In s.heap) (hlim : s.heap.NoLimit) (hroom : A.depth + 1 < recursionLimit)
    (hq : ∀ h' tk e d, Made2 f1 f2 s.heap h' e C d v1 v2 → R (.ok (.ret (.ref e))) { s with heap := h', toks := tk }) :
    codeAny (model prog w) A (.call (.ref C) ⟨[], [(f2, v2), (f1, v1)]⟩) R s := by
  obtain ⟨nm, N, q, bs, bm, hdct, sn, sub, ab, col, dd, k0, k1, k2, k3, k5, hC, hT⟩ := excInit_of X T.ini
  obtain ⟨hp, g, dr, tk, os⟩ := s
  have k : ∀ b o, hp.get? b = some o → ((hp.push (kdv_tup [])).push (excO C hp.objs.size)).get? b = some o := fun b o e => Heap.get?_push_of_some _ (Heap.get?_push_of_some _ e)
  have hget : ((hp.push (kdv_tup [])).push (excO C hp.objs.size)).get? (hp.objs.size + 1) = some (excO C hp.objs.size) := by heap_get
  have hnx : K.lookup (hp.objs.size + 1) = none := by
    cases e : K.lookup (hp.objs.size + 1) with
    | none => rfl
    | some o =>
      have z : hp.get? (hp.objs.size + 1) = some o := X _ _ e
      exact absurd (Nat.lt_of_succ_lt (Heap.lt_size z)) (Nat.lt_irrefl _)
  refine call_ownK FB hT hC (looks_findIn X T.iC) (fun self => bind_fn X self T.tI) ?_
  refine hI _ _ ⟨(hp.push (kdv_tup [])).push (excO C hp.objs.size), g, dr, tk, os⟩ (hp.objs.size + 1) hp.objs.size v1 v2 (X.keeps k) (hlim.keeps k) hget hnx ?_ fun h' tk' dx ⟨k', hx, dn, dne, hns⟩ => ?_
  · show A.depth + 1 < recursionLimit
    exact hroom
  · have old : ∀ b o, hp.get? b = some o → h'.get? b = some o := fun b o e => k' b o (Nat.ne_of_lt (Nat.lt_succ_of_lt (Heap.lt_size e))) (k b o e)
    have z : hp.objs.size + 1 + 1 ≤ dx := by
      first
        | (simpa only [Heap.size_push] using dn)
        | exact dn
        | (have q := dn; rw [Heap.size_push, Heap.size_push] at q; exact q)
    exact ⟨rfl, hq h' tk' (hp.objs.size + 1) dx ⟨old, Nat.le_succ _, ⟨_, _, hx, rfl, rfl, rfl, rfl⟩, Nat.le_trans (Nat.le_trans (Nat.le_succ _) (Nat.le_succ _)) z, dne, hns⟩⟩
end
end QX
end PySem
namespace Q
open PySem PySem.Spec PyProof.Rows L2
section
variable {X : Cx} {C fI : Addr} {cn f1 f2 fld : Str} {bmB : List Value} {newId initId B : String} {kws : List Keyword} {tk : TA} {p pos : Pos} {k : Nat}
theorem mkP_of {pins : List (Addr × Obj)} {σ : L2.St} {H1 : Hp} {Q : XK} {hp h' : Heap} {g : Array GenState} {dr : Drawn} {t tk' : Nat} {os : OsState} {e d : Addr} {fs : List (Str × V)} (I1 : Inv X pins σ H1 ⟨hp, g, dr, t, os⟩) (r : Raises X (.ref C))
    (keep : ∀ b o, hp.get? b = some o → h'.get? b = some o) (new : hp.objs.size ≤ e) (obj : ∃ oe vs, h'.get? e = some oe ∧ oe.cls = .ref C ∧ oe.dict = some d ∧ oe.data = .fields vs ∧ vs[1]? = some .none) (dbig : hp.objs.size ≤ d) (dne : d ≠ e)
    (ns : ∃ mA, h'.Ns1 d mA ∧ ∀ f, RelO (fs.lookup f) (mA f)) (q : Q (.ref C) (some d) (upd H1 d (.xd fs))) : MkP X pins σ Q (.ref e) ⟨h', g, dr, tk', os⟩ := by
  obtain ⟨oe, fv, hoe, hc, hd, hdat, h1⟩ := obj
  obtain ⟨mA, hns, rel⟩ := ns
  obtain ⟨G', g1, g2⟩ := restrict h' fun b => decide (b ≠ e)
  have gk : ∀ b, b ≠ e → G'.get? b = h'.get? b := fun b hb => g1 b (decide_eq_true hb)
  have ge : G'.get? e = none := g2 e (by simp)
  have old : ∀ b o, hp.get? b = some o → G'.get? b = some o := fun b o q => (gk b (Nat.ne_of_lt (Nat.lt_of_lt_of_le (Heap.lt_size q) new))).trans (keep b o q)
  have ob : ObjOk X.prog X.w (upd H1 d (.xd fs)) G' d (.xd fs) := ⟨_, hns.at (fun o q => (gk d dne).trans q), rel⟩
  have J : Inv X pins σ (upd H1 d (.xd fs)) ⟨G', g, dr, tk', os⟩ := I1.laid (t' := tk') old dbig ob
  refine ⟨e, oe, fv, ⟨G', g, dr, tk', os⟩, _, .ref C, some d, rfl, J, fun b o q => ?_, ge, hoe, ⟨hc, hd⟩, hdat, h1, ?_, rfl, I1.bare, r, q⟩
  · by_cases hb : b = e
    · have q' : G'.get? b = some o := q
      rw [hb, ge] at q'; cases q'
    · exact (gk b hb).symm.trans q
  · rw [upd_ne (Ne.symm dne)]
    exact I1.hok.fresh new
theorem pmk_1k (FB : ExcBaseFacts B newId initId bmB) (T : PySem.QX.XTxt X.K C fI fld bmB newId) (hI : PySem.QX.InitRunsK X.prog X.w X.K C fI fld) (gC : X.mg cn = some (.ref C)) (hr : Room k X.A) (hg : Gl X cn) (hkw : PK X kws tk)
    (hall : (backToKw pos (keywordEach kws X.env)).all (·.1.isSome) = true := by rfl) (hks : (backToKw pos (keywordEach kws X.env)).filterMap (·.1) = [fld] := by rfl) (hdb : (cn == ("__debug__" : Str)) = false := by decide)
    (hpl : ((backTo pos (starEach [] X.env)).any (·.1) || (backToKw pos (keywordEach kws X.env)).any (·.1.isNone)) = false := by rfl) :
    PMk X (.Call (.Name cn p) [] kws pos) (tMk1 C fld tk) := by
  intro pins s σ H Q I h
  refine wpAny_Call_Name_kw (ld_glob I hg gC ?_ hdb)
  refine PySem.W.callWith_KW0 (h₀ := X.base) I.ok.mod.kin T.kC hall ?_ hpl
  refine thn (hkw.run pos pins s σ H _ I h) fun ws s1 ⟨vs, H1, I1, r1, v, ev, q1⟩ => ⟨I1.kIn, ?_⟩
  subst ev
  rw [hks]
  cases r1 with
  | cons rv rn =>
    rename_i v' us' _
    cases rn
    show wpAny _ _ (call (.ref C) [] [(fld, v')]) _ _ _
    have hlim := I1.nolimit
    obtain ⟨hp, g, dr, tk, os⟩ := s1
    refine wpAny_call (PySem.QX.made1K FB T hI I1.kIn hlim (by have := hr.dp; omega) fun h' tk' e d M => ?_)
    exact mkP_of (tk' := tk') I1 (raises_own T.exC T.tyC) M.keep M.new M.obj M.dbig M.dne ⟨_, M.ns, fun f => relO_one rv f⟩ (q1 d (I1.hok.fresh M.dbig))
def tMk2r (C : Addr) (f1 f2 : Str) (ta : TA) : St → Hp → XK → Prop := fun σ H Q => ta σ H fun vs H1 => ∃ v1 v2, vs = [v2, v1] ∧ ∀ d, H1 d = none → Q (.ref C) (some d) (upd H1 d (.xd [(f1, v1), (f2, v2)]))
theorem pmk_2r (FB : ExcBaseFacts B newId initId bmB) (hne : f1 ≠ f2) (T : PySem.QX.XTxt X.K C fI f1 bmB newId) (hI : PySem.QX.InitRunsR X.prog X.w X.K C fI f1 f2) (gC : X.mg cn = some (.ref C)) (hr : Room k X.A) (hg : Gl X cn) (hkw : PK X kws tk)
    (hall : (backToKw pos (keywordEach kws X.env)).all (·.1.isSome) = true := by rfl) (hks : (backToKw pos (keywordEach kws X.env)).filterMap (·.1) = [f2, f1] := by rfl) (hdb : (cn == ("__debug__" : Str)) = false := by decide)
    (hpl : ((backTo pos (starEach [] X.env)).any (·.1) || (backToKw pos (keywordEach kws X.env)).any (·.1.isNone)) = false := by rfl) :
    PMk X (.Call (.Name cn p) [] kws pos) (tMk2r C f1 f2 tk) := by
  intro pins s σ H Q I h
  refine wpAny_Call_Name_kw (ld_glob I hg gC ?_ hdb)
  refine PySem.W.callWith_KW0 (h₀ := X.base) I.ok.mod.kin T.kC hall ?_ hpl
  refine thn (hkw.run pos pins s σ H _ I h) fun ws s1 ⟨vs, H1, I1, r1, v1, v2, ev, q1⟩ => ⟨I1.kIn, ?_⟩
  subst ev
  rw [hks]
  cases r1 with
  | cons rv2 rn =>
    cases rn with
    | cons rv1 rn =>
      cases rn
      rename_i w2 w1 _
      show wpAny _ _ (call (.ref C) [] [(f2, w2), (f1, w1)]) _ _ _
      have hlim := I1.nolimit
      obtain ⟨hp, g, dr, tk, os⟩ := s1
      refine wpAny_call (PySem.QX.made2R FB T hI I1.kIn hlim (by have := hr.dp; omega) fun h' tk' e d M => ?_)
      exact mkP_of (tk' := tk') I1 (raises_own T.exC T.tyC) M.keep M.new M.obj M.dbig M.dne ⟨_, M.ns, fun f => relO_two hne rv1 rv2 f⟩ (q1 d (I1.hok.fresh M.dbig))
end
end Q
namespace Q
open PySem L2
def xcvB (cs : List String) (K : PySem.W.Frag) : Bool := cs.all fun c => excCB (Str.ofString c) K
theorem xcvB_ok {K : PySem.W.Frag} {cs : List String} (h : xcvB cs K = true) : ∀ c ∈ cs, ExcC K (He.ga K (Str.ofString c)) := fun c hc => excCB_ok (List.all_eq_true.mp h c hc)
def isvB (cv : PySem.W.Frag → Value) (tb : List (String × Bool)) (K : PySem.W.Frag) : Bool := tb.all fun p => decide (PySem.W.kitOne K (.ref (He.ga K (Str.ofString p.1))) (cv K) = some p.2)
theorem isvB_ok {K : PySem.W.Frag} {cv : PySem.W.Frag → Value} {tb : List (String × Bool)} (h : isvB cv tb K = true) : ∀ p ∈ tb, PySem.W.kitOne K (.ref (He.ga K (Str.ofString p.1))) (cv K) = some p.2 := fun p hp => of_decide_eq_true (List.all_eq_true.mp h p hp)
theorem isv_mem {tb : List (String × Bool)} {p : String × Bool} (h : p ∈ tb) : p.1 ∈ tb.map (·.1) := List.mem_map_of_mem h
end Q
namespace Q
open PySem PySem.Spec PyProof.Rows L2
def top (i : Nat) : Stmt := PySem.Challenge.pw_fullqueue_k02_errors_and_fields.main.body.getD i (.Pass ⟨0, 0, 0, 0⟩)
abbrev s_InvalidEffect_init : Stmt := inClass (top 11) 0
abbrev s_InvalidFacts_init : Stmt := inClass (top 12) 0
abbrev s_CapacityMismatch_init : Stmt := inClass (top 13) 0
abbrev s_RunFailed_init : Stmt := inClass (top 14) 0
abbrev s_EffectFailed_init : Stmt := inClass (top 16) 0
abbrev s_BufferFailed_init : Stmt := inClass (top 17) 0
abbrev s_LimitExceeded_init : Stmt := inClass (top 19) 0
abbrev s_law_draws : Stmt := top 22
abbrev s_law_draw : Stmt := top 23
abbrev s_law_argument : Stmt := top 24
abbrev s_law_by_position : Stmt := top 25
abbrev s_law_fields : Stmt := top 26
abbrev s_law_classes : Stmt := top 27
abbrev s_law_bases : Stmt := top 28
abbrev s_law : Stmt := top 29
theorem sc_law_draws : FnScope ["_law_script", "_law_k", "_law_cell", "_law_seed"] ["_law_script", "_law_k"] (defScope s_law_draws) := ⟨rfl, rfl, rfl, by decide +kernel, rfl, by decide +kernel, by decide +kernel⟩
theorem sc_law_draw : FnScope ["_law_draws_here", "_law_upto", "_law_digit"] ["_law_draws_here", "_law_upto"] (defScope s_law_draw) := ⟨rfl, rfl, rfl, by decide +kernel, rfl, by decide +kernel, by decide +kernel⟩
theorem sc_law_argument : FnScope ["_law_draws_here", "_law_large"] ["_law_draws_here"] (defScope s_law_argument) := ⟨rfl, rfl, rfl, by decide +kernel, rfl, by decide +kernel, by decide +kernel⟩
theorem sc_law_by_position : FnScope ["_law_one", "_law_two", "_law_found"] ["_law_one", "_law_two"] (defScope s_law_by_position) := ⟨rfl, rfl, rfl, by decide +kernel, rfl, by decide +kernel, by decide +kernel⟩
theorem sc_law_fields : FnScope ["_law_errors", "_law_found"] ["_law_errors"] (defScope s_law_fields) := ⟨rfl, rfl, rfl, by decide +kernel, rfl, by decide +kernel, by decide +kernel⟩
theorem sc_law_classes : FnScope ["_law_e", "_law_found"] ["_law_e"] (defScope s_law_classes) := ⟨rfl, rfl, rfl, by decide +kernel, rfl, by decide +kernel, by decide +kernel⟩
theorem sc_law_bases : FnScope ["_law_e", "_law_found"] ["_law_e"] (defScope s_law_bases) := ⟨rfl, rfl, rfl, by decide +kernel, rfl, by decide +kernel, by decide +kernel⟩
theorem sc_law : FnScope ["_law_script", "_law_k", "_law_draws_here", "_law_one", "_law_two", "_law_errors", "_law_at", "_law_e", "_law_own", "_law_over", "_law_expected", "_law_spot", "_law_named", "_law_some"] ["_law_script"] (defScope s_law) := ⟨rfl, rfl, rfl, by decide +kernel, rfl, by decide +kernel, by decide +kernel⟩
structure Txt (K : PySem.W.Frag) (mg : Str → Option Value) : Prop where
  b_ValueError : mg "ValueError" = none
  b_LookupError : mg "LookupError" = none
  b_OverflowError : mg "OverflowError" = none
  b_RuntimeError : mg "RuntimeError" = none
  b_range : mg "range" = none
  b_len : mg "len" = none
  b_isinstance : mg "isinstance" = none
  b_KeyError : mg "KeyError" = none
  b_max : mg "max" = none
  b_enumerate : mg "enumerate" = none
  b_repr : mg "repr" = none
  b_int : mg "int" = none
  b_IndexError : mg "IndexError" = none
  b_ArithmeticError : mg "ArithmeticError" = none
  g_QueueError : mg "QueueError" = some (.ref (He.ga K "QueueError"))
  x_QueueError : ExcF K (He.ga K "QueueError") [.type "ValueError", .type "Exception", .type "BaseException", .type "object"] "ValueError.__new__"
  g_InvalidInteger : mg "InvalidInteger" = some (.ref (He.ga K "InvalidInteger"))
  x_InvalidInteger : ExcF K (He.ga K "InvalidInteger") [.type "ValueError", .type "Exception", .type "BaseException", .type "object"] "ValueError.__new__"
  g_InvalidLetter : mg "InvalidLetter" = some (.ref (He.ga K "InvalidLetter"))
  x_InvalidLetter : ExcF K (He.ga K "InvalidLetter") [.type "ValueError", .type "Exception", .type "BaseException", .type "object"] "ValueError.__new__"
  g_InvalidCapacity : mg "InvalidCapacity" = some (.ref (He.ga K "InvalidCapacity"))
  x_InvalidCapacity : ExcF K (He.ga K "InvalidCapacity") [.type "ValueError", .type "Exception", .type "BaseException", .type "object"] "ValueError.__new__"
  g_InvalidMode : mg "InvalidMode" = some (.ref (He.ga K "InvalidMode"))
  x_InvalidMode : ExcF K (He.ga K "InvalidMode") [.type "ValueError", .type "Exception", .type "BaseException", .type "object"] "ValueError.__new__"
  g_InvalidQueue : mg "InvalidQueue" = some (.ref (He.ga K "InvalidQueue"))
  x_InvalidQueue : ExcF K (He.ga K "InvalidQueue") [.type "ValueError", .type "Exception", .type "BaseException", .type "object"] "ValueError.__new__"
  g_InvalidProgram : mg "InvalidProgram" = some (.ref (He.ga K "InvalidProgram"))
  x_InvalidProgram : ExcF K (He.ga K "InvalidProgram") [.type "ValueError", .type "Exception", .type "BaseException", .type "object"] "ValueError.__new__"
  g_InvalidUser : mg "InvalidUser" = some (.ref (He.ga K "InvalidUser"))
  x_InvalidUser : ExcF K (He.ga K "InvalidUser") [.type "ValueError", .type "Exception", .type "BaseException", .type "object"] "ValueError.__new__"
  g_InvalidText : mg "InvalidText" = some (.ref (He.ga K "InvalidText"))
  x_InvalidText : ExcF K (He.ga K "InvalidText") [.type "ValueError", .type "Exception", .type "BaseException", .type "object"] "ValueError.__new__"
  g_InvalidCommand : mg "InvalidCommand" = some (.ref (He.ga K "InvalidCommand"))
  x_InvalidCommand : ExcF K (He.ga K "InvalidCommand") [.type "ValueError", .type "Exception", .type "BaseException", .type "object"] "ValueError.__new__"
  g_InvalidEffect : mg "InvalidEffect" = some (.ref (He.ga K "InvalidEffect"))
  x_InvalidEffect : PySem.QX.XTxt K (He.ga K "InvalidEffect") (He.ma K (He.ga K "InvalidEffect") "__init__") "position" [.type "ValueError", .type "Exception", .type "BaseException", .type "object"] "ValueError.__new__"
  g_InvalidFacts : mg "InvalidFacts" = some (.ref (He.ga K "InvalidFacts"))
  x_InvalidFacts : PySem.QX.XTxt K (He.ga K "InvalidFacts") (He.ma K (He.ga K "InvalidFacts") "__init__") "position" [.type "ValueError", .type "Exception", .type "BaseException", .type "object"] "ValueError.__new__"
  g_CapacityMismatch : mg "CapacityMismatch" = some (.ref (He.ga K "CapacityMismatch"))
  x_CapacityMismatch : PySem.QX.XTxt K (He.ga K "CapacityMismatch") (He.ma K (He.ga K "CapacityMismatch") "__init__") "first" [.type "ValueError", .type "Exception", .type "BaseException", .type "object"] "ValueError.__new__"
  y_CapacityMismatch : PySem.QX.XTxt K (He.ga K "CapacityMismatch") (He.ma K (He.ga K "CapacityMismatch") "__init__") "second" [.type "ValueError", .type "Exception", .type "BaseException", .type "object"] "ValueError.__new__"
  g_RunFailed : mg "RunFailed" = some (.ref (He.ga K "RunFailed"))
  x_RunFailed : PySem.QX.XTxt K (He.ga K "RunFailed") (He.ma K (He.ga K "RunFailed") "__init__") "position" [.type "ValueError", .type "Exception", .type "BaseException", .type "object"] "ValueError.__new__"
  g_EmptyQueue : mg "EmptyQueue" = some (.ref (He.ga K "EmptyQueue"))
  x_EmptyQueue : ExcF K (He.ga K "EmptyQueue") [.type "LookupError", .type "Exception", .type "BaseException", .type "object"] "LookupError.__new__"
  g_EffectFailed : mg "EffectFailed" = some (.ref (He.ga K "EffectFailed"))
  x_EffectFailed : PySem.QX.XTxt K (He.ga K "EffectFailed") (He.ma K (He.ga K "EffectFailed") "__init__") "length" [.type "LookupError", .type "Exception", .type "BaseException", .type "object"] "LookupError.__new__"
  g_BufferFailed : mg "BufferFailed" = some (.ref (He.ga K "BufferFailed"))
  x_BufferFailed : PySem.QX.XTxt K (He.ga K "BufferFailed") (He.ma K (He.ga K "BufferFailed") "__init__") "index" [.type "LookupError", .type "Exception", .type "BaseException", .type "object"] "LookupError.__new__"
  g_FullQueue : mg "FullQueue" = some (.ref (He.ga K "FullQueue"))
  x_FullQueue : ExcF K (He.ga K "FullQueue") [.type "OverflowError", .type "ArithmeticError", .type "Exception", .type "BaseException", .type "object"] "OverflowError.__new__"
  g_LimitExceeded : mg "LimitExceeded" = some (.ref (He.ga K "LimitExceeded"))
  x_LimitExceeded : PySem.QX.XTxt K (He.ga K "LimitExceeded") (He.ma K (He.ga K "LimitExceeded") "__init__") "size" [.type "OverflowError", .type "ArithmeticError", .type "Exception", .type "BaseException", .type "object"] "OverflowError.__new__"
  g_NothingToUndo : mg "NothingToUndo" = some (.ref (He.ga K "NothingToUndo"))
  x_NothingToUndo : ExcF K (He.ga K "NothingToUndo") [.type "RuntimeError", .type "Exception", .type "BaseException", .type "object"] "RuntimeError.__new__"
  xcv : ∀ c ∈ ["QueueError", "InvalidInteger", "InvalidLetter", "InvalidCapacity", "InvalidMode", "InvalidQueue", "InvalidProgram", "InvalidUser", "InvalidText", "InvalidCommand", "InvalidEffect", "InvalidFacts", "CapacityMismatch", "RunFailed", "EmptyQueue", "EffectFailed", "BufferFailed", "FullQueue", "LimitExceeded", "NothingToUndo"], ExcC K (He.ga K (Str.ofString c))
  isv_InvalidCapacity : ∀ p ∈ ([("QueueError", false), ("InvalidInteger", false), ("InvalidLetter", false), ("InvalidCapacity", true), ("InvalidMode", false), ("InvalidQueue", false), ("InvalidProgram", false), ("InvalidUser", false), ("InvalidText", false), ("InvalidCommand", false), ("InvalidEffect", false), ("InvalidFacts", false), ("CapacityMismatch", false), ("RunFailed", false), ("EmptyQueue", false), ("EffectFailed", false), ("BufferFailed", false), ("FullQueue", false), ("LimitExceeded", false), ("NothingToUndo", false)] : List (String × Bool)), PySem.W.kitOne K (.ref (He.ga K (Str.ofString p.1))) (.ref (He.ga K "InvalidCapacity")) = some p.2
  isv_InvalidLetter : ∀ p ∈ ([("QueueError", false), ("InvalidInteger", false), ("InvalidLetter", true), ("InvalidCapacity", false), ("InvalidMode", false), ("InvalidQueue", false), ("InvalidProgram", false), ("InvalidUser", false), ("InvalidText", false), ("InvalidCommand", false), ("InvalidEffect", false), ("InvalidFacts", false), ("CapacityMismatch", false), ("RunFailed", false), ("EmptyQueue", false), ("EffectFailed", false), ("BufferFailed", false), ("FullQueue", false), ("LimitExceeded", false), ("NothingToUndo", false)] : List (String × Bool)), PySem.W.kitOne K (.ref (He.ga K (Str.ofString p.1))) (.ref (He.ga K "InvalidLetter")) = some p.2
  isv_InvalidInteger : ∀ p ∈ ([("QueueError", false), ("InvalidInteger", true), ("InvalidLetter", false), ("InvalidCapacity", false), ("InvalidMode", false), ("InvalidQueue", false), ("InvalidProgram", false), ("InvalidUser", false), ("InvalidText", false), ("InvalidCommand", false), ("InvalidEffect", false), ("InvalidFacts", false), ("CapacityMismatch", false), ("RunFailed", false), ("EmptyQueue", false), ("EffectFailed", false), ("BufferFailed", false), ("FullQueue", false), ("LimitExceeded", false), ("NothingToUndo", false)] : List (String × Bool)), PySem.W.kitOne K (.ref (He.ga K (Str.ofString p.1))) (.ref (He.ga K "InvalidInteger")) = some p.2
  isv_InvalidProgram : ∀ p ∈ ([("QueueError", false), ("InvalidInteger", false), ("InvalidLetter", false), ("InvalidCapacity", false), ("InvalidMode", false), ("InvalidQueue", false), ("InvalidProgram", true), ("InvalidUser", false), ("InvalidText", false), ("InvalidCommand", false), ("InvalidEffect", false), ("InvalidFacts", false), ("CapacityMismatch", false), ("RunFailed", false), ("EmptyQueue", false), ("EffectFailed", false), ("BufferFailed", false), ("FullQueue", false), ("LimitExceeded", false), ("NothingToUndo", false)] : List (String × Bool)), PySem.W.kitOne K (.ref (He.ga K (Str.ofString p.1))) (.ref (He.ga K "InvalidProgram")) = some p.2
  isv_InvalidQueue : ∀ p ∈ ([("QueueError", false), ("InvalidInteger", false), ("InvalidLetter", false), ("InvalidCapacity", false), ("InvalidMode", false), ("InvalidQueue", true), ("InvalidProgram", false), ("InvalidUser", false), ("InvalidText", false), ("InvalidCommand", false), ("InvalidEffect", false), ("InvalidFacts", false), ("CapacityMismatch", false), ("RunFailed", false), ("EmptyQueue", false), ("EffectFailed", false), ("BufferFailed", false), ("FullQueue", false), ("LimitExceeded", false), ("NothingToUndo", false)] : List (String × Bool)), PySem.W.kitOne K (.ref (He.ga K (Str.ofString p.1))) (.ref (He.ga K "InvalidQueue")) = some p.2
  isv_InvalidMode : ∀ p ∈ ([("QueueError", false), ("InvalidInteger", false), ("InvalidLetter", false), ("InvalidCapacity", false), ("InvalidMode", true), ("InvalidQueue", false), ("InvalidProgram", false), ("InvalidUser", false), ("InvalidText", false), ("InvalidCommand", false), ("InvalidEffect", false), ("InvalidFacts", false), ("CapacityMismatch", false), ("RunFailed", false), ("EmptyQueue", false), ("EffectFailed", false), ("BufferFailed", false), ("FullQueue", false), ("LimitExceeded", false), ("NothingToUndo", false)] : List (String × Bool)), PySem.W.kitOne K (.ref (He.ga K (Str.ofString p.1))) (.ref (He.ga K "InvalidMode")) = some p.2
  isv_InvalidCommand : ∀ p ∈ ([("QueueError", false), ("InvalidInteger", false), ("InvalidLetter", false), ("InvalidCapacity", false), ("InvalidMode", false), ("InvalidQueue", false), ("InvalidProgram", false), ("InvalidUser", false), ("InvalidText", false), ("InvalidCommand", true), ("InvalidEffect", false), ("InvalidFacts", false), ("CapacityMismatch", false), ("RunFailed", false), ("EmptyQueue", false), ("EffectFailed", false), ("BufferFailed", false), ("FullQueue", false), ("LimitExceeded", false), ("NothingToUndo", false)] : List (String × Bool)), PySem.W.kitOne K (.ref (He.ga K (Str.ofString p.1))) (.ref (He.ga K "InvalidCommand")) = some p.2
  isv_InvalidText : ∀ p ∈ ([("QueueError", false), ("InvalidInteger", false), ("InvalidLetter", false), ("InvalidCapacity", false), ("InvalidMode", false), ("InvalidQueue", false), ("InvalidProgram", false), ("InvalidUser", false), ("InvalidText", true), ("InvalidCommand", false), ("InvalidEffect", false), ("InvalidFacts", false), ("CapacityMismatch", false), ("RunFailed", false), ("EmptyQueue", false), ("EffectFailed", false), ("BufferFailed", false), ("FullQueue", false), ("LimitExceeded", false), ("NothingToUndo", false)] : List (String × Bool)), PySem.W.kitOne K (.ref (He.ga K (Str.ofString p.1))) (.ref (He.ga K "InvalidText")) = some p.2
  isv_InvalidUser : ∀ p ∈ ([("QueueError", false), ("InvalidInteger", false), ("InvalidLetter", false), ("InvalidCapacity", false), ("InvalidMode", false), ("InvalidQueue", false), ("InvalidProgram", false), ("InvalidUser", true), ("InvalidText", false), ("InvalidCommand", false), ("InvalidEffect", false), ("InvalidFacts", false), ("CapacityMismatch", false), ("RunFailed", false), ("EmptyQueue", false), ("EffectFailed", false), ("BufferFailed", false), ("FullQueue", false), ("LimitExceeded", false), ("NothingToUndo", false)] : List (String × Bool)), PySem.W.kitOne K (.ref (He.ga K (Str.ofString p.1))) (.ref (He.ga K "InvalidUser")) = some p.2
  isv_RunFailed : ∀ p ∈ ([("QueueError", false), ("InvalidInteger", false), ("InvalidLetter", false), ("InvalidCapacity", false), ("InvalidMode", false), ("InvalidQueue", false), ("InvalidProgram", false), ("InvalidUser", false), ("InvalidText", false), ("InvalidCommand", false), ("InvalidEffect", false), ("InvalidFacts", false), ("CapacityMismatch", false), ("RunFailed", true), ("EmptyQueue", false), ("EffectFailed", false), ("BufferFailed", false), ("FullQueue", false), ("LimitExceeded", false), ("NothingToUndo", false)] : List (String × Bool)), PySem.W.kitOne K (.ref (He.ga K (Str.ofString p.1))) (.ref (He.ga K "RunFailed")) = some p.2
  isv_InvalidFacts : ∀ p ∈ ([("QueueError", false), ("InvalidInteger", false), ("InvalidLetter", false), ("InvalidCapacity", false), ("InvalidMode", false), ("InvalidQueue", false), ("InvalidProgram", false), ("InvalidUser", false), ("InvalidText", false), ("InvalidCommand", false), ("InvalidEffect", false), ("InvalidFacts", true), ("CapacityMismatch", false), ("RunFailed", false), ("EmptyQueue", false), ("EffectFailed", false), ("BufferFailed", false), ("FullQueue", false), ("LimitExceeded", false), ("NothingToUndo", false)] : List (String × Bool)), PySem.W.kitOne K (.ref (He.ga K (Str.ofString p.1))) (.ref (He.ga K "InvalidFacts")) = some p.2
  isv_InvalidEffect : ∀ p ∈ ([("QueueError", false), ("InvalidInteger", false), ("InvalidLetter", false), ("InvalidCapacity", false), ("InvalidMode", false), ("InvalidQueue", false), ("InvalidProgram", false), ("InvalidUser", false), ("InvalidText", false), ("InvalidCommand", false), ("InvalidEffect", true), ("InvalidFacts", false), ("CapacityMismatch", false), ("RunFailed", false), ("EmptyQueue", false), ("EffectFailed", false), ("BufferFailed", false), ("FullQueue", false), ("LimitExceeded", false), ("NothingToUndo", false)] : List (String × Bool)), PySem.W.kitOne K (.ref (He.ga K (Str.ofString p.1))) (.ref (He.ga K "InvalidEffect")) = some p.2
  isv_EffectFailed : ∀ p ∈ ([("QueueError", false), ("InvalidInteger", false), ("InvalidLetter", false), ("InvalidCapacity", false), ("InvalidMode", false), ("InvalidQueue", false), ("InvalidProgram", false), ("InvalidUser", false), ("InvalidText", false), ("InvalidCommand", false), ("InvalidEffect", false), ("InvalidFacts", false), ("CapacityMismatch", false), ("RunFailed", false), ("EmptyQueue", false), ("EffectFailed", true), ("BufferFailed", false), ("FullQueue", false), ("LimitExceeded", false), ("NothingToUndo", false)] : List (String × Bool)), PySem.W.kitOne K (.ref (He.ga K (Str.ofString p.1))) (.ref (He.ga K "EffectFailed")) = some p.2
  isv_EmptyQueue : ∀ p ∈ ([("QueueError", false), ("InvalidInteger", false), ("InvalidLetter", false), ("InvalidCapacity", false), ("InvalidMode", false), ("InvalidQueue", false), ("InvalidProgram", false), ("InvalidUser", false), ("InvalidText", false), ("InvalidCommand", false), ("InvalidEffect", false), ("InvalidFacts", false), ("CapacityMismatch", false), ("RunFailed", false), ("EmptyQueue", true), ("EffectFailed", false), ("BufferFailed", false), ("FullQueue", false), ("LimitExceeded", false), ("NothingToUndo", false)] : List (String × Bool)), PySem.W.kitOne K (.ref (He.ga K (Str.ofString p.1))) (.ref (He.ga K "EmptyQueue")) = some p.2
  isv_CapacityMismatch : ∀ p ∈ ([("QueueError", false), ("InvalidInteger", false), ("InvalidLetter", false), ("InvalidCapacity", false), ("InvalidMode", false), ("InvalidQueue", false), ("InvalidProgram", false), ("InvalidUser", false), ("InvalidText", false), ("InvalidCommand", false), ("InvalidEffect", false), ("InvalidFacts", false), ("CapacityMismatch", true), ("RunFailed", false), ("EmptyQueue", false), ("EffectFailed", false), ("BufferFailed", false), ("FullQueue", false), ("LimitExceeded", false), ("NothingToUndo", false)] : List (String × Bool)), PySem.W.kitOne K (.ref (He.ga K (Str.ofString p.1))) (.ref (He.ga K "CapacityMismatch")) = some p.2
  isv_LimitExceeded : ∀ p ∈ ([("QueueError", false), ("InvalidInteger", false), ("InvalidLetter", false), ("InvalidCapacity", false), ("InvalidMode", false), ("InvalidQueue", false), ("InvalidProgram", false), ("InvalidUser", false), ("InvalidText", false), ("InvalidCommand", false), ("InvalidEffect", false), ("InvalidFacts", false), ("CapacityMismatch", false), ("RunFailed", false), ("EmptyQueue", false), ("EffectFailed", false), ("BufferFailed", false), ("FullQueue", false), ("LimitExceeded", true), ("NothingToUndo", false)] : List (String × Bool)), PySem.W.kitOne K (.ref (He.ga K (Str.ofString p.1))) (.ref (He.ga K "LimitExceeded")) = some p.2
  isv_FullQueue : ∀ p ∈ ([("QueueError", false), ("InvalidInteger", false), ("InvalidLetter", false), ("InvalidCapacity", false), ("InvalidMode", false), ("InvalidQueue", false), ("InvalidProgram", false), ("InvalidUser", false), ("InvalidText", false), ("InvalidCommand", false), ("InvalidEffect", false), ("InvalidFacts", false), ("CapacityMismatch", false), ("RunFailed", false), ("EmptyQueue", false), ("EffectFailed", false), ("BufferFailed", false), ("FullQueue", true), ("LimitExceeded", false), ("NothingToUndo", false)] : List (String × Bool)), PySem.W.kitOne K (.ref (He.ga K (Str.ofString p.1))) (.ref (He.ga K "FullQueue")) = some p.2
  isv_BufferFailed : ∀ p ∈ ([("QueueError", false), ("InvalidInteger", false), ("InvalidLetter", false), ("InvalidCapacity", false), ("InvalidMode", false), ("InvalidQueue", false), ("InvalidProgram", false), ("InvalidUser", false), ("InvalidText", false), ("InvalidCommand", false), ("InvalidEffect", false), ("InvalidFacts", false), ("CapacityMismatch", false), ("RunFailed", false), ("EmptyQueue", false), ("EffectFailed", false), ("BufferFailed", true), ("FullQueue", false), ("LimitExceeded", false), ("NothingToUndo", false)] : List (String × Bool)), PySem.W.kitOne K (.ref (He.ga K (Str.ofString p.1))) (.ref (He.ga K "BufferFailed")) = some p.2
  isv_NothingToUndo : ∀ p ∈ ([("QueueError", false), ("InvalidInteger", false), ("InvalidLetter", false), ("InvalidCapacity", false), ("InvalidMode", false), ("InvalidQueue", false), ("InvalidProgram", false), ("InvalidUser", false), ("InvalidText", false), ("InvalidCommand", false), ("InvalidEffect", false), ("InvalidFacts", false), ("CapacityMismatch", false), ("RunFailed", false), ("EmptyQueue", false), ("EffectFailed", false), ("BufferFailed", false), ("FullQueue", false), ("LimitExceeded", false), ("NothingToUndo", true)] : List (String × Bool)), PySem.W.kitOne K (.ref (He.ga K (Str.ofString p.1))) (.ref (He.ga K "NothingToUndo")) = some p.2
  isv_KeyError : ∀ p ∈ ([("QueueError", false), ("InvalidInteger", false), ("InvalidLetter", false), ("InvalidCapacity", false), ("InvalidMode", false), ("InvalidQueue", false), ("InvalidProgram", false), ("InvalidUser", false), ("InvalidText", false), ("InvalidCommand", false), ("InvalidEffect", false), ("InvalidFacts", false), ("CapacityMismatch", false), ("RunFailed", false), ("EmptyQueue", false), ("EffectFailed", false), ("BufferFailed", false), ("FullQueue", false), ("LimitExceeded", false), ("NothingToUndo", false)] : List (String × Bool)), PySem.W.kitOne K (.ref (He.ga K (Str.ofString p.1))) (.type "KeyError") = some p.2
  isv_LookupError : ∀ p ∈ ([("QueueError", false), ("InvalidInteger", false), ("InvalidLetter", false), ("InvalidCapacity", false), ("InvalidMode", false), ("InvalidQueue", false), ("InvalidProgram", false), ("InvalidUser", false), ("InvalidText", false), ("InvalidCommand", false), ("InvalidEffect", false), ("InvalidFacts", false), ("CapacityMismatch", false), ("RunFailed", false), ("EmptyQueue", true), ("EffectFailed", true), ("BufferFailed", true), ("FullQueue", false), ("LimitExceeded", false), ("NothingToUndo", false)] : List (String × Bool)), PySem.W.kitOne K (.ref (He.ga K (Str.ofString p.1))) (.type "LookupError") = some p.2
  isv_ValueError : ∀ p ∈ ([("QueueError", true), ("InvalidInteger", true), ("InvalidLetter", true), ("InvalidCapacity", true), ("InvalidMode", true), ("InvalidQueue", true), ("InvalidProgram", true), ("InvalidUser", true), ("InvalidText", true), ("InvalidCommand", true), ("InvalidEffect", true), ("InvalidFacts", true), ("CapacityMismatch", true), ("RunFailed", true), ("EmptyQueue", false), ("EffectFailed", false), ("BufferFailed", false), ("FullQueue", false), ("LimitExceeded", false), ("NothingToUndo", false)] : List (String × Bool)), PySem.W.kitOne K (.ref (He.ga K (Str.ofString p.1))) (.type "ValueError") = some p.2
  isv_QueueError : ∀ p ∈ ([("QueueError", true), ("InvalidInteger", true), ("InvalidLetter", true), ("InvalidCapacity", true), ("InvalidMode", true), ("InvalidQueue", true), ("InvalidProgram", true), ("InvalidUser", true), ("InvalidText", true), ("InvalidCommand", true), ("InvalidEffect", true), ("InvalidFacts", true), ("CapacityMismatch", true), ("RunFailed", true), ("EmptyQueue", false), ("EffectFailed", false), ("BufferFailed", false), ("FullQueue", false), ("LimitExceeded", false), ("NothingToUndo", false)] : List (String × Bool)), PySem.W.kitOne K (.ref (He.ga K (Str.ofString p.1))) (.ref (He.ga K "QueueError")) = some p.2
  isv_ArithmeticError : ∀ p ∈ ([("QueueError", false), ("InvalidInteger", false), ("InvalidLetter", false), ("InvalidCapacity", false), ("InvalidMode", false), ("InvalidQueue", false), ("InvalidProgram", false), ("InvalidUser", false), ("InvalidText", false), ("InvalidCommand", false), ("InvalidEffect", false), ("InvalidFacts", false), ("CapacityMismatch", false), ("RunFailed", false), ("EmptyQueue", false), ("EffectFailed", false), ("BufferFailed", false), ("FullQueue", true), ("LimitExceeded", true), ("NothingToUndo", false)] : List (String × Bool)), PySem.W.kitOne K (.ref (He.ga K (Str.ofString p.1))) (.type "ArithmeticError") = some p.2
  isv_OverflowError : ∀ p ∈ ([("QueueError", false), ("InvalidInteger", false), ("InvalidLetter", false), ("InvalidCapacity", false), ("InvalidMode", false), ("InvalidQueue", false), ("InvalidProgram", false), ("InvalidUser", false), ("InvalidText", false), ("InvalidCommand", false), ("InvalidEffect", false), ("InvalidFacts", false), ("CapacityMismatch", false), ("RunFailed", false), ("EmptyQueue", false), ("EffectFailed", false), ("BufferFailed", false), ("FullQueue", true), ("LimitExceeded", true), ("NothingToUndo", false)] : List (String × Bool)), PySem.W.kitOne K (.ref (He.ga K (Str.ofString p.1))) (.type "OverflowError") = some p.2
  isv_IndexError : ∀ p ∈ ([("QueueError", false), ("InvalidInteger", false), ("InvalidLetter", false), ("InvalidCapacity", false), ("InvalidMode", false), ("InvalidQueue", false), ("InvalidProgram", false), ("InvalidUser", false), ("InvalidText", false), ("InvalidCommand", false), ("InvalidEffect", false), ("InvalidFacts", false), ("CapacityMismatch", false), ("RunFailed", false), ("EmptyQueue", false), ("EffectFailed", false), ("BufferFailed", false), ("FullQueue", false), ("LimitExceeded", false), ("NothingToUndo", false)] : List (String × Bool)), PySem.W.kitOne K (.ref (He.ga K (Str.ofString p.1))) (.type "IndexError") = some p.2
  isv_RuntimeError : ∀ p ∈ ([("QueueError", false), ("InvalidInteger", false), ("InvalidLetter", false), ("InvalidCapacity", false), ("InvalidMode", false), ("InvalidQueue", false), ("InvalidProgram", false), ("InvalidUser", false), ("InvalidText", false), ("InvalidCommand", false), ("InvalidEffect", false), ("InvalidFacts", false), ("CapacityMismatch", false), ("RunFailed", false), ("EmptyQueue", false), ("EffectFailed", false), ("BufferFailed", false), ("FullQueue", false), ("LimitExceeded", false), ("NothingToUndo", true)] : List (String × Bool)), PySem.W.kitOne K (.ref (He.ga K (Str.ofString p.1))) (.type "RuntimeError") = some p.2
  sysd : sysB K = true
  F_InvalidEffect_init : FunD K "__init__" "InvalidEffect.__init__" (defArgs s_InvalidEffect_init) (defBody s_InvalidEffect_init) (defScope s_InvalidEffect_init) [] [] (He.ma K (He.ga K "InvalidEffect") "__init__") (fdA K (He.ma K (He.ga K "InvalidEffect") "__init__"))
  F_InvalidFacts_init : FunD K "__init__" "InvalidFacts.__init__" (defArgs s_InvalidFacts_init) (defBody s_InvalidFacts_init) (defScope s_InvalidFacts_init) [] [] (He.ma K (He.ga K "InvalidFacts") "__init__") (fdA K (He.ma K (He.ga K "InvalidFacts") "__init__"))
  F_CapacityMismatch_init : FunD K "__init__" "CapacityMismatch.__init__" (defArgs s_CapacityMismatch_init) (defBody s_CapacityMismatch_init) (defScope s_CapacityMismatch_init) [] [] (He.ma K (He.ga K "CapacityMismatch") "__init__") (fdA K (He.ma K (He.ga K "CapacityMismatch") "__init__"))
  F_RunFailed_init : FunD K "__init__" "RunFailed.__init__" (defArgs s_RunFailed_init) (defBody s_RunFailed_init) (defScope s_RunFailed_init) [] [] (He.ma K (He.ga K "RunFailed") "__init__") (fdA K (He.ma K (He.ga K "RunFailed") "__init__"))
  F_EffectFailed_init : FunD K "__init__" "EffectFailed.__init__" (defArgs s_EffectFailed_init) (defBody s_EffectFailed_init) (defScope s_EffectFailed_init) [] [] (He.ma K (He.ga K "EffectFailed") "__init__") (fdA K (He.ma K (He.ga K "EffectFailed") "__init__"))
  F_BufferFailed_init : FunD K "__init__" "BufferFailed.__init__" (defArgs s_BufferFailed_init) (defBody s_BufferFailed_init) (defScope s_BufferFailed_init) [] [] (He.ma K (He.ga K "BufferFailed") "__init__") (fdA K (He.ma K (He.ga K "BufferFailed") "__init__"))
  F_LimitExceeded_init : FunD K "__init__" "LimitExceeded.__init__" (defArgs s_LimitExceeded_init) (defBody s_LimitExceeded_init) (defScope s_LimitExceeded_init) [] [] (He.ma K (He.ga K "LimitExceeded") "__init__") (fdA K (He.ma K (He.ga K "LimitExceeded") "__init__"))
  g_law_draws : mg "_law_draws" = some (.ref (He.ga K "_law_draws"))
  F_law_draws : FunD K "_law_draws" "_law_draws" (defArgs s_law_draws) (defBody s_law_draws) (defScope s_law_draws) [] [] (He.ga K "_law_draws") (fdA K (He.ga K "_law_draws"))
  g_law_draw : mg "_law_draw" = some (.ref (He.ga K "_law_draw"))
  F_law_draw : FunD K "_law_draw" "_law_draw" (defArgs s_law_draw) (defBody s_law_draw) (defScope s_law_draw) [] [] (He.ga K "_law_draw") (fdA K (He.ga K "_law_draw"))
  g_law_argument : mg "_law_argument" = some (.ref (He.ga K "_law_argument"))
  F_law_argument : FunD K "_law_argument" "_law_argument" (defArgs s_law_argument) (defBody s_law_argument) (defScope s_law_argument) [] [] (He.ga K "_law_argument") (fdA K (He.ga K "_law_argument"))
  g_law_by_position : mg "_law_by_position" = some (.ref (He.ga K "_law_by_position"))
  F_law_by_position : FunD K "_law_by_position" "_law_by_position" (defArgs s_law_by_position) (defBody s_law_by_position) (defScope s_law_by_position) [] [] (He.ga K "_law_by_position") (fdA K (He.ga K "_law_by_position"))
  g_law_fields : mg "_law_fields" = some (.ref (He.ga K "_law_fields"))
  F_law_fields : FunD K "_law_fields" "_law_fields" (defArgs s_law_fields) (defBody s_law_fields) (defScope s_law_fields) [] [] (He.ga K "_law_fields") (fdA K (He.ga K "_law_fields"))
  g_law_classes : mg "_law_classes" = some (.ref (He.ga K "_law_classes"))
  F_law_classes : FunD K "_law_classes" "_law_classes" (defArgs s_law_classes) (defBody s_law_classes) (defScope s_law_classes) [] [] (He.ga K "_law_classes") (fdA K (He.ga K "_law_classes"))
  g_law_bases : mg "_law_bases" = some (.ref (He.ga K "_law_bases"))
  F_law_bases : FunD K "_law_bases" "_law_bases" (defArgs s_law_bases) (defBody s_law_bases) (defScope s_law_bases) [] [] (He.ga K "_law_bases") (fdA K (He.ga K "_law_bases"))
  g_law : mg "law" = some (.ref (He.ga K "law"))
  F_law : FunD K "law" "law" (defArgs s_law) (defBody s_law) (defScope s_law) [] [] (He.ga K "law") (fdA K (He.ga K "law"))
def exs : List (PySem.W.Frag → Bool) := [(He.Fa.free "ValueError").ok,
  (He.Fa.free "LookupError").ok,
  (He.Fa.free "OverflowError").ok,
  (He.Fa.free "RuntimeError").ok,
  (He.Fa.free "range").ok,
  (He.Fa.free "len").ok,
  (He.Fa.free "isinstance").ok,
  (He.Fa.free "KeyError").ok,
  (He.Fa.free "max").ok,
  (He.Fa.free "enumerate").ok,
  (He.Fa.free "repr").ok,
  (He.Fa.free "int").ok,
  (He.Fa.free "IndexError").ok,
  (He.Fa.free "ArithmeticError").ok,
  (He.Fa.glo "QueueError").ok,
  excB "QueueError" [.type "ValueError", .type "Exception", .type "BaseException", .type "object"] "ValueError.__new__",
  (He.Fa.glo "InvalidInteger").ok,
  excB "InvalidInteger" [.type "ValueError", .type "Exception", .type "BaseException", .type "object"] "ValueError.__new__",
  (He.Fa.glo "InvalidLetter").ok,
  excB "InvalidLetter" [.type "ValueError", .type "Exception", .type "BaseException", .type "object"] "ValueError.__new__",
  (He.Fa.glo "InvalidCapacity").ok,
  excB "InvalidCapacity" [.type "ValueError", .type "Exception", .type "BaseException", .type "object"] "ValueError.__new__",
  (He.Fa.glo "InvalidMode").ok,
  excB "InvalidMode" [.type "ValueError", .type "Exception", .type "BaseException", .type "object"] "ValueError.__new__",
  (He.Fa.glo "InvalidQueue").ok,
  excB "InvalidQueue" [.type "ValueError", .type "Exception", .type "BaseException", .type "object"] "ValueError.__new__",
  (He.Fa.glo "InvalidProgram").ok,
  excB "InvalidProgram" [.type "ValueError", .type "Exception", .type "BaseException", .type "object"] "ValueError.__new__",
  (He.Fa.glo "InvalidUser").ok,
  excB "InvalidUser" [.type "ValueError", .type "Exception", .type "BaseException", .type "object"] "ValueError.__new__",
  (He.Fa.glo "InvalidText").ok,
  excB "InvalidText" [.type "ValueError", .type "Exception", .type "BaseException", .type "object"] "ValueError.__new__",
  (He.Fa.glo "InvalidCommand").ok,
  excB "InvalidCommand" [.type "ValueError", .type "Exception", .type "BaseException", .type "object"] "ValueError.__new__",
  (He.Fa.glo "InvalidEffect").ok,
  x1B "InvalidEffect" "position" [.type "ValueError", .type "Exception", .type "BaseException", .type "object"] "ValueError.__new__",
  (He.Fa.glo "InvalidFacts").ok,
  x1B "InvalidFacts" "position" [.type "ValueError", .type "Exception", .type "BaseException", .type "object"] "ValueError.__new__",
  (He.Fa.glo "CapacityMismatch").ok,
  x1B "CapacityMismatch" "first" [.type "ValueError", .type "Exception", .type "BaseException", .type "object"] "ValueError.__new__",
  x1B "CapacityMismatch" "second" [.type "ValueError", .type "Exception", .type "BaseException", .type "object"] "ValueError.__new__",
  (He.Fa.glo "RunFailed").ok,
  x1B "RunFailed" "position" [.type "ValueError", .type "Exception", .type "BaseException", .type "object"] "ValueError.__new__",
  (He.Fa.glo "EmptyQueue").ok,
  excB "EmptyQueue" [.type "LookupError", .type "Exception", .type "BaseException", .type "object"] "LookupError.__new__",
  (He.Fa.glo "EffectFailed").ok,
  x1B "EffectFailed" "length" [.type "LookupError", .type "Exception", .type "BaseException", .type "object"] "LookupError.__new__",
  (He.Fa.glo "BufferFailed").ok,
  x1B "BufferFailed" "index" [.type "LookupError", .type "Exception", .type "BaseException", .type "object"] "LookupError.__new__",
  (He.Fa.glo "FullQueue").ok,
  excB "FullQueue" [.type "OverflowError", .type "ArithmeticError", .type "Exception", .type "BaseException", .type "object"] "OverflowError.__new__",
  (He.Fa.glo "LimitExceeded").ok,
  x1B "LimitExceeded" "size" [.type "OverflowError", .type "ArithmeticError", .type "Exception", .type "BaseException", .type "object"] "OverflowError.__new__",
  (He.Fa.glo "NothingToUndo").ok,
  excB "NothingToUndo" [.type "RuntimeError", .type "Exception", .type "BaseException", .type "object"] "RuntimeError.__new__",
  xcvB ["QueueError", "InvalidInteger", "InvalidLetter", "InvalidCapacity", "InvalidMode", "InvalidQueue", "InvalidProgram", "InvalidUser", "InvalidText", "InvalidCommand", "InvalidEffect", "InvalidFacts", "CapacityMismatch", "RunFailed", "EmptyQueue", "EffectFailed", "BufferFailed", "FullQueue", "LimitExceeded", "NothingToUndo"],
  isvB (fun K => .ref (He.ga K "InvalidCapacity")) [("QueueError", false), ("InvalidInteger", false), ("InvalidLetter", false), ("InvalidCapacity", true), ("InvalidMode", false), ("InvalidQueue", false), ("InvalidProgram", false), ("InvalidUser", false), ("InvalidText", false), ("InvalidCommand", false), ("InvalidEffect", false), ("InvalidFacts", false), ("CapacityMismatch", false), ("RunFailed", false), ("EmptyQueue", false), ("EffectFailed", false), ("BufferFailed", false), ("FullQueue", false), ("LimitExceeded", false), ("NothingToUndo", false)],
  isvB (fun K => .ref (He.ga K "InvalidLetter")) [("QueueError", false), ("InvalidInteger", false), ("InvalidLetter", true), ("InvalidCapacity", false), ("InvalidMode", false), ("InvalidQueue", false), ("InvalidProgram", false), ("InvalidUser", false), ("InvalidText", false), ("InvalidCommand", false), ("InvalidEffect", false), ("InvalidFacts", false), ("CapacityMismatch", false), ("RunFailed", false), ("EmptyQueue", false), ("EffectFailed", false), ("BufferFailed", false), ("FullQueue", false), ("LimitExceeded", false), ("NothingToUndo", false)],
  isvB (fun K => .ref (He.ga K "InvalidInteger")) [("QueueError", false), ("InvalidInteger", true), ("InvalidLetter", false), ("InvalidCapacity", false), ("InvalidMode", false), ("InvalidQueue", false), ("InvalidProgram", false), ("InvalidUser", false), ("InvalidText", false), ("InvalidCommand", false), ("InvalidEffect", false), ("InvalidFacts", false), ("CapacityMismatch", false), ("RunFailed", false), ("EmptyQueue", false), ("EffectFailed", false), ("BufferFailed", false), ("FullQueue", false), ("LimitExceeded", false), ("NothingToUndo", false)],
  isvB (fun K => .ref (He.ga K "InvalidProgram")) [("QueueError", false), ("InvalidInteger", false), ("InvalidLetter", false), ("InvalidCapacity", false), ("InvalidMode", false), ("InvalidQueue", false), ("InvalidProgram", true), ("InvalidUser", false), ("InvalidText", false), ("InvalidCommand", false), ("InvalidEffect", false), ("InvalidFacts", false), ("CapacityMismatch", false), ("RunFailed", false), ("EmptyQueue", false), ("EffectFailed", false), ("BufferFailed", false), ("FullQueue", false), ("LimitExceeded", false), ("NothingToUndo", false)],
  isvB (fun K => .ref (He.ga K "InvalidQueue")) [("QueueError", false), ("InvalidInteger", false), ("InvalidLetter", false), ("InvalidCapacity", false), ("InvalidMode", false), ("InvalidQueue", true), ("InvalidProgram", false), ("InvalidUser", false), ("InvalidText", false), ("InvalidCommand", false), ("InvalidEffect", false), ("InvalidFacts", false), ("CapacityMismatch", false), ("RunFailed", false), ("EmptyQueue", false), ("EffectFailed", false), ("BufferFailed", false), ("FullQueue", false), ("LimitExceeded", false), ("NothingToUndo", false)],
  isvB (fun K => .ref (He.ga K "InvalidMode")) [("QueueError", false), ("InvalidInteger", false), ("InvalidLetter", false), ("InvalidCapacity", false), ("InvalidMode", true), ("InvalidQueue", false), ("InvalidProgram", false), ("InvalidUser", false), ("InvalidText", false), ("InvalidCommand", false), ("InvalidEffect", false), ("InvalidFacts", false), ("CapacityMismatch", false), ("RunFailed", false), ("EmptyQueue", false), ("EffectFailed", false), ("BufferFailed", false), ("FullQueue", false), ("LimitExceeded", false), ("NothingToUndo", false)],
  isvB (fun K => .ref (He.ga K "InvalidCommand")) [("QueueError", false), ("InvalidInteger", false), ("InvalidLetter", false), ("InvalidCapacity", false), ("InvalidMode", false), ("InvalidQueue", false), ("InvalidProgram", false), ("InvalidUser", false), ("InvalidText", false), ("InvalidCommand", true), ("InvalidEffect", false), ("InvalidFacts", false), ("CapacityMismatch", false), ("RunFailed", false), ("EmptyQueue", false), ("EffectFailed", false), ("BufferFailed", false), ("FullQueue", false), ("LimitExceeded", false), ("NothingToUndo", false)],
  isvB (fun K => .ref (He.ga K "InvalidText")) [("QueueError", false), ("InvalidInteger", false), ("InvalidLetter", false), ("InvalidCapacity", false), ("InvalidMode", false), ("InvalidQueue", false), ("InvalidProgram", false), ("InvalidUser", false), ("InvalidText", true), ("InvalidCommand", false), ("InvalidEffect", false), ("InvalidFacts", false), ("CapacityMismatch", false), ("RunFailed", false), ("EmptyQueue", false), ("EffectFailed", false), ("BufferFailed", false), ("FullQueue", false), ("LimitExceeded", false), ("NothingToUndo", false)],
  isvB (fun K => .ref (He.ga K "InvalidUser")) [("QueueError", false), ("InvalidInteger", false), ("InvalidLetter", false), ("InvalidCapacity", false), ("InvalidMode", false), ("InvalidQueue", false), ("InvalidProgram", false), ("InvalidUser", true), ("InvalidText", false), ("InvalidCommand", false), ("InvalidEffect", false), ("InvalidFacts", false), ("CapacityMismatch", false), ("RunFailed", false), ("EmptyQueue", false), ("EffectFailed", false), ("BufferFailed", false), ("FullQueue", false), ("LimitExceeded", false), ("NothingToUndo", false)],
  isvB (fun K => .ref (He.ga K "RunFailed")) [("QueueError", false), ("InvalidInteger", false), ("InvalidLetter", false), ("InvalidCapacity", false), ("InvalidMode", false), ("InvalidQueue", false), ("InvalidProgram", false), ("InvalidUser", false), ("InvalidText", false), ("InvalidCommand", false), ("InvalidEffect", false), ("InvalidFacts", false), ("CapacityMismatch", false), ("RunFailed", true), ("EmptyQueue", false), ("EffectFailed", false), ("BufferFailed", false), ("FullQueue", false), ("LimitExceeded", false), ("NothingToUndo", false)],
  isvB (fun K => .ref (He.ga K "InvalidFacts")) [("QueueError", false), ("InvalidInteger", false), ("InvalidLetter", false), ("InvalidCapacity", false), ("InvalidMode", false), ("InvalidQueue", false), ("InvalidProgram", false), ("InvalidUser", false), ("InvalidText", false), ("InvalidCommand", false), ("InvalidEffect", false), ("InvalidFacts", true), ("CapacityMismatch", false), ("RunFailed", false), ("EmptyQueue", false), ("EffectFailed", false), ("BufferFailed", false), ("FullQueue", false), ("LimitExceeded", false), ("NothingToUndo", false)],
  isvB (fun K => .ref (He.ga K "InvalidEffect")) [("QueueError", false), ("InvalidInteger", false), ("InvalidLetter", false), ("InvalidCapacity", false), ("InvalidMode", false), ("InvalidQueue", false), ("InvalidProgram", false), ("InvalidUser", false), ("InvalidText", false), ("InvalidCommand", false), ("InvalidEffect", true), ("InvalidFacts", false), ("CapacityMismatch", false), ("RunFailed", false), ("EmptyQueue", false), ("EffectFailed", false), ("BufferFailed", false), ("FullQueue", false), ("LimitExceeded", false), ("NothingToUndo", false)],
  isvB (fun K => .ref (He.ga K "EffectFailed")) [("QueueError", false), ("InvalidInteger", false), ("InvalidLetter", false), ("InvalidCapacity", false), ("InvalidMode", false), ("InvalidQueue", false), ("InvalidProgram", false), ("InvalidUser", false), ("InvalidText", false), ("InvalidCommand", false), ("InvalidEffect", false), ("InvalidFacts", false), ("CapacityMismatch", false), ("RunFailed", false), ("EmptyQueue", false), ("EffectFailed", true), ("BufferFailed", false), ("FullQueue", false), ("LimitExceeded", false), ("NothingToUndo", false)],
  isvB (fun K => .ref (He.ga K "EmptyQueue")) [("QueueError", false), ("InvalidInteger", false), ("InvalidLetter", false), ("InvalidCapacity", false), ("InvalidMode", false), ("InvalidQueue", false), ("InvalidProgram", false), ("InvalidUser", false), ("InvalidText", false), ("InvalidCommand", false), ("InvalidEffect", false), ("InvalidFacts", false), ("CapacityMismatch", false), ("RunFailed", false), ("EmptyQueue", true), ("EffectFailed", false), ("BufferFailed", false), ("FullQueue", false), ("LimitExceeded", false), ("NothingToUndo", false)],
  isvB (fun K => .ref (He.ga K "CapacityMismatch")) [("QueueError", false), ("InvalidInteger", false), ("InvalidLetter", false), ("InvalidCapacity", false), ("InvalidMode", false), ("InvalidQueue", false), ("InvalidProgram", false), ("InvalidUser", false), ("InvalidText", false), ("InvalidCommand", false), ("InvalidEffect", false), ("InvalidFacts", false), ("CapacityMismatch", true), ("RunFailed", false), ("EmptyQueue", false), ("EffectFailed", false), ("BufferFailed", false), ("FullQueue", false), ("LimitExceeded", false), ("NothingToUndo", false)],
  isvB (fun K => .ref (He.ga K "LimitExceeded")) [("QueueError", false), ("InvalidInteger", false), ("InvalidLetter", false), ("InvalidCapacity", false), ("InvalidMode", false), ("InvalidQueue", false), ("InvalidProgram", false), ("InvalidUser", false), ("InvalidText", false), ("InvalidCommand", false), ("InvalidEffect", false), ("InvalidFacts", false), ("CapacityMismatch", false), ("RunFailed", false), ("EmptyQueue", false), ("EffectFailed", false), ("BufferFailed", false), ("FullQueue", false), ("LimitExceeded", true), ("NothingToUndo", false)],
  isvB (fun K => .ref (He.ga K "FullQueue")) [("QueueError", false), ("InvalidInteger", false), ("InvalidLetter", false), ("InvalidCapacity", false), ("InvalidMode", false), ("InvalidQueue", false), ("InvalidProgram", false), ("InvalidUser", false), ("InvalidText", false), ("InvalidCommand", false), ("InvalidEffect", false), ("InvalidFacts", false), ("CapacityMismatch", false), ("RunFailed", false), ("EmptyQueue", false), ("EffectFailed", false), ("BufferFailed", false), ("FullQueue", true), ("LimitExceeded", false), ("NothingToUndo", false)],
  isvB (fun K => .ref (He.ga K "BufferFailed")) [("QueueError", false), ("InvalidInteger", false), ("InvalidLetter", false), ("InvalidCapacity", false), ("InvalidMode", false), ("InvalidQueue", false), ("InvalidProgram", false), ("InvalidUser", false), ("InvalidText", false), ("InvalidCommand", false), ("InvalidEffect", false), ("InvalidFacts", false), ("CapacityMismatch", false), ("RunFailed", false), ("EmptyQueue", false), ("EffectFailed", false), ("BufferFailed", true), ("FullQueue", false), ("LimitExceeded", false), ("NothingToUndo", false)],
  isvB (fun K => .ref (He.ga K "NothingToUndo")) [("QueueError", false), ("InvalidInteger", false), ("InvalidLetter", false), ("InvalidCapacity", false), ("InvalidMode", false), ("InvalidQueue", false), ("InvalidProgram", false), ("InvalidUser", false), ("InvalidText", false), ("InvalidCommand", false), ("InvalidEffect", false), ("InvalidFacts", false), ("CapacityMismatch", false), ("RunFailed", false), ("EmptyQueue", false), ("EffectFailed", false), ("BufferFailed", false), ("FullQueue", false), ("LimitExceeded", false), ("NothingToUndo", true)],
  isvB (fun _ => .type "KeyError") [("QueueError", false), ("InvalidInteger", false), ("InvalidLetter", false), ("InvalidCapacity", false), ("InvalidMode", false), ("InvalidQueue", false), ("InvalidProgram", false), ("InvalidUser", false), ("InvalidText", false), ("InvalidCommand", false), ("InvalidEffect", false), ("InvalidFacts", false), ("CapacityMismatch", false), ("RunFailed", false), ("EmptyQueue", false), ("EffectFailed", false), ("BufferFailed", false), ("FullQueue", false), ("LimitExceeded", false), ("NothingToUndo", false)],
  isvB (fun _ => .type "LookupError") [("QueueError", false), ("InvalidInteger", false), ("InvalidLetter", false), ("InvalidCapacity", false), ("InvalidMode", false), ("InvalidQueue", false), ("InvalidProgram", false), ("InvalidUser", false), ("InvalidText", false), ("InvalidCommand", false), ("InvalidEffect", false), ("InvalidFacts", false), ("CapacityMismatch", false), ("RunFailed", false), ("EmptyQueue", true), ("EffectFailed", true), ("BufferFailed", true), ("FullQueue", false), ("LimitExceeded", false), ("NothingToUndo", false)],
  isvB (fun _ => .type "ValueError") [("QueueError", true), ("InvalidInteger", true), ("InvalidLetter", true), ("InvalidCapacity", true), ("InvalidMode", true), ("InvalidQueue", true), ("InvalidProgram", true), ("InvalidUser", true), ("InvalidText", true), ("InvalidCommand", true), ("InvalidEffect", true), ("InvalidFacts", true), ("CapacityMismatch", true), ("RunFailed", true), ("EmptyQueue", false), ("EffectFailed", false), ("BufferFailed", false), ("FullQueue", false), ("LimitExceeded", false), ("NothingToUndo", false)],
  isvB (fun K => .ref (He.ga K "QueueError")) [("QueueError", true), ("InvalidInteger", true), ("InvalidLetter", true), ("InvalidCapacity", true), ("InvalidMode", true), ("InvalidQueue", true), ("InvalidProgram", true), ("InvalidUser", true), ("InvalidText", true), ("InvalidCommand", true), ("InvalidEffect", true), ("InvalidFacts", true), ("CapacityMismatch", true), ("RunFailed", true), ("EmptyQueue", false), ("EffectFailed", false), ("BufferFailed", false), ("FullQueue", false), ("LimitExceeded", false), ("NothingToUndo", false)],
  isvB (fun _ => .type "ArithmeticError") [("QueueError", false), ("InvalidInteger", false), ("InvalidLetter", false), ("InvalidCapacity", false), ("InvalidMode", false), ("InvalidQueue", false), ("InvalidProgram", false), ("InvalidUser", false), ("InvalidText", false), ("InvalidCommand", false), ("InvalidEffect", false), ("InvalidFacts", false), ("CapacityMismatch", false), ("RunFailed", false), ("EmptyQueue", false), ("EffectFailed", false), ("BufferFailed", false), ("FullQueue", true), ("LimitExceeded", true), ("NothingToUndo", false)],
  isvB (fun _ => .type "OverflowError") [("QueueError", false), ("InvalidInteger", false), ("InvalidLetter", false), ("InvalidCapacity", false), ("InvalidMode", false), ("InvalidQueue", false), ("InvalidProgram", false), ("InvalidUser", false), ("InvalidText", false), ("InvalidCommand", false), ("InvalidEffect", false), ("InvalidFacts", false), ("CapacityMismatch", false), ("RunFailed", false), ("EmptyQueue", false), ("EffectFailed", false), ("BufferFailed", false), ("FullQueue", true), ("LimitExceeded", true), ("NothingToUndo", false)],
  isvB (fun _ => .type "IndexError") [("QueueError", false), ("InvalidInteger", false), ("InvalidLetter", false), ("InvalidCapacity", false), ("InvalidMode", false), ("InvalidQueue", false), ("InvalidProgram", false), ("InvalidUser", false), ("InvalidText", false), ("InvalidCommand", false), ("InvalidEffect", false), ("InvalidFacts", false), ("CapacityMismatch", false), ("RunFailed", false), ("EmptyQueue", false), ("EffectFailed", false), ("BufferFailed", false), ("FullQueue", false), ("LimitExceeded", false), ("NothingToUndo", false)],
  isvB (fun _ => .type "RuntimeError") [("QueueError", false), ("InvalidInteger", false), ("InvalidLetter", false), ("InvalidCapacity", false), ("InvalidMode", false), ("InvalidQueue", false), ("InvalidProgram", false), ("InvalidUser", false), ("InvalidText", false), ("InvalidCommand", false), ("InvalidEffect", false), ("InvalidFacts", false), ("CapacityMismatch", false), ("RunFailed", false), ("EmptyQueue", false), ("EffectFailed", false), ("BufferFailed", false), ("FullQueue", false), ("LimitExceeded", false), ("NothingToUndo", true)],
  sysB,
  (He.Fa.glo "_law_draws").ok,
  (He.Fa.glo "_law_draw").ok,
  (He.Fa.glo "_law_argument").ok,
  (He.Fa.glo "_law_by_position").ok,
  (He.Fa.glo "_law_fields").ok,
  (He.Fa.glo "_law_classes").ok,
  (He.Fa.glo "_law_bases").ok,
  (He.Fa.glo "law").ok]
def fns : List He5.DefA := [{ at_ := fun K => He.ma K (He.ga K "InvalidEffect") "__init__", name := "__init__", qual := "InvalidEffect.__init__", params := defArgs s_InvalidEffect_init, body := defBody s_InvalidEffect_init, scope := defScope s_InvalidEffect_init, dfl := [], kwd := [] },
  { at_ := fun K => He.ma K (He.ga K "InvalidFacts") "__init__", name := "__init__", qual := "InvalidFacts.__init__", params := defArgs s_InvalidFacts_init, body := defBody s_InvalidFacts_init, scope := defScope s_InvalidFacts_init, dfl := [], kwd := [] },
  { at_ := fun K => He.ma K (He.ga K "CapacityMismatch") "__init__", name := "__init__", qual := "CapacityMismatch.__init__", params := defArgs s_CapacityMismatch_init, body := defBody s_CapacityMismatch_init, scope := defScope s_CapacityMismatch_init, dfl := [], kwd := [] },
  { at_ := fun K => He.ma K (He.ga K "RunFailed") "__init__", name := "__init__", qual := "RunFailed.__init__", params := defArgs s_RunFailed_init, body := defBody s_RunFailed_init, scope := defScope s_RunFailed_init, dfl := [], kwd := [] },
  { at_ := fun K => He.ma K (He.ga K "EffectFailed") "__init__", name := "__init__", qual := "EffectFailed.__init__", params := defArgs s_EffectFailed_init, body := defBody s_EffectFailed_init, scope := defScope s_EffectFailed_init, dfl := [], kwd := [] },
  { at_ := fun K => He.ma K (He.ga K "BufferFailed") "__init__", name := "__init__", qual := "BufferFailed.__init__", params := defArgs s_BufferFailed_init, body := defBody s_BufferFailed_init, scope := defScope s_BufferFailed_init, dfl := [], kwd := [] },
  { at_ := fun K => He.ma K (He.ga K "LimitExceeded") "__init__", name := "__init__", qual := "LimitExceeded.__init__", params := defArgs s_LimitExceeded_init, body := defBody s_LimitExceeded_init, scope := defScope s_LimitExceeded_init, dfl := [], kwd := [] },
  { at_ := fun K => He.ga K "_law_draws", name := "_law_draws", qual := "_law_draws", params := defArgs s_law_draws, body := defBody s_law_draws, scope := defScope s_law_draws, dfl := [], kwd := [] },
  { at_ := fun K => He.ga K "_law_draw", name := "_law_draw", qual := "_law_draw", params := defArgs s_law_draw, body := defBody s_law_draw, scope := defScope s_law_draw, dfl := [], kwd := [] },
  { at_ := fun K => He.ga K "_law_argument", name := "_law_argument", qual := "_law_argument", params := defArgs s_law_argument, body := defBody s_law_argument, scope := defScope s_law_argument, dfl := [], kwd := [] },
  { at_ := fun K => He.ga K "_law_by_position", name := "_law_by_position", qual := "_law_by_position", params := defArgs s_law_by_position, body := defBody s_law_by_position, scope := defScope s_law_by_position, dfl := [], kwd := [] },
  { at_ := fun K => He.ga K "_law_fields", name := "_law_fields", qual := "_law_fields", params := defArgs s_law_fields, body := defBody s_law_fields, scope := defScope s_law_fields, dfl := [], kwd := [] },
  { at_ := fun K => He.ga K "_law_classes", name := "_law_classes", qual := "_law_classes", params := defArgs s_law_classes, body := defBody s_law_classes, scope := defScope s_law_classes, dfl := [], kwd := [] },
  { at_ := fun K => He.ga K "_law_bases", name := "_law_bases", qual := "_law_bases", params := defArgs s_law_bases, body := defBody s_law_bases, scope := defScope s_law_bases, dfl := [], kwd := [] },
  { at_ := fun K => He.ga K "law", name := "law", qual := "law", params := defArgs s_law, body := defBody s_law, scope := defScope s_law, dfl := [], kwd := [] }]
theorem txt_of {K : PySem.W.Frag} {h : Heap} {mg : Str → Option Value} (X : K.In h) (G : h.Ns mainGlobals mg) (c : SaysM exs fns K) : Txt K mg :=
  ⟨He.free_ok X G (c.fact 0 rfl),
   He.free_ok X G (c.fact 1 rfl),
   He.free_ok X G (c.fact 2 rfl),
   He.free_ok X G (c.fact 3 rfl),
   He.free_ok X G (c.fact 4 rfl),
   He.free_ok X G (c.fact 5 rfl),
   He.free_ok X G (c.fact 6 rfl),
   He.free_ok X G (c.fact 7 rfl),
   He.free_ok X G (c.fact 8 rfl),
   He.free_ok X G (c.fact 9 rfl),
   He.free_ok X G (c.fact 10 rfl),
   He.free_ok X G (c.fact 11 rfl),
   He.free_ok X G (c.fact 12 rfl),
   He.free_ok X G (c.fact 13 rfl),
   He.glo_ok X G (c.fact 14 rfl),
   excB_ok (c.fact 15 rfl),
   He.glo_ok X G (c.fact 16 rfl),
   excB_ok (c.fact 17 rfl),
   He.glo_ok X G (c.fact 18 rfl),
   excB_ok (c.fact 19 rfl),
   He.glo_ok X G (c.fact 20 rfl),
   excB_ok (c.fact 21 rfl),
   He.glo_ok X G (c.fact 22 rfl),
   excB_ok (c.fact 23 rfl),
   He.glo_ok X G (c.fact 24 rfl),
   excB_ok (c.fact 25 rfl),
   He.glo_ok X G (c.fact 26 rfl),
   excB_ok (c.fact 27 rfl),
   He.glo_ok X G (c.fact 28 rfl),
   excB_ok (c.fact 29 rfl),
   He.glo_ok X G (c.fact 30 rfl),
   excB_ok (c.fact 31 rfl),
   He.glo_ok X G (c.fact 32 rfl),
   excB_ok (c.fact 33 rfl),
   He.glo_ok X G (c.fact 34 rfl),
   x1B_ok (c.fact 35 rfl),
   He.glo_ok X G (c.fact 36 rfl),
   x1B_ok (c.fact 37 rfl),
   He.glo_ok X G (c.fact 38 rfl),
   x1B_ok (c.fact 39 rfl),
   x1B_ok (c.fact 40 rfl),
   He.glo_ok X G (c.fact 41 rfl),
   x1B_ok (c.fact 42 rfl),
   He.glo_ok X G (c.fact 43 rfl),
   excB_ok (c.fact 44 rfl),
   He.glo_ok X G (c.fact 45 rfl),
   x1B_ok (c.fact 46 rfl),
   He.glo_ok X G (c.fact 47 rfl),
   x1B_ok (c.fact 48 rfl),
   He.glo_ok X G (c.fact 49 rfl),
   excB_ok (c.fact 50 rfl),
   He.glo_ok X G (c.fact 51 rfl),
   x1B_ok (c.fact 52 rfl),
   He.glo_ok X G (c.fact 53 rfl),
   excB_ok (c.fact 54 rfl),
   xcvB_ok (c.fact 55 rfl),
   isvB_ok (c.fact 56 rfl),
   isvB_ok (c.fact 57 rfl),
   isvB_ok (c.fact 58 rfl),
   isvB_ok (c.fact 59 rfl),
   isvB_ok (c.fact 60 rfl),
   isvB_ok (c.fact 61 rfl),
   isvB_ok (c.fact 62 rfl),
   isvB_ok (c.fact 63 rfl),
   isvB_ok (c.fact 64 rfl),
   isvB_ok (c.fact 65 rfl),
   isvB_ok (c.fact 66 rfl),
   isvB_ok (c.fact 67 rfl),
   isvB_ok (c.fact 68 rfl),
   isvB_ok (c.fact 69 rfl),
   isvB_ok (c.fact 70 rfl),
   isvB_ok (c.fact 71 rfl),
   isvB_ok (c.fact 72 rfl),
   isvB_ok (c.fact 73 rfl),
   isvB_ok (c.fact 74 rfl),
   isvB_ok (c.fact 75 rfl),
   isvB_ok (c.fact 76 rfl),
   isvB_ok (c.fact 77 rfl),
   isvB_ok (c.fact 78 rfl),
   isvB_ok (c.fact 79 rfl),
   isvB_ok (c.fact 80 rfl),
   isvB_ok (c.fact 81 rfl),
   isvB_ok (c.fact 82 rfl),
   (c.fact 83 rfl),
   c.def_ 0 rfl,
   c.def_ 1 rfl,
   c.def_ 2 rfl,
   c.def_ 3 rfl,
   c.def_ 4 rfl,
   c.def_ 5 rfl,
   c.def_ 6 rfl,
   He.glo_ok X G (c.fact 84 rfl),
   c.def_ 7 rfl,
   He.glo_ok X G (c.fact 85 rfl),
   c.def_ 8 rfl,
   He.glo_ok X G (c.fact 86 rfl),
   c.def_ 9 rfl,
   He.glo_ok X G (c.fact 87 rfl),
   c.def_ 10 rfl,
   He.glo_ok X G (c.fact 88 rfl),
   c.def_ 11 rfl,
   He.glo_ok X G (c.fact 89 rfl),
   c.def_ 12 rfl,
   He.glo_ok X G (c.fact 90 rfl),
   c.def_ 13 rfl,
   He.glo_ok X G (c.fact 91 rfl),
   c.def_ 14 rfl⟩
variable {P : Program} {w : World} {K : PySem.W.Frag} {mg : Str → Option Value} {base : Heap}
theorem init_InvalidEffect (T : Txt K mg) : PySem.QX.InitRuns P w K (He.ga K "InvalidEffect") (He.ma K (He.ga K "InvalidEffect") "__init__") "position" := by
  intro A R s x t0 v X hlim hx hnx hroom hq
  obtain ⟨oc, od, dV, kV, doc, pm, an, cdv, ct, osl, e, ho, hcd, hD, _⟩ := T.F_InvalidEffect_init.ex
  rcases hD with ⟨_, rfl⟩ | ⟨z, _⟩
  · rw [e] at ho
    refine Att.call_fn (binds := [("self", .ref x), ("position", v)]) X hlim ho hcd hroom (BindsTo.of_eq (by first | rfl | with_unfolding_all rfl)) (by first | rfl | decide | with_unfolding_all rfl) (fun s1 IC => ?_) rfl rfl rfl
    obtain ⟨h1, tk1, rfl⟩ := IC.toInCall.same
    have k : ∀ b o, s.heap.get? b = some o → h1.get? b = some o := IC.toInCall.keep
    have hn := IC.toInCall.ns
    have X1 : K.In h1 := X.keeps k
    have hx1 := k _ _ hx
    show wpAny _ _ (execs _ _) _ _ _
    refine wpAny_execs_cons (plainObj_wpAny_Assign_Attribute ?_)
    refine PySem.QX.ldQ (v := v) hn (by first | rfl | with_unfolding_all rfl | kernel_rfl) (PySem.QX.ldQ (v := .ref x) hn (by first | rfl | with_unfolding_all rfl | kernel_rfl) ?_)
    refine PySem.W.set_plain X1 (ox := PySem.HandSPX.excO (He.ga K "InvalidEffect") t0) (od := none) ⟨hx1, rfl, rfl, trivial⟩ T.x_InvalidEffect.sa ?_
    refine PySem.QX.osaG PySem.F.store_ValueError X1 hx1 T.x_InvalidEffect.ovr T.x_InvalidEffect.hd T.x_InvalidEffect.tkr (fun h3 tk3 dx k3 dn dne hx3 hn3 => ?_)
    show wpAny _ _ (execs _ _) _ _ _
    have z : s.heap.objs.size < h1.objs.size := hn.lt
    exact wpAny_execs_nil (hq h3 tk3 dx ⟨fun b o hb e => k3 b o hb (k b o e), hx3, Nat.le_of_lt (Nat.lt_of_lt_of_le z dn), dne, hn3⟩)
  · exact absurd rfl z
theorem init_InvalidEffectK (T : Txt K mg) : PySem.QX.InitRunsK P w K (He.ga K "InvalidEffect") (He.ma K (He.ga K "InvalidEffect") "__init__") "position" := by
  intro A R s x t0 v X hlim hx hnx hroom hq
  obtain ⟨oc, od, dV, kV, doc, pm, an, cdv, ct, osl, e, ho, hcd, hD, _⟩ := T.F_InvalidEffect_init.ex
  rcases hD with ⟨_, rfl⟩ | ⟨z, _⟩
  · rw [e] at ho
    refine Att.call_fn (binds := [("self", .ref x), ("position", v)]) X hlim ho hcd hroom (BindsTo.of_eq (by first | rfl | with_unfolding_all rfl)) (by first | rfl | decide | with_unfolding_all rfl) (fun s1 IC => ?_) rfl rfl rfl
    obtain ⟨h1, tk1, rfl⟩ := IC.toInCall.same
    have k : ∀ b o, s.heap.get? b = some o → h1.get? b = some o := IC.toInCall.keep
    have hn := IC.toInCall.ns
    have X1 : K.In h1 := X.keeps k
    have hx1 := k _ _ hx
    show wpAny _ _ (execs _ _) _ _ _
    refine wpAny_execs_cons (plainObj_wpAny_Assign_Attribute ?_)
    refine PySem.QX.ldQ (v := v) hn (by first | rfl | with_unfolding_all rfl | kernel_rfl) (PySem.QX.ldQ (v := .ref x) hn (by first | rfl | with_unfolding_all rfl | kernel_rfl) ?_)
    refine PySem.W.set_plain X1 (ox := PySem.HandSPX.excO (He.ga K "InvalidEffect") t0) (od := none) ⟨hx1, rfl, rfl, trivial⟩ T.x_InvalidEffect.sa ?_
    refine PySem.QX.osaG PySem.F.store_ValueError X1 hx1 T.x_InvalidEffect.ovr T.x_InvalidEffect.hd T.x_InvalidEffect.tkr (fun h3 tk3 dx k3 dn dne hx3 hn3 => ?_)
    show wpAny _ _ (execs _ _) _ _ _
    have z : s.heap.objs.size < h1.objs.size := hn.lt
    exact wpAny_execs_nil (hq h3 tk3 dx ⟨fun b o hb e => k3 b o hb (k b o e), hx3, Nat.le_of_lt (Nat.lt_of_lt_of_le z dn), dne, hn3⟩)
  · exact absurd rfl z
theorem init_InvalidFacts (T : Txt K mg) : PySem.QX.InitRuns P w K (He.ga K "InvalidFacts") (He.ma K (He.ga K "InvalidFacts") "__init__") "position" := by
  intro A R s x t0 v X hlim hx hnx hroom hq
  obtain ⟨oc, od, dV, kV, doc, pm, an, cdv, ct, osl, e, ho, hcd, hD, _⟩ := T.F_InvalidFacts_init.ex
  rcases hD with ⟨_, rfl⟩ | ⟨z, _⟩
  · rw [e] at ho
    refine Att.call_fn (binds := [("self", .ref x), ("position", v)]) X hlim ho hcd hroom (BindsTo.of_eq (by first | rfl | with_unfolding_all rfl)) (by first | rfl | decide | with_unfolding_all rfl) (fun s1 IC => ?_) rfl rfl rfl
    obtain ⟨h1, tk1, rfl⟩ := IC.toInCall.same
    have k : ∀ b o, s.heap.get? b = some o → h1.get? b = some o := IC.toInCall.keep
    have hn := IC.toInCall.ns
    have X1 : K.In h1 := X.keeps k
    have hx1 := k _ _ hx
    show wpAny _ _ (execs _ _) _ _ _
    refine wpAny_execs_cons (plainObj_wpAny_Assign_Attribute ?_)
    refine PySem.QX.ldQ (v := v) hn (by first | rfl | with_unfolding_all rfl | kernel_rfl) (PySem.QX.ldQ (v := .ref x) hn (by first | rfl | with_unfolding_all rfl | kernel_rfl) ?_)
    refine PySem.W.set_plain X1 (ox := PySem.HandSPX.excO (He.ga K "InvalidFacts") t0) (od := none) ⟨hx1, rfl, rfl, trivial⟩ T.x_InvalidFacts.sa ?_
    refine PySem.QX.osaG PySem.F.store_ValueError X1 hx1 T.x_InvalidFacts.ovr T.x_InvalidFacts.hd T.x_InvalidFacts.tkr (fun h3 tk3 dx k3 dn dne hx3 hn3 => ?_)
    show wpAny _ _ (execs _ _) _ _ _
    have z : s.heap.objs.size < h1.objs.size := hn.lt
    exact wpAny_execs_nil (hq h3 tk3 dx ⟨fun b o hb e => k3 b o hb (k b o e), hx3, Nat.le_of_lt (Nat.lt_of_lt_of_le z dn), dne, hn3⟩)
  · exact absurd rfl z
theorem init_InvalidFactsK (T : Txt K mg) : PySem.QX.InitRunsK P w K (He.ga K "InvalidFacts") (He.ma K (He.ga K "InvalidFacts") "__init__") "position" := by
  intro A R s x t0 v X hlim hx hnx hroom hq
  obtain ⟨oc, od, dV, kV, doc, pm, an, cdv, ct, osl, e, ho, hcd, hD, _⟩ := T.F_InvalidFacts_init.ex
  rcases hD with ⟨_, rfl⟩ | ⟨z, _⟩
  · rw [e] at ho
    refine Att.call_fn (binds := [("self", .ref x), ("position", v)]) X hlim ho hcd hroom (BindsTo.of_eq (by first | rfl | with_unfolding_all rfl)) (by first | rfl | decide | with_unfolding_all rfl) (fun s1 IC => ?_) rfl rfl rfl
    obtain ⟨h1, tk1, rfl⟩ := IC.toInCall.same
    have k : ∀ b o, s.heap.get? b = some o → h1.get? b = some o := IC.toInCall.keep
    have hn := IC.toInCall.ns
    have X1 : K.In h1 := X.keeps k
    have hx1 := k _ _ hx
    show wpAny _ _ (execs _ _) _ _ _
    refine wpAny_execs_cons (plainObj_wpAny_Assign_Attribute ?_)
    refine PySem.QX.ldQ (v := v) hn (by first | rfl | with_unfolding_all rfl | kernel_rfl) (PySem.QX.ldQ (v := .ref x) hn (by first | rfl | with_unfolding_all rfl | kernel_rfl) ?_)
    refine PySem.W.set_plain X1 (ox := PySem.HandSPX.excO (He.ga K "InvalidFacts") t0) (od := none) ⟨hx1, rfl, rfl, trivial⟩ T.x_InvalidFacts.sa ?_
    refine PySem.QX.osaG PySem.F.store_ValueError X1 hx1 T.x_InvalidFacts.ovr T.x_InvalidFacts.hd T.x_InvalidFacts.tkr (fun h3 tk3 dx k3 dn dne hx3 hn3 => ?_)
    show wpAny _ _ (execs _ _) _ _ _
    have z : s.heap.objs.size < h1.objs.size := hn.lt
    exact wpAny_execs_nil (hq h3 tk3 dx ⟨fun b o hb e => k3 b o hb (k b o e), hx3, Nat.le_of_lt (Nat.lt_of_lt_of_le z dn), dne, hn3⟩)
  · exact absurd rfl z
theorem init_CapacityMismatch (T : Txt K mg) : PySem.QX.InitRuns2 P w K (He.ga K "CapacityMismatch") (He.ma K (He.ga K "CapacityMismatch") "__init__") "first" "second" := by
  intro A R s x t0 v v2 X hlim hx hnx hroom hq
  obtain ⟨oc, od, dV, kV, doc, pm, an, cdv, ct, osl, e, ho, hcd, hD, _⟩ := T.F_CapacityMismatch_init.ex
  rcases hD with ⟨_, rfl⟩ | ⟨z, _⟩
  · rw [e] at ho
    refine Att.call_fn (binds := [("self", .ref x), ("first", v), ("second", v2)]) X hlim ho hcd hroom (BindsTo.of_eq (by first | rfl | with_unfolding_all rfl)) (by first | rfl | decide | with_unfolding_all rfl) (fun s1 IC => ?_) rfl rfl rfl
    obtain ⟨h1, tk1, rfl⟩ := IC.toInCall.same
    have k : ∀ b o, s.heap.get? b = some o → h1.get? b = some o := IC.toInCall.keep
    have hn := IC.toInCall.ns
    have X1 : K.In h1 := X.keeps k
    have hx1 := k _ _ hx
    show wpAny _ _ (execs _ _) _ _ _
    refine wpAny_execs_cons (plainObj_wpAny_Assign_Attribute ?_)
    refine PySem.QX.ldQ (v := v) hn (by first | rfl | with_unfolding_all rfl | kernel_rfl) (PySem.QX.ldQ (v := .ref x) hn (by first | rfl | with_unfolding_all rfl | kernel_rfl) ?_)
    refine PySem.W.set_plain X1 (ox := PySem.HandSPX.excO (He.ga K "CapacityMismatch") t0) (od := none) ⟨hx1, rfl, rfl, trivial⟩ T.x_CapacityMismatch.sa ?_
    refine PySem.QX.osaG PySem.F.store_ValueError X1 hx1 T.x_CapacityMismatch.ovr T.x_CapacityMismatch.hd T.x_CapacityMismatch.tkr (fun h3 tk3 dx k3 dn dne hx3 hn3 => ?_)
    have z : s.heap.objs.size < h1.objs.size := hn.lt
    have zx : x < s.heap.objs.size := Heap.lt_size hx
    have X3 : K.In h3 := fun b o e => k3 b o (fun z => by rw [z, hnx] at e; cases e) (X1 b o e)
    have hn' := hn.at (h' := h3) (fun o q => k3 _ o (Nat.ne_of_gt zx) q)
    obtain ⟨oD, esD, epD, hoD, hdD, _⟩ := hn3.count PySem.QX.within_one
    show wpAny _ _ (execs _ _) _ _ _
    refine wpAny_execs_cons (plainObj_wpAny_Assign_Attribute ?_)
    refine PySem.QX.ldQ (v := v2) hn' (by first | rfl | with_unfolding_all rfl | kernel_rfl) (PySem.QX.ldQ (v := .ref x) hn' (by first | rfl | with_unfolding_all rfl | kernel_rfl) ?_)
    refine PySem.W.set_plain X3 (od := some oD) ⟨hx3, rfl, rfl, hoD⟩ T.x_CapacityMismatch.sa ?_
    refine PySem.QX.osaG2 PySem.F.store_ValueError X3 hx3 hn3 PySem.QX.within_one (by decide) T.x_CapacityMismatch.ovr T.x_CapacityMismatch.hd T.y_CapacityMismatch.tkr (fun h4 tk4 k4 hn4 => ?_)
    show wpAny _ _ (execs _ _) _ _ _
    exact wpAny_execs_nil (hq h4 tk4 dx ⟨fun b o hb e => k4 b o (fun z2 => by have := Heap.lt_size e; rw [z2] at this; exact absurd (Nat.lt_of_lt_of_le z dn) (Nat.not_lt.mpr (Nat.le_of_lt this))) (k3 b o hb (k b o e)), (k4 x _ (Ne.symm dne) hx3), Nat.le_of_lt (Nat.lt_of_lt_of_le z dn), dne, hn4⟩)
  · exact absurd rfl z
theorem init_CapacityMismatchR (T : Txt K mg) : PySem.QX.InitRunsR P w K (He.ga K "CapacityMismatch") (He.ma K (He.ga K "CapacityMismatch") "__init__") "first" "second" := by
  intro A R s x t0 v v2 X hlim hx hnx hroom hq
  obtain ⟨oc, od, dV, kV, doc, pm, an, cdv, ct, osl, e, ho, hcd, hD, _⟩ := T.F_CapacityMismatch_init.ex
  rcases hD with ⟨_, rfl⟩ | ⟨z, _⟩
  · rw [e] at ho
    refine Att.call_fn (binds := [("self", .ref x), ("first", v), ("second", v2)]) X hlim ho hcd hroom (BindsTo.of_eq (by first | rfl | with_unfolding_all rfl)) (by first | rfl | decide | with_unfolding_all rfl) (fun s1 IC => ?_) rfl rfl rfl
    obtain ⟨h1, tk1, rfl⟩ := IC.toInCall.same
    have k : ∀ b o, s.heap.get? b = some o → h1.get? b = some o := IC.toInCall.keep
    have hn := IC.toInCall.ns
    have X1 : K.In h1 := X.keeps k
    have hx1 := k _ _ hx
    show wpAny _ _ (execs _ _) _ _ _
    refine wpAny_execs_cons (plainObj_wpAny_Assign_Attribute ?_)
    refine PySem.QX.ldQ (v := v) hn (by first | rfl | with_unfolding_all rfl | kernel_rfl) (PySem.QX.ldQ (v := .ref x) hn (by first | rfl | with_unfolding_all rfl | kernel_rfl) ?_)
    refine PySem.W.set_plain X1 (ox := PySem.HandSPX.excO (He.ga K "CapacityMismatch") t0) (od := none) ⟨hx1, rfl, rfl, trivial⟩ T.x_CapacityMismatch.sa ?_
    refine PySem.QX.osaG PySem.F.store_ValueError X1 hx1 T.x_CapacityMismatch.ovr T.x_CapacityMismatch.hd T.x_CapacityMismatch.tkr (fun h3 tk3 dx k3 dn dne hx3 hn3 => ?_)
    have z : s.heap.objs.size < h1.objs.size := hn.lt
    have zx : x < s.heap.objs.size := Heap.lt_size hx
    have X3 : K.In h3 := fun b o e => k3 b o (fun z => by rw [z, hnx] at e; cases e) (X1 b o e)
    have hn' := hn.at (h' := h3) (fun o q => k3 _ o (Nat.ne_of_gt zx) q)
    obtain ⟨oD, esD, epD, hoD, hdD, _⟩ := hn3.count PySem.QX.within_one
    show wpAny _ _ (execs _ _) _ _ _
    refine wpAny_execs_cons (plainObj_wpAny_Assign_Attribute ?_)
    refine PySem.QX.ldQ (v := v2) hn' (by first | rfl | with_unfolding_all rfl | kernel_rfl) (PySem.QX.ldQ (v := .ref x) hn' (by first | rfl | with_unfolding_all rfl | kernel_rfl) ?_)
    refine PySem.W.set_plain X3 (od := some oD) ⟨hx3, rfl, rfl, hoD⟩ T.x_CapacityMismatch.sa ?_
    refine PySem.QX.osaG2 PySem.F.store_ValueError X3 hx3 hn3 PySem.QX.within_one (by decide) T.x_CapacityMismatch.ovr T.x_CapacityMismatch.hd T.y_CapacityMismatch.tkr (fun h4 tk4 k4 hn4 => ?_)
    show wpAny _ _ (execs _ _) _ _ _
    exact wpAny_execs_nil (hq h4 tk4 dx ⟨fun b o hb e => k4 b o (fun z2 => by have := Heap.lt_size e; rw [z2] at this; exact absurd (Nat.lt_of_lt_of_le z dn) (Nat.not_lt.mpr (Nat.le_of_lt this))) (k3 b o hb (k b o e)), (k4 x _ (Ne.symm dne) hx3), Nat.le_of_lt (Nat.lt_of_lt_of_le z dn), dne, hn4⟩)
  · exact absurd rfl z
theorem init_RunFailed (T : Txt K mg) : PySem.QX.InitRuns P w K (He.ga K "RunFailed") (He.ma K (He.ga K "RunFailed") "__init__") "position" := by
  intro A R s x t0 v X hlim hx hnx hroom hq
  obtain ⟨oc, od, dV, kV, doc, pm, an, cdv, ct, osl, e, ho, hcd, hD, _⟩ := T.F_RunFailed_init.ex
  rcases hD with ⟨_, rfl⟩ | ⟨z, _⟩
  · rw [e] at ho
    refine Att.call_fn (binds := [("self", .ref x), ("position", v)]) X hlim ho hcd hroom (BindsTo.of_eq (by first | rfl | with_unfolding_all rfl)) (by first | rfl | decide | with_unfolding_all rfl) (fun s1 IC => ?_) rfl rfl rfl
    obtain ⟨h1, tk1, rfl⟩ := IC.toInCall.same
    have k : ∀ b o, s.heap.get? b = some o → h1.get? b = some o := IC.toInCall.keep
    have hn := IC.toInCall.ns
    have X1 : K.In h1 := X.keeps k
    have hx1 := k _ _ hx
    show wpAny _ _ (execs _ _) _ _ _
    refine wpAny_execs_cons (plainObj_wpAny_Assign_Attribute ?_)
    refine PySem.QX.ldQ (v := v) hn (by first | rfl | with_unfolding_all rfl | kernel_rfl) (PySem.QX.ldQ (v := .ref x) hn (by first | rfl | with_unfolding_all rfl | kernel_rfl) ?_)
    refine PySem.W.set_plain X1 (ox := PySem.HandSPX.excO (He.ga K "RunFailed") t0) (od := none) ⟨hx1, rfl, rfl, trivial⟩ T.x_RunFailed.sa ?_
    refine PySem.QX.osaG PySem.F.store_ValueError X1 hx1 T.x_RunFailed.ovr T.x_RunFailed.hd T.x_RunFailed.tkr (fun h3 tk3 dx k3 dn dne hx3 hn3 => ?_)
    show wpAny _ _ (execs _ _) _ _ _
    have z : s.heap.objs.size < h1.objs.size := hn.lt
    exact wpAny_execs_nil (hq h3 tk3 dx ⟨fun b o hb e => k3 b o hb (k b o e), hx3, Nat.le_of_lt (Nat.lt_of_lt_of_le z dn), dne, hn3⟩)
  · exact absurd rfl z
theorem init_RunFailedK (T : Txt K mg) : PySem.QX.InitRunsK P w K (He.ga K "RunFailed") (He.ma K (He.ga K "RunFailed") "__init__") "position" := by
  intro A R s x t0 v X hlim hx hnx hroom hq
  obtain ⟨oc, od, dV, kV, doc, pm, an, cdv, ct, osl, e, ho, hcd, hD, _⟩ := T.F_RunFailed_init.ex
  rcases hD with ⟨_, rfl⟩ | ⟨z, _⟩
  · rw [e] at ho
    refine Att.call_fn (binds := [("self", .ref x), ("position", v)]) X hlim ho hcd hroom (BindsTo.of_eq (by first | rfl | with_unfolding_all rfl)) (by first | rfl | decide | with_unfolding_all rfl) (fun s1 IC => ?_) rfl rfl rfl
    obtain ⟨h1, tk1, rfl⟩ := IC.toInCall.same
    have k : ∀ b o, s.heap.get? b = some o → h1.get? b = some o := IC.toInCall.keep
    have hn := IC.toInCall.ns
    have X1 : K.In h1 := X.keeps k
    have hx1 := k _ _ hx
    show wpAny _ _ (execs _ _) _ _ _
    refine wpAny_execs_cons (plainObj_wpAny_Assign_Attribute ?_)
    refine PySem.QX.ldQ (v := v) hn (by first | rfl | with_unfolding_all rfl | kernel_rfl) (PySem.QX.ldQ (v := .ref x) hn (by first | rfl | with_unfolding_all rfl | kernel_rfl) ?_)
    refine PySem.W.set_plain X1 (ox := PySem.HandSPX.excO (He.ga K "RunFailed") t0) (od := none) ⟨hx1, rfl, rfl, trivial⟩ T.x_RunFailed.sa ?_
    refine PySem.QX.osaG PySem.F.store_ValueError X1 hx1 T.x_RunFailed.ovr T.x_RunFailed.hd T.x_RunFailed.tkr (fun h3 tk3 dx k3 dn dne hx3 hn3 => ?_)
    show wpAny _ _ (execs _ _) _ _ _
    have z : s.heap.objs.size < h1.objs.size := hn.lt
    exact wpAny_execs_nil (hq h3 tk3 dx ⟨fun b o hb e => k3 b o hb (k b o e), hx3, Nat.le_of_lt (Nat.lt_of_lt_of_le z dn), dne, hn3⟩)
  · exact absurd rfl z
theorem init_EffectFailed (T : Txt K mg) : PySem.QX.InitRuns P w K (He.ga K "EffectFailed") (He.ma K (He.ga K "EffectFailed") "__init__") "length" := by
  intro A R s x t0 v X hlim hx hnx hroom hq
  obtain ⟨oc, od, dV, kV, doc, pm, an, cdv, ct, osl, e, ho, hcd, hD, _⟩ := T.F_EffectFailed_init.ex
  rcases hD with ⟨_, rfl⟩ | ⟨z, _⟩
  · rw [e] at ho
    refine Att.call_fn (binds := [("self", .ref x), ("length", v)]) X hlim ho hcd hroom (BindsTo.of_eq (by first | rfl | with_unfolding_all rfl)) (by first | rfl | decide | with_unfolding_all rfl) (fun s1 IC => ?_) rfl rfl rfl
    obtain ⟨h1, tk1, rfl⟩ := IC.toInCall.same
    have k : ∀ b o, s.heap.get? b = some o → h1.get? b = some o := IC.toInCall.keep
    have hn := IC.toInCall.ns
    have X1 : K.In h1 := X.keeps k
    have hx1 := k _ _ hx
    show wpAny _ _ (execs _ _) _ _ _
    refine wpAny_execs_cons (plainObj_wpAny_Assign_Attribute ?_)
    refine PySem.QX.ldQ (v := v) hn (by first | rfl | with_unfolding_all rfl | kernel_rfl) (PySem.QX.ldQ (v := .ref x) hn (by first | rfl | with_unfolding_all rfl | kernel_rfl) ?_)
    refine PySem.W.set_plain X1 (ox := PySem.HandSPX.excO (He.ga K "EffectFailed") t0) (od := none) ⟨hx1, rfl, rfl, trivial⟩ T.x_EffectFailed.sa ?_
    refine PySem.QX.osaG PySem.F.store_LookupError X1 hx1 T.x_EffectFailed.ovr T.x_EffectFailed.hd T.x_EffectFailed.tkr (fun h3 tk3 dx k3 dn dne hx3 hn3 => ?_)
    show wpAny _ _ (execs _ _) _ _ _
    have z : s.heap.objs.size < h1.objs.size := hn.lt
    exact wpAny_execs_nil (hq h3 tk3 dx ⟨fun b o hb e => k3 b o hb (k b o e), hx3, Nat.le_of_lt (Nat.lt_of_lt_of_le z dn), dne, hn3⟩)
  · exact absurd rfl z
theorem init_EffectFailedK (T : Txt K mg) : PySem.QX.InitRunsK P w K (He.ga K "EffectFailed") (He.ma K (He.ga K "EffectFailed") "__init__") "length" := by
  intro A R s x t0 v X hlim hx hnx hroom hq
  obtain ⟨oc, od, dV, kV, doc, pm, an, cdv, ct, osl, e, ho, hcd, hD, _⟩ := T.F_EffectFailed_init.ex
  rcases hD with ⟨_, rfl⟩ | ⟨z, _⟩
  · rw [e] at ho
    refine Att.call_fn (binds := [("self", .ref x), ("length", v)]) X hlim ho hcd hroom (BindsTo.of_eq (by first | rfl | with_unfolding_all rfl)) (by first | rfl | decide | with_unfolding_all rfl) (fun s1 IC => ?_) rfl rfl rfl
    obtain ⟨h1, tk1, rfl⟩ := IC.toInCall.same
    have k : ∀ b o, s.heap.get? b = some o → h1.get? b = some o := IC.toInCall.keep
    have hn := IC.toInCall.ns
    have X1 : K.In h1 := X.keeps k
    have hx1 := k _ _ hx
    show wpAny _ _ (execs _ _) _ _ _
    refine wpAny_execs_cons (plainObj_wpAny_Assign_Attribute ?_)
    refine PySem.QX.ldQ (v := v) hn (by first | rfl | with_unfolding_all rfl | kernel_rfl) (PySem.QX.ldQ (v := .ref x) hn (by first | rfl | with_unfolding_all rfl | kernel_rfl) ?_)
    refine PySem.W.set_plain X1 (ox := PySem.HandSPX.excO (He.ga K "EffectFailed") t0) (od := none) ⟨hx1, rfl, rfl, trivial⟩ T.x_EffectFailed.sa ?_
    refine PySem.QX.osaG PySem.F.store_LookupError X1 hx1 T.x_EffectFailed.ovr T.x_EffectFailed.hd T.x_EffectFailed.tkr (fun h3 tk3 dx k3 dn dne hx3 hn3 => ?_)
    show wpAny _ _ (execs _ _) _ _ _
    have z : s.heap.objs.size < h1.objs.size := hn.lt
    exact wpAny_execs_nil (hq h3 tk3 dx ⟨fun b o hb e => k3 b o hb (k b o e), hx3, Nat.le_of_lt (Nat.lt_of_lt_of_le z dn), dne, hn3⟩)
  · exact absurd rfl z
theorem init_BufferFailed (T : Txt K mg) : PySem.QX.InitRuns P w K (He.ga K "BufferFailed") (He.ma K (He.ga K "BufferFailed") "__init__") "index" := by
  intro A R s x t0 v X hlim hx hnx hroom hq
  obtain ⟨oc, od, dV, kV, doc, pm, an, cdv, ct, osl, e, ho, hcd, hD, _⟩ := T.F_BufferFailed_init.ex
  rcases hD with ⟨_, rfl⟩ | ⟨z, _⟩
  · rw [e] at ho
    refine Att.call_fn (binds := [("self", .ref x), ("index", v)]) X hlim ho hcd hroom (BindsTo.of_eq (by first | rfl | with_unfolding_all rfl)) (by first | rfl | decide | with_unfolding_all rfl) (fun s1 IC => ?_) rfl rfl rfl
    obtain ⟨h1, tk1, rfl⟩ := IC.toInCall.same
    have k : ∀ b o, s.heap.get? b = some o → h1.get? b = some o := IC.toInCall.keep
    have hn := IC.toInCall.ns
    have X1 : K.In h1 := X.keeps k
    have hx1 := k _ _ hx
    show wpAny _ _ (execs _ _) _ _ _
    refine wpAny_execs_cons (plainObj_wpAny_Assign_Attribute ?_)
    refine PySem.QX.ldQ (v := v) hn (by first | rfl | with_unfolding_all rfl | kernel_rfl) (PySem.QX.ldQ (v := .ref x) hn (by first | rfl | with_unfolding_all rfl | kernel_rfl) ?_)
    refine PySem.W.set_plain X1 (ox := PySem.HandSPX.excO (He.ga K "BufferFailed") t0) (od := none) ⟨hx1, rfl, rfl, trivial⟩ T.x_BufferFailed.sa ?_
    refine PySem.QX.osaG PySem.F.store_LookupError X1 hx1 T.x_BufferFailed.ovr T.x_BufferFailed.hd T.x_BufferFailed.tkr (fun h3 tk3 dx k3 dn dne hx3 hn3 => ?_)
    show wpAny _ _ (execs _ _) _ _ _
    have z : s.heap.objs.size < h1.objs.size := hn.lt
    exact wpAny_execs_nil (hq h3 tk3 dx ⟨fun b o hb e => k3 b o hb (k b o e), hx3, Nat.le_of_lt (Nat.lt_of_lt_of_le z dn), dne, hn3⟩)
  · exact absurd rfl z
theorem init_BufferFailedK (T : Txt K mg) : PySem.QX.InitRunsK P w K (He.ga K "BufferFailed") (He.ma K (He.ga K "BufferFailed") "__init__") "index" := by
  intro A R s x t0 v X hlim hx hnx hroom hq
  obtain ⟨oc, od, dV, kV, doc, pm, an, cdv, ct, osl, e, ho, hcd, hD, _⟩ := T.F_BufferFailed_init.ex
  rcases hD with ⟨_, rfl⟩ | ⟨z, _⟩
  · rw [e] at ho
    refine Att.call_fn (binds := [("self", .ref x), ("index", v)]) X hlim ho hcd hroom (BindsTo.of_eq (by first | rfl | with_unfolding_all rfl)) (by first | rfl | decide | with_unfolding_all rfl) (fun s1 IC => ?_) rfl rfl rfl
    obtain ⟨h1, tk1, rfl⟩ := IC.toInCall.same
    have k : ∀ b o, s.heap.get? b = some o → h1.get? b = some o := IC.toInCall.keep
    have hn := IC.toInCall.ns
    have X1 : K.In h1 := X.keeps k
    have hx1 := k _ _ hx
    show wpAny _ _ (execs _ _) _ _ _
    refine wpAny_execs_cons (plainObj_wpAny_Assign_Attribute ?_)
    refine PySem.QX.ldQ (v := v) hn (by first | rfl | with_unfolding_all rfl | kernel_rfl) (PySem.QX.ldQ (v := .ref x) hn (by first | rfl | with_unfolding_all rfl | kernel_rfl) ?_)
    refine PySem.W.set_plain X1 (ox := PySem.HandSPX.excO (He.ga K "BufferFailed") t0) (od := none) ⟨hx1, rfl, rfl, trivial⟩ T.x_BufferFailed.sa ?_
    refine PySem.QX.osaG PySem.F.store_LookupError X1 hx1 T.x_BufferFailed.ovr T.x_BufferFailed.hd T.x_BufferFailed.tkr (fun h3 tk3 dx k3 dn dne hx3 hn3 => ?_)
    show wpAny _ _ (execs _ _) _ _ _
    have z : s.heap.objs.size < h1.objs.size := hn.lt
    exact wpAny_execs_nil (hq h3 tk3 dx ⟨fun b o hb e => k3 b o hb (k b o e), hx3, Nat.le_of_lt (Nat.lt_of_lt_of_le z dn), dne, hn3⟩)
  · exact absurd rfl z
theorem init_LimitExceeded (T : Txt K mg) : PySem.QX.InitRuns P w K (He.ga K "LimitExceeded") (He.ma K (He.ga K "LimitExceeded") "__init__") "size" := by
  intro A R s x t0 v X hlim hx hnx hroom hq
  obtain ⟨oc, od, dV, kV, doc, pm, an, cdv, ct, osl, e, ho, hcd, hD, _⟩ := T.F_LimitExceeded_init.ex
  rcases hD with ⟨_, rfl⟩ | ⟨z, _⟩
  · rw [e] at ho
    refine Att.call_fn (binds := [("self", .ref x), ("size", v)]) X hlim ho hcd hroom (BindsTo.of_eq (by first | rfl | with_unfolding_all rfl)) (by first | rfl | decide | with_unfolding_all rfl) (fun s1 IC => ?_) rfl rfl rfl
    obtain ⟨h1, tk1, rfl⟩ := IC.toInCall.same
    have k : ∀ b o, s.heap.get? b = some o → h1.get? b = some o := IC.toInCall.keep
    have hn := IC.toInCall.ns
    have X1 : K.In h1 := X.keeps k
    have hx1 := k _ _ hx
    show wpAny _ _ (execs _ _) _ _ _
    refine wpAny_execs_cons (plainObj_wpAny_Assign_Attribute ?_)
    refine PySem.QX.ldQ (v := v) hn (by first | rfl | with_unfolding_all rfl | kernel_rfl) (PySem.QX.ldQ (v := .ref x) hn (by first | rfl | with_unfolding_all rfl | kernel_rfl) ?_)
    refine PySem.W.set_plain X1 (ox := PySem.HandSPX.excO (He.ga K "LimitExceeded") t0) (od := none) ⟨hx1, rfl, rfl, trivial⟩ T.x_LimitExceeded.sa ?_
    refine PySem.QX.osaG PySem.F.store_OverflowError X1 hx1 T.x_LimitExceeded.ovr T.x_LimitExceeded.hd T.x_LimitExceeded.tkr (fun h3 tk3 dx k3 dn dne hx3 hn3 => ?_)
    show wpAny _ _ (execs _ _) _ _ _
    have z : s.heap.objs.size < h1.objs.size := hn.lt
    exact wpAny_execs_nil (hq h3 tk3 dx ⟨fun b o hb e => k3 b o hb (k b o e), hx3, Nat.le_of_lt (Nat.lt_of_lt_of_le z dn), dne, hn3⟩)
  · exact absurd rfl z
theorem init_LimitExceededK (T : Txt K mg) : PySem.QX.InitRunsK P w K (He.ga K "LimitExceeded") (He.ma K (He.ga K "LimitExceeded") "__init__") "size" := by
  intro A R s x t0 v X hlim hx hnx hroom hq
  obtain ⟨oc, od, dV, kV, doc, pm, an, cdv, ct, osl, e, ho, hcd, hD, _⟩ := T.F_LimitExceeded_init.ex
  rcases hD with ⟨_, rfl⟩ | ⟨z, _⟩
  · rw [e] at ho
    refine Att.call_fn (binds := [("self", .ref x), ("size", v)]) X hlim ho hcd hroom (BindsTo.of_eq (by first | rfl | with_unfolding_all rfl)) (by first | rfl | decide | with_unfolding_all rfl) (fun s1 IC => ?_) rfl rfl rfl
    obtain ⟨h1, tk1, rfl⟩ := IC.toInCall.same
    have k : ∀ b o, s.heap.get? b = some o → h1.get? b = some o := IC.toInCall.keep
    have hn := IC.toInCall.ns
    have X1 : K.In h1 := X.keeps k
    have hx1 := k _ _ hx
    show wpAny _ _ (execs _ _) _ _ _
    refine wpAny_execs_cons (plainObj_wpAny_Assign_Attribute ?_)
    refine PySem.QX.ldQ (v := v) hn (by first | rfl | with_unfolding_all rfl | kernel_rfl) (PySem.QX.ldQ (v := .ref x) hn (by first | rfl | with_unfolding_all rfl | kernel_rfl) ?_)
    refine PySem.W.set_plain X1 (ox := PySem.HandSPX.excO (He.ga K "LimitExceeded") t0) (od := none) ⟨hx1, rfl, rfl, trivial⟩ T.x_LimitExceeded.sa ?_
    refine PySem.QX.osaG PySem.F.store_OverflowError X1 hx1 T.x_LimitExceeded.ovr T.x_LimitExceeded.hd T.x_LimitExceeded.tkr (fun h3 tk3 dx k3 dn dne hx3 hn3 => ?_)
    show wpAny _ _ (execs _ _) _ _ _
    have z : s.heap.objs.size < h1.objs.size := hn.lt
    exact wpAny_execs_nil (hq h3 tk3 dx ⟨fun b o hb e => k3 b o hb (k b o e), hx3, Nat.le_of_lt (Nat.lt_of_lt_of_le z dn), dne, hn3⟩)
  · exact absurd rfl z
theorem bd_law_draws (T : Txt K mg) : ∃ ds, Vals [] ds ∧ Binds K (fdA K (He.ga K "_law_draws")) ["_law_script", "_law_k"] ds := ⟨[], .nil, T.F_law_draws.bindsN fun _ _ _ _ _ _ us hl => match us, hl with | [_, _], _ => rfl⟩
theorem bd_law_draw (T : Txt K mg) : ∃ ds, Vals [] ds ∧ Binds K (fdA K (He.ga K "_law_draw")) ["_law_draws_here", "_law_upto"] ds := ⟨[], .nil, T.F_law_draw.bindsN fun _ _ _ _ _ _ us hl => match us, hl with | [_, _], _ => rfl⟩
theorem bd_law_argument (T : Txt K mg) : ∃ ds, Vals [] ds ∧ Binds K (fdA K (He.ga K "_law_argument")) ["_law_draws_here"] ds := ⟨[], .nil, T.F_law_argument.bindsN fun _ _ _ _ _ _ us hl => match us, hl with | [_], _ => rfl⟩
theorem bd_law_by_position (T : Txt K mg) : ∃ ds, Vals [] ds ∧ Binds K (fdA K (He.ga K "_law_by_position")) ["_law_one", "_law_two"] ds := ⟨[], .nil, T.F_law_by_position.bindsN fun _ _ _ _ _ _ us hl => match us, hl with | [_, _], _ => rfl⟩
theorem bd_law_fields (T : Txt K mg) : ∃ ds, Vals [] ds ∧ Binds K (fdA K (He.ga K "_law_fields")) ["_law_errors"] ds := ⟨[], .nil, T.F_law_fields.bindsN fun _ _ _ _ _ _ us hl => match us, hl with | [_], _ => rfl⟩
theorem bd_law_classes (T : Txt K mg) : ∃ ds, Vals [] ds ∧ Binds K (fdA K (He.ga K "_law_classes")) ["_law_e"] ds := ⟨[], .nil, T.F_law_classes.bindsN fun _ _ _ _ _ _ us hl => match us, hl with | [_], _ => rfl⟩
theorem bd_law_bases (T : Txt K mg) : ∃ ds, Vals [] ds ∧ Binds K (fdA K (He.ga K "_law_bases")) ["_law_e"] ds := ⟨[], .nil, T.F_law_bases.bindsN fun _ _ _ _ _ _ us hl => match us, hl with | [_], _ => rfl⟩
end Q
namespace Q
open PySem PySem.W PySem.Calls PyProof.Rows
abbrev R : OpenRow := OpenLaw.row PySem.Challenge.rw_fullqueue_k02_errors_and_fields
def loose : List PySem.Str := (["BufferFailed", "CapacityMismatch", "EffectFailed", "EmptyQueue", "FullQueue", "InvalidCapacity", "InvalidCommand", "InvalidEffect", "InvalidFacts", "InvalidInteger", "InvalidLetter", "InvalidMode", "InvalidProgram", "InvalidQueue", "InvalidText", "InvalidUser", "LimitExceeded", "NothingToUndo", "QueueError", "RunFailed", "_law_argument", "_law_bases", "_law_by_position", "_law_classes", "_law_draw", "_law_draws", "_law_fields"] : List PySem.Str)
abbrev hk : Hook := hookS 5 exs fns 1
def ob (s : SharedT) : He.AlD × Bool := (obsSG 5 exs fns (HandSHeadRun.getT s), Nat.ble 1 s.toks)
theorem ob_eq (s : SharedT) : ob s = hk.obs s.abs := obsS_eq s
theorem run (w : World) : HandSHeadRun.RunEq R (view R.prog [29]) hk ob 20000 loose w := by
  intro os
  kernel_rfl
end Q
namespace U
inductive D where
  | non | bl (b : Bool) | int (i : Int) | str (s : List Nat) | tup (l : List D) | lst (l : List D) | ins (c : String) (ns : List String) (ds : List D) | own (t : Nat) (d : D) | exn (c : String) (ns : List String) (ds : List D) | scr (ns : List Int) | dic (ks : List Int) | exv (c : String) (ns : List String) (ds : List D)
abbrev Env := List (Option D)
structure Ex where
  cls : String
  ns : List String
  ds : List D
inductive ER where
  | ok (d : D) (ρ : Env) | exc (x : Ex) (ρ : Env) | bad
inductive AR where
  | ok (ds : List D) (ρ : Env) | exc (x : Ex) (ρ : Env) | bad
inductive Fl where
  | nx (ρ : Env) | rt (d : D) (ρ : Env) | bk (ρ : Env) | ct (ρ : Env) | ex (x : Ex) (ρ : Env) | bad
abbrev E := Env → ER
abbrev As := Env → AR
abbrev St := Env → Fl
abbrev Fn := List D → ER
def D.isMut : D → Bool
  | .own _ _ => true
  | .exn _ _ _ => true
  | _ => false
def ER.bind (r : ER) (k : D → Env → ER) : ER := match r with
  | .ok d ρ => k d ρ
  | .exc x ρ => .exc x ρ
  | .bad => .bad
def ER.binds (r : ER) (k : D → Env → Fl) : Fl := match r with
  | .ok d ρ => k d ρ
  | .exc x ρ => .ex x ρ
  | .bad => .bad
def AR.bind (r : AR) (k : List D → Env → ER) : ER := match r with
  | .ok d ρ => k d ρ
  | .exc x ρ => .exc x ρ
  | .bad => .bad
def ER.bindA (r : ER) (k : D → Env → AR) : AR := match r with
  | .ok d ρ => k d ρ
  | .exc x ρ => .exc x ρ
  | .bad => .bad
def AR.bindA (r : AR) (k : List D → Env → AR) : AR := match r with
  | .ok d ρ => k d ρ
  | .exc x ρ => .exc x ρ
  | .bad => .bad
def lift (o : Option D) (ρ : Env) : ER := match o with
  | some d => .ok d ρ
  | none => .bad
def rd (o : Option (Option D)) : Option D := match o with
  | some (some (.own _ _)) => none
  | some (some (.exn _ _ _)) => none
  | some (some d) => some d
  | _ => none
def eC (d : D) : E := fun ρ => .ok d ρ
def eVar (i : Nat) : E := fun ρ => lift (rd ρ[i]?) ρ
def eOp (o : D → D → Option D) (a b : E) : E := fun ρ => (a ρ).bind fun x ρ1 => (b ρ1).bind fun y ρ2 => lift (o x y) ρ2
def eUn (o : D → Option D) (a : E) : E := fun ρ => (a ρ).bind fun x ρ1 => lift (o x) ρ1
def aNil : As := fun ρ => .ok [] ρ
def aCons (a : E) (r : As) : As := fun ρ => (a ρ).bindA fun x ρ1 => (r ρ1).bindA fun xs ρ2 => .ok (x :: xs) ρ2
def eN (o : List D → Option D) (a : As) : E := fun ρ => (a ρ).bind fun xs ρ1 => lift (o xs) ρ1
def eAnd (a b : E) : E := fun ρ => (a ρ).bind fun x ρ1 => match x with
  | .bl true => b ρ1
  | .bl false => .ok (.bl false) ρ1
  | _ => .bad
def eOr (a b : E) : E := fun ρ => (a ρ).bind fun x ρ1 => match x with
  | .bl false => b ρ1
  | .bl true => .ok (.bl true) ρ1
  | _ => .bad
def eIf (c a b : E) : E := fun ρ => (c ρ).bind fun x ρ1 => match x with
  | .bl true => a ρ1
  | .bl false => b ρ1
  | _ => .bad
def eChain (o o' : D → D → Option D) (a b c : E) : E := fun ρ => (a ρ).bind fun x ρ1 => (b ρ1).bind fun y ρ2 => match o x y with
  | some (.bl true) => (c ρ2).bind fun z ρ3 => lift (o' y z) ρ3
  | some (.bl false) => .ok (.bl false) ρ2
  | _ => .bad
def allPlain : List D → Bool
  | [] => true
  | d :: r => !d.isMut && allPlain r
def frzD : D → Option D
  | .own 0 (.lst l) => if allPlain l then some (.lst l) else none
  | .own 0 (.ins c ns l) => if allPlain l then some (.ins c ns l) else none
  | .own _ _ => none
  | .exn _ _ _ => none
  | d => some d
def eFrz (a : E) : E := fun ρ => (a ρ).bind fun x ρ1 => lift (frzD x) ρ1
def eGive (i : Nat) : E := fun ρ => match ρ[i]? with
  | some (some d) => (match frzD d with
    | some d' => .ok d' (ρ.set i (some d'))
    | none => .bad)
  | _ => .bad
inductive Ag where
  | v (a : E) | b (i : Nat)
inductive Arg where
  | v (d : D) | b (i : Nat)
inductive GR where
  | ok (l : List Arg) (ρ : Env) | exc (x : Ex) (ρ : Env) | bad
def evAg : List Ag → Env → GR
  | [], ρ => .ok [] ρ
  | .v a :: r, ρ => (match a ρ with
    | .ok d ρ1 => (match evAg r ρ1 with
      | .ok l ρ2 => .ok (.v d :: l) ρ2
      | .exc x ρ2 => .exc x ρ2
      | .bad => .bad)
    | .exc x ρ1 => .exc x ρ1
    | .bad => .bad)
  | .b i :: r, ρ => (match ρ[i]? with
    | some (some (.own _ _)) => (match evAg r ρ with
      | .ok l ρ2 => .ok (.b i :: l) ρ2
      | .exc x ρ2 => .exc x ρ2
      | .bad => .bad)
    | _ => .bad)
def hand (ρ : Env) : Nat → List Arg → Option (List D)
  | _, [] => some []
  | j, .v d :: r => (hand ρ (j + 1) r).map (d :: ·)
  | j, .b i :: r => match ρ[i]? with
    | some (some (.own _ d)) => (hand ρ (j + 1) r).map (.own (j + 1) d :: ·)
    | _ => none
def back : Nat → List Arg → Env → Env → Option Env
  | _, [], _, ρ => some ρ
  | j, .v _ :: r, o, ρ => back (j + 1) r o.tail ρ
  | j, .b i :: r, o, ρ => match o.head?, ρ[i]? with
    | some (some (.own (t' + 1) d)), some (some (.own t _)) => if t' = j then back (j + 1) r o.tail (ρ.set i (some (.own t d))) else none
    | _, _ => none
def lent : List Arg → List Nat
  | [] => []
  | .v _ :: r => lent r
  | .b i :: r => i :: lent r
def eCall (f : Fn) (g : List Ag) (dd : List D) : E := fun ρ => match evAg g ρ with
  | .ok l ρ1 => (match hand ρ1 0 l with
    | some ds => if (lent l).Nodup then (match f (ds ++ dd) with
      | .ok d o => (match back 0 l o ρ1 with
        | some ρ2 => .ok d ρ2
        | none => .bad)
      | .exc x o => (match back 0 l o ρ1 with
        | some ρ2 => .exc x ρ2
        | none => .bad)
      | .bad => .bad) else .bad
    | none => .bad)
  | .exc x ρ1 => .exc x ρ1
  | .bad => .bad
def sNil : St := fun ρ => .nx ρ
def Fl.bind (r : Fl) (k : Env → Fl) : Fl := match r with
  | .nx ρ => k ρ
  | r => r
def sSeq (a b : St) : St := fun ρ => (a ρ).bind b
def sRet (a : E) : St := fun ρ => (a ρ).binds fun d ρ1 => .rt d ρ1
def sRetN : St := fun ρ => .rt .non ρ
def sDrop (a : E) : St := fun ρ => (a ρ).binds fun _ ρ1 => .nx ρ1
def sIf (c : E) (a b : St) : St := fun ρ => (c ρ).binds fun x ρ1 => match x with
  | .bl true => a ρ1
  | .bl false => b ρ1
  | _ => .bad
def put (i : Nat) (d : D) (ρ : Env) : Option Env := match ρ[i]? with
  | some (some (.own (_ + 1) _)) => none
  | some _ => some (ρ.set i (some d))
  | none => none
def sSet (i : Nat) (a : E) : St := fun ρ => (a ρ).binds fun d ρ1 => match put i d ρ1 with
  | some ρ2 => .nx ρ2
  | none => .bad
def sBk : St := fun ρ => .bk ρ
def sCt : St := fun ρ => .ct ρ
def sRaise (c : String) (ns : List String) (a : As) : St := fun ρ => match a ρ with
  | .ok ds ρ1 => .ex ⟨c, ns, ds⟩ ρ1
  | .exc x ρ1 => .ex x ρ1
  | .bad => .bad
def putAll : List Nat → List D → Env → Option Env
  | [], [], ρ => some ρ
  | i :: is, d :: ds, ρ => (put i d ρ).bind (putAll is ds)
  | _, _, _ => none
def sPar (is : List Nat) (a : As) : St := fun ρ => match a ρ with
  | .ok ds ρ1 => (match putAll is ds ρ1 with
    | some ρ2 => .nx ρ2
    | none => .bad)
  | .exc x ρ1 => .ex x ρ1
  | .bad => .bad
def sAug (i : Nat) (o : D → D → Option D) (a : E) : St := fun ρ => match rd ρ[i]? with
  | none => .bad
  | some x => (a ρ).binds fun y ρ1 => match o x y with
    | none => .bad
    | some z => match put i z ρ1 with
      | some ρ2 => .nx ρ2
      | none => .bad
abbrev Tg := D → Env → Option Env
def gVar (i : Nat) : Tg := fun d ρ => put i d ρ
def gAll : List Tg → List D → Env → Option Env
  | [], [], ρ => some ρ
  | g :: gs, d :: ds, ρ => (g d ρ).bind (gAll gs ds)
  | _, _, _ => none
def gTup (gs : List Tg) : Tg := fun d ρ => match d with
  | .tup ds => gAll gs ds ρ
  | _ => none
def sAsg (a : E) (g : Tg) : St := fun ρ => (a ρ).binds fun d ρ1 => match g d ρ1 with
  | some ρ2 => .nx ρ2
  | none => .bad
def forL (g : Tg) (b : St) : List D → Env → Fl
  | [], ρ => .nx ρ
  | d :: ds, ρ => match g d ρ with
    | none => .bad
    | some ρ1 => match b ρ1 with
      | .nx ρ2 => forL g b ds ρ2
      | .ct ρ2 => forL g b ds ρ2
      | .bk ρ2 => .nx ρ2
      | .rt d ρ2 => .rt d ρ2
      | .ex x ρ2 => .ex x ρ2
      | .bad => .bad
inductive IR where
  | ok (ds : List D) (ρ : Env) | exc (x : Ex) (ρ : Env) | bad
abbrev Is := Env → AR
def sFor (it : Is) (g : Tg) (b : St) : St := fun ρ => match it ρ with
  | .ok ds ρ1 => forL g b ds ρ1
  | .exc x ρ1 => .ex x ρ1
  | .bad => .bad
def whileN (c : E) (b : St) : Nat → Env → Fl
  | 0, _ => .bad
  | n + 1, ρ => (c ρ).binds fun x ρ1 => match x with
    | .bl true => (match b ρ1 with
      | .nx ρ2 => whileN c b n ρ2
      | .ct ρ2 => whileN c b n ρ2
      | .bk ρ2 => .nx ρ2
      | .rt d ρ2 => .rt d ρ2
      | .ex x ρ2 => .ex x ρ2
      | .bad => .bad)
    | .bl false => .nx ρ1
    | _ => .bad
open Classical in
noncomputable def sWhile (c : E) (b : St) : St := fun ρ => if h : ∃ n, whileN c b n ρ ≠ .bad then whileN c b (choose h) ρ else .bad
def wipeE : List Nat → Env → Env
  | [], ρ => ρ
  | i :: vs, ρ => (wipeE vs ρ).set i none
def compL (g : Tg) (t : E) (e : E) (vs : List Nat) : List D → Env → List D → AR
  | [], ρ, acc => .ok acc ρ
  | d :: ds, ρ, acc => match g d ρ with
    | none => .bad
    | some ρ1 => match t ρ1 with
      | .ok (.bl true) ρ2 => (match e ρ2 with
        | .ok x ρ3 => if acc.length < 16777216 then compL g t e vs ds (wipeE vs ρ3) (acc ++ [x]) else .bad
        | _ => .bad)
      | .ok (.bl false) ρ2 => compL g t e vs ds (wipeE vs ρ2) acc
      | _ => .bad
def eComp (it : Is) (g : Tg) (t e : E) (vs : List Nat) : E := fun ρ => match it ρ with
  | .ok ds ρ1 => (match compL g t e vs ds (wipeE vs ρ1) [] with
    | .ok l ρ2 => .ok (.own 0 (.lst l)) ρ2
    | .exc x ρ2 => .exc x ρ2
    | .bad => .bad)
  | .exc x ρ1 => .exc x ρ1
  | .bad => .bad
def fnOf (n m : Nat) (b : St) : Fn := fun ds => if ds.length = n then (match b (ds.map some ++ List.replicate m none) with
  | .rt d ρ => .ok d (ρ.take n)
  | .nx ρ => .ok .non (ρ.take n)
  | .ex x ρ => .exc x (ρ.take n)
  | _ => .bad) else .bad
def lookN (f : String) : List String → List D → Option D
  | n :: ns, d :: ds => if n = f then some d else lookN f ns ds
  | _, _ => none
def eXf (i : Nat) (c f : String) : E := fun ρ => match ρ[i]? with
  | some (some (.exn c' [f'] [d])) => if c' = c ∧ f' = f then .ok d ρ else .bad
  | _ => .bad
structure Hd where
  c : String
  i : Option Nat
  s : St
abbrev Tb := List (String × String × Bool)
def Tb.at (t : Tb) (a b : String) : Option Bool := match t with
  | [] => none
  | (x, y, r) :: t => if x = a ∧ y = b then some r else Tb.at t a b
def D.isExn : D → Bool
  | .exn _ _ _ => true
  | _ => false
def noExn : Env → Bool
  | [] => true
  | none :: r => noExn r
  | some d :: r => !d.isExn && noExn r
def Fl.unset (r : Fl) (i : Nat) : Fl := match r with
  | .nx ρ => if noExn (ρ.set i none) then .nx (ρ.set i none) else .bad
  | .bk ρ => if noExn (ρ.set i none) then .bk (ρ.set i none) else .bad
  | .ct ρ => if noExn (ρ.set i none) then .ct (ρ.set i none) else .bad
  | .rt d ρ => if noExn (ρ.set i none) then .rt d (ρ.set i none) else .bad
  | _ => .bad
def catch_ (t : Tb) (x : Ex) (ρ : Env) : List Hd → Fl
  | [] => .ex x ρ
  | h :: r => match t.at x.cls h.c with
    | some true => (match h.i with
      | none => (match h.s ρ with
        | .ex _ _ => .bad
        | q => q)
      | some i => (match put i (.exn x.cls x.ns x.ds) ρ with
        | some ρ1 => if noExn ρ then (h.s ρ1).unset i else .bad
        | none => .bad))
    | some false => catch_ t x ρ r
    | none => .bad
def sTry (t : Tb) (b : St) (hs : List Hd) (e : St) : St := fun ρ => match b ρ with
  | .nx ρ1 => e ρ1
  | .ex x ρ1 => catch_ t x ρ1 hs
  | r => r
def itL : D → Option (List D)
  | .lst l => some l
  | _ => none
def itT : D → Option (List D)
  | .tup l => some l
  | _ => none
def itS : D → Option (List D)
  | .str l => some (l.map fun c => .str [c])
  | _ => none
def iOf (o : D → Option (List D)) (f : E) : Is := fun ρ => match f ρ with
  | .ok d ρ1 => (match o d with
    | some ds => .ok ds ρ1
    | none => .bad)
  | .exc x ρ1 => .exc x ρ1
  | .bad => .bad
def iOfA (o : List D → Option (List D)) (f : As) : Is := fun ρ => match f ρ with
  | .ok xs ρ1 => (match o xs with
    | some ds => .ok ds ρ1
    | none => .bad)
  | .exc x ρ1 => .exc x ρ1
  | .bad => .bad
def rangeD (lo : Int) (n : Nat) : List D := (List.range n).map fun (i : Nat) => D.int (lo + i)
def okR (i : Int) : Bool := decide (-4611686018427387904 ≤ i ∧ i < 4611686018427387904)
def itR : List D → Option (List D)
  | [.int j] => if okR j then some (rangeD 0 j.toNat) else none
  | [.int i, .int j] => if okR i && okR j then some (rangeD i (j - i).toNat) else none
  | _ => none
def enumD (l : List D) : List D := (l.zipIdx).map fun p => D.tup [.int (p.2 : Nat), p.1]
def itEL : List D → Option (List D)
  | [.lst l] => some (enumD l)
  | _ => none
def itES : List D → Option (List D)
  | [.str l] => some (enumD (l.map fun c => .str [c]))
  | _ => none
def oNot : D → Option D
  | .bl b => some (.bl (!b))
  | _ => none
end U
namespace U
def ixD (n : Nat) (i : Int) : Option Nat := if 0 ≤ i then (if i < n then some i.toNat else none) else if -(n : Int) ≤ i then some (i + n).toNat else none
def atD {α : Type} (l : List α) (i : Int) : Option α := (ixD l.length i).bind fun j => l[j]?
def oAdd : D → D → Option D
  | .int i, .int j => some (.int (i + j))
  | _, _ => none
def oSub : D → D → Option D
  | .int i, .int j => some (.int (i - j))
  | _, _ => none
def lim64 : Nat := 2 ^ 64
def lim4k : Nat := 2 ^ 4000
def lim1k : Nat := 2 ^ 1800
def oMul : D → D → Option D
  | .int i, .int j => if i.natAbs < lim64 ∨ j.natAbs < lim64 then some (.int (i * j)) else none
  | _, _ => none
def oMulW : D → D → Option D
  | .int i, .int j => if i.natAbs < lim4k ∧ j.natAbs < lim4k then some (.int (i * j)) else none
  | _, _ => none
def oDiv : D → D → Option D
  | .int i, .int j => if 0 < j ∧ j.natAbs < lim4k then some (.int (i / j)) else none
  | _, _ => none
def oMod : D → D → Option D
  | .int i, .int j => if 0 < j then some (.int (i % j)) else none
  | _, _ => none
def oPow : D → D → Option D
  | .int i, .int j => if 0 ≤ j ∧ j ≤ 1000 ∧ i.natAbs < 1000 then some (.int (i ^ j.toNat)) else none
  | _, _ => none
def oNeg : D → Option D
  | .int i => some (.int (-i))
  | _ => none
def oLt : D → D → Option D
  | .int i, .int j => some (.bl (decide (i < j)))
  | _, _ => none
def oLe : D → D → Option D
  | .int i, .int j => some (.bl (decide (i ≤ j)))
  | _, _ => none
def oGt : D → D → Option D
  | .int i, .int j => some (.bl (decide (j < i)))
  | _, _ => none
def oGe : D → D → Option D
  | .int i, .int j => some (.bl (decide (j ≤ i)))
  | _, _ => none
mutual
def D.eqv : D → D → Bool
  | .non, .non => true
  | .bl a, .bl b => a == b
  | .bl a, .int j => (if a then 1 else 0) == j
  | .int i, .bl b => i == (if b then 1 else 0)
  | .int i, .int j => i == j
  | .str x, .str y => x == y
  | .lst xs, .lst ys => eqvs xs ys
  | .tup xs, .tup ys => eqvs xs ys
  | _, _ => false
def eqvs : List D → List D → Bool
  | [], [] => true
  | x :: xs, y :: ys => x.eqv y && eqvs xs ys
  | _, _ => false
end
def okD : Nat → D → Bool
  | _, .non => true
  | _, .bl _ => true
  | _, .int _ => true
  | _, .str _ => true
  | n + 1, .tup l => l.all (okD n)
  | n + 1, .lst l => l.all (okD n)
  | _, _ => false
def oEq (a b : D) : Option D := if okD 9 a && okD 9 b then some (.bl (a.eqv b)) else none
def oNeScr : D → D → Option D
  | .scr ns, .lst [] => some (.bl (!ns.isEmpty))
  | _, _ => none
def oIxScr : D → D → Option D
  | .scr ns, .int i => (atD ns i).map .int
  | _, _ => none
def oLenScr : List D → Option D
  | [.scr ns] => some (.int ns.length)
  | _ => none
def oNe (a b : D) : Option D := if okD 9 a && okD 9 b then some (.bl (!a.eqv b)) else none
def D.isN : D → Bool
  | .non => true
  | _ => false
def oIsN : D → D → Option D
  | a, .non => if a.isMut then none else some (.bl a.isN)
  | _, _ => none
def oNotN : D → D → Option D
  | a, .non => if a.isMut then none else some (.bl (!a.isN))
  | _, _ => none
def oInS : D → D → Option D
  | .str [c], .str l => some (.bl (decide (c ∈ l)))
  | _, _ => none
def oNotInS : D → D → Option D
  | .str [c], .str l => some (.bl (!decide (c ∈ l)))
  | _, _ => none
def D.flat : D → Bool
  | .non => true
  | .bl _ => true
  | .int _ => true
  | .str _ => true
  | _ => false
def inD (x : D) (l : List D) : Bool := l.any fun y => y.eqv x
def oInQ : D → D → Option D
  | x, .tup l => if x.flat && l.all D.flat then some (.bl (inD x l)) else none
  | x, .lst l => if x.flat && l.all D.flat then some (.bl (inD x l)) else none
  | _, _ => none
def oNotInQ : D → D → Option D
  | x, .tup l => if x.flat && l.all D.flat then some (.bl (!inD x l)) else none
  | x, .lst l => if x.flat && l.all D.flat then some (.bl (!inD x l)) else none
  | _, _ => none
def cap : Nat := 16777216
def oAddS : D → D → Option D
  | .str a, .str b => if a.length + b.length ≤ cap then some (.str (a ++ b)) else none
  | _, _ => none
def oMulS : D → D → Option D
  | .str a, .int n => if -9223372036854775808 ≤ n ∧ n < 9223372036854775808 ∧ a.length * n.toNat ≤ cap then some (.str (List.replicate n.toNat a).flatten) else none
  | _, _ => none
def oCatL : D → D → Option D
  | .lst a, .lst b => if a.length + b.length ≤ cap then some (.own 0 (.lst (a ++ b))) else none
  | _, _ => none
def oRepL : D → D → Option D
  | .lst a, .int n => if -9223372036854775808 ≤ n ∧ n < 9223372036854775808 ∧ a.length * n.toNat ≤ cap then some (.own 0 (.lst (List.replicate n.toNat a).flatten)) else none
  | _, _ => none
def oCatT : D → D → Option D
  | .tup a, .tup b => if a.length + b.length ≤ cap then some (.tup (a ++ b)) else none
  | _, _ => none
def oRepT : D → D → Option D
  | .tup a, .int n => if 2 ≤ n ∧ n ≤ 1000 ∧ 0 < a.length ∧ a.length ≤ 1000 then some (.tup (List.replicate n.toNat a).flatten) else none
  | _, _ => none
def oIxL : D → D → Option D
  | .lst l, .int i => atD l i
  | _, _ => none
def oIxT : D → D → Option D
  | .tup l, .int i => atD l i
  | _, _ => none
def oIxS : D → D → Option D
  | .str l, .int i => if l.length ≤ cap then (atD l i).map fun c => .str [c] else none
  | _, _ => none
def oLen : List D → Option D
  | [.str l] => if l.length ≤ cap then some (.int l.length) else none
  | [.lst l] => some (.int l.length)
  | [.tup l] => some (.int l.length)
  | _ => none
def oLenS : List D → Option D
  | [.str l] => if l.length ≤ cap then some (.int l.length) else none
  | _ => none
def oLenQ : List D → Option D
  | [.lst l] => some (.int l.length)
  | [.tup l] => some (.int l.length)
  | _ => none
def oMax2 : List D → Option D
  | [.int i, .int j] => some (.int (if j > i then j else i))
  | _ => none
def oMin2 : List D → Option D
  | [.int i, .int j] => some (.int (if j < i then j else i))
  | _ => none
def oMax3 : List D → Option D
  | [.int i, .int j, .int k] => some (.int (if (if i < j then j else i) < k then k else (if i < j then j else i)))
  | _ => none
def oAbs : List D → Option D
  | [.int i] => some (.int (if i < 0 then -i else i))
  | _ => none
def intsD : List D → Option (List Int)
  | [] => some []
  | .int i :: r => (intsD r).map (i :: ·)
  | _ => none
def boolsD : List D → Option (List Bool)
  | [] => some []
  | .bl i :: r => (boolsD r).map (i :: ·)
  | _ => none
def strsD : List D → Option (List (List Nat))
  | [] => some []
  | .str i :: r => (strsD r).map (i :: ·)
  | _ => none
def oSum : List D → Option D
  | [.lst l] => (intsD l).map fun ns => .int ns.sum
  | _ => none
def oAll : List D → Option D
  | [.lst l] => (boolsD l).map fun bs => .bl (bs.all id)
  | _ => none
def oAny : List D → Option D
  | [.lst l] => (boolsD l).map fun bs => .bl (bs.any id)
  | _ => none
def oInt : List D → Option D
  | [.int i] => some (.int i)
  | [.bl b] => some (.int (if b then 1 else 0))
  | _ => none
def decL (n : Nat) : List Nat := (Nat.toDigits 10 n).map Char.toNat
def oStrI : List D → Option D
  | [.int i] => if 0 ≤ i ∧ i.natAbs < lim1k then some (.str (decL i.natAbs)) else none
  | _ => none
def oTupOf : List D → Option D
  | [.lst l] => some (.tup l)
  | [.tup l] => some (.tup l)
  | _ => none
def oLstOf : List D → Option D
  | [.lst l] => some (.own 0 (.lst l))
  | [.tup l] => some (.own 0 (.lst l))
  | _ => none
def sIxD (n d : Nat) : Option Int → Nat
  | none => d
  | some v => if v < 0 then (v + (n : Int)).toNat else min v.toNat n
def cutD {α : Type} (l : List α) (lo hi : Option Int) : List α := (l.drop (sIxD l.length 0 lo)).take (sIxD l.length l.length hi - sIxD l.length 0 lo)
def oSlS : D → Option Int → Option Int → Option D
  | .str l, lo, hi => if l.length ≤ cap then some (.str (cutD l lo hi)) else none
  | _, _, _ => none
def oSlL : D → Option Int → Option Int → Option D
  | .lst l, lo, hi => some (.own 0 (.lst (cutD l lo hi)))
  | _, _, _ => none
def oSlT : D → Option Int → Option Int → Option D
  | .tup l, lo, hi => some (.tup (cutD l lo hi))
  | _, _, _ => none
inductive OR where
  | ok (o : Option Int) (ρ : Env) | exc (x : Ex) (ρ : Env) | bad
def part (e : Option E) : Env → OR := fun ρ => match e with
  | none => .ok none ρ
  | some f => (match f ρ with
    | .ok (.int i) ρ1 => .ok (some i) ρ1
    | .ok _ _ => .bad
    | .exc x ρ1 => .exc x ρ1
    | .bad => .bad)
def eSl (o : D → Option Int → Option Int → Option D) (f : E) (lo hi : Option E) : E := fun ρ => (f ρ).bind fun x ρ1 => match part lo ρ1 with
  | .ok l ρ2 => (match part hi ρ2 with
    | .ok h ρ3 => lift (o x l h) ρ3
    | .exc x ρ3 => .exc x ρ3
    | .bad => .bad)
  | .exc x ρ2 => .exc x ρ2
  | .bad => .bad
def oRev : D → Option D
  | .lst l => some (.own 0 (.lst l.reverse))
  | _ => none
def joinD (a : List Nat) : List (List Nat) → List Nat
  | [] => []
  | [x] => x
  | x :: y :: r => x ++ a ++ joinD a (y :: r)
def oJoin : D → D → Option D
  | .str a, .lst l => (strsD l).bind fun ys => if (ys.map List.length).sum + ys.length * a.length ≤ cap then some (.str (joinD a ys)) else none
  | .str a, .tup l => (strsD l).bind fun ys => if (ys.map List.length).sum + ys.length * a.length ≤ cap then some (.str (joinD a ys)) else none
  | _, _ => none
def tyName : D → Option String
  | .non => some "NoneType"
  | .bl _ => some "bool"
  | .int _ => some "int"
  | .str _ => some "str"
  | .tup _ => some "tuple"
  | .lst _ => some "list"
  | .dic _ => some "dict"
  | _ => none
def oIsi (T : String) (d : D) : Option D := (tyName d).map fun n => .bl (n == T || (n == "bool" && T == "int"))
def mkTup (l : List D) : Option D := if l.length ≤ cap then some (.tup l) else none
def mkLst (l : List D) : Option D := if l.length ≤ cap then some (.own 0 (.lst l)) else none
def isOL (o : Option (Option D)) : Bool := match o with
  | some (some (.own _ (.lst _))) => true
  | _ => false
def eApp (i : Nat) (a : E) : E := fun ρ => if isOL ρ[i]? then (a ρ).bind fun x ρ1 => (match ρ1[i]? with
  | some (some (.own t (.lst l))) => if l.length < cap then .ok .non (ρ1.set i (some (.own t (.lst (l ++ [x]))))) else .bad
  | _ => .bad) else .bad
def eIxO (i : Nat) (a : E) : E := fun ρ => if isOL ρ[i]? then (a ρ).bind fun x ρ1 => (match ρ1[i]?, x with
  | some (some (.own _ (.lst l))), .int k => (match atD l k with
    | some d => if d.isMut then .bad else .ok d ρ1
    | none => .bad)
  | _, _ => .bad) else .bad
def sPutO (i : Nat) (k a : E) : St := fun ρ => (a ρ).binds fun x ρ1 => if isOL ρ1[i]? then (k ρ1).binds fun y ρ2 => (match ρ2[i]?, y with
  | some (some (.own t (.lst l))), .int j => (match ixD l.length j with
    | some m => if allPlain l then .nx (ρ2.set i (some (.own t (.lst (l.set m x))))) else .bad
    | none => .bad)
  | _, _ => .bad) else .bad
def eLenO (i : Nat) : E := fun ρ => match ρ[i]? with
  | some (some (.own _ (.lst l))) => .ok (.int l.length) ρ
  | _ => .bad
def eMs (o : D → D → Option D) (a b : E) : E := fun ρ => (a ρ).bind fun x ρ1 => match x with
  | .str s => (b ρ1).bind fun y ρ2 => lift (o (.str s) y) ρ2
  | _ => .bad
def eMs0 (o : D → Option D) (a : E) : E := fun ρ => (a ρ).bind fun x ρ1 => match x with
  | .str s => lift (o (.str s)) ρ1
  | _ => .bad
def okRg (a b : Int) : Bool := decide (-4611686018427387904 ≤ a ∧ a < 4611686018427387904 ∧ -4611686018427387904 ≤ b ∧ b < 4611686018427387904 ∧ (b - a).toNat ≤ cap)
def oLstRg : D → D → Option D
  | .int a, .int b => if okRg a b then some (.own 0 (.lst ((List.range (b - a).toNat).map fun (i : Nat) => D.int (a + i)))) else none
  | _, _ => none
def eIsi (T : String) (a : E) : E := eUn (oIsi T) a
end U
namespace U
open PySem PySem.Spec PyProof.Rows L2
abbrev Fz := Addr → Prop
def S (l : List Nat) : Str := ⟨l.toArray⟩
def chars (l : List Nat) : Prop := ∀ c ∈ l, c < 1114112
def SqLF (K : PySem.W.Frag) (F : Fz) (H : Hp) (a : Addr) (xs : List V) : Prop := F a ∧ H a = some (.lst xs)
def SqTF (K : PySem.W.Frag) (F : Fz) (H : Hp) (a : Addr) (xs : List V) : Prop :=
  (F a ∧ Rd H a (.tup xs)) ∨
    ∃ (o : Obj) (its : Array Value) (n : Nat), K.lookup a = some o ∧ o.cls = .type "tuple" ∧ o.data = .seq its n ∧ its.size ≤ sizeLine ∧ Vals xs its.toList
theorem SqLF.seq {K : PySem.W.Frag} {F : Fz} {H : Hp} {a : Addr} {xs : List V} (h : SqLF K F H a xs) : SqL K H a xs := .inl (.inl h.2)
theorem SqTF.seq {K : PySem.W.Frag} {F : Fz} {H : Hp} {a : Addr} {xs : List V} (h : SqTF K F H a xs) : SqT K H a xs := h.imp (·.2) id
def ExV (C : Addr) (dd : Option Addr) (a : Addr) : HO := .ext fun h => ∃ (oe : Obj) (vs : Array Value), h.get? a = some oe ∧ Zc (.ref C) dd oe ∧ oe.data = .fields vs
section
variable (K : PySem.W.Frag) (F : Fz) (H : Hp)
mutual
def RV : V → D → Prop
  | v, .non => v = .non
  | v, .bl b => v = .bl b
  | v, .int i => v = .int i
  | v, .str l => v = .str (S l) ∧ chars l
  | v, .tup ds => ∃ a vs, v = .ref a ∧ SqTF K F H a vs ∧ RVs vs ds
  | v, .lst ds => ∃ a vs, v = .ref a ∧ SqLF K F H a vs ∧ RVs vs ds
  | v, .ins c ns ds => ∃ a dx fs, v = .ref a ∧ F a ∧ H a = some (.ins (He.ga K (Str.ofString c)) dx fs) ∧ fs.map (·.1) = ns.map Str.ofString ∧ RVs (fs.map (·.2)) ds
  | _, .own _ _ => False
  | _, .exn _ _ _ => False
  | v, .dic ks => ∃ a, v = .ref a ∧ F a ∧ H a = some (.dK (ks.map fun k => (.inl k, V.bl true)))
  | v, .exv c ns ds => ∃ a dd fs, v = .ref a ∧ F a ∧ H a = some (ExV (He.ga K (Str.ofString c)) dd a) ∧ fs.map (·.1) = ns.map Str.ofString ∧ ((dd = none ∧ fs = []) ∨ ∃ d, dd = some d ∧ F d ∧ H d = some (.xd fs)) ∧ RVs (fs.map (·.2)) ds
  | v, .scr ns => ∃ a, v = .ref a ∧ ((F a ∧ Rd H a (.lst (ns.map V.int))) ∨ SqL K (fun _ => none) a (ns.map V.int))
def RVs : List V → List D → Prop
  | [], [] => True
  | v :: vs, d :: ds => RV v d ∧ RVs vs ds
  | _, _ => False
end
mutual
def OV : V → D → List Addr → Prop
  | v, .own 0 (.lst ds), A => ∃ a vs A', v = .ref a ∧ H a = some (.lst vs) ∧ A = a :: A' ∧ OVs vs ds A'
  | v, .own 0 (.ins c ns ds), A => ∃ a dx fs A', v = .ref a ∧ H a = some (.ins (He.ga K (Str.ofString c)) dx fs) ∧ fs.map (·.1) = ns.map Str.ofString ∧ A = a :: A' ∧ OVs (fs.map (·.2)) ds A'
  | _, .own _ _, _ => False
  | v, d, A => A = [] ∧ RV K F H v d
def OVs : List V → List D → List Addr → Prop
  | [], [], A => A = []
  | v :: vs, d :: ds, A => ∃ A1 A2, OV v d A1 ∧ OVs vs ds A2 ∧ A = A1 ++ A2
  | _, _, _ => False
end
end
def XV (K : PySem.W.Frag) (F : Fz) (H : Hp) (x : Ex) (cls : Value) (dd : Option Addr) : Prop :=
  cls = .ref (He.ga K (Str.ofString x.cls)) ∧ ((x.ns = [] ∧ x.ds = [] ∧ dd = none) ∨ ∃ d fs, dd = some d ∧ F d ∧ H d = some (.xd fs) ∧ fs.map (·.1) = x.ns.map Str.ofString ∧ RVs K F H (fs.map (·.2)) x.ds)
abbrev Bx := List Addr × Option (Addr × Value × Option Addr)
section
variable (K : PySem.W.Frag) (F : Fz) (H : Hp) (B : Bx)
def OVp : V → D → List Addr → Prop
  | v, .own (j + 1) d, A => OV K F H v (.own 0 d) A ∧ ∃ a, v = .ref a ∧ B.1[j]? = some a
  | v, .exn c ns ds, A => A = [] ∧ ∃ a cls dd, v = .ref a ∧ B.2 = some (a, cls, dd) ∧ XV K F H ⟨c, ns, ds⟩ cls dd
  | v, d, A => OV K F H v d A
def OVps : List V → List D → List Addr → Prop
  | [], [], A => A = []
  | v :: vs, d :: ds, A => ∃ A1 A2, OVp K F H B v d A1 ∧ OVps vs ds A2 ∧ A = A1 ++ A2
  | _, _, _ => False
def OVo : Option V → Option D → List Addr → Prop
  | _, none, A => A = []
  | some v, some d, A => OVp K F H B v d A
  | none, some _, _ => False
def OVS : List (Option V) → List (Option D) → List Addr → Prop
  | [], [], A => A = []
  | v :: vs, d :: ds, A => ∃ A1 A2, OVo K F H B v d A1 ∧ OVS vs ds A2 ∧ A = A1 ++ A2
  | _, _, _ => False
structure Rep (σ : L2.St) (ρ : Env) (A : List Addr) : Prop where
  sl : OVS K F H B σ ρ A
  nd : A.Nodup
  nf : ∀ a ∈ A, ¬ F a
  dm : ∀ a, F a → ∃ o, H a = some o
end
structure Step (A : List Addr) (F : Fz) (H : Hp) (A' : List Addr) (F' : Fz) (H' : Hp) : Prop where
  mono : ∀ a, F a → F' a
  keep : ∀ a o, H a = some o → a ∉ A → H' a = some o
  froz : ∀ a, F' a → F a ∨ H a = none ∨ a ∈ A
  own : ∀ a ∈ A', a ∈ A ∨ H a = none
theorem Step.refl {A : List Addr} {F : Fz} {H : Hp} : Step A F H A F H := ⟨fun _ h => h, fun _ _ h _ => h, fun _ h => .inl h, fun _ h => .inl h⟩
theorem Step.trans {A A1 A2 : List Addr} {F F1 F2 : Fz} {H H1 H2 : Hp} (s : Step A F H A1 F1 H1) (t : Step A1 F1 H1 A2 F2 H2) : Step A F H A2 F2 H2 := by
  have no : ∀ a, H1 a = none → H a = none ∨ a ∈ A := fun a h => by
    by_cases ha : a ∈ A
    · exact .inr ha
    · cases e : H a with
      | none => exact .inl rfl
      | some o => rw [s.keep a o e ha] at h; cases h
  refine ⟨fun a h => t.mono a (s.mono a h), fun a o h n => t.keep a o (s.keep a o h n) fun m => ?_, fun a h => ?_, fun a h => ?_⟩
  · rcases s.own a m with q | q
    · exact n q
    · rw [h] at q; cases q
  · rcases t.froz a h with q | q | q
    · exact s.froz a q
    · rcases no a q with z | z
      · exact .inr (.inl z)
      · exact .inr (.inr z)
    · rcases s.own a q with z | z
      · exact .inr (.inr z)
      · exact .inr (.inl z)
  · rcases t.own a h with q | q
    · exact s.own a q
    · exact (no a q).symm
structure Grow (F : Fz) (H : Hp) (F' : Fz) (H' : Hp) : Prop where
  mono : ∀ a, F a → F' a
  keep : ∀ a o, H a = some o → H' a = some o
  froz : ∀ a, F' a → F a ∨ H a = none
  dm : (∀ a, F a → ∃ o, H a = some o) → ∀ a, F' a → ∃ o, H' a = some o
theorem Grow.refl {F : Fz} {H : Hp} : Grow F H F H := ⟨fun _ h => h, fun _ _ h => h, fun _ h => .inl h, fun h => h⟩
theorem Grow.trans {F F1 F2 : Fz} {H H1 H2 : Hp} (s : Grow F H F1 H1) (t : Grow F1 H1 F2 H2) : Grow F H F2 H2 := by
  refine ⟨fun a h => t.mono a (s.mono a h), fun a o h => t.keep a o (s.keep a o h), fun a h => ?_, fun h => t.dm (s.dm h)⟩
  rcases t.froz a h with q | q
  · exact s.froz a q
  · refine .inr ?_
    cases e : H a with
    | none => rfl
    | some o => rw [s.keep a o e] at q; cases q
theorem Grow.new {F : Fz} {H : Hp} {p : Addr} {o : HO} (h : H p = none) : Grow F H (fun a => F a ∨ a = p) (upd H p o) :=
  ⟨fun _ h => .inl h, fun a u e => by rw [upd_ne (ne_of_none e h)]; exact e, fun a q => q.imp id fun e => by rw [e]; exact h, fun dm a q => by
    by_cases c : a = p
    · exact ⟨o, by rw [c, upd_same]⟩
    · rcases q with q | q
      · rw [upd_ne c]; exact dm a q
      · exact absurd q c⟩
theorem Grow.raw {F : Fz} {H : Hp} {p : Addr} {o : HO} (h : H p = none) : Grow F H F (upd H p o) :=
  ⟨fun _ h => h, fun a u e => by rw [upd_ne (ne_of_none e h)]; exact e, fun a q => .inl q, fun dm a q => by
    obtain ⟨u, e⟩ := dm a q
    exact ⟨u, by rw [upd_ne (ne_of_none e h)]; exact e⟩⟩
theorem Grow.step {A : List Addr} {F F' : Fz} {H H' : Hp} (g : Grow F H F' H') : Step A F H A F' H' :=
  ⟨g.mono, fun a o h _ => g.keep a o h, fun a h => (g.froz a h).imp id .inl, fun _ h => .inl h⟩
section
variable {K : PySem.W.Frag} {B : Bx} {F F' : Fz} {H H' : Hp}
theorem SqLF.step {a : Addr} {xs : List V} (m : ∀ a, F a → F' a) (k : ∀ a o, F a → H a = some o → H' a = some o) (h : SqLF K F H a xs) : SqLF K F' H' a xs := ⟨m a h.1, k a _ h.1 h.2⟩
theorem SqTF.step {a : Addr} {xs : List V} (m : ∀ a, F a → F' a) (k : ∀ a o, F a → H a = some o → H' a = some o) (h : SqTF K F H a xs) : SqTF K F' H' a xs := by
  rcases h with ⟨f, h | ⟨o, h⟩⟩ | h
  · exact .inl ⟨m a f, .inl (k a _ f h)⟩
  · exact .inl ⟨m a f, .inr ⟨o, k a _ f h⟩⟩
  · exact .inr h
mutual
theorem RV.stay (m : ∀ a, F a → F' a) (k : ∀ a o, F a → H a = some o → H' a = some o) : ∀ {v : V} {d : D}, RV K F H v d → RV K F' H' v d
  | _, .non, h => by simp only [RV] at h ⊢; exact h
  | _, .bl _, h => by simp only [RV] at h ⊢; exact h
  | _, .int _, h => by simp only [RV] at h ⊢; exact h
  | _, .str _, h => by simp only [RV] at h ⊢; exact h
  | _, .tup _, h => by
    simp only [RV] at h ⊢
    obtain ⟨a, vs, e, s, r⟩ := h
    exact ⟨a, vs, e, s.step m k, RVs.stay m k r⟩
  | _, .lst _, h => by
    simp only [RV] at h ⊢
    obtain ⟨a, vs, e, s, r⟩ := h
    exact ⟨a, vs, e, s.step m k, RVs.stay m k r⟩
  | _, .ins _ _ _, h => by
    simp only [RV] at h ⊢
    obtain ⟨a, dx, fs, e, f, s, n, r⟩ := h
    exact ⟨a, dx, fs, e, m a f, k a _ f s, n, RVs.stay m k r⟩
  | _, .own _ _, h => by simp only [RV] at h
  | _, .exn _ _ _, h => by simp only [RV] at h
  | _, .dic _, h => by
    simp only [RV] at h ⊢
    obtain ⟨a, e, f, s⟩ := h
    exact ⟨a, e, m a f, k a _ f s⟩
  | _, .exv _ _ _, h => by
    simp only [RV] at h ⊢
    obtain ⟨a, dd, fs, e, f, s, n, z, r⟩ := h
    refine ⟨a, dd, fs, e, m a f, k a _ f s, n, ?_, RVs.stay m k r⟩
    rcases z with z | ⟨d, e1, f1, s1⟩
    · exact .inl z
    · exact .inr ⟨d, e1, m d f1, k d _ f1 s1⟩
  | _, .scr _, h => by
    simp only [RV] at h ⊢
    obtain ⟨a, e, h⟩ := h
    refine ⟨a, e, ?_⟩
    rcases h with ⟨f, s | ⟨o, s⟩⟩ | h
    · exact .inl ⟨m a f, .inl (k a _ f s)⟩
    · exact .inl ⟨m a f, .inr ⟨o, k a _ f s⟩⟩
    · exact .inr h
theorem RVs.stay (m : ∀ a, F a → F' a) (k : ∀ a o, F a → H a = some o → H' a = some o) : ∀ {vs : List V} {ds : List D}, RVs K F H vs ds → RVs K F' H' vs ds
  | [], [], _ => by simp only [RVs]
  | _ :: _, _ :: _, h => by
    simp only [RVs] at h ⊢
    exact ⟨RV.stay m k h.1, RVs.stay m k h.2⟩
  | [], _ :: _, h => by simp only [RVs] at h
  | _ :: _, [], h => by simp only [RVs] at h
end
theorem XV.stay (m : ∀ a, F a → F' a) (k : ∀ a o, F a → H a = some o → H' a = some o) {x : Ex} {cls : Value} {dd : Option Addr} (h : XV K F H x cls dd) : XV K F' H' x cls dd := by
  obtain ⟨e, h⟩ := h
  refine ⟨e, ?_⟩
  rcases h with h | ⟨d, fs, e1, f, e2, e3, r⟩
  · exact .inl h
  · exact .inr ⟨d, fs, e1, m d f, k d _ f e2, e3, r.stay m k⟩
end
end U
namespace U
open PySem PySem.Spec PyProof.Rows L2
section
variable {K : PySem.W.Frag} {B : Bx} {F F' : Fz} {H H' : Hp}
mutual
theorem OV.stay (m : ∀ a, F a → F' a) : ∀ {v : V} {d : D} {A : List Addr}, (∀ a o, (F a ∨ a ∈ A) → H a = some o → H' a = some o) → OV K F H v d A → OV K F' H' v d A
  | _, .own 0 (.lst ds), A, k, h => by
    simp only [OV] at h ⊢
    obtain ⟨a, vs, A', e, s, q, r⟩ := h
    subst q
    exact ⟨a, vs, A', e, k a _ (.inr List.mem_cons_self) s, rfl, OVs.stay m (fun b o hb => k b o (hb.imp id (List.mem_cons_of_mem _))) r⟩
  | _, .own 0 (.ins c ns ds), A, k, h => by
    simp only [OV] at h ⊢
    obtain ⟨a, dx, fs, A', e, s, n, q, r⟩ := h
    subst q
    exact ⟨a, dx, fs, A', e, k a _ (.inr List.mem_cons_self) s, n, rfl, OVs.stay m (fun b o hb => k b o (hb.imp id (List.mem_cons_of_mem _))) r⟩
  | _, .own (_ + 1) _, _, _, h => by simp only [OV] at h
  | _, .own 0 .non, _, _, h => by simp only [OV] at h
  | _, .own 0 (.bl _), _, _, h => by simp only [OV] at h
  | _, .own 0 (.int _), _, _, h => by simp only [OV] at h
  | _, .own 0 (.str _), _, _, h => by simp only [OV] at h
  | _, .own 0 (.tup _), _, _, h => by simp only [OV] at h
  | _, .own 0 (.own _ _), _, _, h => by simp only [OV] at h
  | _, .own 0 (.exn _ _ _), _, _, h => by simp only [OV] at h
  | _, .own 0 (.dic _), _, _, h => by simp only [OV] at h
  | _, .own 0 (.exv _ _ _), _, _, h => by simp only [OV] at h
  | _, .own 0 (.scr _), _, _, h => by simp only [OV] at h
  | _, .non, _, k, h => by simp only [OV] at h ⊢; exact ⟨h.1, h.2.stay m fun a o f => k a o (.inl f)⟩
  | _, .bl _, _, k, h => by simp only [OV] at h ⊢; exact ⟨h.1, h.2.stay m fun a o f => k a o (.inl f)⟩
  | _, .int _, _, k, h => by simp only [OV] at h ⊢; exact ⟨h.1, h.2.stay m fun a o f => k a o (.inl f)⟩
  | _, .str _, _, k, h => by simp only [OV] at h ⊢; exact ⟨h.1, h.2.stay m fun a o f => k a o (.inl f)⟩
  | _, .tup _, _, k, h => by simp only [OV] at h ⊢; exact ⟨h.1, h.2.stay m fun a o f => k a o (.inl f)⟩
  | _, .lst _, _, k, h => by simp only [OV] at h ⊢; exact ⟨h.1, h.2.stay m fun a o f => k a o (.inl f)⟩
  | _, .ins _ _ _, _, k, h => by simp only [OV] at h ⊢; exact ⟨h.1, h.2.stay m fun a o f => k a o (.inl f)⟩
  | _, .exn _ _ _, _, k, h => by simp only [OV, RV] at h; exact h.2.elim
  | _, .dic _, _, k, h => by simp only [OV] at h ⊢; exact ⟨h.1, h.2.stay m fun a o f => k a o (.inl f)⟩
  | _, .exv _ _ _, _, k, h => by simp only [OV] at h ⊢; exact ⟨h.1, h.2.stay m fun a o f => k a o (.inl f)⟩
  | _, .scr _, _, k, h => by simp only [OV] at h ⊢; exact ⟨h.1, h.2.stay m fun a o f => k a o (.inl f)⟩
theorem OVs.stay (m : ∀ a, F a → F' a) : ∀ {vs : List V} {ds : List D} {A : List Addr}, (∀ a o, (F a ∨ a ∈ A) → H a = some o → H' a = some o) → OVs K F H vs ds A → OVs K F' H' vs ds A
  | [], [], _, _, h => by simp only [OVs] at h ⊢; exact h
  | _ :: _, _ :: _, _, k, h => by
    simp only [OVs] at h ⊢
    obtain ⟨A1, A2, h1, h2, e⟩ := h
    subst e
    exact ⟨A1, A2, OV.stay m (fun b o hb => k b o (hb.imp id (List.mem_append_left _))) h1, OVs.stay m (fun b o hb => k b o (hb.imp id (List.mem_append_right _))) h2, rfl⟩
  | [], _ :: _, _, _, h => by simp only [OVs] at h
  | _ :: _, [], _, _, h => by simp only [OVs] at h
end
theorem OVp.stay (m : ∀ a, F a → F' a) {v : V} {d : D} {A : List Addr} (k : ∀ a o, (F a ∨ a ∈ A) → H a = some o → H' a = some o) (h : OVp K F H B v d A) : OVp K F' H' B v d A := by
  unfold OVp at h ⊢
  split at h
  · exact ⟨h.1.stay m k, h.2⟩
  · obtain ⟨e, a, cls, dd, h1, h2, h3⟩ := h
    exact ⟨e, a, cls, dd, h1, h2, h3.stay m fun a o f => k a o (.inl f)⟩
  · exact h.stay m k
theorem OV.op {v : V} {d : D} {A : List Addr} (h : OV K F H v d A) : OVp K F H B v d A := by
  unfold OVp
  split
  · simp only [OV] at h
  · simp only [OV, RV] at h; exact h.2.elim
  · exact h
theorem OVo.stay (m : ∀ a, F a → F' a) : ∀ {v : Option V} {d : Option D} {A : List Addr}, (∀ a o, (F a ∨ a ∈ A) → H a = some o → H' a = some o) → OVo K F H B v d A → OVo K F' H' B v d A
  | some _, some _, _, k, h => by simp only [OVo] at h ⊢; exact h.stay m k
  | some _, none, _, _, h => by simp only [OVo] at h ⊢; exact h
  | none, none, _, _, h => by simp only [OVo] at h ⊢; exact h
  | none, some _, _, _, h => by simp only [OVo] at h
theorem OVS.stay (m : ∀ a, F a → F' a) : ∀ {vs : List (Option V)} {ds : List (Option D)} {A : List Addr}, (∀ a o, (F a ∨ a ∈ A) → H a = some o → H' a = some o) → OVS K F H B vs ds A → OVS K F' H' B vs ds A
  | [], [], _, _, h => by simp only [OVS] at h ⊢; exact h
  | _ :: _, _ :: _, _, k, h => by
    simp only [OVS] at h ⊢
    obtain ⟨A1, A2, h1, h2, e⟩ := h
    subst e
    exact ⟨A1, A2, OVo.stay m (fun b o hb => k b o (hb.imp id (List.mem_append_left _))) h1, OVS.stay m (fun b o hb => k b o (hb.imp id (List.mem_append_right _))) h2, rfl⟩
  | [], _ :: _, _, _, h => by simp only [OVS] at h
  | _ :: _, [], _, _, h => by simp only [OVS] at h
theorem OV.plain {v : V} {d : D} {A : List Addr} (hm : d.isMut = false) (h : OV K F H v d A) : A = [] ∧ RV K F H v d := by
  cases d with
  | own t d => cases hm
  | exn c ns ds => cases hm
  | _ => simp only [OV] at h; exact h
theorem RV.own {v : V} {d : D} (h : RV K F H v d) : OV K F H v d [] := by
  cases d with
  | own t d => simp only [RV] at h
  | exn c ns ds => simp only [RV] at h
  | _ => simp only [OV]; exact ⟨trivial, h⟩
mutual
theorem OV.there : ∀ {v : V} {d : D} {A : List Addr}, OV K F H v d A → ∀ a ∈ A, ∃ o, H a = some o
  | _, .own 0 (.lst ds), A, h, a, ha => by
    simp only [OV] at h
    obtain ⟨b, vs, A', e, s, q, r⟩ := h
    subst q
    rcases List.mem_cons.mp ha with z | z
    · rw [z]; exact ⟨_, s⟩
    · exact OVs.there r a z
  | _, .own 0 (.ins c ns ds), A, h, a, ha => by
    simp only [OV] at h
    obtain ⟨b, dx, fs, A', e, s, n, q, r⟩ := h
    subst q
    rcases List.mem_cons.mp ha with z | z
    · rw [z]; exact ⟨_, s⟩
    · exact OVs.there r a z
  | _, .own (_ + 1) _, _, h, _, _ => by simp only [OV] at h
  | _, .own 0 .non, _, h, _, _ => by simp only [OV] at h
  | _, .own 0 (.bl _), _, h, _, _ => by simp only [OV] at h
  | _, .own 0 (.int _), _, h, _, _ => by simp only [OV] at h
  | _, .own 0 (.str _), _, h, _, _ => by simp only [OV] at h
  | _, .own 0 (.tup _), _, h, _, _ => by simp only [OV] at h
  | _, .own 0 (.own _ _), _, h, _, _ => by simp only [OV] at h
  | _, .own 0 (.exn _ _ _), _, h, _, _ => by simp only [OV] at h
  | _, .own 0 (.dic _), _, h, _, _ => by simp only [OV] at h
  | _, .own 0 (.exv _ _ _), _, h, _, _ => by simp only [OV] at h
  | _, .own 0 (.scr _), _, h, _, _ => by simp only [OV] at h
  | _, .non, _, h, _, ha => by simp only [OV] at h; rw [h.1] at ha; cases ha
  | _, .bl _, _, h, _, ha => by simp only [OV] at h; rw [h.1] at ha; cases ha
  | _, .int _, _, h, _, ha => by simp only [OV] at h; rw [h.1] at ha; cases ha
  | _, .str _, _, h, _, ha => by simp only [OV] at h; rw [h.1] at ha; cases ha
  | _, .tup _, _, h, _, ha => by simp only [OV] at h; rw [h.1] at ha; cases ha
  | _, .lst _, _, h, _, ha => by simp only [OV] at h; rw [h.1] at ha; cases ha
  | _, .ins _ _ _, _, h, _, ha => by simp only [OV] at h; rw [h.1] at ha; cases ha
  | _, .exn _ _ _, _, h, _, ha => by simp only [OV] at h; rw [h.1] at ha; cases ha
  | _, .dic _, _, h, _, ha => by simp only [OV] at h; rw [h.1] at ha; cases ha
  | _, .exv _ _ _, _, h, _, ha => by simp only [OV] at h; rw [h.1] at ha; cases ha
  | _, .scr _, _, h, _, ha => by simp only [OV] at h; rw [h.1] at ha; cases ha
theorem OVs.there : ∀ {vs : List V} {ds : List D} {A : List Addr}, OVs K F H vs ds A → ∀ a ∈ A, ∃ o, H a = some o
  | [], [], _, h, _, ha => by simp only [OVs] at h; rw [h] at ha; cases ha
  | _ :: _, _ :: _, _, h, a, ha => by
    simp only [OVs] at h
    obtain ⟨A1, A2, h1, h2, e⟩ := h
    subst e
    rcases List.mem_append.mp ha with z | z
    · exact OV.there h1 a z
    · exact OVs.there h2 a z
  | [], _ :: _, _, h, _, _ => by simp only [OVs] at h
  | _ :: _, [], _, h, _, _ => by simp only [OVs] at h
end
theorem OVp.there {v : V} {d : D} {A : List Addr} (h : OVp K F H B v d A) : ∀ a ∈ A, ∃ o, H a = some o := by
  unfold OVp at h
  split at h
  · exact h.1.there
  · intro a ha; rw [h.1] at ha; cases ha
  · exact h.there
theorem OVp.plain {v : V} {d : D} {A : List Addr} (hm : d.isMut = false) (h : OVp K F H B v d A) : A = [] ∧ RV K F H v d := by
  unfold OVp at h
  split at h
  · cases hm
  · cases hm
  · exact h.plain hm
theorem OVS.there : ∀ {vs : List (Option V)} {ds : List (Option D)} {A : List Addr}, OVS K F H B vs ds A → ∀ a ∈ A, ∃ o, H a = some o
  | [], [], _, h, _, ha => by simp only [OVS] at h; rw [h] at ha; cases ha
  | v :: _, d :: _, _, h, a, ha => by
    simp only [OVS] at h
    obtain ⟨A1, A2, h1, h2, e⟩ := h
    subst e
    rcases List.mem_append.mp ha with z | z
    · cases d with
      | none => simp only [OVo] at h1; rw [h1] at z; cases z
      | some d =>
        cases v with
        | none => simp only [OVo] at h1
        | some v => simp only [OVo] at h1; exact h1.there a z
    · exact OVS.there h2 a z
  | [], _ :: _, _, h, _, _ => by simp only [OVS] at h
  | _ :: _, [], _, h, _, _ => by simp only [OVS] at h
theorem OVS.get : ∀ {vs : List (Option V)} {ds : List (Option D)} {A : List Addr} {i : Nat} {d : D}, OVS K F H B vs ds A → ds[i]? = some (some d) → ∃ v A1, vs[i]? = some (some v) ∧ OVp K F H B v d A1 ∧ ∀ a ∈ A1, a ∈ A
  | v :: vs, d :: ds, _, 0, d', h, e => by
    simp only [OVS] at h
    obtain ⟨A1, A2, h1, h2, q⟩ := h
    simp only [List.getElem?_cons_zero, Option.some.injEq] at e
    subst e q
    cases v with
    | none => simp only [OVo] at h1
    | some v => simp only [OVo] at h1; exact ⟨v, A1, rfl, h1, fun a ha => List.mem_append_left _ ha⟩
  | v :: vs, d :: ds, _, i + 1, d', h, e => by
    simp only [OVS] at h
    obtain ⟨A1, A2, h1, h2, q⟩ := h
    simp only [List.getElem?_cons_succ] at e
    subst q
    obtain ⟨w, A3, h3, h4, h5⟩ := OVS.get h2 e
    exact ⟨w, A3, by simpa using h3, h4, fun a ha => List.mem_append_right _ (h5 a ha)⟩
  | [], [], _, _, _, _, e => by simp at e
  | [], _ :: _, _, _, _, h, _ => by simp only [OVS] at h
  | _ :: _, [], _, _, _, h, _ => by simp only [OVS] at h
theorem OVS.len : ∀ {vs : List (Option V)} {ds : List (Option D)} {A : List Addr}, OVS K F H B vs ds A → vs.length = ds.length
  | [], [], _, _ => rfl
  | _ :: _, _ :: _, _, h => by
    simp only [OVS] at h
    obtain ⟨A1, A2, h1, h2, e⟩ := h
    simp [h2.len]
  | [], _ :: _, _, h => by simp only [OVS] at h
  | _ :: _, [], _, h => by simp only [OVS] at h
theorem OVS.split : ∀ {vs : List (Option V)} {ds : List (Option D)} {A : List Addr} {i : Nat} {d : Option D}, OVS K F H B vs ds A → ds[i]? = some d → ∃ v A1 L R, vs[i]? = some v ∧ OVo K F H B v d A1 ∧ A = L ++ A1 ++ R ∧
    ∀ {F' : Fz} {H' : Hp} {v' : Option V} {d' : Option D} {A' : List Addr}, (∀ a, F a → F' a) → (∀ a o, (F a ∨ a ∈ L ∨ a ∈ R) → H a = some o → H' a = some o) → OVo K F' H' B v' d' A' → OVS K F' H' B (vs.set i v') (ds.set i d') (L ++ A' ++ R)
  | v :: vs, d :: ds, _, 0, d', h, e => by
    simp only [OVS] at h
    obtain ⟨A1, A2, h1, h2, q⟩ := h
    simp only [List.getElem?_cons_zero, Option.some.injEq] at e
    subst e q
    refine ⟨v, A1, [], A2, rfl, h1, rfl, fun {F' H' v' d' A'} m k h' => ?_⟩
    simp only [List.set_cons_zero, OVS]
    exact ⟨A', A2, h', h2.stay m fun a o ha => k a o (ha.imp id .inr), rfl⟩
  | v :: vs, d :: ds, _, i + 1, d', h, e => by
    simp only [OVS] at h
    obtain ⟨A1, A2, h1, h2, q⟩ := h
    simp only [List.getElem?_cons_succ] at e
    subst q
    obtain ⟨w, A3, L, R, h3, h4, h5, h6⟩ := OVS.split h2 e
    subst h5
    refine ⟨w, A3, A1 ++ L, R, by simpa using h3, h4, by simp, fun {F' H' v' d' A'} m k h' => ?_⟩
    simp only [List.set_cons_succ, OVS]
    refine ⟨A1, L ++ A' ++ R, h1.stay m fun a o ha => k a o (ha.imp id fun z => .inl (List.mem_append_left _ z)), h6 m (fun a o ha => k a o (ha.imp id fun z => z.imp (List.mem_append_right _) id)) h', by simp⟩
  | [], [], _, _, _, _, e => by simp at e
  | [], _ :: _, _, _, _, h, _ => by simp only [OVS] at h
  | _ :: _, [], _, _, _, h, _ => by simp only [OVS] at h
theorem Rep.grow {σ : L2.St} {ρ : Env} {A : List Addr} (r : Rep K F H B σ ρ A) (g : Grow F H F' H') : Rep K F' H' B σ ρ A :=
  ⟨r.sl.stay g.mono fun a o _ h => g.keep a o h, r.nd, fun a ha f => by
    rcases g.froz a f with z | z
    · exact r.nf a ha z
    · obtain ⟨o, e⟩ := r.sl.there a ha
      exact absurd (z.symm.trans e) (by simp), g.dm r.dm⟩
theorem RV.grow {v : V} {d : D} (h : RV K F H v d) (g : Grow F H F' H') : RV K F' H' v d := h.stay g.mono fun a o _ e => g.keep a o e
theorem RVs.grow {v : List V} {d : List D} (h : RVs K F H v d) (g : Grow F H F' H') : RVs K F' H' v d := h.stay g.mono fun a o _ e => g.keep a o e
theorem RV.step {v : V} {d : D} {σ : L2.St} {ρ : Env} {A A' : List Addr} (h : RV K F H v d) (r : Rep K F H B σ ρ A) (s : Step A F H A' F' H') : RV K F' H' v d := h.stay s.mono fun a o f e => s.keep a o e fun ha => r.nf a ha f
theorem RVs.step {v : List V} {d : List D} {σ : L2.St} {ρ : Env} {A A' : List Addr} (h : RVs K F H v d) (r : Rep K F H B σ ρ A) (s : Step A F H A' F' H') : RVs K F' H' v d := h.stay s.mono fun a o f e => s.keep a o e fun ha => r.nf a ha f
end
end U
namespace U
open PySem PySem.Spec PyProof.Rows L2
section
variable (K : PySem.W.Frag) (B : Bx) (W : WX)
def xend (σ : L2.St) (A : List Addr) (F : Fz) (H : Hp) (x : Ex) (ρ' : Env) : Prop := ∀ cls dd σ' F' H' A', Rep K F' H' B σ' ρ' A' → XV K F' H' x cls dd → Step A F H A' F' H' → σ'.length = σ.length → W cls dd σ' H'
def xendE (σ : L2.St) (A : List Addr) (F : Fz) (H : Hp) (x : Ex) (ρ' : Env) : Prop := ∀ cls dd F' H' A', Rep K F' H' B σ ρ' A' → XV K F' H' x cls dd → Step A F H A' F' H' → W cls dd σ H'
def tDE (f : E) : TE := fun σ H Q => ∃ F ρ A, Rep K F H B σ ρ A ∧ match f ρ with
  | .ok d ρ' => ∀ v F' H' A', Rep K F' H' B σ ρ' A' → RV K F' H' v d → Step A F H A' F' H' → Q v H'
  | .exc x ρ' => xendE K B W σ A F H x ρ'
  | .bad => False
def tDM (f : E) : TE := fun σ H Q => ∃ F ρ A, Rep K F H B σ ρ A ∧ match f ρ with
  | .ok d ρ' => ∀ v F' H' A' Ar, Rep K F' H' B σ ρ' A' → OV K F' H' v d Ar → (A' ++ Ar).Nodup → (∀ a ∈ Ar, ¬ F' a) → Step A F H (A' ++ Ar) F' H' → Q v H'
  | .exc x ρ' => xendE K B W σ A F H x ρ'
  | .bad => False
def tDT (f : E) : TT := fun σ H Q => ∃ F ρ A, Rep K F H B σ ρ A ∧ match f ρ with
  | .ok d ρ' => ∃ b, d = .bl b ∧ ∀ F' H' A', Rep K F' H' B σ ρ' A' → Step A F H A' F' H' → Q b H'
  | .exc x ρ' => xendE K B W σ A F H x ρ'
  | .bad => False
def tDA (f : As) : TA := fun σ H Q => ∃ F ρ A, Rep K F H B σ ρ A ∧ match f ρ with
  | .ok ds ρ' => ∀ vs F' H' A', Rep K F' H' B σ ρ' A' → RVs K F' H' vs ds → Step A F H A' F' H' → Q vs H'
  | .exc x ρ' => xendE K B W σ A F H x ρ'
  | .bad => False
def AV (K : PySem.W.Frag) (F : Fz) (H : Hp) (σ : L2.St) : List V → List Arg → Prop
  | [], [] => True
  | v :: vs, .v d :: l => RV K F H v d ∧ AV K F H σ vs l
  | v :: vs, .b i :: l => σ[i]? = some (some v) ∧ AV K F H σ vs l
  | _, _ => False
def tDG (g : List Ag) : TA := fun σ H Q => ∃ F ρ A, Rep K F H B σ ρ A ∧ match evAg g ρ with
  | .ok l ρ' => ∀ vs F' H' A', Rep K F' H' B σ ρ' A' → AV K F' H' σ vs l → Step A F H A' F' H' → Q vs H'
  | .exc x ρ' => xendE K B W σ A F H x ρ'
  | .bad => False
def tDS (f : St) : TS := fun D σ H => ∃ F ρ A, Rep K F H B σ ρ A ∧ match f ρ with
  | .nx ρ' => ∀ σ' F' H' A', Rep K F' H' B σ' ρ' A' → Step A F H A' F' H' → σ'.length = σ.length → D.nx σ' H'
  | .bk ρ' => ∀ σ' F' H' A', Rep K F' H' B σ' ρ' A' → Step A F H A' F' H' → σ'.length = σ.length → D.bk σ' H'
  | .ct ρ' => ∀ σ' F' H' A', Rep K F' H' B σ' ρ' A' → Step A F H A' F' H' → σ'.length = σ.length → D.ct σ' H'
  | .rt d ρ' => ∀ v σ' F' H' A' Ar, Rep K F' H' B σ' ρ' A' → OV K F' H' v d Ar → (A' ++ Ar).Nodup → (∀ a ∈ Ar, ¬ F' a) → Step A F H (A' ++ Ar) F' H' → σ'.length = σ.length → D.rt v H'
  | .ex x ρ' => xend K B W σ A F H x ρ'
  | .bad => False
end
theorem xendE.before {K : PySem.W.Frag} {B : Bx} {W : WX} {σ : L2.St} {A A1 : List Addr} {F F1 : Fz} {H H1 : Hp} {x : Ex} {ρ' : Env} (h : xendE K B W σ A F H x ρ') (s : Step A F H A1 F1 H1) : xendE K B W σ A1 F1 H1 x ρ' :=
  fun cls dd F' H' A' r x t => h cls dd F' H' A' r x (s.trans t)
theorem xendE.xend {K : PySem.W.Frag} {B : Bx} {W : WX} {σ : L2.St} {A : List Addr} {F : Fz} {H : Hp} {x : Ex} {ρ' : Env} (h : U.xend K B W σ A F H x ρ') : xendE K B W σ A F H x ρ' :=
  fun cls dd F' H' A' r x t => h cls dd σ F' H' A' r x t rfl
section
variable {X : Cx} {e : Expr} {K : PySem.W.Frag} {B : Bx} {W : WX}
theorem _root_.L2.PE.weak {t t' : TE} (h : PE X e t) (w : ∀ σ H Q, t' σ H Q → t σ H Q) : PE X e t' := ⟨fun pins s σ H Q I q => h.run pins s σ H Q I (w σ H Q q)⟩
theorem _root_.L2.PT.weak {t t' : TT} (h : PT X e t) (w : ∀ σ H Q, t' σ H Q → t σ H Q) : PT X e t' := ⟨fun pins s σ H Q I q => h.run pins s σ H Q I (w σ H Q q)⟩
theorem _root_.L2.PW.weak {t t' : TT} (h : PW X e t) (w : ∀ σ H Q, t' σ H Q → t σ H Q) : PW X e t' := ⟨fun wh pins s σ H Q I q => h.run wh pins s σ H Q I (w σ H Q q)⟩
theorem _root_.L2.PA.weak {es : List Expr} {t t' : TA} (h : PA X es t) (w : ∀ σ H Q, t' σ H Q → t σ H Q) : PA X es t' := ⟨fun p pins s σ H Q I q => h.run p pins s σ H Q I (w σ H Q q)⟩
theorem _root_.L2.PS.weak {st : Stmt} {t t' : TS} (h : PS X st t) (w : ∀ D σ H, t' D σ H → t D σ H) : PS X st t' := ⟨fun pins s σ H D I q => h.run pins s σ H D I (w D σ H q)⟩
theorem _root_.L2.PSs.weak {st : List Stmt} {t t' : TS} (h : PSs X st t) (w : ∀ D σ H, t' D σ H → t D σ H) : PSs X st t' := ⟨fun pins s σ H D I q => h.run pins s σ H D I (w D σ H q)⟩
def P1 (K : PySem.W.Frag) (o : D → Option D) (r : V → Hp → VK → Prop) : Prop := ∀ (F : Fz) (H : Hp) (x : V) (a d : D) (Q : VK), RV K F H x a → o a = some d → (∀ v F' H', Grow F H F' H' → RV K F' H' v d → Q v H') → r x H Q
def P2 (K : PySem.W.Frag) (o : D → D → Option D) (r : R2) : Prop := ∀ (F : Fz) (H : Hp) (x y : V) (a b d : D) (Q : VK), RV K F H x a → RV K F H y b → o a b = some d → (∀ v F' H', Grow F H F' H' → RV K F' H' v d → Q v H') → r x y H Q
def PN (K : PySem.W.Frag) (o : List D → Option D) (r : List V → Hp → VK → Prop) : Prop := ∀ (F : Fz) (H : Hp) (xs : List V) (ds : List D) (d : D) (Q : VK), RVs K F H xs ds → o ds = some d → (∀ v F' H', Grow F H F' H' → RV K F' H' v d → Q v H') → r xs H Q
theorem ok_inv {o : Option D} {ρ : Env} {Φ : D → Env → Prop} {Ψ : Ex → Env → Prop} (h : match lift o ρ with | .ok d ρ' => Φ d ρ' | .exc x ρ' => Ψ x ρ' | .bad => False) : ∃ d, o = some d ∧ Φ d ρ := by
  cases o with
  | none => exact h.elim
  | some d => exact ⟨d, rfl, h⟩
theorem w_op {o : D → D → Option D} {r : R2} {f g : E} (p : P2 K o r) (σ : L2.St) (H : Hp) (Q : VK) (h : tDE K B W (eOp o f g) σ H Q) : tOp r (tDE K B W f) (tDE K B W g) σ H Q := by
  obtain ⟨F, ρ, A, rp, h⟩ := h
  refine ⟨F, ρ, A, rp, ?_⟩
  unfold eOp at h
  cases e1 : f ρ with
  | bad => rw [e1] at h; exact h
  | exc x ρ1 => rw [e1] at h; exact h
  | ok d1 ρ1 =>
    rw [e1] at h
    intro v1 F1 H1 A1 r1 v1r s1
    refine ⟨F1, ρ1, A1, r1, ?_⟩
    simp only [ER.bind] at h
    cases e2 : g ρ1 with
    | bad => rw [e2] at h; exact h
    | exc x ρ2 => rw [e2] at h; exact h.before s1
    | ok d2 ρ2 =>
      rw [e2] at h
      intro v2 F2 H2 A2 r2 v2r s2
      obtain ⟨d, ed, h⟩ := ok_inv h
      refine p F2 H2 v1 v2 d1 d2 d Q (v1r.step r1 s2) v2r ed fun v F' H' g vr => h v F' H' A2 (r2.grow g) vr ((s1.trans s2).trans g.step)
theorem w_un {o : D → Option D} {r : V → Hp → VK → Prop} {f : E} (p : P1 K o r) (σ : L2.St) (H : Hp) (Q : VK) (h : tDE K B W (eUn o f) σ H Q) : tUn r (tDE K B W f) σ H Q := by
  obtain ⟨F, ρ, A, rp, h⟩ := h
  refine ⟨F, ρ, A, rp, ?_⟩
  unfold eUn at h
  cases e1 : f ρ with
  | bad => rw [e1] at h; exact h
  | exc x ρ1 => rw [e1] at h; exact h
  | ok d1 ρ1 =>
    rw [e1] at h
    intro v1 F1 H1 A1 r1 v1r s1
    obtain ⟨d, ed, h⟩ := ok_inv h
    exact p F1 H1 v1 d1 d Q v1r ed fun v F' H' g vr => h v F' H' A1 (r1.grow g) vr (s1.trans g.step)
theorem w_n {o : List D → Option D} {r : List V → Hp → VK → Prop} {f : As} (p : PN K o r) (σ : L2.St) (H : Hp) (Q : VK) (h : tDE K B W (eN o f) σ H Q) : tCB r (tDA K B W f) σ H Q := by
  obtain ⟨F, ρ, A, rp, h⟩ := h
  refine ⟨F, ρ, A, rp, ?_⟩
  unfold eN at h
  cases e1 : f ρ with
  | bad => rw [e1] at h; exact h
  | exc x ρ1 => rw [e1] at h; exact h
  | ok d1 ρ1 =>
    rw [e1] at h
    intro v1 F1 H1 A1 r1 v1r s1
    obtain ⟨d, ed, h⟩ := ok_inv h
    exact p F1 H1 v1 d1 d Q v1r ed fun v F' H' g vr => h v F' H' A1 (r1.grow g) vr (s1.trans g.step)
theorem w_anil (σ : L2.St) (H : Hp) (Q : List V → Hp → Prop) (h : tDA K B W aNil σ H Q) : tNil σ H Q := by
  obtain ⟨F, ρ, A, rp, h⟩ := h
  exact h [] F H A rp (by simp only [RVs]) Step.refl
theorem w_acons {f : E} {r : As} (σ : L2.St) (H : Hp) (Q : List V → Hp → Prop) (h : tDA K B W (aCons f r) σ H Q) : tCons (tDE K B W f) (tDA K B W r) σ H Q := by
  obtain ⟨F, ρ, A, rp, h⟩ := h
  refine ⟨F, ρ, A, rp, ?_⟩
  unfold aCons at h
  cases e1 : f ρ with
  | bad => rw [e1] at h; exact h
  | exc x ρ1 => rw [e1] at h; exact h
  | ok d1 ρ1 =>
    rw [e1] at h
    intro v1 F1 H1 A1 r1 v1r s1
    refine ⟨F1, ρ1, A1, r1, ?_⟩
    simp only [ER.bindA] at h
    cases e2 : r ρ1 with
    | bad => rw [e2] at h; exact h
    | exc x ρ2 => rw [e2] at h; exact h.before s1
    | ok d2 ρ2 =>
      rw [e2] at h
      intro v2 F2 H2 A2 r2 v2r s2
      exact h (v1 :: v2) F2 H2 A2 r2 (by simp only [RVs]; exact ⟨v1r.step r1 s2, v2r⟩) (s1.trans s2)
theorem rd_some {o : Option (Option D)} {d : D} (h : rd o = some d) : o = some (some d) ∧ d.isMut = false := by
  unfold rd at h
  split at h
  · cases h
  · cases h
  · cases h
    rename_i d' hn hn2
    refine ⟨rfl, ?_⟩
    cases d with
    | own t d' => exact absurd rfl (hn t d')
    | exn c ns ds => exact absurd rfl (hn2 c ns ds)
    | _ => rfl
  · cases h
theorem w_var {i : Nat} (σ : L2.St) (H : Hp) (Q : VK) (h : tDE K B W (eVar i) σ H Q) : tVar i σ H Q := by
  obtain ⟨F, ρ, A, rp, h⟩ := h
  obtain ⟨d, ed, h⟩ := ok_inv h
  obtain ⟨eo, hm⟩ := rd_some ed
  obtain ⟨v, A1, hv, ov, _⟩ := rp.sl.get eo
  exact ⟨v, hv, h v F H A rp (ov.plain hm).2 Step.refl⟩
theorem w_c {v : V} {d : D} (p : ∀ F H, RV K F H v d) (σ : L2.St) (H : Hp) (Q : VK) (h : tDE K B W (eC d) σ H Q) : tC v σ H Q := by
  obtain ⟨F, ρ, A, rp, h⟩ := h
  exact h v F H A rp (p F H) Step.refl
theorem w_tv {f : E} (σ : L2.St) (H : Hp) (Q : Bool → Hp → Prop) (h : tDT K B W f σ H Q) : tTest (tDE K B W f) σ H Q := by
  obtain ⟨F, ρ, A, rp, h⟩ := h
  refine ⟨F, ρ, A, rp, ?_⟩
  cases e1 : f ρ with
  | bad => rw [e1] at h; exact h
  | exc x ρ1 => rw [e1] at h; exact h
  | ok d1 ρ1 =>
    rw [e1] at h
    obtain ⟨b, rfl, h⟩ := h
    intro v1 F1 H1 A1 r1 v1r s1
    simp only [RV] at v1r
    exact ⟨b, v1r, h F1 H1 A1 r1 s1⟩
theorem w_tor {f g : E} (σ : L2.St) (H : Hp) (Q : Bool → Hp → Prop) (h : tDT K B W (eOr f g) σ H Q) : tOr (tDT K B W f) (tDT K B W g) σ H Q := by
  obtain ⟨F, ρ, A, rp, h⟩ := h
  refine ⟨F, ρ, A, rp, ?_⟩
  unfold eOr at h
  cases e1 : f ρ with
  | bad => rw [e1] at h; exact h
  | exc x ρ1 => rw [e1] at h; exact h
  | ok d1 ρ1 =>
    rw [e1] at h
    cases d1 with
    | bl b =>
      refine ⟨b, rfl, fun F1 H1 A1 r1 s1 => ?_⟩
      cases b with
      | false =>
        rw [if_neg (by decide)]
        refine ⟨F1, ρ1, A1, r1, ?_⟩
        simp only [ER.bind] at h
        cases e2 : g ρ1 with
        | bad => rw [e2] at h; exact h
        | exc x ρ2 => rw [e2] at h; exact h.before s1
        | ok d2 ρ2 =>
          rw [e2] at h
          obtain ⟨b2, rfl, h⟩ := h
          exact ⟨b2, rfl, fun F2 H2 A2 r2 s2 => h F2 H2 A2 r2 (s1.trans s2)⟩
      | true =>
        rw [if_pos rfl]
        obtain ⟨b2, eb, h⟩ := h
        cases eb
        exact h F1 H1 A1 r1 s1
    | _ => exact h.elim
end
end U
namespace U
open PySem PySem.Spec PyProof.Rows L2
section
variable {K : PySem.W.Frag} {B B' : Bx} {F F' : Fz} {H H' : Hp} {W : WX}
theorem Step.sub {A A' A'' : List Addr} (s : Step A F H A' F' H') (h : ∀ a ∈ A'', a ∈ A') : Step A F H A'' F' H' := ⟨s.mono, s.keep, s.froz, fun a ha => s.own a (h a ha)⟩
theorem Rep.put {σ : L2.St} {ρ ρ' : Env} {A Ar : List Addr} {i : Nat} {v : V} {d : D} (r : Rep K F H B σ ρ A) (o : OV K F H v d Ar) (nd : (A ++ Ar).Nodup) (nf : ∀ a ∈ Ar, ¬ F a) (e : U.put i d ρ = some ρ') :
    ∃ A', Rep K F H B (σ.set i (some v)) ρ' A' ∧ ∀ a ∈ A', a ∈ A ++ Ar := by
  have he : ∃ c, ρ[i]? = some c ∧ ρ' = ρ.set i (some d) := by
    unfold U.put at e
    split at e
    · cases e
    · rename_i x hx hn
      cases e
      exact ⟨x, by assumption, rfl⟩
    · cases e
  obtain ⟨c, hc, rfl⟩ := he
  obtain ⟨v0, A1, L, R, h1, h2, h3, h4⟩ := r.sl.split hc
  subst h3
  refine ⟨L ++ Ar ++ R, ⟨h4 (fun _ h => h) (fun _ _ _ h => h) (by simp only [OVo]; exact o.op), ?_, fun a ha => ?_, r.dm⟩, fun a ha => ?_⟩
  · simp only [List.nodup_append, List.mem_append] at nd ⊢
    obtain ⟨⟨⟨n1, n2, n3⟩, n4, n5⟩, n6, n7⟩ := nd
    refine ⟨⟨n1, n6, fun a ha b hb e => n7 a (.inl (.inl ha)) b hb e⟩, n4, fun a ha b hb e => ?_⟩
    rcases ha with ha | ha
    · exact n5 a (.inl ha) b hb e
    · exact n7 b (.inr hb) a ha e.symm
  · simp only [List.mem_append] at ha
    rcases ha with (ha | ha) | ha
    · exact r.nf a (by simp [ha])
    · exact nf a ha
    · exact r.nf a (by simp [ha])
  · simp only [List.mem_append] at ha ⊢
    rcases ha with (ha | ha) | ha
    · exact .inl (.inl (.inl ha))
    · exact .inr ha
    · exact .inl (.inr ha)
theorem Rep.putP {σ : L2.St} {ρ ρ' : Env} {A : List Addr} {i : Nat} {v : V} {d : D} (r : Rep K F H B σ ρ A) (o : RV K F H v d) (e : U.put i d ρ = some ρ') :
    ∃ A', Rep K F H B (σ.set i (some v)) ρ' A' ∧ ∀ a ∈ A', a ∈ A := by
  obtain ⟨A', h1, h2⟩ := r.put (Ar := []) o.own (by simpa using r.nd) (fun a h => by cases h) e
  exact ⟨A', h1, fun a ha => by simpa using h2 a ha⟩
def send (K : PySem.W.Frag) (B : Bx) (W : WX) (D : Ends) (σ : L2.St) (A : List Addr) (F : Fz) (H : Hp) (r : Fl) : Prop := match r with
  | .nx ρ' => ∀ σ' F' H' A', Rep K F' H' B σ' ρ' A' → Step A F H A' F' H' → σ'.length = σ.length → D.nx σ' H'
  | .bk ρ' => ∀ σ' F' H' A', Rep K F' H' B σ' ρ' A' → Step A F H A' F' H' → σ'.length = σ.length → D.bk σ' H'
  | .ct ρ' => ∀ σ' F' H' A', Rep K F' H' B σ' ρ' A' → Step A F H A' F' H' → σ'.length = σ.length → D.ct σ' H'
  | .rt d ρ' => ∀ v σ' F' H' A' Ar, Rep K F' H' B σ' ρ' A' → OV K F' H' v d Ar → (A' ++ Ar).Nodup → (∀ a ∈ Ar, ¬ F' a) → Step A F H (A' ++ Ar) F' H' → σ'.length = σ.length → D.rt v H'
  | .ex x ρ' => xend K B W σ A F H x ρ'
  | .bad => False
theorem send.before {D : Ends} {σ σ1 : L2.St} {A A1 : List Addr} {F1 : Fz} {H1 : Hp} {r : Fl} (h : send K B W D σ A F H r) (s : Step A F H A1 F1 H1) (l : σ1.length = σ.length) : send K B W D σ1 A1 F1 H1 r := by
  cases r with
  | nx ρ' => exact fun σ' F' H' A' r t e => h σ' F' H' A' r (s.trans t) (e.trans l)
  | bk ρ' => exact fun σ' F' H' A' r t e => h σ' F' H' A' r (s.trans t) (e.trans l)
  | ct ρ' => exact fun σ' F' H' A' r t e => h σ' F' H' A' r (s.trans t) (e.trans l)
  | rt d ρ' => exact fun v σ' F' H' A' Ar r o n nf t e => h v σ' F' H' A' Ar r o n nf (s.trans t) (e.trans l)
  | ex x ρ' => exact fun cls dd σ' F' H' A' r x t e => h cls dd σ' F' H' A' r x (s.trans t) (e.trans l)
  | bad => exact h
theorem xend.expr {σ : L2.St} {A : List Addr} {x : Ex} {ρ' : Env} (h : xend K B W σ A F H x ρ') : xendE K B W σ A F H x ρ' := fun cls dd F' H' A' r x t => h cls dd σ F' H' A' r x t rfl
theorem w_dm {f : E} (σ : L2.St) (H : Hp) (Q : VK) (h : tDM K B W f σ H Q) : tDE K B W f σ H Q := by
  obtain ⟨F, ρ, A, rp, h⟩ := h
  refine ⟨F, ρ, A, rp, ?_⟩
  cases e1 : f ρ with
  | bad => rw [e1] at h; exact h
  | exc x ρ1 => rw [e1] at h; exact h
  | ok d1 ρ1 =>
    rw [e1] at h
    exact fun v F' H' A' r o s => h v F' H' A' [] r o.own (by simpa using r.nd) (fun a ha => by cases ha) (by simpa using s)
theorem frz_ov {v : V} {d d' : D} {A Ar : List Addr} {σ : L2.St} {ρ : Env} (r : Rep K F H B σ ρ A) (o : OV K F H v d Ar) (nd : (A ++ Ar).Nodup) (e : frzD d = some d') :
    ∃ F', (∀ a, F a → F' a) ∧ (∀ a, F' a → F a ∨ a ∈ Ar) ∧ RV K F' H v d' ∧ (∀ a, F' a → ∃ o, H a = some o) := by
  have dm := r.dm
  have all : ∀ {vs : List V} {ds : List D} {A' : List Addr}, OVs K F H vs ds A' → allPlain ds = true → A' = [] ∧ RVs K F H vs ds := by
    intro vs
    induction vs with
    | nil =>
      intro ds A' h hp
      cases ds with
      | nil => simp only [OVs] at h; exact ⟨h, by simp only [RVs]⟩
      | cons d ds => simp only [OVs] at h
    | cons v vs ih =>
      intro ds A' h hp
      cases ds with
      | nil => simp only [OVs] at h
      | cons d ds =>
        simp only [OVs] at h
        obtain ⟨A1, A2, h1, h2, e⟩ := h
        simp only [allPlain, Bool.and_eq_true, Bool.not_eq_true'] at hp
        obtain ⟨z1, z2⟩ := h1.plain hp.1
        obtain ⟨z3, z4⟩ := ih h2 hp.2
        subst z1 z3
        exact ⟨e, by simp only [RVs]; exact ⟨z2, z4⟩⟩
  have pl : d.isMut = false → d' = d → ∃ F', (∀ a, F a → F' a) ∧ (∀ a, F' a → F a ∨ a ∈ Ar) ∧ RV K F' H v d' ∧ (∀ a, F' a → ∃ o, H a = some o) := fun hm ed => by
    subst ed
    exact ⟨F, fun _ h => h, fun _ h => .inl h, (o.plain hm).2, dm⟩
  have m1 : ∀ {a : Addr} {ob : HO}, H a = some ob → (∀ b, (fun z => F z ∨ z = a) b → ∃ o, H b = some o) := fun {a ob} h b hb => by
    rcases hb with hb | hb
    · exact dm b hb
    · rw [hb]; exact ⟨ob, h⟩
  cases d with
  | own t d =>
    cases t with
    | succ t => simp only [frzD] at e; cases e
    | zero =>
      cases d with
      | lst l =>
        simp only [frzD] at e
        by_cases hp : allPlain l = true
        · rw [if_pos hp] at e
          cases e
          simp only [OV] at o
          obtain ⟨a, vs, A', ev, hs, eA, ro⟩ := o
          obtain ⟨z1, z2⟩ := all ro hp
          subst z1 eA
          refine ⟨fun b => F b ∨ b = a, fun _ h => .inl h, fun b h => h.imp id fun z => by simp [z], ?_, m1 hs⟩
          simp only [RV]
          exact ⟨a, vs, ev, ⟨.inr rfl, hs⟩, z2.stay (fun _ h => .inl h) fun _ _ _ h => h⟩
        · rw [if_neg hp] at e; cases e
      | ins c ns l =>
        simp only [frzD] at e
        by_cases hp : allPlain l = true
        · rw [if_pos hp] at e
          cases e
          simp only [OV] at o
          obtain ⟨a, dx, fs, A', ev, hs, en, eA, ro⟩ := o
          obtain ⟨z1, z2⟩ := all ro hp
          subst z1 eA
          refine ⟨fun b => F b ∨ b = a, fun _ h => .inl h, fun b h => h.imp id fun z => by simp [z], ?_, m1 hs⟩
          simp only [RV]
          exact ⟨a, dx, fs, ev, .inr rfl, hs, en, z2.stay (fun _ h => .inl h) fun _ _ _ h => h⟩
        · rw [if_neg hp] at e; cases e
      | _ => simp only [OV] at o
  | non => exact pl rfl (by simp only [frzD] at e; exact (Option.some.inj e).symm)
  | bl b => exact pl rfl (by simp only [frzD] at e; exact (Option.some.inj e).symm)
  | int b => exact pl rfl (by simp only [frzD] at e; exact (Option.some.inj e).symm)
  | str b => exact pl rfl (by simp only [frzD] at e; exact (Option.some.inj e).symm)
  | tup b => exact pl rfl (by simp only [frzD] at e; exact (Option.some.inj e).symm)
  | lst b => exact pl rfl (by simp only [frzD] at e; exact (Option.some.inj e).symm)
  | ins c ns b => exact pl rfl (by simp only [frzD] at e; exact (Option.some.inj e).symm)
  | exn c ns b => simp only [frzD] at e; cases e
  | exv c ns b => exact pl rfl (by simp only [frzD] at e; exact (Option.some.inj e).symm)
  | dic b => exact pl rfl (by simp only [frzD] at e; exact (Option.some.inj e).symm)
  | scr b => exact pl rfl (by simp only [frzD] at e; exact (Option.some.inj e).symm)
theorem w_frz {f : E} (σ : L2.St) (H : Hp) (Q : VK) (h : tDE K B W (eFrz f) σ H Q) : tDM K B W f σ H Q := by
  obtain ⟨F, ρ, A, rp, h⟩ := h
  refine ⟨F, ρ, A, rp, ?_⟩
  unfold eFrz at h
  cases e1 : f ρ with
  | bad => rw [e1] at h; exact h
  | exc x ρ1 => rw [e1] at h; exact h
  | ok d1 ρ1 =>
    rw [e1] at h
    obtain ⟨d, ed, h⟩ := ok_inv h
    intro v F' H' A' Ar r o nd nf s
    obtain ⟨F2, m, fz, rv, dm⟩ := frz_ov r o nd ed
    rw [List.nodup_append] at nd
    refine h v F2 H' A' ⟨r.sl.stay m fun _ _ _ h => h, r.nd, fun a ha hf => ?_, dm⟩ rv ⟨fun a ha => m a (s.mono a ha), s.keep, fun a ha => ?_, fun a ha => s.own a (List.mem_append_left _ ha)⟩
    · rcases fz a hf with z | z
      · exact r.nf a ha z
      · exact nd.2.2 a ha a z rfl
    · rcases fz a ha with z | z
      · exact s.froz a z
      · rcases s.own a (List.mem_append_right _ z) with q | q
        · exact .inr (.inr q)
        · exact .inr (.inl q)
theorem w_nil (D : Ends) (σ : L2.St) (H : Hp) (h : tDS K B W sNil D σ H) : tNext D σ H := by
  obtain ⟨F, ρ, A, rp, h⟩ := h
  exact h σ F H A rp Step.refl rfl
theorem w_seq {f g : U.St} (D : Ends) (σ : L2.St) (H : Hp) (h : tDS K B W (sSeq f g) D σ H) : tSeq (tDS K B W f) (tDS K B W g) D σ H := by
  obtain ⟨F, ρ, A, rp, h⟩ := h
  refine ⟨F, ρ, A, rp, ?_⟩
  unfold sSeq at h
  cases e1 : f ρ with
  | nx ρ1 =>
    rw [e1] at h
    exact fun σ1 F1 H1 A1 r1 s1 l1 => ⟨F1, ρ1, A1, r1, send.before (r := g ρ1) h s1 l1⟩
  | bk ρ1 => rw [e1] at h; exact h
  | ct ρ1 => rw [e1] at h; exact h
  | rt d ρ1 => rw [e1] at h; exact h
  | ex x ρ1 => rw [e1] at h; exact h
  | bad => rw [e1] at h; exact h
theorem w_ret {f : E} (D : Ends) (σ : L2.St) (H : Hp) (h : tDS K B W (sRet f) D σ H) : tRet (tDM K B W f) D σ H := by
  obtain ⟨F, ρ, A, rp, h⟩ := h
  refine ⟨F, ρ, A, rp, ?_⟩
  unfold sRet at h
  cases e1 : f ρ with
  | bad => rw [e1] at h; exact h
  | exc x ρ1 => rw [e1] at h; exact xend.expr h
  | ok d1 ρ1 =>
    rw [e1] at h
    exact fun v F' H' A' Ar r o nd nf s => h v σ F' H' A' Ar r o nd nf s rfl
theorem w_ifs {c : E} {f g : U.St} (D : Ends) (σ : L2.St) (H : Hp) (h : tDS K B W (sIf c f g) D σ H) : tIfS (tDT K B W c) (tDS K B W f) (tDS K B W g) D σ H := by
  obtain ⟨F, ρ, A, rp, h⟩ := h
  refine ⟨F, ρ, A, rp, ?_⟩
  unfold sIf at h
  cases e1 : c ρ with
  | bad => rw [e1] at h; exact h
  | exc x ρ1 => rw [e1] at h; exact xend.expr h
  | ok d1 ρ1 =>
    rw [e1] at h
    cases d1 with
    | bl b =>
      refine ⟨b, rfl, fun F1 H1 A1 r1 s1 => ?_⟩
      cases b with
      | true =>
        rw [if_pos rfl]
        exact ⟨F1, ρ1, A1, r1, send.before (r := f ρ1) h s1 rfl⟩
      | false =>
        rw [if_neg (by decide)]
        exact ⟨F1, ρ1, A1, r1, send.before (r := g ρ1) h s1 rfl⟩
    | _ => exact h.elim
theorem w_set {i : Nat} {f : E} (D : Ends) (σ : L2.St) (H : Hp) (h : tDS K B W (sSet i f) D σ H) : tAsg (tDM K B W f) (gName i) D σ H := by
  obtain ⟨F, ρ, A, rp, h⟩ := h
  refine ⟨F, ρ, A, rp, ?_⟩
  unfold sSet at h
  cases e1 : f ρ with
  | bad => rw [e1] at h; exact h
  | exc x ρ1 => rw [e1] at h; exact xend.expr h
  | ok d1 ρ1 =>
    rw [e1] at h
    intro v F' H' A' Ar r o nd nf s
    simp only [ER.binds] at h
    cases e2 : U.put i d1 ρ1 with
    | none => rw [e2] at h; exact h.elim
    | some ρ2 =>
      rw [e2] at h
      obtain ⟨A2, r2, sub⟩ := r.put o nd nf e2
      exact h _ F' H' A2 r2 (s.sub sub) (by simp)
def WG (K : PySem.W.Frag) (B : Bx) (ks : List Nat) (g : Tg) (tg : TG) : Prop := ∀ (F : Fz) (H : Hp) (σ : L2.St) (ρ ρ' : Env) (A : List Addr) (v : V) (d : D) (Q : L2.St → Hp → Prop), Rep K F H B σ ρ A → RV K F H v d → g d ρ = some ρ' →
  (∀ σ' A', Rep K F H B σ' ρ' A' → (∀ a ∈ A', a ∈ A) → σ'.length = σ.length → (∀ j, j ∉ ks → σ'[j]? = σ[j]?) → Q σ' H) → tg v σ H Q
def WGs (K : PySem.W.Frag) (B : Bx) (ks : List Nat) (gs : List Tg) (tg : TGs) : Prop := ∀ (F : Fz) (H : Hp) (σ : L2.St) (ρ ρ' : Env) (A : List Addr) (v : List V) (d : List D) (Q : L2.St → Hp → Prop), Rep K F H B σ ρ A → RVs K F H v d → gAll gs d ρ = some ρ' →
  (∀ σ' A', Rep K F H B σ' ρ' A' → (∀ a ∈ A', a ∈ A) → σ'.length = σ.length → (∀ j, j ∉ ks → σ'[j]? = σ[j]?) → Q σ' H) → tg v σ H Q
theorem wg_var {i : Nat} : WG K B [i] (gVar i) (gName i) := fun F H σ ρ ρ' A v d Q r o e h => by
  obtain ⟨A', r', sub⟩ := r.putP o e
  exact h _ A' r' sub (by simp) fun j hj => by
    rw [List.getElem?_set_ne]
    intro z; exact hj (by simp [z])
theorem wg_nil : WGs K B [] [] gNil := fun F H σ ρ ρ' A v d Q r o e h => by
  cases d with
  | nil =>
    cases v with
    | nil =>
      simp only [gAll] at e
      cases e
      exact ⟨rfl, h σ A r (fun a ha => ha) rfl fun _ _ => rfl⟩
    | cons v vs => simp only [RVs] at o
  | cons d ds => simp only [gAll] at e; cases e
theorem wg_cons {g : Tg} {gs : List Tg} {t : TG} {ts : TGs} {k1 k2 : List Nat} (h1 : WG K B k1 g t) (h2 : WGs K B k2 gs ts) : WGs K B (k1 ++ k2) (g :: gs) (gCons t ts) := fun F H σ ρ ρ' A v d Q r o e h => by
  cases d with
  | nil => simp only [gAll] at e; cases e
  | cons d ds =>
    cases v with
    | nil => simp only [RVs] at o
    | cons v vs =>
      simp only [RVs] at o
      simp only [gAll] at e
      cases e1 : g d ρ with
      | none => rw [e1] at e; cases e
      | some ρ1 =>
        rw [e1] at e
        refine ⟨v, vs, rfl, h1 F H σ ρ ρ1 A v d _ r o.1 e1 fun σ1 A1 r1 s1 l1 j1 => ?_⟩
        exact h2 F H σ1 ρ1 ρ' A1 vs ds Q r1 o.2 e fun σ2 A2 r2 s2 l2 j2 => h σ2 A2 r2 (fun a ha => s1 a (s2 a ha)) (l2.trans l1) fun j hj => (j2 j fun z => hj (List.mem_append_right _ z)).trans (j1 j fun z => hj (List.mem_append_left _ z))
theorem RVs.len : ∀ {vs : List V} {ds : List D}, RVs K F H vs ds → vs.length = ds.length
  | [], [], _ => rfl
  | _ :: _, _ :: _, h => by simp only [RVs] at h; simp [RVs.len h.2]
  | [], _ :: _, h => by simp only [RVs] at h
  | _ :: _, [], h => by simp only [RVs] at h
theorem gAll_len : ∀ {gs : List Tg} {ds : List D} {ρ ρ' : Env}, gAll gs ds ρ = some ρ' → ds.length = gs.length
  | [], [], _, _, _ => rfl
  | _ :: _, _ :: _, _, _, h => by
    simp only [gAll] at h
    obtain ⟨ρ1, _, h2⟩ := Option.bind_eq_some_iff.mp h
    simp [gAll_len h2]
  | [], _ :: _, _, _, h => by simp only [gAll] at h; cases h
  | _ :: _, [], _, _, h => by simp only [gAll] at h; cases h
theorem wg_tup {gs : List Tg} {ts : TGs} {n : Nat} {ks : List Nat} (hn : gs.length = n) (h2 : WGs K B ks gs ts) : WG K B ks (U.gTup gs) (L2.gTup K n ts) := fun F H σ ρ ρ' A v d Q r o e h => by
  cases d with
  | tup ds =>
    simp only [RV] at o
    obtain ⟨a, vs, ev, sq, rs⟩ := o
    exact ⟨a, vs, ev, sq.seq, by rw [rs.len, gAll_len e, hn], h2 F H σ ρ ρ' A vs ds Q r rs e h⟩
  | _ => simp only [U.gTup] at e; cases e
theorem w_par2 {i j : Nat} {f : As} (D : Ends) (σ : L2.St) (H : Hp) (h : tDS K B W (sPar [i, j] f) D σ H) : tPar i j (tDA K B W f) D σ H := by
  obtain ⟨F, ρ, A, rp, h⟩ := h
  refine ⟨F, ρ, A, rp, ?_⟩
  unfold sPar at h
  cases e1 : f ρ with
  | bad => rw [e1] at h; exact h
  | exc x ρ1 => rw [e1] at h; exact xend.expr h
  | ok ds ρ1 =>
    rw [e1] at h
    intro vs F' H' A' r o s
    match ds, vs, o, h with
    | [d1, d2], [v1, v2], o, h =>
      simp only [RVs] at o
      simp only [putAll] at h
      cases e2 : U.put i d1 ρ1 with
      | none => rw [e2] at h; exact h.elim
      | some ρ2 =>
        rw [e2] at h
        simp only [Option.bind_some] at h
        cases e3 : U.put j d2 ρ2 with
        | none => rw [e3] at h; exact h.elim
        | some ρ3 =>
          rw [e3] at h
          obtain ⟨A2, r2, sub2⟩ := r.putP o.1 e2
          obtain ⟨A3, r3, sub3⟩ := r2.putP o.2.1 e3
          exact ⟨v1, v2, rfl, h _ F' H' A3 r3 (s.sub fun a ha => sub2 a (sub3 a ha)) (by simp)⟩
    | [], _, _, h => exact h.elim
    | [_], _, _, h => simp only [putAll, Option.bind_fun_none] at h
    | _ :: _ :: _ :: _, _, _, h =>
      simp only [putAll] at h
      cases e2 : U.put i _ ρ1 with
      | none => rw [e2] at h; exact h.elim
      | some ρ2 =>
        rw [e2] at h
        simp only [Option.bind_some] at h
        cases e3 : U.put j _ ρ2 with
        | none => rw [e3] at h; exact h.elim
        | some ρ3 => rw [e3] at h; exact h.elim
    | [_, _], [], o, _ => simp only [RVs] at o
    | [_, _], [_], o, _ => simp only [RVs] at o; exact o.2.elim
    | [_, _], _ :: _ :: _ :: _, o, _ => simp only [RVs] at o; exact o.2.2.elim
def PI2 (K : PySem.W.Frag) (o : D → D → Option D) (r : TIp) : Prop := ∀ (F : Fz) (H : Hp) (x y : V) (a b d : D) (Q : VK), RV K F H x a → RV K F H y b → o a b = some d → (∀ v F' H', Grow F H F' H' → RV K F' H' v d → Q v H') → r x y H Q
end
end U
namespace U
open PySem PySem.Spec PyProof.Rows L2
section
variable {K : PySem.W.Frag} {B : Bx} {F F' : Fz} {H H' : Hp} {W : WX}
def Yl (K : PySem.W.Frag) (J : It) (F : Fz) (H : Hp) (ds : List D) : Prop := ∀ (F' : Fz) (H' : Hp), (∀ a, F a → F' a) → (∀ a o, F a → H a = some o → H' a = some o) →
  (∀ i d, ds[i]? = some d → J.go i H' ∧ ∀ x H'', J.yld i H' x H'' → ∃ F'', Grow F' H' F'' H'' ∧ RV K F'' H'' x d) ∧ ∀ i, ds.length ≤ i → J.stop i H'
def tDI (K : PySem.W.Frag) (B : Bx) (W : WX) (f : Is) : TI := fun σ H R => ∃ F ρ A, Rep K F H B σ ρ A ∧ match f ρ with
  | .ok ds ρ' => ∀ J F' H' A', Rep K F' H' B σ ρ' A' → Yl K J F' H' ds → Step A F H A' F' H' → R J H'
  | .exc x ρ' => xendE K B W σ A F H x ρ'
  | .bad => False
theorem w_for {it : Is} {g : Tg} {tg : TG} {b : U.St} {ks : List Nat} (hg : WG K B ks g tg) (D : Ends) (σ : L2.St) (H : Hp) (h : tDS K B W (sFor it g b) D σ H) : tFor (tDI K B W it) tg (tDS K B W b) D σ H := by
  obtain ⟨F, ρ, A, rp, h⟩ := h
  refine ⟨F, ρ, A, rp, ?_⟩
  unfold sFor at h
  cases e1 : it ρ with
  | bad => rw [e1] at h; exact h
  | exc x ρ1 => rw [e1] at h; exact xend.expr h
  | ok ds ρ1 =>
    rw [e1] at h
    intro J F1 H1 A1 r1 y s1
    have h1 : send K B W D σ A1 F1 H1 (forL g b ds ρ1) := send.before h s1 rfl
    refine ⟨fun i m σ' H' => m + i = ds.length ∧ σ'.length = σ.length ∧ ∃ F' ρ' A', Rep K F' H' B σ' ρ' A' ∧ Step A1 F1 H1 A' F' H' ∧ send K B W D σ' A' F' H' (forL g b (ds.drop i) ρ'), ⟨ds.length, rfl, rfl, F1, ρ1, A1, r1, Step.refl, h1⟩, ?_⟩
    rintro i m σ2 H2 ⟨em, l2, F2, ρ2, A2, r2, s2, h2⟩
    have yy := y F2 H2 s2.mono fun a o f e => s2.keep a o e fun ha => r1.nf a ha f
    by_cases hi : i < ds.length
    · right
      have hd : ds.drop i = ds[i] :: ds.drop (i + 1) := List.drop_eq_getElem_cons hi
      obtain ⟨go, yl⟩ := yy.1 i ds[i] (List.getElem?_eq_getElem hi)
      rw [hd] at h2
      simp only [forL] at h2
      refine ⟨go, ?_⟩
      cases e2 : g ds[i] ρ2 with
      | none => rw [e2] at h2; exact h2.elim
      | some ρ3 =>
        rw [e2] at h2
        simp only at h2
        refine ⟨fun σ' H' => σ'.length = σ.length ∧ ∃ F' ρ' A', Rep K F' H' B σ' ρ' A' ∧ Step A1 F1 H1 A' F' H' ∧ send K B W D σ' A' F' H' (forL g b (ds.drop (i + 1)) ρ'), fun σ' H' ⟨l', q⟩ => ⟨m - 1, by omega, by omega, l', q⟩, fun x H3 yd => ?_⟩
        obtain ⟨F3, g3, rv⟩ := yl x H3 yd
        refine hg F3 H3 σ2 ρ2 ρ3 A2 x ds[i] _ (r2.grow g3) rv e2 fun σ3 A3 r3 sub l3 _ => ?_
        have s3 : Step A2 F2 H2 A3 F3 H3 := g3.step.sub sub
        refine ⟨F3, ρ3, A3, r3, ?_⟩
        cases e3 : b ρ3 with
        | nx ρ4 =>
          rw [e3] at h2
          exact fun σ4 F4 H4 A4 r4 s4 l4 => ⟨by omega, F4, ρ4, A4, r4, (s2.trans s3).trans s4, send.before h2 (s3.trans s4) (by omega)⟩
        | ct ρ4 =>
          rw [e3] at h2
          exact fun σ4 F4 H4 A4 r4 s4 l4 => ⟨by omega, F4, ρ4, A4, r4, (s2.trans s3).trans s4, send.before h2 (s3.trans s4) (by omega)⟩
        | bk ρ4 =>
          rw [e3] at h2
          exact fun σ4 F4 H4 A4 r4 s4 l4 => h2 σ4 F4 H4 A4 r4 (s3.trans s4) (by omega)
        | rt d ρ4 =>
          rw [e3] at h2
          exact fun v σ4 F4 H4 A4 Ar r4 o nd nf s4 l4 => h2 v σ4 F4 H4 A4 Ar r4 o nd nf (s3.trans s4) (by omega)
        | ex x ρ4 =>
          rw [e3] at h2
          exact fun cls dd σ4 F4 H4 A4 r4 x s4 l4 => h2 cls dd σ4 F4 H4 A4 r4 x (s3.trans s4) (by omega)
        | bad => rw [e3] at h2; exact h2
    · left
      rw [List.drop_of_length_le (by omega)] at h2
      exact ⟨yy.2 i (by omega), h2 σ2 F2 H2 A2 r2 Step.refl rfl⟩
theorem getElem?_RVs : ∀ {vs : List V} {ds : List D} {i : Nat} {d : D}, RVs K F H vs ds → ds[i]? = some d → ∃ v, vs[i]? = some v ∧ RV K F H v d
  | _ :: _, _ :: _, 0, _, h, e => by simp only [RVs] at h; simp at e; subst e; exact ⟨_, rfl, h.1⟩
  | _ :: _, _ :: _, i + 1, _, h, e => by
    simp only [RVs] at h
    obtain ⟨v, h1, h2⟩ := getElem?_RVs h.2 (i := i) (by simpa using e)
    exact ⟨v, by simpa using h1, h2⟩
  | [], [], _, _, _, e => by simp at e
  | [], _ :: _, _, _, h, _ => by simp only [RVs] at h
  | _ :: _, [], _, _, h, _ => by simp only [RVs] at h
end
end U
namespace U
open PySem PySem.Spec PyProof.Rows L2
section
variable {K : PySem.W.Frag} {B : Bx} {F F' : Fz} {H H' : Hp} {W : WX}
theorem S_cps (l : List Nat) : (S l).cps.toList = l := rfl
theorem S_length (l : List Nat) : (S l).length = l.length := by simp [S, Str.length]
theorem S_one (c : Nat) : (⟨#[c]⟩ : Str) = S [c] := rfl
theorem w_iofA {o : List D → Option (List D)} {f : As} {σ : L2.St} {H : Hp} {R : It → Hp → Prop} {k : List V → Hp → Prop} (h : tDI K B W (iOfA o f) σ H R)
    (hk : ∀ (F : Fz) (H : Hp) (v : List V) (d : List D) (ds : List D), RVs K F H v d → o d = some ds → (∀ J, Yl K J F H ds → R J H) → k v H) : tDA K B W f σ H k := by
  obtain ⟨F, ρ, A, rp, h⟩ := h
  refine ⟨F, ρ, A, rp, ?_⟩
  unfold iOfA at h
  cases e1 : f ρ with
  | bad => rw [e1] at h; exact h
  | exc x ρ1 => rw [e1] at h; exact h
  | ok d ρ1 =>
    rw [e1] at h
    simp only at h
    intro v F' H' A' r o' s
    cases e2 : o d with
    | none => rw [e2] at h; exact h.elim
    | some ds =>
      rw [e2] at h
      exact hk F' H' v d ds o' e2 fun J y => h J F' H' A' r y s
theorem yl_range {lo : Int} {n : Nat} : Yl K (Itr lo n) F H (rangeD lo n) := fun F' H' m k => by
  refine ⟨fun i d e => ?_, fun i hi => by show n ≤ i; simpa [rangeD] using hi⟩
  unfold rangeD at e
  rw [List.getElem?_map] at e
  obtain ⟨c, ec, rfl⟩ := Option.map_eq_some_iff.mp e
  obtain ⟨hi, hg⟩ := List.getElem?_eq_some_iff.mp ec
  simp at hi hg
  subst hg
  refine ⟨hi, ?_⟩
  rintro x H'' ⟨rfl, hx⟩
  exact ⟨F', Grow.refl, by simp only [RV]; exact hx⟩
theorem RVs.int1 {vs : List V} {i : Int} (h : RVs K F H vs [.int i]) : vs = [.int i] := by
  match vs, h with
  | [v], h => simp only [RVs, RV] at h; rw [h.1]
  | [], h => simp only [RVs] at h
  | _ :: _ :: _, h => simp only [RVs] at h; exact h.2.elim
theorem RVs.two {vs : List V} {a b : D} (h : RVs K F H vs [a, b]) : ∃ v w, vs = [v, w] ∧ RV K F H v a ∧ RV K F H w b := by
  match vs, h with
  | [v, w], h => simp only [RVs] at h; exact ⟨v, w, rfl, h.1, h.2.1⟩
  | [], h => simp only [RVs] at h
  | [_], h => simp only [RVs] at h; exact h.2.elim
  | _ :: _ :: _ :: _, h => simp only [RVs] at h; exact h.2.2.elim
theorem RVs.one {vs : List V} {a : D} (h : RVs K F H vs [a]) : ∃ v, vs = [v] ∧ RV K F H v a := by
  match vs, h with
  | [v], h => simp only [RVs] at h; exact ⟨v, rfl, h.1⟩
  | [], h => simp only [RVs] at h
  | _ :: _ :: _, h => simp only [RVs] at h; exact h.2.elim
theorem okR_iff {i : Int} : okR i = true ↔ -(2 ^ 62) ≤ i ∧ i < 2 ^ 62 := by
  unfold okR
  rw [decide_eq_true_eq]
  constructor <;> intro h <;> omega
theorem w_irng1 {f : As} (σ : L2.St) (H : Hp) (R : It → Hp → Prop) (h : tDI K B W (iOfA itR f) σ H R) (h1 : ∀ ρ ds ρ', f ρ = .ok ds ρ' → ds.length = 1) : iRng1 (tDA K B W f) σ H R := by
  obtain ⟨F, ρ, A, rp, h⟩ := h
  refine ⟨F, ρ, A, rp, ?_⟩
  unfold iOfA at h
  cases e1 : f ρ with
  | bad => rw [e1] at h; exact h
  | exc x ρ1 => rw [e1] at h; exact h
  | ok d ρ1 =>
    rw [e1] at h
    have hl := h1 ρ d ρ1 e1
    simp only at h
    intro v F' H' A' r o' s
    cases e2 : itR d with
    | none => rw [e2] at h; exact h.elim
    | some ds =>
      rw [e2] at h
      match d, hl, o', e2 with
      | [.int j], _, o', e2 =>
        simp only [itR] at e2
        by_cases c : okR j = true
        · rw [if_pos c] at e2
          cases e2
          have := okR_iff.mp c
          exact ⟨j, o'.int1, this.1, this.2, h _ F' H' A' r yl_range s⟩
        · rw [if_neg c] at e2; cases e2
      | [.non], _, _, e2 => simp [itR] at e2
      | [.bl _], _, _, e2 => simp [itR] at e2
      | [.str _], _, _, e2 => simp [itR] at e2
      | [.tup _], _, _, e2 => simp [itR] at e2
      | [.lst _], _, _, e2 => simp [itR] at e2
      | [.ins _ _ _], _, _, e2 => simp [itR] at e2
      | [.own _ _], _, _, e2 => simp [itR] at e2
      | [.exn _ _ _], _, _, e2 => simp [itR] at e2
      | [.dic _], _, _, e2 => simp [itR] at e2
      | [.exv _ _ _], _, _, e2 => simp [itR] at e2
      | [.scr _], _, _, e2 => simp [itR] at e2
theorem len1 {f : E} (ρ : Env) (ds : List D) (ρ' : Env) (h : aCons f aNil ρ = .ok ds ρ') : ds.length = 1 := by
  unfold aCons aNil at h
  cases e : f ρ with
  | bad => rw [e] at h; cases h
  | exc x ρ1 => rw [e] at h; cases h
  | ok d ρ1 => rw [e] at h; cases h; rfl
theorem len2 {f g : E} (ρ : Env) (ds : List D) (ρ' : Env) (h : aCons f (aCons g aNil) ρ = .ok ds ρ') : ds.length = 2 := by
  unfold aCons aNil at h
  cases e : f ρ with
  | bad => rw [e] at h; cases h
  | exc x ρ1 => rw [e] at h; cases h
  | ok d ρ1 =>
    rw [e] at h
    simp only [ER.bindA] at h
    cases e2 : g ρ1 with
    | bad => rw [e2] at h; cases h
    | exc x ρ2 => rw [e2] at h; cases h
    | ok d2 ρ2 => rw [e2] at h; cases h; rfl
theorem enumD_get {l : List D} {i : Nat} {d : D} (h : (enumD l)[i]? = some d) : ∃ x, l[i]? = some x ∧ d = .tup [.int (i : Nat), x] := by
  unfold enumD at h
  rw [List.getElem?_map, List.getElem?_zipIdx] at h
  cases e : l[i]? with
  | none => rw [e] at h; simp at h
  | some x => rw [e] at h; simp at h; exact ⟨x, rfl, h.symm⟩
theorem enumD_len {l : List D} : (enumD l).length = l.length := by simp [enumD]
theorem RV.tup2 {T : Addr} {v w : V} {a b : D} (e : F T) (h : H T = some (.tup [v, w])) (h1 : RV K F H v a) (h2 : RV K F H w b) : RV K F H (.ref T) (.tup [a, b]) := by
  simp only [RV, RVs]
  exact ⟨T, [v, w], rfl, .inl ⟨e, .inl h⟩, by simp only [RVs]; exact ⟨h1, h2, trivial⟩⟩
theorem yl_enumL {a : Addr} {vs : List V} {ds : List D} (s : SqLF K F H a vs) (r : RVs K F H vs ds) : Yl K (Ite K a) F H (enumD ds) := fun F' H' m k => by
  have s' := (s.step m k).seq
  have r' := r.stay m k
  refine ⟨fun i d e => ?_, fun i hi => ⟨vs, s', by rw [r.len]; rw [enumD_len] at hi; exact hi⟩⟩
  obtain ⟨x, ex, rfl⟩ := enumD_get e
  obtain ⟨v, h1, h2⟩ := getElem?_RVs r' ex
  refine ⟨⟨vs, v, s', h1⟩, ?_⟩
  rintro y H'' ⟨T, z, rfl, hT, rfl, hz⟩
  have := hz vs s'
  rw [h1] at this
  cases this
  exact ⟨_, Grow.new hT, RV.tup2 (.inr rfl) upd_same (by simp only [RV]) (h2.grow (Grow.new hT))⟩
theorem w_ienumL {f : As} (σ : L2.St) (H : Hp) (R : It → Hp → Prop) (h : tDI K B W (iOfA itEL f) σ H R) : iEnum K (tDA K B W f) σ H R := by
  refine w_iofA h fun F H v d ds r e k => ?_
  match d, r, e with
  | [.lst l], r, e =>
    simp only [itEL] at e
    cases e
    obtain ⟨w, rfl, rw_⟩ := r.one
    simp only [RV] at rw_
    obtain ⟨a, vs, rfl, sq, rs⟩ := rw_
    exact ⟨a, vs, rfl, sq.seq, k _ (yl_enumL sq rs)⟩
  | [], _, e => simp [itEL] at e
  | _ :: _ :: _, _, e => simp [itEL] at e
  | [.non], _, e => simp [itEL] at e
  | [.bl _], _, e => simp [itEL] at e
  | [.int _], _, e => simp [itEL] at e
  | [.str _], _, e => simp [itEL] at e
  | [.tup _], _, e => simp [itEL] at e
  | [.ins _ _ _], _, e => simp [itEL] at e
  | [.own _ _], _, e => simp [itEL] at e
  | [.exn _ _ _], _, e => simp [itEL] at e
  | [.dic _], _, e => simp [itEL] at e
  | [.exv _ _ _], _, e => simp [itEL] at e
  | [.scr _], _, e => simp [itEL] at e
theorem OVS.congr : ∀ {σ σ' : L2.St} {ρ : Env} {A : List Addr}, OVS K F H B σ ρ A → σ'.length = σ.length → (∀ i : Nat, ρ[i]? ≠ some none → σ'[i]? = σ[i]?) → OVS K F H B σ' ρ A
  | [], [], [], _, h, _, _ => h
  | v :: vs, v' :: vs', d :: ds, _, h, l, k => by
    simp only [OVS] at h ⊢
    obtain ⟨A1, A2, h1, h2, e⟩ := h
    refine ⟨A1, A2, ?_, OVS.congr h2 (by simpa using l) (fun i hi => by simpa using k (i + 1) (by simpa using hi)), e⟩
    cases d with
    | none => simp only [OVo] at h1 ⊢; exact h1
    | some d =>
      have := k 0 (by simp)
      simp at this
      rw [this]; exact h1
  | [], _ :: _, _, _, _, l, _ => by simp at l
  | _ :: _, [], _, _, _, l, _ => by simp at l
  | [], [], _ :: _, _, h, _, _ => by simp only [OVS] at h
  | _ :: _, _ :: _, [], _, h, _, _ => by simp only [OVS] at h
theorem wipe_get {σ : L2.St} {j : Nat} : ∀ {vs : List Nat}, j ∉ vs → (wipe σ vs)[j]? = σ[j]?
  | [], _ => rfl
  | v :: vs, h => by
    simp only [wipe]
    rw [List.getElem?_set_ne (fun z => h (by simp [z])), wipe_get fun z => h (List.mem_cons_of_mem _ z)]
theorem wipeE_len {ρ : Env} : ∀ vs : List Nat, (wipeE vs ρ).length = ρ.length
  | [] => rfl
  | v :: vs => by simp only [wipeE, List.length_set]; exact wipeE_len vs
theorem wipeE_in {ρ : Env} {j : Nat} : ∀ {vs : List Nat}, j ∈ vs → j < ρ.length → (wipeE vs ρ)[j]? = some none
  | v :: vs, h, hl => by
    simp only [wipeE]
    by_cases c : v = j
    · subst c; rw [List.getElem?_set_self]; rw [wipeE_len]; exact hl
    · rw [List.getElem?_set_ne c]
      rcases List.mem_cons.mp h with z | z
      · exact absurd z.symm c
      · exact wipeE_in z hl
theorem wipe_in {σ : L2.St} {j : Nat} : ∀ {vs : List Nat}, j ∈ vs → j < σ.length → (wipe σ vs)[j]? = some none
  | v :: vs, h, hl => by
    simp only [wipe]
    by_cases c : v = j
    · subst c; rw [List.getElem?_set_self]; rw [wipe_length]; exact hl
    · rw [List.getElem?_set_ne c]
      rcases List.mem_cons.mp h with z | z
      · exact absurd z.symm c
      · exact wipe_in z hl
theorem wipe_eq {σ σ' : L2.St} {vs : List Nat} (l : σ'.length = σ.length) (k : ∀ j, j ∉ vs → σ'[j]? = σ[j]?) : wipe σ' vs = wipe σ vs := by
  apply List.ext_getElem?
  intro j
  by_cases c : j ∈ vs
  · by_cases hl : j < σ.length
    · rw [wipe_in c (by omega), wipe_in c hl]
    · rw [List.getElem?_eq_none (by rw [wipe_length]; omega), List.getElem?_eq_none (by rw [wipe_length]; omega)]
  · rw [wipe_get c, wipe_get c, k j c]
theorem Rep.unwipe {σ : L2.St} {ρ : Env} {A : List Addr} {vs : List Nat} (r : Rep K F H B (wipe σ vs) (wipeE vs ρ) A) : Rep K F H B σ (wipeE vs ρ) A := by
  refine ⟨r.sl.congr (by rw [wipe_length]) fun i hi => ?_, r.nd, r.nf, r.dm⟩
  by_cases c : i ∈ vs
  · have ll := r.sl.len
    rw [wipe_length, wipeE_len] at ll
    by_cases hl : i < ρ.length
    · exact absurd (wipeE_in c hl) hi
    · rw [List.getElem?_eq_none (by omega), List.getElem?_eq_none (by rw [wipe_length]; omega)]
  · exact (wipe_get c).symm
theorem Rep.wipe {σ : L2.St} {ρ : Env} {A : List Addr} (r : Rep K F H B σ ρ A) : ∀ vs : List Nat, ∃ A', Rep K F H B (L2.wipe σ vs) (wipeE vs ρ) A' ∧ ∀ a ∈ A', a ∈ A
  | [] => ⟨A, r, fun _ h => h⟩
  | v :: vs => by
    obtain ⟨A1, r1, s1⟩ := Rep.wipe r vs
    by_cases hl : v < (wipeE vs ρ).length
    · obtain ⟨v0, A2, L, R, h1, h2, h3, h4⟩ := r1.sl.split (i := v) (d := (wipeE vs ρ)[v]) (List.getElem?_eq_getElem hl)
      subst h3
      have q := h4 (F' := F) (H' := H) (v' := none) (d' := none) (A' := []) (fun _ h => h) (fun _ _ _ h => h) (by simp only [OVo])
      have nd := r1.nd
      refine ⟨L ++ [] ++ R, ⟨q, ?_, fun a ha => r1.nf a ?_, r1.dm⟩, fun a ha => s1 a ?_⟩
      · simp only [List.append_nil, List.nodup_append, List.mem_append] at nd ⊢
        exact ⟨nd.1.1, nd.2.1, fun a ha b hb => nd.2.2 a (.inl ha) b hb⟩
      · simp only [List.append_nil, List.mem_append] at ha ⊢
        exact ha.elim (fun z => .inl (.inl z)) .inr
      · simp only [List.append_nil, List.mem_append] at ha ⊢
        exact ha.elim (fun z => .inl (.inl z)) .inr
    · refine ⟨A1, ?_, s1⟩
      simp only [wipeE, L2.wipe]
      have ll := r1.sl.len
      rw [List.set_eq_of_length_le (by omega), List.set_eq_of_length_le (by omega)]
      exact r1
abbrev W0 : WX := fun _ _ _ _ => False
theorem RVs.snoc : ∀ {vs : List V} {ds : List D} {v : V} {d : D}, RVs K F H vs ds → RV K F H v d → RVs K F H (vs ++ [v]) (ds ++ [d])
  | [], [], _, _, _, h => by simp only [List.nil_append, RVs]; exact ⟨h, trivial⟩
  | _ :: _, _ :: _, _, _, h, h' => by
    simp only [RVs] at h
    simp only [List.cons_append, RVs]
    exact ⟨h.1, RVs.snoc h.2 h'⟩
  | [], _ :: _, _, _, h, _ => by simp only [RVs] at h
  | _ :: _, [], _, _, h, _ => by simp only [RVs] at h
theorem RVs.ovs : ∀ {vs : List V} {ds : List D}, RVs K F H vs ds → OVs K F H vs ds []
  | [], [], _ => by simp only [OVs]
  | _ :: _, _ :: _, h => by
    simp only [RVs] at h
    simp only [OVs]
    exact ⟨[], [], h.1.own, RVs.ovs h.2, rfl⟩
  | [], _ :: _, h => by simp only [RVs] at h
  | _ :: _, [], h => by simp only [RVs] at h
theorem Step.beside {A A' : List Addr} {p : Addr} {o : HO} (s : Step A F H A' F' H') (hp : H p = some o) (ha : p ∉ A) (hf : ¬ F p) : H' p = some o ∧ p ∉ A' ∧ ¬ F' p := by
  refine ⟨s.keep p o hp ha, fun z => ?_, fun z => ?_⟩
  · rcases s.own p z with q | q
    · exact ha q
    · rw [hp] at q; cases q
  · rcases s.froz p z with q | q | q
    · exact hf q
    · rw [hp] at q; cases q
    · exact ha q
theorem Rep.off {σ : L2.St} {ρ : Env} {A : List Addr} {p : Addr} {o : HO} (r : Rep K F H B σ ρ A) (ha : p ∉ A) (hf : ¬ F p) (hp : ∃ u, H p = some u) : Rep K F (upd H p o) B σ ρ A :=
  ⟨r.sl.stay (fun _ h => h) (fun a u h e => by
    rw [upd_ne]; exact e
    intro z; subst z
    exact h.elim hf ha), r.nd, r.nf, fun a h => by
      by_cases c : a = p
      · subst c; exact ⟨o, upd_same⟩
      · rw [upd_ne c]; exact r.dm a h⟩
theorem Step.off {A A' : List Addr} {p : Addr} {o : HO} (s : Step A F H A' F' H') (hp : H p = none) : Step A F H A' F' (upd H' p o) :=
  ⟨s.mono, fun a u e n => by rw [upd_ne (ne_of_none e hp)]; exact s.keep a u e n, s.froz, s.own⟩
theorem RVs.off {vs : List V} {ds : List D} {p : Addr} {o : HO} (r : RVs K F H vs ds) (hf : ¬ F p) : RVs K F (upd H p o) vs ds := r.stay (fun _ h => h) fun a u f e => by
  rw [upd_ne]; exact e
  intro z; subst z; exact hf f
theorem RV.off {vs : V} {ds : D} {p : Addr} {o : HO} (r : RV K F H vs ds) (hf : ¬ F p) : RV K F (upd H p o) vs ds := r.stay (fun _ h => h) fun a u f e => by
  rw [upd_ne]; exact e
  intro z; subst z; exact hf f
theorem w_comp {it : Is} {g : Tg} {tg : TG} {t e : E} {vs ks : List Nat} {tt : TT} (ht : ∀ σ H Q, tDT K B W0 t σ H Q → tt σ H Q) (hg : WG K B ks g tg) (hks : ∀ j ∈ ks, j ∈ vs) (σ : L2.St) (H : Hp) (Q : VK) (h : tDM K B W (eComp it g t e vs) σ H Q) : tLc (tDI K B W it) tg tt (tDE K B W0 e) vs σ H Q := by
  obtain ⟨F, ρ, A, rp, h⟩ := h
  refine ⟨F, ρ, A, rp, ?_⟩
  unfold eComp at h
  cases e1 : it ρ with
  | bad => rw [e1] at h; exact h
  | exc x ρ1 => rw [e1] at h; exact h
  | ok ds ρ1 =>
    rw [e1] at h
    simp only at h
    intro J F1 H1 A1 r1 y s1 C hC
    cases e2 : compL g t e vs ds (wipeE vs ρ1) [] with
    | bad => rw [e2] at h; exact h.elim
    | exc x ρ2 => 
      exfalso
      clear h y
      revert e2
      generalize wipeE vs ρ1 = ρ0
      generalize ([] : List D) = acc
      clear e1
      induction ds generalizing ρ0 acc with
      | nil => intro e2; simp [compL] at e2
      | cons d ds ih =>
        intro e2
        simp only [compL] at e2
        split at e2
        · cases e2
        · split at e2
          · split at e2
            · split at e2
              · exact ih _ _ e2
              · cases e2
            · cases e2
          · exact ih _ _ e2
          · cases e2
    | ok l ρ2 =>
      rw [e2] at h
      simp only at h
      obtain ⟨A2, r2, sub2⟩ := r1.wipe vs
      have hCA : C ∉ A1 := fun z => by
        obtain ⟨o, q⟩ := r1.sl.there C z
        rw [hC] at q; cases q
      have hCF : ¬ F1 C := fun z => by
        obtain ⟨o, q⟩ := r1.dm C z
        rw [hC] at q; cases q
      have g0 : Grow F1 H1 F1 (upd H1 C (.lst [])) := Grow.raw hC
      refine ⟨fun i m H' => m + i = ds.length ∧ ∃ F' ρ' A' ac acD, Rep K F' H' B (L2.wipe σ vs) (wipeE vs ρ') A' ∧ Step A1 F1 H1 A' F' H' ∧ True ∧ C ∉ A' ∧ ¬ F' C ∧ H' C = some (.lst ac) ∧ RVs K F' H' ac acD ∧ compL g t e vs (ds.drop i) (wipeE vs ρ') acD = .ok l ρ2,
        ⟨ds.length, rfl, F1, ρ1, A2, [], [], r2.grow g0, (Step.refl.sub sub2).trans g0.step, trivial, fun z => hCA (sub2 C z), hCF, upd_same, by simp only [RVs], e2⟩, ?_⟩
      rintro i m H2 ⟨em, F2, ρ3, A3, ac, acD, r3, s3, _, nA, nF, hC2, rac, ec⟩
      have yy := y F2 H2 s3.mono fun a o f e => s3.keep a o e fun ha => r1.nf a ha f
      by_cases hi : i < ds.length
      · right
        have hd : ds.drop i = ds[i] :: ds.drop (i + 1) := List.drop_eq_getElem_cons hi
        obtain ⟨go, yl⟩ := yy.1 i ds[i] (List.getElem?_eq_getElem hi)
        rw [hd] at ec
        simp only [compL] at ec
        cases e3 : g ds[i] (wipeE vs ρ3) with
        | none => rw [e3] at ec; cases ec
        | some ρ4 =>
          rw [e3] at ec
          simp only at ec
          refine ⟨go, fun H' => ∃ F' ρ' A' ac acD, Rep K F' H' B (L2.wipe σ vs) (wipeE vs ρ') A' ∧ Step A1 F1 H1 A' F' H' ∧ True ∧ C ∉ A' ∧ ¬ F' C ∧ H' C = some (.lst ac) ∧ RVs K F' H' ac acD ∧ compL g t e vs (ds.drop (i + 1)) (wipeE vs ρ') acD = .ok l ρ2, fun H' q => ⟨m - 1, by omega, by omega, q⟩, fun x H3 yd => ?_⟩
          obtain ⟨F3, g3, rv⟩ := yl x H3 yd
          refine hg F3 H3 (L2.wipe σ vs) _ ρ4 A3 x ds[i] _ (r3.grow g3) rv e3 fun σ4 A4 r4 sub4 l4 j4 => ?_
          have wq : L2.wipe σ4 vs = L2.wipe σ vs := wipe_eq (by rw [l4, wipe_length]) fun j hj => by rw [j4 j fun z => hj (hks j z), wipe_get hj]
          refine ⟨wq, ht σ4 H3 _ ⟨F3, ρ4, A4, r4, ?_⟩⟩
          have s4 : Step A3 F2 H2 A4 F3 H3 := g3.step.sub sub4
          obtain ⟨hC4, nA4, nF4⟩ := s4.beside hC2 nA nF
          have rac4 := rac.grow g3
          cases e4 : t ρ4 with
          | bad => rw [e4] at ec; cases ec
          | exc x ρ5 => rw [e4] at ec; cases ec
          | ok d5 ρ5 =>
            rw [e4] at ec
            cases d5 with
            | bl k =>
              refine ⟨k, rfl, fun F5 H5 A5 r5 s5 => ?_⟩
              obtain ⟨hC5, nA5, nF5⟩ := s5.beside hC4 nA4 nF4
              have rac5 := rac4.step r4 s5
              cases k with
              | false =>
                simp only at ec
                rw [if_neg (by decide)]
                obtain ⟨A6, r6, sub6⟩ := r5.wipe vs
                rw [wq] at r6
                exact ⟨F5, ρ5, A6, ac, acD, r6, ((s3.trans s4).trans s5).sub sub6, trivial, fun z => nA5 (sub6 C z), nF5, hC5, rac5, ec⟩
              | true =>
                simp only at ec
                rw [if_pos rfl]
                refine ⟨F5, ρ5, A5, r5, ?_⟩
                cases e5 : e ρ5 with
                | bad => rw [e5] at ec; cases ec
                | exc x ρ6 => rw [e5] at ec; cases ec
                | ok d6 ρ6 =>
                  rw [e5] at ec
                  simp only at ec
                  by_cases hz : acD.length < 16777216
                  · rw [if_pos hz] at ec
                    intro v6 F6 H6 A6 r6 rv6 s6
                    obtain ⟨hC6, nA6, nF6⟩ := s6.beside hC5 nA5 nF5
                    have rac6 := rac5.step r5 s6
                    obtain ⟨A7, r7, sub7⟩ := r6.wipe vs
                    rw [wq] at r7
                    have nA7 : C ∉ A7 := fun z => nA6 (sub7 C z)
                    refine ⟨ac, hC6, by rw [rac.len, sizeLine_eq]; exact hz, F6, ρ6, A7, ac ++ [v6], acD ++ [d6], r7.off nA7 nF6 ⟨_, hC6⟩, ((((s3.trans s4).trans s5).trans s6).sub sub7).off hC, trivial, nA7, nF6, upd_same, (rac6.snoc rv6).off nF6, ec⟩
                  · rw [if_neg hz] at ec; cases ec
            | _ => cases ec
      · left
        refine ⟨yy.2 i (by omega), ?_⟩
        rw [List.drop_of_length_le (by omega)] at ec
        simp only [compL] at ec
        cases ec
        refine h (.ref C) F2 H2 A3 [C] r3.unwipe ?_ ?_ (fun a ha => ?_) ?_
        · simp only [OV]
          exact ⟨C, ac, [], rfl, hC2, rfl, rac.ovs⟩
        · rw [List.nodup_append]
          exact ⟨r3.nd, by simp, fun a ha b hb z => nA (by rw [List.mem_singleton] at hb; rw [← hb, ← z]; exact ha)⟩
        · rw [List.mem_singleton] at ha; rw [ha]; exact nF
        · have s := s1.trans s3
          refine ⟨s.mono, s.keep, s.froz, fun a ha => ?_⟩
          rcases List.mem_append.mp ha with z | z
          · exact s.own a z
          · rw [List.mem_singleton] at z
            subst z
            by_cases q : a ∈ A
            · exact .inl q
            · refine .inr ?_
              cases z : H a with
              | none => rfl
              | some o => rw [s1.keep a o z q] at hC; cases hC
end
end U
namespace U
open PySem PySem.Spec PyProof.Rows L2
def spD (K : PySem.W.Frag) (f : Fn) : Sp := fun vs H Q E => ∃ (F : Fz) (ds : List D) (A : List Addr) (B : Bx), OVps K F H B vs ds A ∧ A.Nodup ∧ (∀ a ∈ A, ¬ F a) ∧ (∀ a, F a → ∃ o, H a = some o) ∧ match f ds with
  | .ok d o => ∀ v F' H' σ' A' Ar, OVS K F' H' B σ' o A' → (A' ++ Ar).Nodup → (∀ a ∈ A' ++ Ar, ¬ F' a) → (∀ a, F' a → ∃ o, H' a = some o) → OV K F' H' v d Ar → Step A F H (A' ++ Ar) F' H' → Q v H'
  | .exc x o => ∀ cls dd F' H' σ' A', OVS K F' H' B σ' o A' → A'.Nodup → (∀ a ∈ A', ¬ F' a) → (∀ a, F' a → ∃ o, H' a = some o) → XV K F' H' x cls dd → Step A F H A' F' H' → E cls dd H'
  | .bad => False
section
variable {K : PySem.W.Frag} {B B' : Bx} {F F' : Fz} {H H' : Hp} {W : WX} {σ : L2.St}
theorem OV.root {v : V} {d : D} {A : List Addr} (h : OV K F H v (.own 0 d) A) : ∃ a, v = .ref a ∧ a ∈ A := by
  cases d with
  | lst ds => simp only [OV] at h; obtain ⟨a, vs, A', e, s, q, r⟩ := h; exact ⟨a, e, by rw [q]; exact List.mem_cons_self⟩
  | ins c ns ds => simp only [OV] at h; obtain ⟨a, dx, fs, A', e, s, n, q, r⟩ := h; exact ⟨a, e, by rw [q]; exact List.mem_cons_self⟩
  | _ => simp only [OV] at h
theorem OVp.root {v : V} {d : D} {t : Nat} {A : List Addr} (h : OVp K F H B v (.own t d) A) : OV K F H v (.own 0 d) A ∧ ∃ a, v = .ref a ∧ a ∈ A ∧ ∀ k, t = k + 1 → B.1[k]? = some a := by
  cases t with
  | zero =>
    simp only [OVp] at h
    obtain ⟨a, e, m⟩ := h.root
    exact ⟨h, a, e, m, fun k z => by cases z⟩
  | succ j =>
    simp only [OVp] at h
    obtain ⟨h1, a, e, p⟩ := h
    obtain ⟨a', e', m⟩ := h1.root
    rw [e] at e'; cases e'
    exact ⟨h1, a, e, m, fun k z => by cases z; exact p⟩
theorem OVp.tag {v : V} {d : D} {t : Nat} {a : Addr} {A : List Addr} (h : OV K F H v (.own 0 d) A) (e : v = .ref a) (p : ∀ k, t = k + 1 → B.1[k]? = some a) : OVp K F H B v (.own t d) A := by
  cases t with
  | zero => simp only [OVp]; exact h
  | succ j => simp only [OVp]; exact ⟨h, a, e, p j rfl⟩
theorem Rep.take1 {ρ : Env} {A : List Addr} {i t : Nat} {d : D} (r : Rep K F H B σ ρ A) (e : ρ[i]? = some (some (.own t d))) : ∃ a A1 A2, σ[i]? = some (some (.ref a)) ∧ OV K F H (.ref a) (.own 0 d) A1 ∧ (∀ k, t = k + 1 → B.1[k]? = some a) ∧ Rep K F H B σ (ρ.set i none) A2 ∧ (A1 ++ A2).Nodup ∧ ∀ x ∈ A1 ++ A2, x ∈ A := by
  obtain ⟨v, A1, L, R, h1, h2, h3, h4⟩ := r.sl.split e
  subst h3
  cases v with
  | none => simp only [OVo] at h2
  | some v =>
    simp only [OVo] at h2
    obtain ⟨o, a, rfl, ma, p⟩ := h2.root
    have q := h4 (F' := F) (H' := H) (v' := some (.ref a)) (d' := none) (A' := []) (fun _ h => h) (fun _ _ _ h => h) (by simp only [OVo])
    have es : σ.set i (some (.ref a)) = σ := by
      apply List.ext_getElem?
      intro j
      by_cases c : i = j
      · subst c
        rw [List.getElem?_set_self (List.getElem?_eq_some_iff.mp h1).1, h1]
      · rw [List.getElem?_set_ne c]
    rw [es] at q
    have nd := r.nd
    simp only [List.nodup_append, List.mem_append] at nd
    refine ⟨a, A1, L ++ [] ++ R, h1, o, p, ⟨q, ?_, fun x hx => r.nf x ?_, r.dm⟩, ?_, fun x hx => ?_⟩
    · simp only [List.append_nil, List.nodup_append]
      exact ⟨nd.1.1, nd.2.1, fun a ha b hb => nd.2.2 a (.inl ha) b hb⟩
    · simp only [List.append_nil, List.mem_append] at hx ⊢
      exact hx.elim (fun z => .inl (.inl z)) .inr
    · simp only [List.append_nil, List.nodup_append, List.mem_append]
      refine ⟨nd.1.2.1, ⟨nd.1.1, nd.2.1, fun a ha b hb => nd.2.2 a (.inl ha) b hb⟩, fun a ha b hb => ?_⟩
      rcases hb with hb | hb
      · exact fun z => nd.1.2.2 b hb a ha z.symm
      · exact nd.2.2 a (.inr ha) b hb
    · simp only [List.append_nil, List.mem_append] at hx ⊢
      rcases hx with hx | hx | hx
      · exact .inl (.inr hx)
      · exact .inl (.inl hx)
      · exact .inr hx
theorem Rep.give1 {ρ : Env} {A A1 : List Addr} {i : Nat} {v : V} {d : D} (r : Rep K F H B σ ρ A) (e : ρ[i]? = some none) (es : σ[i]? = some (some v)) (o : OVp K F H B v d A1) (nd : (A1 ++ A).Nodup) (nf : ∀ a ∈ A1, ¬ F a) : ∃ A', Rep K F H B σ (ρ.set i (some d)) A' ∧ ∀ x ∈ A', x ∈ A1 ++ A := by
  obtain ⟨v0, A0, L, R, h1, h2, h3, h4⟩ := r.sl.split e
  simp only [OVo] at h2
  subst h2 h3
  have q := h4 (F' := F) (H' := H) (v' := some v) (d' := some d) (A' := A1) (fun _ h => h) (fun _ _ _ h => h) (by simp only [OVo]; exact o)
  have ez : σ.set i (some v) = σ := by
    apply List.ext_getElem?
    intro j
    by_cases c : i = j
    · subst c
      rw [List.getElem?_set_self (List.getElem?_eq_some_iff.mp es).1, es]
    · rw [List.getElem?_set_ne c]
  rw [ez] at q
  simp only [List.append_nil, List.nodup_append, List.mem_append] at nd
  refine ⟨L ++ A1 ++ R, ⟨q, ?_, fun a ha => ?_, r.dm⟩, fun a ha => ?_⟩
  · simp only [List.nodup_append, List.mem_append]
    refine ⟨⟨nd.2.1.1, nd.1, fun a ha b hb z => nd.2.2 b hb a (.inl ha) z.symm⟩, nd.2.1.2.1, fun a ha b hb => ?_⟩
    rcases ha with ha | ha
    · exact nd.2.1.2.2 a ha b hb
    · exact nd.2.2 a ha b (.inr hb)
  · simp only [List.mem_append] at ha
    rcases ha with (ha | ha) | ha
    · exact r.nf a (by simp [ha])
    · exact nf a ha
    · exact r.nf a (by simp [ha])
  · simp only [List.append_nil, List.mem_append] at ha ⊢
    rcases ha with (ha | ha) | ha
    · exact .inr (.inl ha)
    · exact .inl ha
    · exact .inr (.inr ha)
def outs : List Arg → Env → Env
  | [], ρ => ρ
  | .v _ :: r, ρ => outs r ρ
  | .b i :: r, ρ => outs r (ρ.set i none)
theorem outs_set {x : Option D} {i : Nat} : ∀ {l : List Arg} {ρ : Env}, i ∉ lent l → outs l (ρ.set i x) = (outs l ρ).set i x
  | [], _, _ => rfl
  | .v _ :: r, ρ, h => by simp only [outs]; exact outs_set (l := r) h
  | .b k :: r, ρ, h => by
    simp only [outs]
    simp only [lent, List.mem_cons, not_or] at h
    rw [List.set_comm _ _ h.1, outs_set h.2]
def Lk (σ : L2.St) (B B' : Bx) : Nat → List Arg → Env → Prop
  | _, [], _ => True
  | j, .v _ :: r, ρ => Lk σ B B' (j + 1) r ρ
  | j, .b i :: r, ρ => (∃ a t d, σ[i]? = some (some (.ref a)) ∧ ρ[i]? = some (some (.own t d)) ∧ (∀ k, t = k + 1 → B.1[k]? = some a) ∧ B'.1[j]? = some a) ∧ Lk σ B B' (j + 1) r ρ
theorem lend : ∀ {l : List Arg} {j : Nat} {ρ0 ρ : Env} {A : List Addr} {vs : List V} {ds : List D}, Rep K F H B σ ρ A → (lent l).Nodup → (∀ i ∈ lent l, ρ[i]? = ρ0[i]?) → AV K F H σ vs l → hand ρ0 j l = some ds →
    ∃ (Bs Ac Ao : List Addr), Bs.length = l.length ∧ (∀ B', (∀ (k : Nat) (a : Addr), Bs[k]? = some a → B'.1[j + k]? = some a) → OVps K F H B' vs ds Ac ∧ Lk σ B B' j l ρ0) ∧ Rep K F H B σ (outs l ρ) Ao ∧ (Ac ++ Ao).Nodup ∧ (∀ x ∈ Ac ++ Ao, x ∈ A)
  | [], j, ρ0, ρ, A, vs, ds, r, _, _, av, h => by
    cases vs with
    | cons v vs => simp only [AV] at av
    | nil =>
      simp only [hand] at h
      cases h
      exact ⟨[], [], A, rfl, fun B' _ => ⟨by simp only [OVps], by simp only [Lk]⟩, by simp only [outs]; exact r, by simpa using r.nd, by simp⟩
  | .v d :: l, j, ρ0, ρ, A, vs, ds, r, nd, ag, av, h => by
    cases vs with
    | nil => simp only [AV] at av
    | cons v vs =>
      simp only [AV] at av
      simp only [hand] at h
      obtain ⟨ds', e, rfl⟩ := Option.map_eq_some_iff.mp h
      obtain ⟨Bs, Ac, Ao, b1, b2, b3, b4, b5⟩ := lend (l := l) r nd ag av.2 e
      refine ⟨0 :: Bs, Ac, Ao, by simp [b1], fun B' hB => ?_, by simp only [outs]; exact b3, b4, b5⟩
      obtain ⟨c1, c2⟩ := b2 B' fun k a hk => by
        have := hB (k + 1) a (by simpa using hk)
        rw [show j + 1 + k = j + (k + 1) by omega]; exact this
      refine ⟨?_, by simp only [Lk]; exact c2⟩
      simp only [OVps]
      exact ⟨[], Ac, av.1.own.op, c1, rfl⟩
  | .b i :: l, j, ρ0, ρ, A, vs, ds, r, nd, ag, av, h => by
    cases vs with
    | nil => simp only [AV] at av
    | cons v vs =>
      simp only [AV] at av
      simp only [lent, List.nodup_cons] at nd
      simp only [hand] at h
      split at h
      · rename_i t d e0
        obtain ⟨ds', e, rfl⟩ := Option.map_eq_some_iff.mp h
        have ei : ρ[i]? = some (some (.own t d)) := (ag i (by simp [lent])).trans e0
        obtain ⟨a, A1, A2, s1, o1, p1, r2, n1, sub1⟩ := r.take1 ei
        rw [av.1] at s1
        cases s1
        obtain ⟨Bs, Ac, Ao, b1, b2, b3, b4, b5⟩ := lend (l := l) (j := j + 1) (ρ0 := ρ0) r2 nd.2 (fun k hk => by
          rw [List.getElem?_set_ne (fun z => nd.1 (by rw [z]; exact hk))]
          exact ag k (by simp [lent, hk])) av.2 e
        refine ⟨a :: Bs, A1 ++ Ac, Ao, by simp [b1], fun B' hB => ?_, by simp only [outs]; exact b3, ?_, fun x hx => ?_⟩
        · obtain ⟨c1, c2⟩ := b2 B' fun k b hk => by
            have := hB (k + 1) b (by simpa using hk)
            rw [show j + 1 + k = j + (k + 1) by omega]; exact this
          have hBj : B'.1[j]? = some a := by simpa using hB 0 a rfl
          refine ⟨?_, ?_⟩
          · simp only [OVps]
            exact ⟨A1, Ac, OVp.tag o1 rfl (fun k z => by cases z; exact hBj), c1, rfl⟩
          · simp only [Lk]
            exact ⟨⟨a, t, d, av.1, e0, p1, hBj⟩, c2⟩
        · simp only [List.nodup_append, List.mem_append] at n1 b4 ⊢
          refine ⟨⟨n1.1, b4.1, fun x hx y hy => n1.2.2 x hx y (b5 y (by simp [hy]))⟩, b4.2.1, fun x hx y hy => ?_⟩
          rcases hx with hx | hx
          · exact n1.2.2 x hx y (b5 y (by simp [hy]))
          · exact b4.2.2 x hx y hy
        · simp only [List.mem_append] at hx
          rcases hx with (hx | hx) | hx
          · exact sub1 x (by simp [hx])
          · exact sub1 x (by simp [b5 x (by simp [hx])])
          · exact sub1 x (by simp [b5 x (by simp [hx])])
      · cases h
theorem regain : ∀ {l : List Arg} {j : Nat} {ρ0 ρ ρ2 o : Env} {σ' : L2.St} {Ac Ao : List Addr}, Rep K F H B σ (outs l ρ) Ao → (lent l).Nodup → Lk σ B B' j l ρ0 → (∀ i ∈ lent l, ρ[i]? = ρ0[i]?) → OVS K F H B' σ' o Ac → back j l o ρ = some ρ2 → (Ac ++ Ao).Nodup → (∀ a ∈ Ac, ¬ F a) →
    ∃ A2, Rep K F H B σ ρ2 A2 ∧ ∀ x ∈ A2, x ∈ Ac ++ Ao
  | [], j, ρ0, ρ, ρ2, o, σ', Ac, Ao, r, _, _, _, _, e, _, _ => by
    simp only [back] at e
    cases e
    simp only [outs] at r
    exact ⟨Ao, r, fun x hx => List.mem_append_right _ hx⟩
  | .v d :: l, j, ρ0, ρ, ρ2, o, σ', Ac, Ao, r, nd, lk, ag, os, e, n, nf => by
    simp only [back] at e
    simp only [outs] at r
    simp only [Lk] at lk
    match o, σ', os, e with
    | [], [], os, e => exact regain (l := l) (σ' := []) r nd lk ag os e n nf
    | c :: o, v :: σ', os, e =>
      simp only [OVS] at os
      obtain ⟨A1, A2, h1, h2, q⟩ := os
      subst q
      obtain ⟨A3, r3, s3⟩ := regain (l := l) r nd lk ag h2 e (by
        simp only [List.nodup_append, List.mem_append] at n ⊢
        exact ⟨n.1.2.1, n.2.1, fun a ha b hb => n.2.2 a (.inr ha) b hb⟩) (fun a ha => nf a (List.mem_append_right _ ha))
      exact ⟨A3, r3, fun x hx => by
        have := s3 x hx
        simp only [List.mem_append] at this ⊢
        exact this.elim (fun z => .inl (.inr z)) .inr⟩
    | [], _ :: _, os, _ => simp only [OVS] at os
    | _ :: _, [], os, _ => simp only [OVS] at os
  | .b i :: l, j, ρ0, ρ, ρ2, o, σ', Ac, Ao, r, nd, lk, ag, os, e, n, nf => by
    simp only [outs] at r
    simp only [Lk] at lk
    simp only [lent, List.nodup_cons] at nd
    obtain ⟨⟨a, t, d, s1, e1, p1, hB⟩, lk⟩ := lk
    have ei : ρ[i]? = some (some (.own t d)) := (ag i (by simp [lent])).trans e1
    simp only [back] at e
    match o, σ', os, e with
    | [], _, _, e => simp at e
    | c :: o, [], os, _ => simp only [OVS] at os
    | c :: o, v :: σ', os, e =>
      simp only [OVS] at os
      obtain ⟨A1, A2, h1, h2, q⟩ := os
      subst q
      simp only [List.head?_cons, List.tail_cons] at e
      split at e
      · rename_i t' d' t2 d2 hc hρ
        cases hc
        rw [ei] at hρ
        cases hρ
        split at e
        · rename_i ht
          subst ht
          cases v with
          | none => simp only [OVo] at h1
          | some v =>
            simp only [OVo] at h1
            obtain ⟨o1, a', ev, m, p⟩ := h1.root
            have := p t' rfl
            rw [hB] at this
            cases this
            subst ev
            rw [outs_set nd.1] at r
            have hl : i < (outs l ρ).length := by
              have := r.sl.len
              rw [List.length_set] at this
              rw [← this]; exact (List.getElem?_eq_some_iff.mp s1).1
            simp only [List.nodup_append, List.mem_append] at n
            obtain ⟨A3, r3, s3⟩ := r.give1 (i := i) (A1 := A1) (d := .own t d') (by rw [List.getElem?_set_self hl]) s1 (OVp.tag o1 rfl p1) (by
              simp only [List.nodup_append]
              exact ⟨n.1.1, n.2.1, fun a ha b hb => n.2.2 a (.inl ha) b hb⟩) (fun a ha => nf a (List.mem_append_left _ ha))
            rw [List.set_set, ← outs_set nd.1] at r3
            obtain ⟨A4, r4, s4⟩ := regain (l := l) (ρ0 := ρ0) r3 nd.2 lk (fun k hk => by
              rw [List.getElem?_set_ne (fun z => nd.1 (by rw [z]; exact hk))]
              exact ag k (by simp [lent, hk])) h2 e (by
                simp only [List.nodup_append, List.mem_append]
                refine ⟨n.1.2.1, r3.nd, fun a ha b hb => ?_⟩
                have := s3 b hb
                simp only [List.mem_append] at this
                rcases this with z | z
                · exact fun q => n.1.2.2 b z a ha q.symm
                · exact n.2.2 a (.inr ha) b z) (fun a ha => nf a (List.mem_append_right _ ha))
            refine ⟨A4, r4, fun x hx => ?_⟩
            have := s4 x hx
            simp only [List.mem_append] at this ⊢
            rcases this with z | z
            · exact .inl (.inr z)
            · have := s3 x z
              simp only [List.mem_append] at this
              exact this.elim (fun q => .inl (.inl q)) .inr
        · cases e
      · cases e
theorem OVps.snocP : ∀ {vs ws : List V} {ds es : List D} {A : List Addr}, OVps K F H B vs ds A → RVs K F H ws es → OVps K F H B (vs ++ ws) (ds ++ es) A
  | [], ws, [], es, A, h, r => by
    simp only [OVps] at h
    subst h
    simp only [List.nil_append]
    induction ws generalizing es with
    | nil =>
      cases es with
      | nil => simp only [OVps]
      | cons e es => simp only [RVs] at r
    | cons w ws ih =>
      cases es with
      | nil => simp only [RVs] at r
      | cons e es =>
        simp only [RVs] at r
        simp only [OVps]
        exact ⟨[], [], r.1.own.op, ih _ r.2, rfl⟩
  | v :: vs, ws, d :: ds, es, A, h, r => by
    simp only [OVps] at h
    obtain ⟨A1, A2, h1, h2, e⟩ := h
    simp only [List.cons_append, OVps]
    exact ⟨A1, A2, h1, OVps.snocP h2 r, e⟩
  | [], _, _ :: _, _, _, h, _ => by simp only [OVps] at h
  | _ :: _, _, [], _, _, h, _ => by simp only [OVps] at h
theorem w_call {f : Fn} {g : List Ag} {dd : List D} {dvs : List V} (hd : ∀ F H, RVs K F H dvs dd) (σ : L2.St) (H : Hp) (Q : VK) (h : tDM K B W (eCall f g dd) σ H Q) : tCallSD (spD K f) dvs (WE W) (tDG K B W g) σ H Q := by
  obtain ⟨F, ρ, A, rp, h⟩ := h
  refine ⟨F, ρ, A, rp, ?_⟩
  unfold eCall at h
  cases e1 : evAg g ρ with
  | bad => rw [e1] at h; exact h
  | exc x ρ1 => rw [e1] at h; exact h
  | ok l ρ1 =>
    rw [e1] at h
    simp only at h
    intro vs F1 H1 A1 r1 av s1
    cases e2 : hand ρ1 0 l with
    | none => rw [e2] at h; exact h.elim
    | some ds =>
      rw [e2] at h
      simp only at h
      by_cases hn : (lent l).Nodup
      case neg => rw [if_neg hn] at h; exact h.elim
      case pos =>
        rw [if_pos hn] at h
        obtain ⟨Bs, Ac, Ao, b1, b2, b3, b4, b5⟩ := lend r1 hn (fun _ _ => rfl) av e2
        obtain ⟨c1, c2⟩ := b2 (Bs, none) fun k a hk => by simpa using hk
        have nd := b4
        simp only [List.nodup_append] at nd
        refine ⟨F1, ds ++ dd, Ac, (Bs, none), c1.snocP (hd F1 H1), nd.1, fun a ha => r1.nf a (b5 a (List.mem_append_left _ ha)), r1.dm, ?_⟩
        -- what stands beside the lent ones stays
        have stay : ∀ {F2 : Fz} {H2 : Hp} {A' : List Addr}, Step Ac F1 H1 A' F2 H2 → (∀ a, F2 a → ∃ o, H2 a = some o) → (∀ a ∈ A', ¬ F2 a) → A'.Nodup → Rep K F2 H2 B σ (outs l ρ1) Ao ∧ (A' ++ Ao).Nodup := fun {F2 H2 A'} s dm nf n => by
          have out : ∀ a ∈ Ao, a ∉ Ac := fun a ha z => nd.2.2 a z a ha rfl
          refine ⟨⟨b3.sl.stay s.mono fun a o ha e => s.keep a o e fun z => ?_, b3.nd, fun a ha f => ?_, dm⟩, ?_⟩
          · rcases ha with ha | ha
            · exact r1.nf a (b5 a (List.mem_append_left _ z)) ha
            · exact out a ha z
          · rcases s.froz a f with q | q | q
            · exact b3.nf a ha q
            · obtain ⟨o, e⟩ := b3.sl.there a ha
              rw [q] at e; cases e
            · exact out a ha q
          · simp only [List.nodup_append]
            refine ⟨n, b3.nd, fun a ha b hb z => ?_⟩
            subst z
            rcases s.own a ha with q | q
            · exact out a hb q
            · obtain ⟨o, e⟩ := b3.sl.there a hb
              rw [q] at e; cases e
        have whole : ∀ {F2 : Fz} {H2 : Hp} {A' A2 : List Addr}, Step Ac F1 H1 A' F2 H2 → (∀ x ∈ A2, x ∈ A' ++ Ao) → Step A1 F1 H1 A2 F2 H2 := fun {F2 H2 A' A2} s sub =>
          ⟨s.mono, fun a o e n => s.keep a o e fun z => n (b5 a (List.mem_append_left _ z)), fun a ha => by
            rcases s.froz a ha with q | q | q
            · exact .inl q
            · exact .inr (.inl q)
            · exact .inr (.inr (b5 a (List.mem_append_left _ q))), fun a ha => by
            rcases List.mem_append.mp (sub a ha) with q | q
            · rcases s.own a q with z | z
              · exact .inl (b5 a (List.mem_append_left _ z))
              · exact .inr z
            · exact .inl (b5 a (List.mem_append_right _ q))⟩
        cases e3 : f (ds ++ dd) with
        | bad => rw [e3] at h; exact h
        | exc x o =>
          rw [e3] at h
          simp only at h
          intro cls d2 F2 H2 σ2 A2 o2 n2 nf2 dm2 xv s2
          cases e4 : back 0 l o ρ1 with
          | none => rw [e4] at h; exact h.elim
          | some ρ2 =>
            rw [e4] at h
            obtain ⟨k1, k2⟩ := stay s2 dm2 nf2 n2
            obtain ⟨A3, r3, s3⟩ := regain k1 hn c2 (fun _ _ => rfl) o2 e4 k2 nf2
            exact h cls d2 F2 H2 A3 r3 xv (s1.trans (whole s2 s3))
        | ok d o =>
          rw [e3] at h
          simp only at h
          intro v F2 H2 σ2 A2 Ar o2 n2 nf2 dm2 ov s2
          cases e4 : back 0 l o ρ1 with
          | none => rw [e4] at h; exact h.elim
          | some ρ2 =>
            rw [e4] at h
            obtain ⟨k1, k2⟩ := stay s2 dm2 nf2 n2
            simp only [List.nodup_append, List.mem_append] at k2 n2
            obtain ⟨A3, r3, s3⟩ := regain k1 hn c2 (fun _ _ => rfl) o2 e4 (by
              simp only [List.nodup_append]
              exact ⟨n2.1, k1.nd, fun a ha b hb => k2.2.2 a (.inl ha) b hb⟩) (fun a ha => nf2 a (List.mem_append_left _ ha))
            refine h v F2 H2 A3 Ar r3 ov ?_ (fun a ha => nf2 a (List.mem_append_right _ ha)) (s1.trans (whole s2 fun x hx => ?_))
            · simp only [List.nodup_append]
              refine ⟨r3.nd, n2.2.1, fun a ha b hb => ?_⟩
              rcases List.mem_append.mp (s3 a ha) with z | z
              · exact n2.2.2 a z b hb
              · exact fun q => k2.2.2 b (.inr hb) a z q.symm
            · simp only [List.mem_append] at hx ⊢
              rcases hx with hx | hx
              · exact (List.mem_append.mp (s3 x hx)).elim (fun z => .inl (.inl z)) .inr
              · exact .inl (.inr hx)
theorem w_gnil (σ : L2.St) (H : Hp) (Q : List V → Hp → Prop) (h : tDG K B W [] σ H Q) : tNil σ H Q := by
  obtain ⟨F, ρ, A, rp, h⟩ := h
  exact h [] F H A rp (by simp only [AV]) Step.refl
theorem AV.step {vs : List V} {l : List Arg} {ρ : Env} {A A' : List Addr} (h : AV K F H σ vs l) (r : Rep K F H B σ ρ A) (s : Step A F H A' F' H') : AV K F' H' σ vs l := by
  induction l generalizing vs with
  | nil => cases vs with
    | nil => simp only [AV]
    | cons v vs => simp only [AV] at h
  | cons g l ih =>
    cases vs with
    | nil => cases g <;> simp only [AV] at h
    | cons v vs =>
      cases g with
      | v d => simp only [AV] at h ⊢; exact ⟨h.1.step r s, ih h.2⟩
      | b i => simp only [AV] at h ⊢; exact ⟨h.1, ih h.2⟩
theorem w_gv {f : E} {g : List Ag} (σ : L2.St) (H : Hp) (Q : List V → Hp → Prop) (h : tDG K B W (.v f :: g) σ H Q) : tCons (tDE K B W f) (tDG K B W g) σ H Q := by
  obtain ⟨F, ρ, A, rp, h⟩ := h
  refine ⟨F, ρ, A, rp, ?_⟩
  simp only [evAg] at h
  cases e1 : f ρ with
  | bad => rw [e1] at h; exact h
  | exc x ρ1 => rw [e1] at h; exact h
  | ok d1 ρ1 =>
    rw [e1] at h
    simp only at h
    intro v1 F1 H1 A1 r1 v1r s1
    refine ⟨F1, ρ1, A1, r1, ?_⟩
    cases e2 : evAg g ρ1 with
    | bad => rw [e2] at h; exact h
    | exc x ρ2 => rw [e2] at h; exact h.before s1
    | ok l ρ2 =>
      rw [e2] at h
      intro v2 F2 H2 A2 r2 v2r s2
      exact h (v1 :: v2) F2 H2 A2 r2 (by simp only [AV]; exact ⟨v1r.step r1 s2, v2r⟩) (s1.trans s2)
theorem w_gb {i : Nat} {g : List Ag} (σ : L2.St) (H : Hp) (Q : List V → Hp → Prop) (h : tDG K B W (.b i :: g) σ H Q) : tCons (tVar i) (tDG K B W g) σ H Q := by
  obtain ⟨F, ρ, A, rp, h⟩ := h
  simp only [evAg] at h
  split at h
  · rename_i l ρ1 e
    split at e
    · rename_i t d hd
      obtain ⟨v, A1, hv, ov, _⟩ := rp.sl.get hd
      refine ⟨v, hv, F, ρ, A, rp, ?_⟩
      cases e2 : evAg g ρ with
      | bad => rw [e2] at e; cases e
      | exc x ρ2 => rw [e2] at e; cases e
      | ok l2 ρ2 =>
        rw [e2] at e
        cases e
        intro v2 F2 H2 A2 r2 v2r s2
        exact h (v :: v2) F2 H2 A2 r2 (by simp only [AV]; exact ⟨hv, v2r⟩) s2
    · cases e
  · rename_i x ρ1 e
    split at e
    · rename_i t d hd
      obtain ⟨v, A1, hv, ov, _⟩ := rp.sl.get hd
      refine ⟨v, hv, F, ρ, A, rp, ?_⟩
      cases e2 : evAg g ρ with
      | bad => rw [e2] at e; cases e
      | exc x ρ2 => rw [e2] at e; cases e; exact h
      | ok l2 ρ2 => rw [e2] at e; cases e
    · cases e
  · exact h.elim
end
end U
namespace U
open PySem PySem.Spec PyProof.Rows L2
section
variable {K : PySem.W.Frag} {B : Bx} {F F' : Fz} {H H' : Hp} {W : WX}
theorem p_add : P2 K oAdd (rI0 fun i j => .int (i + j)) := by
  intro F H x y a b d Q ra rb e q
  unfold oAdd at e; split at e
  · cases e; simp only [RV] at ra rb; exact ⟨_, _, ra, rb, q _ F H Grow.refl (by simp only [RV])⟩
  · cases e
theorem p_sub : P2 K oSub (rI0 fun i j => .int (i - j)) := by
  intro F H x y a b d Q ra rb e q
  unfold oSub at e; split at e
  · cases e; simp only [RV] at ra rb; exact ⟨_, _, ra, rb, q _ F H Grow.refl (by simp only [RV])⟩
  · cases e
theorem p_lt : P2 K oLt (rI0 fun i j => .bl (decide (i < j))) := by
  intro F H x y a b d Q ra rb e q
  unfold oLt at e; split at e
  · cases e; simp only [RV] at ra rb; exact ⟨_, _, ra, rb, q _ F H Grow.refl (by simp only [RV])⟩
  · cases e
theorem p_gt : P2 K oGt (rI0 fun i j => .bl (decide (j < i))) := by
  intro F H x y a b d Q ra rb e q
  unfold oGt at e; split at e
  · cases e; simp only [RV] at ra rb; exact ⟨_, _, ra, rb, q _ F H Grow.refl (by simp only [RV])⟩
  · cases e
theorem p_ge : P2 K oGe (rI0 fun i j => .bl (decide (j ≤ i))) := by
  intro F H x y a b d Q ra rb e q
  unfold oGe at e; split at e
  · cases e; simp only [RV] at ra rb; exact ⟨_, _, ra, rb, q _ F H Grow.refl (by simp only [RV])⟩
  · cases e
theorem p_mul : P2 K oMul (rI CMul fun i j => .int (i * j)) := by
  intro F H x y a b d Q ra rb e q
  unfold oMul at e; split at e
  · split at e
    · rename_i i j h
      cases e; simp only [RV] at ra rb
      refine ⟨_, _, ra, rb, ?_, q _ F H Grow.refl (by simp only [RV])⟩
      unfold lim64 at h
      unfold CMul
      rcases h with h | h
      · exact .inl ⟨by omega, by omega⟩
      · exact .inr ⟨by omega, by omega⟩
    · cases e
  · cases e
theorem p_div : P2 K oDiv (rI CDivW fun i j => .int (i / j)) := by
  intro F H x y a b d Q ra rb e q
  unfold oDiv at e; split at e
  · split at e
    · rename_i i j h
      cases e; simp only [RV] at ra rb
      exact ⟨_, _, ra, rb, wide_div h.1 h.2 (by decide) (by decide), q _ F H Grow.refl (by simp only [RV])⟩
    · cases e
  · cases e
theorem p_mod : P2 K oMod (rI (fun _ j => 0 < j) fun i j => .int (i % j)) := by
  intro F H x y a b d Q ra rb e q
  unfold oMod at e; split at e
  · split at e
    · rename_i i j h
      cases e; simp only [RV] at ra rb
      exact ⟨_, _, ra, rb, h, q _ F H Grow.refl (by simp only [RV])⟩
    · cases e
  · cases e
theorem p_pow : P2 K oPow (rI CPow fun i j => .int (i ^ j.toNat)) := by
  intro F H x y a b d Q ra rb e q
  unfold oPow at e; split at e
  · split at e
    · rename_i i j h
      cases e; simp only [RV] at ra rb
      exact ⟨_, _, ra, rb, ⟨h.1, by omega, by omega⟩, q _ F H Grow.refl (by simp only [RV])⟩
    · cases e
  · cases e
mutual
def toPy : D → PyData
  | .non => .none
  | .bl b => .bool b
  | .int i => .int i
  | .str l => .str (S l)
  | .tup l => .tuple (toPys l)
  | .lst l => .list (toPys l)
  | .ins _ _ _ => .none
  | .own _ _ => .none
  | .exn _ _ _ => .none
  | .dic _ => .none
  | .exv _ _ _ => .none
  | .scr _ => .none
def toPys : List D → List PyData
  | [] => []
  | d :: l => toPy d :: toPys l
end
theorem S_inj {l m : List Nat} : S l = S m ↔ l = m := ⟨fun h => by have := congrArg (fun z : Str => z.cps.toList) h; exact this, fun h => by rw [h]⟩
theorem S_beq (l m : List Nat) : (S l == S m) = (l == m) := by
  by_cases h : l = m
  · subst h; simp
  · have h' : ¬ S l = S m := fun z => h (S_inj.mp z)
    rw [beq_eq_false_iff_ne.mpr h, beq_eq_false_iff_ne.mpr h']
mutual
theorem eqv_py : ∀ {n m : Nat} {a b : D}, okD n a = true → okD m b = true → PyData.eqv (toPy a) (toPy b) = a.eqv b
  | n, m, a, b, ha, hb => by
    match a, b, n, m, ha, hb with
    | .tup l, .tup r, n + 1, m + 1, ha, hb => simp only [toPy, PyData.eqv, D.eqv]; exact eqvs_py (by simpa [okD] using ha) (by simpa [okD] using hb)
    | .lst l, .lst r, n + 1, m + 1, ha, hb => simp only [toPy, PyData.eqv, D.eqv]; exact eqvs_py (by simpa [okD] using ha) (by simpa [okD] using hb)
    | .tup _, _, 0, _, ha, _ => simp [okD] at ha
    | .lst _, _, 0, _, ha, _ => simp [okD] at ha
    | _, .tup _, _, 0, _, hb => simp [okD] at hb
    | _, .lst _, _, 0, _, hb => simp [okD] at hb
    | .ins _ _ _, _, _, _, ha, _ => simp [okD] at ha
    | .own _ _, _, _, _, ha, _ => simp [okD] at ha
    | .exn _ _ _, _, _, _, ha, _ => simp [okD] at ha
    | .dic _, _, _, _, ha, _ => simp [okD] at ha
    | .exv _ _ _, _, _, _, ha, _ => simp [okD] at ha
    | .scr _, _, _, _, ha, _ => simp [okD] at ha
    | _, .ins _ _ _, _, _, _, hb => simp [okD] at hb
    | _, .own _ _, _, _, _, hb => simp [okD] at hb
    | _, .exn _ _ _, _, _, _, hb => simp [okD] at hb
    | _, .dic _, _, _, _, hb => simp [okD] at hb
    | _, .exv _ _ _, _, _, _, hb => simp [okD] at hb
    | _, .scr _, _, _, _, hb => simp [okD] at hb
    | .str x, .str y, _, _, _, _ => simp only [toPy, PyData.eqv, D.eqv]; exact S_beq x y
    | .non, .non, _, _, _, _ => simp [toPy, PyData.eqv, D.eqv]
    | .non, .bl _, _, _, _, _ => simp [toPy, PyData.eqv, D.eqv]
    | .non, .int _, _, _, _, _ => simp [toPy, PyData.eqv, D.eqv]
    | .non, .str _, _, _, _, _ => simp [toPy, PyData.eqv, D.eqv]
    | .non, .tup _, _, _, _, _ => simp [toPy, PyData.eqv, D.eqv]
    | .non, .lst _, _, _, _, _ => simp [toPy, PyData.eqv, D.eqv]
    | .bl _, .non, _, _, _, _ => simp [toPy, PyData.eqv, D.eqv]
    | .bl _, .bl _, _, _, _, _ => simp [toPy, PyData.eqv, D.eqv]
    | .bl _, .int _, _, _, _, _ => simp [toPy, PyData.eqv, D.eqv]
    | .bl _, .str _, _, _, _, _ => simp [toPy, PyData.eqv, D.eqv]
    | .bl _, .tup _, _, _, _, _ => simp [toPy, PyData.eqv, D.eqv]
    | .bl _, .lst _, _, _, _, _ => simp [toPy, PyData.eqv, D.eqv]
    | .int _, .non, _, _, _, _ => simp [toPy, PyData.eqv, D.eqv]
    | .int _, .bl _, _, _, _, _ => simp [toPy, PyData.eqv, D.eqv]
    | .int _, .int _, _, _, _, _ => simp [toPy, PyData.eqv, D.eqv]
    | .int _, .str _, _, _, _, _ => simp [toPy, PyData.eqv, D.eqv]
    | .int _, .tup _, _, _, _, _ => simp [toPy, PyData.eqv, D.eqv]
    | .int _, .lst _, _, _, _, _ => simp [toPy, PyData.eqv, D.eqv]
    | .str _, .non, _, _, _, _ => simp [toPy, PyData.eqv, D.eqv]
    | .str _, .bl _, _, _, _, _ => simp [toPy, PyData.eqv, D.eqv]
    | .str _, .int _, _, _, _, _ => simp [toPy, PyData.eqv, D.eqv]
    | .str _, .tup _, _, _, _, _ => simp [toPy, PyData.eqv, D.eqv]
    | .str _, .lst _, _, _, _, _ => simp [toPy, PyData.eqv, D.eqv]
    | .tup _, .non, _, _, _, _ => simp [toPy, PyData.eqv, D.eqv]
    | .tup _, .bl _, _, _, _, _ => simp [toPy, PyData.eqv, D.eqv]
    | .tup _, .int _, _, _, _, _ => simp [toPy, PyData.eqv, D.eqv]
    | .tup _, .str _, _, _, _, _ => simp [toPy, PyData.eqv, D.eqv]
    | .tup _, .lst _, _, _, _, _ => simp [toPy, PyData.eqv, D.eqv]
    | .lst _, .non, _, _, _, _ => simp [toPy, PyData.eqv, D.eqv]
    | .lst _, .bl _, _, _, _, _ => simp [toPy, PyData.eqv, D.eqv]
    | .lst _, .int _, _, _, _, _ => simp [toPy, PyData.eqv, D.eqv]
    | .lst _, .str _, _, _, _, _ => simp [toPy, PyData.eqv, D.eqv]
    | .lst _, .tup _, _, _, _, _ => simp [toPy, PyData.eqv, D.eqv]
theorem eqvs_py : ∀ {n m : Nat} {a b : List D}, (∀ x ∈ a, okD n x = true) → (∀ x ∈ b, okD m x = true) → PyData.eqvAll (toPys a) (toPys b) = eqvs a b
  | _, _, [], [], _, _ => by simp [toPys, PyData.eqvAll, eqvs]
  | _, _, [], _ :: _, _, _ => by simp [toPys, PyData.eqvAll, eqvs]
  | _, _, _ :: _, [], _, _ => by simp [toPys, PyData.eqvAll, eqvs]
  | n, m, x :: a, y :: b, ha, hb => by
    simp only [toPys, PyData.eqvAll, eqvs]
    rw [eqv_py (ha x List.mem_cons_self) (hb y List.mem_cons_self), eqvs_py (fun z hz => ha z (List.mem_cons_of_mem _ hz)) (fun z hz => hb z (List.mem_cons_of_mem _ hz))]
end
theorem strOk_S {l : List Nat} (h : chars l) : PyData.strOk (S l) = true := by
  unfold PyData.strOk S
  rw [show (Array.all (⟨l.toArray⟩ : Str).cps fun x => decide (x < 0x110000)) = l.all fun x => decide (x < 0x110000) from by simp]
  rw [List.all_eq_true]
  exact fun x hx => decide_eq_true (h x hx)
mutual
theorem dp_of : ∀ {n : Nat} {v : V} {d : D}, okD n d = true → RV K F H v d → Dp K H v (toPy d) ∧ (toPy d).canLay0 = true ∧ (toPy d).depth ≤ n
  | n, v, .non, _, r => by simp only [RV] at r; subst r; exact ⟨.non, by simp [toPy, PyData.canLay0], by simp [toPy, PyData.depth]⟩
  | n, v, .bl b, _, r => by simp only [RV] at r; subst r; exact ⟨.bl b, by simp [toPy, PyData.canLay0], by simp [toPy, PyData.depth]⟩
  | n, v, .int b, _, r => by simp only [RV] at r; subst r; exact ⟨.int b, by simp [toPy, PyData.canLay0], by simp [toPy, PyData.depth]⟩
  | n, v, .str l, _, r => by simp only [RV] at r; obtain ⟨rfl, c⟩ := r; exact ⟨.str _, by simp only [toPy, PyData.canLay0]; exact strOk_S c, by simp [toPy, PyData.depth]⟩
  | 0, v, .tup l, h, _ => by simp [okD] at h
  | 0, v, .lst l, h, _ => by simp [okD] at h
  | n + 1, v, .tup l, h, r => by
    simp only [RV] at r
    obtain ⟨a, vs, rfl, sq, rs⟩ := r
    obtain ⟨h1, h2, h3⟩ := dps_of (n := n) (by simpa [okD] using h) rs
    exact ⟨.tup sq.seq h1, by simp only [toPy, PyData.canLay0]; exact h2, by simp only [toPy, PyData.depth]; omega⟩
  | n + 1, v, .lst l, h, r => by
    simp only [RV] at r
    obtain ⟨a, vs, rfl, sq, rs⟩ := r
    obtain ⟨h1, h2, h3⟩ := dps_of (n := n) (by simpa [okD] using h) rs
    exact ⟨.lst sq.seq h1, by simp only [toPy, PyData.canLay0]; exact h2, by simp only [toPy, PyData.depth]; omega⟩
  | n, v, .ins _ _ _, h, _ => by simp [okD] at h
  | n, v, .own _ _, h, _ => by simp [okD] at h
  | n, v, .exn _ _ _, h, _ => by simp [okD] at h
  | n, v, .dic _, h, _ => by simp [okD] at h
  | n, v, .exv _ _ _, h, _ => by simp [okD] at h
  | n, v, .scr _, h, _ => by simp [okD] at h
theorem dps_of : ∀ {n : Nat} {vs : List V} {ds : List D}, (∀ x ∈ ds, okD n x = true) → RVs K F H vs ds → DpAll K H vs (toPys ds) ∧ PyData.canLayAll0 (toPys ds) = true ∧ PyData.depthAll (toPys ds) ≤ n
  | n, [], [], _, _ => ⟨.nil, by simp [toPys, PyData.canLayAll0], by simp [toPys, PyData.depthAll]⟩
  | n, v :: vs, d :: ds, h, r => by
    simp only [RVs] at r
    obtain ⟨a1, a2, a3⟩ := dp_of (h d List.mem_cons_self) r.1
    obtain ⟨b1, b2, b3⟩ := dps_of (fun z hz => h z (List.mem_cons_of_mem _ hz)) r.2
    exact ⟨.cons a1 b1, by simp only [toPys, PyData.canLayAll0, a2, b2]; rfl, by simp only [toPys, PyData.depthAll]; omega⟩
  | _, [], _ :: _, _, r => by simp only [RVs] at r
  | _, _ :: _, [], _, r => by simp only [RVs] at r
end
theorem p_eq : P2 K oEq (rEqD K) := by
  intro F H x y a b d Q ra rb e q
  unfold oEq at e; split at e
  · rename_i h
    rw [Bool.and_eq_true] at h
    cases e
    obtain ⟨a1, a2, a3⟩ := dp_of h.1 ra
    obtain ⟨b1, b2, b3⟩ := dp_of h.2 rb
    refine ⟨_, _, a1, b1, by unfold SeqAt.shaped; rw [a2, decide_eq_true (by omega)]; rfl, by unfold SeqAt.shaped; rw [b2, decide_eq_true (by omega)]; rfl, ?_⟩
    rw [eqv_py h.1 h.2]
    exact q _ F H Grow.refl (by simp only [RV])
  · cases e
theorem p_ne : P2 K oNe (rNeD K) := by
  intro F H x y a b d Q ra rb e q
  unfold oNe at e; split at e
  · rename_i h
    rw [Bool.and_eq_true] at h
    cases e
    obtain ⟨a1, a2, a3⟩ := dp_of h.1 ra
    obtain ⟨b1, b2, b3⟩ := dp_of h.2 rb
    refine ⟨_, _, a1, b1, by unfold SeqAt.shaped; rw [a2, decide_eq_true (by omega)]; rfl, by unfold SeqAt.shaped; rw [b2, decide_eq_true (by omega)]; rfl, ?_⟩
    rw [eqv_py h.1 h.2]
    exact q _ F H Grow.refl (by simp only [RV])
  · cases e
theorem RV.isN {v : V} {d : D} (r : RV K F H v d) : decide (v = .non) = d.isN := by
  cases d with
  | non => simp only [RV] at r; subst r; rfl
  | bl b => simp only [RV] at r; subst r; rfl
  | int b => simp only [RV] at r; subst r; rfl
  | str b => simp only [RV] at r; rw [r.1]; rfl
  | tup l => simp only [RV] at r; obtain ⟨a, vs, rfl, _⟩ := r; rfl
  | lst l => simp only [RV] at r; obtain ⟨a, vs, rfl, _⟩ := r; rfl
  | ins c ns l => simp only [RV] at r; obtain ⟨a, dx, vs, rfl, _⟩ := r; rfl
  | own t d => simp only [RV] at r
  | exn c ns d => simp only [RV] at r
  | dic ns => simp only [RV] at r; obtain ⟨a, rfl, _⟩ := r; rfl
  | exv c ns d => simp only [RV] at r; obtain ⟨a, dd, fs, rfl, _⟩ := r; rfl
  | scr ns => simp only [RV] at r; obtain ⟨a, rfl, _⟩ := r; rfl
theorem flat_of {v : V} {d : D} (r : RV K F H v d) (h : d.flat = true) : flatV v = true := by
  cases d with
  | non => simp only [RV] at r; subst r; rfl
  | bl b => simp only [RV] at r; subst r; rfl
  | int b => simp only [RV] at r; subst r; rfl
  | str b => simp only [RV] at r; rw [r.1]; rfl
  | _ => cases h
theorem eqV_of {v w : V} {a b : D} (ra : RV K F H v a) (rb : RV K F H w b) (ha : a.flat = true) (hb : b.flat = true) : eqV v w = a.eqv b := by
  cases a <;> cases b <;> first | (cases ha; done) | (cases hb; done) | skip
  all_goals simp only [RV] at ra rb
  all_goals first | (obtain ⟨rfl, _⟩ := ra) | subst ra
  all_goals first | (obtain ⟨rfl, _⟩ := rb) | subst rb
  all_goals first | rfl | (simp [eqV, D.eqv]; done) | (simp only [eqV, D.eqv]; exact S_beq _ _)
theorem inV_of {v : V} {a : D} (ra : RV K F H v a) (ha : a.flat = true) : ∀ {vs : List V} {ds : List D}, RVs K F H vs ds → ds.all D.flat = true → vs.all flatV = true ∧ inV v vs = inD a ds
  | [], [], _, _ => ⟨rfl, rfl⟩
  | w :: vs, d :: ds, r, h => by
    simp only [RVs] at r
    rw [List.all_cons, Bool.and_eq_true] at h
    obtain ⟨h1, h2⟩ := inV_of ra ha r.2 h.2
    refine ⟨by rw [List.all_cons, flat_of r.1 h.1, h1]; rfl, ?_⟩
    unfold inV inD at h2 ⊢
    rw [List.any_cons, List.any_cons, h2, eqV_of r.1 ra h.1 ha]
  | [], _ :: _, r, _ => by simp only [RVs] at r
  | _ :: _, [], r, _ => by simp only [RVs] at r
theorem p_inQ : P2 K oInQ (rIn K false) := by
  intro F H x y a b d Q ra rb e q
  unfold oInQ at e; split at e
  · split at e
    · rename_i h
      rw [Bool.and_eq_true] at h
      cases e; simp only [RV] at rb
      obtain ⟨p, vs, rfl, sq, rs⟩ := rb
      obtain ⟨h1, h2⟩ := inV_of ra h.1 rs h.2
      refine ⟨p, vs, rfl, .inr sq.seq, flat_of ra h.1, h1, ?_⟩
      rw [if_neg (by decide), h2]
      exact q _ F H Grow.refl (by simp only [RV])
    · cases e
  · split at e
    · rename_i h
      rw [Bool.and_eq_true] at h
      cases e; simp only [RV] at rb
      obtain ⟨p, vs, rfl, sq, rs⟩ := rb
      obtain ⟨h1, h2⟩ := inV_of ra h.1 rs h.2
      refine ⟨p, vs, rfl, .inl sq.seq, flat_of ra h.1, h1, ?_⟩
      rw [if_neg (by decide), h2]
      exact q _ F H Grow.refl (by simp only [RV])
    · cases e
  · cases e
theorem scr_sq {a : Addr} {ns : List Int} (h : (F a ∧ Rd H a (.lst (ns.map V.int))) ∨ SqL K (fun _ => none) a (ns.map V.int)) : SqL K H a (ns.map V.int) := by
  rcases h with h | (z | ⟨o, z⟩) | h
  · exact .inl h.2
  · cases z
  · cases z
  · exact .inr h
theorem p_neScr : P2 K oNeScr (rNeD K) := by
  intro F H x y a b d Q ra rb e q
  unfold oNeScr at e; split at e
  · cases e
    rename_i ns
    simp only [RV] at ra rb
    obtain ⟨p, rfl, sq⟩ := ra
    replace sq := scr_sq sq
    obtain ⟨p2, vs, rfl, sq2, rs⟩ := rb
    cases vs with
    | cons v vs => simp only [RVs] at rs
    | nil =>
      refine ⟨.list (ns.map PyData.int), .list [], .lst sq (_root_.Q.dpAll_ints ns), .lst sq2.seq .nil, PySem.W.ke_shaped_ints ns, rfl, ?_⟩
      have : PyData.eqv (.list (ns.map PyData.int)) (.list []) = ns.isEmpty := by cases ns <;> simp [PyData.eqv, PyData.eqvAll]
      rw [this]
      exact q _ F H Grow.refl (by simp only [RV])
  · cases e
theorem p_ixScr : P2 K oIxScr (rIxL K) := by
  intro F H x y a b d Q ra rb e q
  unfold oIxScr at e; split at e
  · rename_i ns i
    simp only [RV] at ra rb
    obtain ⟨p, rfl, sq⟩ := ra
    replace sq := scr_sq sq
    obtain ⟨k, h1, rfl⟩ := Option.map_eq_some_iff.mp e
    refine ⟨_, _, _, .int k, rfl, rb, sq, ?_, q _ F H Grow.refl (by simp only [RV])⟩
    unfold atD at h1
    obtain ⟨j, h2, h3⟩ := Option.bind_eq_some_iff.mp h1
    unfold atI
    rw [List.length_map, show ixN ns.length i = ixD ns.length i from rfl, h2, Option.bind_some, List.getElem?_map, h3]
    rfl
  · cases e
theorem p_lenScr : PN K oLenScr (fun xs H Q => ∃ p ys, xs = [.ref p] ∧ (SqL K H p ys ∨ SqT K H p ys) ∧ Q (.int ys.length) H) := by
  intro F H xs ds d Q r e q
  unfold oLenScr at e; split at e
  · cases e
    obtain ⟨v, rfl, rv⟩ := r.one
    simp only [RV] at rv
    obtain ⟨p, rfl, sq⟩ := rv
    replace sq := scr_sq sq
    exact ⟨p, _, rfl, .inl sq, by rw [List.length_map]; exact q _ F H Grow.refl (by simp only [RV])⟩
  · cases e
end
end U
namespace U
open PySem PySem.Spec PyProof.Rows L2
section
variable {K : PySem.W.Frag} {B : Bx} {F F' : Fz} {H H' : Hp} {W : WX}
theorem RV.newTup {p : Addr} {vs : List V} {ds : List D} (hp : H p = none) (r : RVs K F H vs ds) : RV K (fun a => F a ∨ a = p) (upd H p (.tup vs)) (.ref p) (.tup ds) := by
  simp only [RV]
  exact ⟨p, vs, rfl, .inl ⟨.inr rfl, .inl upd_same⟩, r.grow (Grow.new hp)⟩
def P2M (K : PySem.W.Frag) (o : D → D → Option D) (r : R2) : Prop := ∀ (F : Fz) (H : Hp) (x y : V) (a b d : D) (Q : VK), RV K F H x a → RV K F H y b → o a b = some d →
  (∀ p vs ds, d = .own 0 (.lst ds) → H p = none → RVs K F H vs ds → Q (.ref p) (upd H p (.lst vs))) → r x y H Q
def P1M (K : PySem.W.Frag) (o : D → Option D) (r : V → Hp → VK → Prop) : Prop := ∀ (F : Fz) (H : Hp) (x : V) (a d : D) (Q : VK), RV K F H x a → o a = some d →
  (∀ p vs ds, d = .own 0 (.lst ds) → H p = none → RVs K F H vs ds → Q (.ref p) (upd H p (.lst vs))) → r x H Q
def PNM (K : PySem.W.Frag) (o : List D → Option D) (r : List V → Hp → VK → Prop) : Prop := ∀ (F : Fz) (H : Hp) (x : List V) (a : List D) (d : D) (Q : VK), RVs K F H x a → o a = some d →
  (∀ p vs ds, d = .own 0 (.lst ds) → H p = none → RVs K F H vs ds → Q (.ref p) (upd H p (.lst vs))) → r x H Q
theorem new_lst {σ : L2.St} {ρ : Env} {A A1 : List Addr} {F1 : Fz} {H1 : Hp} {p : Addr} {vs : List V} {ds : List D} (s : Step A F H A1 F1 H1) (r : Rep K F1 H1 B σ ρ A1) (hp : H1 p = none) (rs : RVs K F1 H1 vs ds) :
    Rep K F1 (upd H1 p (.lst vs)) B σ ρ A1 ∧ OV K F1 (upd H1 p (.lst vs)) (.ref p) (.own 0 (.lst ds)) [p] ∧ (A1 ++ [p]).Nodup ∧ (∀ a ∈ [p], ¬ F1 a) ∧ Step A F H (A1 ++ [p]) F1 (upd H1 p (.lst vs)) := by
  have g : Grow F1 H1 F1 (upd H1 p (.lst vs)) := Grow.raw hp
  have hA : p ∉ A1 := fun z => by
    obtain ⟨o, q⟩ := r.sl.there p z
    rw [hp] at q; cases q
  have hF : ¬ F1 p := fun z => by
    obtain ⟨o, q⟩ := r.dm p z
    rw [hp] at q; cases q
  have s2 := s.trans (g.step (A := A1))
  refine ⟨r.grow g, ?_, ?_, fun a ha => ?_, ⟨s2.mono, s2.keep, s2.froz, fun a ha => ?_⟩⟩
  · simp only [OV]
    exact ⟨p, vs, [], rfl, upd_same, rfl, (rs.grow g).ovs⟩
  · rw [List.nodup_append]
    exact ⟨r.nd, by simp, fun a ha b hb z => hA (by rw [List.mem_singleton] at hb; rw [← hb, ← z]; exact ha)⟩
  · rw [List.mem_singleton] at ha; rw [ha]; exact hF
  · rcases List.mem_append.mp ha with z | z
    · exact s2.own a z
    · rw [List.mem_singleton] at z
      subst z
      by_cases q : a ∈ A
      · exact .inl q
      · refine .inr ?_
        cases z : H a with
        | none => rfl
        | some o => rw [s.keep a o z q] at hp; cases hp
theorem w_opM {o : D → D → Option D} {r : R2} {f g : E} (p : P2M K o r) (σ : L2.St) (H : Hp) (Q : VK) (h : tDM K B W (eOp o f g) σ H Q) : tOp r (tDE K B W f) (tDE K B W g) σ H Q := by
  obtain ⟨F, ρ, A, rp, h⟩ := h
  refine ⟨F, ρ, A, rp, ?_⟩
  unfold eOp at h
  cases e1 : f ρ with
  | bad => rw [e1] at h; exact h
  | exc x ρ1 => rw [e1] at h; exact h
  | ok d1 ρ1 =>
    rw [e1] at h
    intro v1 F1 H1 A1 r1 v1r s1
    refine ⟨F1, ρ1, A1, r1, ?_⟩
    simp only [ER.bind] at h
    cases e2 : g ρ1 with
    | bad => rw [e2] at h; exact h
    | exc x ρ2 => rw [e2] at h; exact h.before s1
    | ok d2 ρ2 =>
      rw [e2] at h
      intro v2 F2 H2 A2 r2 v2r s2
      obtain ⟨d, ed, h⟩ := ok_inv h
      refine p F2 H2 v1 v2 d1 d2 d Q (v1r.step r1 s2) v2r ed fun q vs ds ed hq rs => ?_
      subst ed
      obtain ⟨k1, k2, k3, k4, k5⟩ := new_lst (s1.trans s2) r2 hq rs
      exact h _ _ _ _ _ k1 k2 k3 k4 k5
theorem w_nM {o : List D → Option D} {r : List V → Hp → VK → Prop} {f : As} (p : PNM K o r) (σ : L2.St) (H : Hp) (Q : VK) (h : tDM K B W (eN o f) σ H Q) : tCB r (tDA K B W f) σ H Q := by
  obtain ⟨F, ρ, A, rp, h⟩ := h
  refine ⟨F, ρ, A, rp, ?_⟩
  unfold eN at h
  cases e1 : f ρ with
  | bad => rw [e1] at h; exact h
  | exc x ρ1 => rw [e1] at h; exact h
  | ok d1 ρ1 =>
    rw [e1] at h
    intro v1 F1 H1 A1 r1 v1r s1
    obtain ⟨d, ed, h⟩ := ok_inv h
    refine p F1 H1 v1 d1 d Q v1r ed fun q vs ds ed hq rs => ?_
    subst ed
    obtain ⟨k1, k2, k3, k4, k5⟩ := new_lst s1 r1 hq rs
    exact h _ _ _ _ _ k1 k2 k3 k4 k5
theorem w_tup {f : As} (σ : L2.St) (H : Hp) (Q : VK) (h : tDE K B W (eN mkTup f) σ H Q) : tTup (tDA K B W f) σ H Q := by
  refine w_n (r := fun xs H1 Q => xs.length ≤ sizeLine ∧ ∀ p, H1 p = none → Q (.ref p) (upd H1 p (.tup xs))) ?_ σ H Q h
  intro F H xs ds d Q r e q
  unfold mkTup at e; split at e
  · rename_i hl
    cases e
    exact ⟨by rw [r.len, sizeLine_eq]; exact hl, fun p hp => q _ _ _ (Grow.new hp) (RV.newTup hp r)⟩
  · cases e
theorem w_lst {f : As} (σ : L2.St) (H : Hp) (Q : VK) (h : tDM K B W (eN mkLst f) σ H Q) : tLst (tDA K B W f) σ H Q := by
  refine w_nM (r := fun xs H1 Q => xs.length ≤ sizeLine ∧ ∀ p, H1 p = none → Q (.ref p) (upd H1 p (.lst xs))) ?_ σ H Q h
  intro F H xs ds d Q r e q
  unfold mkLst at e; split at e
  · rename_i hl
    cases e
    exact ⟨by rw [r.len, sizeLine_eq]; exact hl, fun p hp => q p xs ds rfl hp r⟩
  · cases e
theorem S_append (l m : List Nat) : S l ++ S m = S (l ++ m) := by
  show Str.append (S l) (S m) = S (l ++ m)
  simp [Str.append, S]
theorem RV.strS {l : List Nat} (h : chars l) : RV K F H (.str (S l)) (.str l) := by simp only [RV]; exact ⟨trivial, h⟩
def rCatR : R2 := fun x y H Q => ∃ l b xs zs, x = .ref l ∧ y = .ref b ∧ H l = some (.lst xs) ∧ H b = some (.lst zs) ∧ xs.length + zs.length ≤ sizeLine ∧ ∀ p, H p = none → Q (.ref p) (upd H p (.lst (xs ++ zs)))
theorem op_catR {X : Cx} : OpR X (binaryOp .Add) rCatR := op_cat
theorem RVs.app : ∀ {vs ws : List V} {ds es : List D}, RVs K F H vs ds → RVs K F H ws es → RVs K F H (vs ++ ws) (ds ++ es)
  | [], _, [], _, _, h => h
  | _ :: _, _, _ :: _, _, h, h' => by
    simp only [RVs] at h
    simp only [List.cons_append, RVs]
    exact ⟨h.1, RVs.app h.2 h'⟩
  | [], _, _ :: _, _, h, _ => by simp only [RVs] at h
  | _ :: _, _, [], _, h, _ => by simp only [RVs] at h
theorem p_catL : P2M K oCatL rCatR := by
  intro F H x y a b d Q ra rb e q
  unfold oCatL at e; split at e
  · split at e
    · rename_i h
      cases e; simp only [RV] at ra rb
      obtain ⟨p, vs, rfl, sq, rs⟩ := ra
      obtain ⟨p2, vs2, rfl, sq2, rs2⟩ := rb
      exact ⟨_, _, _, _, rfl, rfl, sq.2, sq2.2, by rw [rs.len, rs2.len, sizeLine_eq]; exact h, fun p hp => q p _ _ rfl hp (rs.app rs2)⟩
    · cases e
  · cases e
theorem RVs.rep {vs : List V} {ds : List D} (r : RVs K F H vs ds) : ∀ n : Nat, RVs K F H (List.replicate n vs).flatten (List.replicate n ds).flatten
  | 0 => by simp [RVs]
  | n + 1 => by
    rw [List.replicate_succ, List.replicate_succ, List.flatten_cons, List.flatten_cons]
    exact r.app (RVs.rep r n)
theorem RVs.drop : ∀ {vs : List V} {ds : List D} (n : Nat), RVs K F H vs ds → RVs K F H (vs.drop n) (ds.drop n)
  | _, _, 0, h => h
  | [], [], _ + 1, h => h
  | _ :: _, _ :: _, n + 1, h => by simp only [RVs] at h; exact RVs.drop n h.2
  | [], _ :: _, _, h => by simp only [RVs] at h
  | _ :: _, [], _, h => by simp only [RVs] at h
theorem RVs.take : ∀ {vs : List V} {ds : List D} (n : Nat), RVs K F H vs ds → RVs K F H (vs.take n) (ds.take n)
  | _, _, 0, _ => by simp only [List.take_zero, RVs]
  | [], [], _ + 1, h => h
  | _ :: _, _ :: _, n + 1, h => by simp only [RVs] at h; simp only [List.take_succ_cons, RVs]; exact ⟨h.1, RVs.take n h.2⟩
  | [], _ :: _, _, h => by simp only [RVs] at h
  | _ :: _, [], _, h => by simp only [RVs] at h
theorem RVs.reverse : ∀ {vs : List V} {ds : List D}, RVs K F H vs ds → RVs K F H vs.reverse ds.reverse
  | [], [], h => h
  | _ :: _, _ :: _, h => by
    simp only [RVs] at h
    rw [List.reverse_cons, List.reverse_cons]
    exact (RVs.reverse h.2).snoc h.1
  | [], _ :: _, h => by simp only [RVs] at h
  | _ :: _, [], h => by simp only [RVs] at h
theorem sIx_eq (n d : Nat) (o : Option Int) : HT.sIx n d o = sIxD n d o := by cases o <;> rfl
theorem ixN_eq (n : Nat) (i : Int) : ixN n i = ixD n i := rfl
theorem RVs.cut {vs : List V} {ds : List D} (r : RVs K F H vs ds) (lo hi : Option Int) : RVs K F H (cutV vs lo hi) (cutD ds lo hi) := by
  unfold cutV cutD
  rw [sIx_eq, sIx_eq, r.len]
  exact (r.drop _).take _
theorem atD_RVs {vs : List V} {ds : List D} {i : Int} {d : D} (r : RVs K F H vs ds) (e : atD ds i = some d) : ∃ v, atI vs i = some v ∧ RV K F H v d := by
  unfold atD at e
  unfold atI
  rw [ixN_eq, r.len]
  obtain ⟨j, h1, h2⟩ := Option.bind_eq_some_iff.mp e
  obtain ⟨v, h3, h4⟩ := getElem?_RVs r h2
  exact ⟨v, by rw [h1]; exact h3, h4⟩
theorem p_ixL : P2 K oIxL (rIxL K) := by
  intro F H x y a b d Q ra rb e q
  unfold oIxL at e; split at e
  · simp only [RV] at ra rb
    obtain ⟨p, vs, rfl, sq, rs⟩ := ra
    obtain ⟨v, h1, h2⟩ := atD_RVs rs e
    exact ⟨_, _, _, _, rfl, rb, sq.seq, h1, q _ F H Grow.refl h2⟩
  · cases e
theorem p_max2 : PN K oMax2 (fun xs H Q => ∃ i j, xs = [.int i, .int j] ∧ Q (.int (if j > i then j else i)) H) := by
  intro F H xs ds d Q r e q
  unfold oMax2 at e; split at e
  · cases e
    obtain ⟨v, w, rfl, r1, r2⟩ := r.two
    simp only [RV] at r1 r2
    exact ⟨_, _, by rw [r1, r2], q _ F H Grow.refl (by simp only [RV])⟩
  · cases e
theorem p_int : PN K oInt (fun xs H Q => (∃ i, xs = [.int i] ∧ Q (.int i) H) ∨ ∃ k, xs = [.bl k] ∧ Q (.int (if k then 1 else 0)) H) := by
  intro F H xs ds d Q r e q
  unfold oInt at e; split at e
  · cases e
    obtain ⟨v, rfl, r1⟩ := r.one
    simp only [RV] at r1
    exact .inl ⟨_, by rw [r1], q _ F H Grow.refl (by simp only [RV])⟩
  · cases e
    obtain ⟨v, rfl, r1⟩ := r.one
    simp only [RV] at r1
    exact .inr ⟨_, by rw [r1], q _ F H Grow.refl (by simp only [RV])⟩
  · cases e
end
end U
namespace U
open PySem PySem.Spec PyProof.Rows L2
section
variable {K : PySem.W.Frag} {B : Bx} {F F' : Fz} {H H' : Hp} {W : WX}
def tDO (K : PySem.W.Frag) (B : Bx) (W : WX) (f : Env → OR) : TO := fun σ H Q => ∃ F ρ A, Rep K F H B σ ρ A ∧ match f ρ with
  | .ok o ρ' => ∀ F' H' A', Rep K F' H' B σ ρ' A' → Step A F H A' F' H' → Q o H'
  | .exc x ρ' => xendE K B W σ A F H x ρ'
  | .bad => False
theorem _root_.L2.PO.weak {X : Cx} {e : Option Expr} {t t' : TO} (h : PO X e t) (w : ∀ σ H Q, t' σ H Q → t σ H Q) : PO X e t' := ⟨fun pins s σ H Q I q => h.run pins s σ H Q I (w σ H Q q)⟩
theorem w_posome {f : E} (σ : L2.St) (H : Hp) (Q : Option Int → Hp → Prop) (h : tDO K B W (part (some f)) σ H Q) : tPart (tDE K B W f) σ H Q := by
  obtain ⟨F, ρ, A, rp, h⟩ := h
  refine ⟨F, ρ, A, rp, ?_⟩
  simp only [part] at h
  cases e1 : f ρ with
  | bad => rw [e1] at h; exact h
  | exc x ρ1 => rw [e1] at h; exact h
  | ok d1 ρ1 =>
    rw [e1] at h
    intro v1 F1 H1 A1 r1 v1r s1
    cases d1 with
    | int i => simp only [RV] at v1r; exact ⟨i, v1r, h F1 H1 A1 r1 s1⟩
    | _ => exact h.elim
def P3 (K : PySem.W.Frag) (o : D → Option Int → Option Int → Option D) (r : V → Option Int → Option Int → Hp → VK → Prop) : Prop := ∀ (F : Fz) (H : Hp) (x : V) (l u : Option Int) (a d : D) (Q : VK), RV K F H x a → o a l u = some d → (∀ v F' H', Grow F H F' H' → RV K F' H' v d → Q v H') → r x l u H Q
def P3M (K : PySem.W.Frag) (o : D → Option Int → Option Int → Option D) (r : V → Option Int → Option Int → Hp → VK → Prop) : Prop := ∀ (F : Fz) (H : Hp) (x : V) (l u : Option Int) (a d : D) (Q : VK), RV K F H x a → o a l u = some d →
  (∀ p vs ds, d = .own 0 (.lst ds) → H p = none → RVs K F H vs ds → Q (.ref p) (upd H p (.lst vs))) → r x l u H Q
theorem w_slM {o : D → Option Int → Option Int → Option D} {r : V → Option Int → Option Int → Hp → VK → Prop} {f : E} {lo hi : Option E} (p : P3M K o r) (σ : L2.St) (H : Hp) (Q : VK) (h : tDM K B W (eSl o f lo hi) σ H Q) : tSl r (tDE K B W f) (tDO K B W (part lo)) (tDO K B W (part hi)) σ H Q := by
  obtain ⟨F, ρ, A, rp, h⟩ := h
  refine ⟨F, ρ, A, rp, ?_⟩
  unfold eSl at h
  cases e1 : f ρ with
  | bad => rw [e1] at h; exact h
  | exc x ρ1 => rw [e1] at h; exact h
  | ok d1 ρ1 =>
    rw [e1] at h
    intro v1 F1 H1 A1 r1 v1r s1
    refine ⟨F1, ρ1, A1, r1, ?_⟩
    simp only [ER.bind] at h
    cases e2 : part lo ρ1 with
    | bad => rw [e2] at h; exact h
    | exc x ρ2 => rw [e2] at h; exact h.before s1
    | ok l ρ2 =>
      rw [e2] at h
      simp only at h
      intro F2 H2 A2 r2 s2
      refine ⟨F2, ρ2, A2, r2, ?_⟩
      cases e3 : part hi ρ2 with
      | bad => rw [e3] at h; exact h
      | exc x ρ3 => rw [e3] at h; exact h.before (s1.trans s2)
      | ok u ρ3 =>
        rw [e3] at h
        intro F3 H3 A3 r3 s3
        obtain ⟨d, ed, h⟩ := ok_inv h
        refine p F3 H3 v1 l u d1 d Q ((v1r.step r1 s2).step r2 s3) ed fun q vs ds ed hq rs => ?_
        subst ed
        obtain ⟨k1, k2, k3, k4, k5⟩ := new_lst ((s1.trans s2).trans s3) r3 hq rs
        exact h _ _ _ _ _ k1 k2 k3 k4 k5
theorem p_slL : P3M K oSlL (rSlL K) := by
  intro F H x l u a d Q ra e q
  unfold oSlL at e; split at e
  · cases e; simp only [RV] at ra
    obtain ⟨p, vs, rfl, sq, rs⟩ := ra
    exact ⟨p, vs, rfl, sq.seq, fun p hp => q p _ _ rfl hp (rs.cut _ _)⟩
  · cases e
def PM1 (K : PySem.W.Frag) (o : D → D → Option D) (r : V → List V → Hp → VK → Prop) : Prop := ∀ (F : Fz) (H : Hp) (s : List Nat) (y : V) (b d : D) (Q : VK), chars s → RV K F H y b → o (.str s) b = some d → (∀ v F' H', Grow F H F' H' → RV K F' H' v d → Q v H') → r (.str (S s)) [y] H Q
theorem own_at {σ : L2.St} {ρ : Env} {A : List Addr} {i t : Nat} {l : List D} (r : Rep K F H B σ ρ A) (e : ρ[i]? = some (some (.own t (.lst l)))) : ∃ a vs A', σ[i]? = some (some (.ref a)) ∧ H a = some (.lst vs) ∧ a ∈ A ∧ OVs K F H vs l A' := by
  obtain ⟨v, A1, h1, h2, h3⟩ := r.sl.get e
  obtain ⟨o, a, rfl, m, _⟩ := h2.root
  simp only [OV] at o
  obtain ⟨a', vs, A', ev, hs, eA, ro⟩ := o
  cases ev
  exact ⟨a, vs, A', h1, hs, h3 a m, ro⟩
theorem OVs.snoc : ∀ {vs : List V} {ds : List D} {A : List Addr} {v : V} {d : D}, OVs K F H vs ds A → RV K F H v d → OVs K F H (vs ++ [v]) (ds ++ [d]) A
  | [], [], A, _, _, h, r => by
    simp only [OVs] at h
    subst h
    simp only [List.nil_append, OVs]
    exact ⟨[], [], r.own, rfl, rfl⟩
  | _ :: _, _ :: _, _, _, _, h, r => by
    simp only [OVs] at h
    obtain ⟨A1, A2, h1, h2, e⟩ := h
    simp only [List.cons_append, OVs]
    exact ⟨A1, A2, h1, h2.snoc r, e⟩
  | [], _ :: _, _, _, _, h, _ => by simp only [OVs] at h
  | _ :: _, [], _, _, _, h, _ => by simp only [OVs] at h
theorem OVs.len : ∀ {vs : List V} {ds : List D} {A : List Addr}, OVs K F H vs ds A → vs.length = ds.length
  | [], [], _, _ => rfl
  | _ :: _, _ :: _, _, h => by
    simp only [OVs] at h
    obtain ⟨A1, A2, h1, h2, e⟩ := h
    simp [OVs.len h2]
  | [], _ :: _, _, h => by simp only [OVs] at h
  | _ :: _, [], _, h => by simp only [OVs] at h
theorem OVs.get : ∀ {vs : List V} {ds : List D} {A : List Addr} {j : Nat} {d : D}, OVs K F H vs ds A → ds[j]? = some d → ∃ v A1, vs[j]? = some v ∧ OV K F H v d A1
  | _ :: _, _ :: _, _, 0, _, h, e => by
    simp only [OVs] at h
    obtain ⟨A1, A2, h1, h2, _⟩ := h
    simp at e; subst e
    exact ⟨_, A1, rfl, h1⟩
  | _ :: _, _ :: _, _, j + 1, _, h, e => by
    simp only [OVs] at h
    obtain ⟨A1, A2, h1, h2, _⟩ := h
    obtain ⟨v, A3, h3, h4⟩ := OVs.get h2 (j := j) (by simpa using e)
    exact ⟨v, A3, by simpa using h3, h4⟩
  | [], [], _, _, _, _, e => by simp at e
  | [], _ :: _, _, _, _, h, _ => by simp only [OVs] at h
  | _ :: _, [], _, _, _, h, _ => by simp only [OVs] at h
theorem OVs.atD {vs : List V} {ds : List D} {A : List Addr} {i : Int} {d : D} (o : OVs K F H vs ds A) (e : U.atD ds i = some d) (hm : d.isMut = false) : ∃ v, atI vs i = some v ∧ RV K F H v d := by
  unfold U.atD at e
  unfold atI
  rw [ixN_eq, OVs.len o]
  obtain ⟨j, h1, h2⟩ := Option.bind_eq_some_iff.mp e
  obtain ⟨v, A1, h3, h4⟩ := OVs.get o h2
  exact ⟨v, by rw [h1]; exact h3, (h4.plain hm).2⟩
theorem Rep.chg {σ : L2.St} {ρ : Env} {A : List Addr} {i t : Nat} {l l' : List D} {a : Addr} {vs vs' : List V} (r : Rep K F H B σ ρ A) (e : ρ[i]? = some (some (.own t (.lst l)))) (es : σ[i]? = some (some (.ref a))) (ha : H a = some (.lst vs))
    (ho : ∀ A', OVs K F H vs l A' → OVs K F H vs' l' A') : Rep K F (upd H a (.lst vs')) B σ (ρ.set i (some (.own t (.lst l')))) A ∧ Step A F H A F (upd H a (.lst vs')) := by
  obtain ⟨v, A1, L, R, h1, h2, h3, h4⟩ := r.sl.split e
  subst h3
  rw [es] at h1
  cases h1
  simp only [OVo] at h2
  obtain ⟨o, a', ev, m, p⟩ := h2.root
  cases ev
  simp only [OV] at o
  obtain ⟨a', vs0, A', ev, hs, eA, ro⟩ := o
  cases ev
  rw [ha] at hs
  cases hs
  subst eA
  have nf : ¬ F a := r.nf a (by simp)
  have nd := r.nd
  simp only [List.nodup_append, List.nodup_cons, List.mem_append, List.mem_cons] at nd
  have off : ∀ b o, (F b ∨ b ∈ L ∨ b ∈ R) → H b = some o → upd H a (.lst vs') b = some o := fun b o hb he => by
    rw [upd_ne]; exact he
    intro z; subst z
    rcases hb with hb | hb | hb
    · exact nf hb
    · exact nd.1.2.2 b hb b (.inl rfl) rfl
    · exact nd.2.2 b (.inr (.inl rfl)) b hb rfl
  have q := h4 (F' := F) (H' := upd H a (.lst vs')) (v' := some (.ref a)) (d' := some (.own t (.lst l'))) (A' := a :: A') (fun _ h => h) off (by
    simp only [OVo]
    refine OVp.tag ?_ rfl p
    simp only [OV]
    exact ⟨a, vs', A', rfl, upd_same, rfl, (ho A' ro).stay (fun _ h => h) fun b o hb he => by
      rw [upd_ne]; exact he
      intro z; subst z
      rcases hb with hb | hb
      · exact nf hb
      · exact nd.1.2.1.1 hb⟩)
  have ez : σ.set i (some (.ref a)) = σ := by
    apply List.ext_getElem?
    intro j
    by_cases c : i = j
    · subst c
      rw [List.getElem?_set_self (List.getElem?_eq_some_iff.mp es).1, es]
    · rw [List.getElem?_set_ne c]
  rw [ez] at q
  refine ⟨⟨q, r.nd, r.nf, fun b hb => ?_⟩, ⟨fun _ h => h, fun b o he n => ?_, fun b h => .inl h, fun b h => .inl h⟩⟩
  · by_cases c : b = a
    · subst c; exact absurd hb nf
    · rw [upd_ne c]; exact r.dm b hb
  · rw [upd_ne]; exact he
    intro z; subst z
    exact n (by simp)
theorem isOL_some {o : Option (Option D)} (h : isOL o = true) : ∃ t l, o = some (some (.own t (.lst l))) := by
  unfold isOL at h
  split at h
  · exact ⟨_, _, rfl⟩
  · cases h
theorem w_ixO {i : Nat} {f : E} (σ : L2.St) (H : Hp) (Q : VK) (h : tDE K B W (eIxO i f) σ H Q) : tOp _root_.Q.rIxM (tVar i) (tDE K B W f) σ H Q := by
  obtain ⟨F, ρ, A, rp, h⟩ := h
  unfold eIxO at h
  by_cases c : isOL ρ[i]? = true
  case neg => rw [if_neg c] at h; exact h.elim
  case pos =>
    rw [if_pos c] at h
    obtain ⟨t0, l0, e0⟩ := isOL_some c
    obtain ⟨a, vs0, A0, s0, h0, _, _⟩ := own_at rp e0
    refine ⟨.ref a, s0, F, ρ, A, rp, ?_⟩
    cases e1 : f ρ with
    | bad => rw [e1] at h; exact h
    | exc x ρ1 => rw [e1] at h; exact h
    | ok d1 ρ1 =>
      rw [e1] at h
      simp only [ER.bind] at h
      intro v1 F1 H1 A1 r1 v1r s1
      split at h
      · rename_i h1
        split at h1
        · rename_i t l k e2
          split at h1
          · rename_i d e3
            split at h1
            · cases h1
            · rename_i hm
              cases h1
              obtain ⟨a', vs, A2, s2, h2, _, o2⟩ := own_at r1 e2
              rw [s0] at s2
              cases s2
              simp only [RV] at v1r
              obtain ⟨v, h3, h4⟩ := OVs.atD o2 e3 (by simpa using hm)
              exact ⟨a, vs, k, v, rfl, v1r, h2, h3, h v F1 H1 A1 r1 h4 s1⟩
          · cases h1
        · cases h1
      · rename_i h1
        split at h1
        · split at h1
          · split at h1 <;> cases h1
          · cases h1
        · cases h1
      · exact h.elim
theorem OVs.setP : ∀ {vs : List V} {l : List D} {A : List Addr} {m : Nat} {v : V} {d : D}, allPlain l = true → OVs K F H vs l A → RV K F H v d → OVs K F H (vs.set m v) (l.set m d) A
  | [], [], _, _, _, _, _, h, _ => h
  | w :: vs, e :: l, A, 0, v, d, hp, h, r => by
    simp only [OVs] at h
    obtain ⟨A1, A2, h1, h2, e⟩ := h
    simp only [allPlain, Bool.and_eq_true, Bool.not_eq_true'] at hp
    obtain ⟨z1, _⟩ := h1.plain hp.1
    subst z1
    simp only [List.set_cons_zero, OVs]
    exact ⟨[], A2, r.own, h2, e⟩
  | w :: vs, e :: l, A, m + 1, v, d, hp, h, r => by
    simp only [OVs] at h
    obtain ⟨A1, A2, h1, h2, e⟩ := h
    simp only [allPlain, Bool.and_eq_true] at hp
    simp only [List.set_cons_succ, OVs]
    exact ⟨A1, A2, h1, OVs.setP hp.2 h2 r, e⟩
  | [], _ :: _, _, _, _, _, _, h, _ => by simp only [OVs] at h
  | _ :: _, [], _, _, _, _, _, h, _ => by simp only [OVs] at h
theorem w_putO {i : Nat} {k f : E} (D : Ends) (σ : L2.St) (H : Hp) (h : tDS K B W (sPutO i k f) D σ H) : tAsg (tDE K B W f) (gSub (tVar i) (tDE K B W k) rSetL) D σ H := by
  obtain ⟨F, ρ, A, rp, h⟩ := h
  refine ⟨F, ρ, A, rp, ?_⟩
  unfold sPutO at h
  cases e1 : f ρ with
  | bad => rw [e1] at h; exact h
  | exc x ρ1 => rw [e1] at h; exact xend.expr h
  | ok d1 ρ1 =>
    rw [e1] at h
    intro v1 F1 H1 A1 r1 v1r s1
    simp only [ER.binds] at h
    by_cases c : isOL ρ1[i]? = true
    case neg => rw [if_neg c] at h; exact h.elim
    case pos =>
      rw [if_pos c] at h
      obtain ⟨t0, l0, e0⟩ := isOL_some c
      obtain ⟨a, vs0, A0, s0, h0, _, _⟩ := own_at r1 e0
      refine ⟨.ref a, s0, F1, ρ1, A1, r1, ?_⟩
      cases e2 : k ρ1 with
      | bad => rw [e2] at h; exact h
      | exc x ρ2 =>
        rw [e2] at h
        exact (xend.expr (send.before (D := D) (r := .ex x ρ2) h s1 rfl) : xendE K B W σ A1 F1 H1 x ρ2)
      | ok d2 ρ2 =>
        rw [e2] at h
        simp only at h
        intro v2 F2 H2 A2 r2 v2r s2
        split at h
        · rename_i h1
          split at h1
          · rename_i t l j e3
            split at h1
            · rename_i m e4
              split at h1
              · rename_i hp
                cases h1
                obtain ⟨a', vs, A3, s3, h3, _, o3⟩ := own_at r2 e3
                rw [s0] at s3
                cases s3
                simp only [RV] at v2r
                obtain ⟨r4, s4⟩ := r2.chg (l' := l.set m d1) (vs' := vs.set m v1) e3 s0 h3 fun A' o => o.setP hp (v1r.step r1 s2)
                exact ⟨a, vs, j, m, rfl, v2r, h3, by rw [OVs.len o3]; exact e4, h σ F2 _ A2 r4 ((s1.trans s2).trans s4) rfl⟩
              · cases h1
            · cases h1
          · cases h1
        all_goals first
          | exact h.elim
          | (rename_i h1
             split at h1
             · split at h1
               · split at h1 <;> cases h1
               · cases h1
             · cases h1)
end
end U
namespace U
open PySem PySem.Spec PyProof.Rows L2
section
variable {K : PySem.W.Frag} {B : Bx} {F F' : Fz} {H H' : Hp} {W : WX}
theorem OVps.len : ∀ {vs : List V} {ds : List D} {A : List Addr}, OVps K F H B vs ds A → vs.length = ds.length
  | [], [], _, _ => rfl
  | _ :: _, _ :: _, _, h => by
    simp only [OVps] at h
    obtain ⟨A1, A2, h1, h2, e⟩ := h
    simp [OVps.len h2]
  | [], _ :: _, _, h => by simp only [OVps] at h
  | _ :: _, [], _, h => by simp only [OVps] at h
theorem OVS.nones : ∀ m : Nat, OVS K F H B (List.replicate m none) (List.replicate m none) []
  | 0 => by simp only [List.replicate_zero, OVS]
  | m + 1 => by
    simp only [List.replicate_succ, OVS]
    exact ⟨[], [], by simp only [OVo], OVS.nones m, rfl⟩
theorem OVps.start (m : Nat) : ∀ {vs : List V} {ds : List D} {A : List Addr}, OVps K F H B vs ds A → OVS K F H B (vs.map some ++ List.replicate m none) (ds.map some ++ List.replicate m none) A
  | [], [], _, h => by
    simp only [OVps] at h
    subst h
    exact OVS.nones m
  | _ :: _, _ :: _, _, h => by
    simp only [OVps] at h
    obtain ⟨A1, A2, h1, h2, e⟩ := h
    simp only [List.map_cons, List.cons_append, OVS]
    exact ⟨A1, A2, by simp only [OVo]; exact h1, OVps.start m h2, e⟩
  | [], _ :: _, _, h => by simp only [OVps] at h
  | _ :: _, [], _, h => by simp only [OVps] at h
theorem OVS.take : ∀ {σ : L2.St} {ρ : Env} {A : List Addr} (n : Nat), OVS K F H B σ ρ A → ∃ A1 A2, A = A1 ++ A2 ∧ OVS K F H B (σ.take n) (ρ.take n) A1
  | _, _, A, 0, _ => ⟨[], A, rfl, by simp only [List.take_zero, OVS]⟩
  | [], [], A, n + 1, h => ⟨A, [], by simp, h⟩
  | _ :: _, _ :: _, _, n + 1, h => by
    simp only [OVS] at h
    obtain ⟨A1, A2, h1, h2, e⟩ := h
    obtain ⟨A3, A4, e2, h3⟩ := OVS.take n h2
    subst e e2
    refine ⟨A1 ++ A3, A4, by simp, ?_⟩
    simp only [List.take_succ_cons, OVS]
    exact ⟨A1, A3, h1, h3, rfl⟩
  | [], _ :: _, _, _, h => by simp only [OVS] at h
  | _ :: _, [], _, _, h => by simp only [OVS] at h
theorem fn_ok {CX : CXT} {P : Program} {w : World} {mg : Str → Option Value} {base : Heap} {x qual : Str} {params : Arguments} {body : List Stmt} {scope : Scope} {dvs : List V} {kws : List (Str × V)} {f : Addr} {fd : FuncData} {N ps : List Str} {k n m : Nat} {b : U.St}
    (Fd : FunD K x qual params body scope dvs kws f fd) (S : FnScope N ps scope) (hn : ps.length = n) (hN : N.length = n + m)
    (hb : ∀ (cdv : Value) (A : Around) (outer : List PySem.Env) (s : Shared) (H : Hp) (E : XK) (B : Bx), Room k (A.deeper (envOfC qual scope s.heap.objs.size f cdv)) →
      PSs (cxOf CX P w K mg base N qual scope f cdv A outer s H E) body (tDS K B (fun cls d _ H => E cls d H) b)) : FnOk P w K mg base CX (k + 1) f fd ps (spD K (fnOf n m b)) := by
  refine Fd.ok S (fun vs H Q E h => ?_) (fun cdv A outer s H vs Q E hr h => ?_)
  · obtain ⟨F, ds, A, B, o, nd, nf, dm, h⟩ := h
    unfold fnOf at h
    by_cases c : ds.length = n
    · rw [o.len, c, hn]
    · rw [if_neg c] at h; exact h.elim
  · obtain ⟨F, ds, A', B, o, nd, nf, dm, h⟩ := h
    refine ⟨_, hb cdv A outer s H E B hr, ?_⟩
    unfold fnOf at h
    by_cases c : ds.length = n
    case neg => rw [if_neg c] at h; exact h.elim
    case pos =>
      rw [if_pos c] at h
      have hl := o.len
      have es : L2.start N vs = vs.map some ++ List.replicate m none := by
        unfold L2.start
        rw [hN, hl, c, Nat.add_sub_cancel_left]
      refine ⟨F, ds.map some ++ List.replicate m none, A', ⟨by rw [es]; exact o.start m, nd, nf, dm⟩, ?_⟩
      have fin : ∀ {ρ : Env} {σ' : L2.St} {F' : Fz} {H' : Hp} {A2 : List Addr}, Rep K F' H' B σ' ρ A2 → ∃ A3 A4, A2 = A3 ++ A4 ∧ OVS K F' H' B (σ'.take n) (ρ.take n) A3 := fun r => r.sl.take n
      cases e : b (ds.map some ++ List.replicate m none) with
      | bad => rw [e] at h; exact h
      | bk ρ => rw [e] at h; exact h.elim
      | ct ρ => rw [e] at h; exact h.elim
      | nx ρ =>
        rw [e] at h
        intro σ' F' H' A2 r st _
        obtain ⟨A3, A4, rfl, o3⟩ := fin r
        have nd' := r.nd
        simp only [List.nodup_append] at nd'
        exact h .non F' H' _ A3 [] o3 (by simpa using nd'.1) (fun a ha => r.nf a (List.mem_append_left _ (by simpa using ha))) r.dm (by simp only [OV, RV]; exact ⟨trivial, trivial⟩) (st.sub fun a ha => List.mem_append_left _ (by simpa using ha))
      | rt d ρ =>
        rw [e] at h
        intro v σ' F' H' A2 Ar r ov nda nfa st _
        obtain ⟨A3, A4, rfl, o3⟩ := fin r
        simp only [List.nodup_append, List.mem_append] at nda
        refine h v F' H' _ A3 Ar o3 ?_ (fun a ha => ?_) r.dm ov (st.sub fun a ha => ?_)
        · simp only [List.nodup_append]
          exact ⟨nda.1.1, nda.2.1, fun a ha b hb => nda.2.2 a (.inl ha) b hb⟩
        · rcases List.mem_append.mp ha with z | z
          · exact r.nf a (List.mem_append_left _ z)
          · exact nfa a z
        · simp only [List.mem_append] at ha ⊢
          exact ha.elim (fun z => .inl (.inl z)) .inr
      | ex x ρ =>
        rw [e] at h
        intro cls dd σ' F' H' A2 r xv st _
        obtain ⟨A3, A4, rfl, o3⟩ := fin r
        have nd' := r.nd
        simp only [List.nodup_append] at nd'
        exact h cls dd F' H' _ A3 o3 nd'.1 (fun a ha => r.nf a (List.mem_append_left _ ha)) r.dm xv (st.sub fun a ha => List.mem_append_left _ ha)
inductive HdOk (K : PySem.W.Frag) (B : Bx) : List Hd → List (Value × Option Nat × (Addr → Value → Option Addr → TS)) → Prop
  | nil : HdOk K B [] []
  | plain {c : String} {C : Addr} {s : U.St} {hs : List Hd} {l : List (Value × Option Nat × (Addr → Value → Option Addr → TS))} (hC : C = He.ga K (Str.ofString c)) (r : HdOk K B hs l) : HdOk K B (⟨c, none, s⟩ :: hs) ((.ref C, none, fun _ _ _ => tDS K B W0 s) :: l)
  | named {c : String} {C : Addr} {i : Nat} {s : U.St} {hs : List Hd} {l : List (Value × Option Nat × (Addr → Value → Option Addr → TS))} (hC : C = He.ga K (Str.ofString c)) (r : HdOk K B hs l) : HdOk K B (⟨c, some i, s⟩ :: hs) ((.ref C, some i, fun a cls d => tDS K (B.1, some (a, cls, d)) W0 s) :: l)
def TbOk (K : PySem.W.Frag) (t : Tb) : Prop := ∀ p ∈ t, PySem.W.exmOne K (.ref (He.ga K (Str.ofString p.1))) (.ref (He.ga K (Str.ofString p.2.1))) = some p.2.2
theorem TbOk.at {t : Tb} (h : TbOk K t) {a b : String} {r : Bool} (e : t.at a b = some r) : PySem.W.exmOne K (.ref (He.ga K (Str.ofString a))) (.ref (He.ga K (Str.ofString b))) = some r := by
  induction t with
  | nil => simp only [Tb.at] at e; cases e
  | cons p t ih =>
    obtain ⟨x, y, z⟩ := p
    simp only [Tb.at] at e
    split at e
    · rename_i c
      cases e
      have := h (x, y, r) List.mem_cons_self
      rw [c.1, c.2] at this
      exact this
    · exact ih (fun p hp => h p (List.mem_cons_of_mem _ hp)) e
theorem OVS.exn {x : Option (Addr × Value × Option Addr)} : ∀ {σ : L2.St} {ρ : Env} {A : List Addr}, noExn ρ = true → OVS K F H B σ ρ A → OVS K F H (B.1, x) σ ρ A
  | [], [], _, _, h => by simp only [OVS] at h ⊢; exact h
  | v :: _, d :: _, _, hn, h => by
    simp only [OVS] at h ⊢
    obtain ⟨A1, A2, h1, h2, e⟩ := h
    cases d with
    | none =>
      simp only [noExn] at hn
      exact ⟨A1, A2, by simp only [OVo] at h1 ⊢; exact h1, OVS.exn hn h2, e⟩
    | some d =>
      simp only [noExn, Bool.and_eq_true, Bool.not_eq_true'] at hn
      refine ⟨A1, A2, ?_, OVS.exn hn.2 h2, e⟩
      cases v with
      | none => simp only [OVo] at h1
      | some v =>
        simp only [OVo] at h1 ⊢
        unfold OVp at h1 ⊢
        split at h1
        · exact h1
        · cases hn.1
        · exact h1
  | [], _ :: _, _, _, h => by simp only [OVS] at h
  | _ :: _, [], _, _, h => by simp only [OVS] at h
theorem Rep.exn {σ : L2.St} {ρ : Env} {A : List Addr} (x : Option (Addr × Value × Option Addr)) (hn : noExn ρ = true) (r : Rep K F H B σ ρ A) : Rep K F H (B.1, x) σ ρ A := ⟨r.sl.exn hn, r.nd, r.nf, r.dm⟩
theorem Rep.unset {σ : L2.St} {ρ : Env} {A : List Addr} {i : Nat} (r : Rep K F H B σ ρ A) : ∃ A', Rep K F H B (σ.set i none) (ρ.set i none) A' ∧ ∀ b ∈ A', b ∈ A := by
  have := r.wipe [i]
  exact this
end
end U
namespace U
open PySem PySem.Spec PyProof.Rows L2
section
variable {X : Cx} {e : Expr} {B : Bx} {W : WX} {f g k : E} {st : Stmt}
abbrev DE (X : Cx) (B : Bx) (W : WX) (e : Expr) (f : E) : Prop := PE X e (tDE X.K B W f)
abbrev DM (X : Cx) (B : Bx) (W : WX) (e : Expr) (f : E) : Prop := PE X e (tDM X.K B W f)
abbrev DT (X : Cx) (B : Bx) (W : WX) (e : Expr) (f : E) : Prop := PT X e (tDT X.K B W f)
abbrev DA (X : Cx) (B : Bx) (W : WX) (es : List Expr) (f : As) : Prop := PA X es (tDA X.K B W f)
abbrev DG (X : Cx) (B : Bx) (W : WX) (es : List Expr) (g : List Ag) : Prop := PA X es (tDG X.K B W g)
abbrev DI (X : Cx) (B : Bx) (W : WX) (tg e : Expr) (f : Is) : Prop := PI X tg e (tDI X.K B W f)
abbrev DS (X : Cx) (B : Bx) (W : WX) (st : Stmt) (f : U.St) : Prop := PS X st (tDS X.K B W f)
abbrev DSs (X : Cx) (B : Bx) (W : WX) (st : List Stmt) (f : U.St) : Prop := PSs X st (tDS X.K B W f)
theorem d_var {i : Nat} (h : PE X e (tVar i)) : DE X B W e (eVar i) := h.weak w_var
theorem d_c {v : V} {d : D} (p : ∀ F H, RV X.K F H v d) (h : PE X e (tC v)) : DE X B W e (eC d) := h.weak (w_c p)
theorem c_int {K : PySem.W.Frag} {i : Int} (F : Fz) (H : Hp) : RV K F H (.int i) (.int i) := by simp only [RV]
theorem c_bl {K : PySem.W.Frag} {i : Bool} (F : Fz) (H : Hp) : RV K F H (.bl i) (.bl i) := by simp only [RV]
theorem c_non {K : PySem.W.Frag} (F : Fz) (H : Hp) : RV K F H .non .non := by simp only [RV]
def strIs (x : Str) (l : List Nat) : Bool := decide (x.cps.toList = l) && l.all fun c => decide (c < 1114112)
theorem c_str {K : PySem.W.Frag} {x : Str} {l : List Nat} (h : strIs x l = true) (F : Fz) (H : Hp) : RV K F H (.str x) (.str l) := by
  unfold strIs at h
  rw [Bool.and_eq_true] at h
  have e := of_decide_eq_true h.1
  simp only [RV]
  refine ⟨?_, fun c hc => ?_⟩
  · obtain ⟨c⟩ := x
    subst e
    simp [S]
  · exact of_decide_eq_true (List.all_eq_true.mp h.2 c hc)
theorem c_nil {K : PySem.W.Frag} (F : Fz) (H : Hp) : RVs K F H [] [] := by simp only [RVs]
theorem d_op {o : D → D → Option D} {r : R2} (p : P2 X.K o r) (h : PE X e (tOp r (tDE X.K B W f) (tDE X.K B W g))) : DE X B W e (eOp o f g) := h.weak (w_op p)
theorem d_opM {o : D → D → Option D} {r : R2} (p : P2M X.K o r) (h : PE X e (tOp r (tDE X.K B W f) (tDE X.K B W g))) : DM X B W e (eOp o f g) := h.weak (w_opM p)
theorem d_n {o : List D → Option D} {r : List V → Hp → VK → Prop} {a : As} (p : PN X.K o r) (h : PE X e (tCB r (tDA X.K B W a))) : DE X B W e (eN o a) := h.weak (w_n p)
theorem d_tup {a : As} (h : PE X e (tTup (tDA X.K B W a))) : DE X B W e (eN mkTup a) := h.weak w_tup
theorem d_lst {a : As} (h : PE X e (tLst (tDA X.K B W a))) : DM X B W e (eN mkLst a) := h.weak w_lst
theorem d_frz (h : DM X B W e f) : DE X B W e (eFrz f) := h.weak w_frz
theorem d_dm (h : DE X B W e f) : DM X B W e f := h.weak w_dm
theorem d_slM {o : D → Option Int → Option Int → Option D} {r : V → Option Int → Option Int → Hp → VK → Prop} {lo hi : Option E} (p : P3M X.K o r) (h : PE X e (tSl r (tDE X.K B W f) (tDO X.K B W (part lo)) (tDO X.K B W (part hi)))) : DM X B W e (eSl o f lo hi) := h.weak (w_slM p)
theorem d_po {e : Expr} (h : DE X B W e f) : PO X (some e) (tDO X.K B W (part (some f))) := (po_some h).weak w_posome
theorem d_ixO {i : Nat} (h : PE X e (tOp _root_.Q.rIxM (tVar i) (tDE X.K B W f))) : DE X B W e (eIxO i f) := h.weak w_ixO
theorem a_nil : DA X B W [] aNil := pa_nil.weak w_anil
theorem a_cons {es : List Expr} {r : As} (h : DE X B W e f) (hr : DA X B W es r) (hs : starEach (e :: es) X.env = (false, eval e X.env) :: starEach es X.env := by rfl) : DA X B W (e :: es) (aCons f r) := (pa_cons h hr hs).weak w_acons
theorem g_nil : DG X B W [] [] := pa_nil.weak w_gnil
theorem g_v {es : List Expr} {g : List Ag} (h : DE X B W e f) (hr : DG X B W es g) (hs : starEach (e :: es) X.env = (false, eval e X.env) :: starEach es X.env := by rfl) : DG X B W (e :: es) (.v f :: g) := (pa_cons h hr hs).weak w_gv
theorem g_b {es : List Expr} {g : List Ag} {i : Nat} (h : PE X e (tVar i)) (hr : DG X B W es g) (hs : starEach (e :: es) X.env = (false, eval e X.env) :: starEach es X.env := by rfl) : DG X B W (e :: es) (.b i :: g) := (pa_cons h hr hs).weak w_gb
theorem d_call {fn : Fn} {g : List Ag} {dd : List D} {dvs : List V} (hd : ∀ F H, RVs X.K F H dvs dd) (h : PE X e (tCallSD (spD X.K fn) dvs (WE W) (tDG X.K B W g))) : DM X B W e (eCall fn g dd) := h.weak (w_call hd)
theorem t_val (h : PT X e (tTest (tDE X.K B W f))) : DT X B W e f := h.weak w_tv
theorem t_or (h : PW X e (tOr (tDT X.K B W f) (tDT X.K B W g))) : PW X e (tDT X.K B W (eOr f g)) := h.weak w_tor
theorem t_op {o : D → D → Option D} {r : R2} (p : P2 X.K o r) (h : PT X e (tTest (tOp r (tDE X.K B W f) (tDE X.K B W g)))) : DT X B W e (eOp o f g) := t_val (h.weak fun σ H Q q => w_op p σ H _ q)
variable {b c : U.St}
theorem s_nil : DSs X B W [] sNil := pss_nil.weak w_nil
theorem s_cons {sts : List Stmt} (h : DS X B W st b) (hr : DSs X B W sts c) : DSs X B W (st :: sts) (sSeq b c) := (pss_cons h hr).weak w_seq
theorem s_one (h : DS X B W st b) : DSs X B W [st] b := pss_one h
theorem s_ret (h : PS X st (tRet (tDM X.K B W f))) : DS X B W st (sRet f) := h.weak w_ret
theorem s_if (h : PS X st (tIfS (tDT X.K B W k) (tDS X.K B W b) (tDS X.K B W c))) : DS X B W st (sIf k b c) := h.weak w_ifs
theorem s_set {i : Nat} (h : PS X st (tAsg (tDM X.K B W f) (gName i))) : DS X B W st (sSet i f) := h.weak w_set
theorem s_par2 {i j : Nat} {a : As} (h : PS X st (tPar i j (tDA X.K B W a))) : DS X B W st (sPar [i, j] a) := h.weak w_par2
theorem s_putO {i : Nat} (h : PS X st (tAsg (tDE X.K B W f) (gSub (tVar i) (tDE X.K B W k) rSetL))) : DS X B W st (sPutO i k f) := h.weak w_putO
theorem s_for {it : Is} {gt : Tg} {tg : TG} {ks : List Nat} (hg : WG X.K B ks gt tg) (h : PS X st (tFor (tDI X.K B W it) tg (tDS X.K B W b))) : DS X B W st (sFor it gt b) := h.weak (w_for hg)
variable {tg : Expr}
theorem _root_.L2.PI.weak {t t' : TI} (h : PI X tg e t) (w : ∀ σ H R, t' σ H R → t σ H R) : PI X tg e t' := ⟨fun pins s σ H R I q => h.run pins s σ H R I (w σ H R q)⟩
theorem i_rng1 {a : As} (h1 : ∀ ρ ds ρ', a ρ = .ok ds ρ' → ds.length = 1) (h : PI X tg e (iRng1 (tDA X.K B W a))) : DI X B W tg e (iOfA itR a) := h.weak fun σ H R q => w_irng1 σ H R q h1
theorem i_enumL {a : As} (h : PI X tg e (iEnum X.K (tDA X.K B W a))) : DI X B W tg e (iOfA itEL a) := h.weak w_ienumL
theorem _root_.L2.PTs.weak {ifs : List Expr} {t t' : TT} (h : PTs X ifs t) (w : ∀ σ H Q, t' σ H Q → t σ H Q) : PTs X ifs t' := ⟨fun pins s σ H Q I q => h.run pins s σ H Q I (w σ H Q q)⟩
theorem w_yes {K : PySem.W.Frag} (σ : L2.St) (H : Hp) (Q : Bool → Hp → Prop) (h : tDT K B W0 (eC (.bl true)) σ H Q) : tYes σ H Q := by
  obtain ⟨F, ρ, A, rp, b, eb, h⟩ := h
  cases eb
  exact h F H A rp Step.refl
theorem d_comp1 {it : Is} {gt : Tg} {tg : TG} {vs ks : List Nat} (hg : WG X.K B ks gt tg) (hks : ∀ j ∈ ks, j ∈ vs) (h : PE X e (tLc (tDI X.K B W it) tg tYes (tDE X.K B W0 f) vs)) : DM X B W e (eComp it gt (eC (.bl true)) f vs) := h.weak (w_comp w_yes hg hks)
def rIsiB (K : PySem.W.Frag) : List V → Hp → VK → Prop := fun xs H Q => ∃ (v : V) (n T : String) (b : Bool), xs = [v, .ty T] ∧ TyX K H v (.type n) ∧ kitB n T = some b ∧ Q (.bl b) H
def CXa : CXT := fun outer H s E e s' => ∃ (P : Program) (w : World), L2.CX P w outer H s E e s'
theorem cxa_end (H : Hp) (s : Shared) (e : Value) (s' : Shared) (h : CXa [] H s (fun _ _ _ => False) e s') : False := by
  obtain ⟨P, w, a, B, H', cls, d, _, _, _, _, _, _, _, z⟩ := h
  exact z
theorem law_sp {K : PySem.W.Frag} {f : Fn} (hf : ∀ ns : List Int, ns.length ≤ 63 → ∃ o, f [.scr ns] = .ok (.bl true) o) (H : Hp) (a : Addr) (ns : List Int) (hl : ns.length ≤ 63) (hS : SqL K H a (ns.map V.int)) : spD K f [.ref a] H (fun v _ => v = .bl true) fun _ _ _ => False := by
  obtain ⟨o, e⟩ := hf ns hl
  refine ⟨fun b => b = a ∧ ∃ o, H a = some o, [.scr ns], [], ([], none), ?_, List.nodup_nil, (fun b hb => by cases hb), (fun b hb => by rw [hb.1]; exact hb.2), ?_⟩
  · simp only [OVps]
    refine ⟨[], [], OV.op (RV.own ?_), rfl, rfl⟩
    simp only [RV]
    refine ⟨a, rfl, ?_⟩
    rcases hS with h | h
    · rcases h with h | ⟨o, h⟩
      · exact .inl ⟨⟨rfl, _, h⟩, .inl h⟩
      · exact .inl ⟨⟨rfl, _, h⟩, .inr ⟨o, h⟩⟩
    · exact .inr (.inr h)
  · rw [e]
    intro v F' H' σ' A' Ar _ _ _ _ ov _
    simp only [OV, RV] at ov
    exact ov.2
end
end U
namespace L2
open PySem PySem.Spec PyProof.Rows
section
variable {X : Cx} {CX : CXT} {k : Nat} {f C : Addr} {fd : FuncData} {ps : List Str} {sp : Sp} {dvs : List V} {ds : List Value} {E : St → XK} {x m : Str} {p pos apos : Pos} {e o : Expr} {es : List Expr} {ta : TE} {t : TA}
def tMethSD (C : Addr) (m : Str) (sp : Sp) (dvs : List V) (E : St → XK) (ta : TE) (t : TA) : TE := fun σ H Q => ta σ H fun x H1 => ∃ a dx fs, x = .ref a ∧ H1 a = some (.ins C dx fs) ∧ fs.lookup m = none ∧ t σ H1 fun vs H2 => sp (x :: (vs ++ dvs)) H2 Q (E σ)
def tMakeSD (C : Addr) (sp : Sp) (dvs : List V) (E : St → XK) (t : TA) : TE := fun σ H Q => t σ H fun vs H1 => ∀ x dx, H1 x = none → H1 dx = none → dx ≠ x →
  sp (.ref x :: (vs ++ dvs)) (upd (upd H1 dx (.own x)) x (.ins C dx [])) (fun v H2 => v = .non ∧ Q (.ref x) H2) (E σ)
end
end L2
namespace U
def putNs (f : String) : List String → List String
  | [] => [f]
  | n :: r => if n = f then n :: r else n :: putNs f r
def putDs (f : String) (d : D) : List String → List D → List D
  | [], _ => [d]
  | n :: r, x :: xs => if n = f then d :: xs else x :: putDs f d r xs
  | _ :: _, [] => []
def oFld (c f : String) : D → Option D
  | .ins c' ns ds => if c' = c then lookN f ns ds else none
  | _ => none
def fldO (c f : String) : Option (Option D) → Option D
  | some (some (.own _ (.ins c' ns ds))) => if c' = c then (match lookN f ns ds with
    | some d => if d.isMut then none else some d
    | none => none) else none
  | _ => none
def eFldO (i : Nat) (c f : String) : E := fun ρ => lift (fldO c f ρ[i]?) ρ
def putFO (c f : String) (d : D) : Option (Option D) → Option D
  | some (some (.own t (.ins c' ns ds))) => if c' = c ∧ ns.length < 1000 then some (.own t (.ins c (putNs f ns) (putDs f d ns ds))) else none
  | _ => none
def sFldO (i : Nat) (c f : String) (a : E) : St := fun ρ => (a ρ).binds fun d ρ1 => match putFO c f d ρ1[i]? with
  | some d' => .nx (ρ1.set i (some d'))
  | none => .bad
def eMake (c : String) (f : Fn) (a : As) (dd : List D) : E := fun ρ => match a ρ with
  | .ok ds ρ1 => (match f (.own 1 (.ins c [] []) :: (ds ++ dd)) with
    | .ok .non (some (.own 1 (.ins c' ns fs)) :: _) => if c' = c then .ok (.own 0 (.ins c ns fs)) ρ1 else .bad
    | .exc x _ => .exc x ρ1
    | _ => .bad)
  | .exc x ρ1 => .exc x ρ1
  | .bad => .bad
def oIns (c m : String) : D → Option D
  | .ins c' ns ds => if c' = c ∧ m ∉ ns then some (.ins c' ns ds) else none
  | _ => none
def eMeth (c m : String) (f : Fn) (o : E) (g : List Ag) (dd : List D) : E := eCall f (.v (eUn (oIns c m) o) :: g) dd
def isIO (c m : String) : Option (Option D) → Bool
  | some (some (.own _ (.ins c' ns _))) => decide (c' = c ∧ m ∉ ns)
  | _ => false
def eMethO (c m : String) (f : Fn) (i : Nat) (g : List Ag) (dd : List D) : E := fun ρ => if isIO c m ρ[i]? then eCall f (.b i :: g) dd ρ else .bad
def ER.calm : ER → ER
  | .ok d ρ => .ok d ρ
  | _ => .bad
end U
namespace U
def oProp (c : String) (f : Fn) : D → Option D
  | .ins c' ns ds => if c' = c then (match f [.ins c' ns ds] with
    | .ok d _ => if d.isMut then none else some d
    | _ => none) else none
  | _ => none
def ER.plain : ER → ER
  | .ok d ρ => if d.isMut then .bad else .ok d ρ
  | _ => .bad
def isI (c : String) : Option (Option D) → Bool
  | some (some (.own _ (.ins c' _ _))) => decide (c' = c)
  | _ => false
def ePropO (c : String) (f : Fn) (i : Nat) : E := fun ρ => if isI c ρ[i]? then (eCall f [.b i] [] ρ).plain else .bad
def oCon (c f : String) (d : D) : D → Option D
  | .ins c' ns _ => if c' = c ∧ f ∉ ns then some d else none
  | _ => none
def eConO (c f : String) (d : D) (i : Nat) : E := fun ρ => if isIO c f ρ[i]? then .ok d ρ else .bad
end U
namespace U
open PySem PySem.Spec PyProof.Rows L2
theorem ofS_inj {a b : String} : Str.ofString a = Str.ofString b ↔ a = b := by
  constructor
  · intro h
    rw [Str.ofString_eq_toList, Str.ofString_eq_toList] at h
    injection h with h
    have h2 : a.toList.map Char.toNat = b.toList.map Char.toNat := by simpa using congrArg Array.toList h
    have h3 : a.toList = b.toList := by
      have inj : ∀ {l r : List Char}, l.map Char.toNat = r.map Char.toNat → l = r := by
        intro l
        induction l with
        | nil => intro r h; cases r with
          | nil => rfl
          | cons => simp at h
        | cons x l ih => intro r h; cases r with
          | nil => simp at h
          | cons y r =>
            simp only [List.map_cons, List.cons.injEq] at h
            rw [ih h.2, show x = y from Char.ext (UInt32.toNat_inj.mp h.1)]
      exact inj h2
    exact String.toList_inj.mp h3
  · exact congrArg _
section
variable {K : PySem.W.Frag} {B : Bx} {F F' : Fz} {H H' : Hp} {W : WX} {σ : L2.St}
end
end U
namespace U
open PySem PySem.Spec PyProof.Rows L2
section
variable {K : PySem.W.Frag} {B : Bx} {F F' : Fz} {H H' : Hp} {W : WX} {σ : L2.St}
end
section
variable {X : Cx} {B : Bx} {W : WX} {e : Expr} {st : Stmt} {f g : E}
end
end U
namespace U
open PySem PySem.Spec PyProof.Rows L2
def itEQ : List D → Option (List D)
  | [.lst l] => some (enumD l)
  | [.tup l] => some (enumD l)
  | _ => none
def sBad : St := fun _ => .bad
def lookB (c : String) : List (String × Bool) → Option Bool
  | [] => none
  | (x, b) :: r => if x = c then some b else lookB c r
def oIsiC (tb : List (String × Bool)) : D → Option D
  | .ins c _ _ => (lookB c tb).map .bl
  | d => (tyName d).map fun _ => .bl false
def oIsi2 (S T : String) (d : D) : Option D := (tyName d).map fun n => .bl ((n == S || (n == "bool" && S == "int")) || (n == T || (n == "bool" && T == "int")))
section
variable {K : PySem.W.Frag} {B : Bx} {F F' : Fz} {H H' : Hp} {W : WX} {σ : L2.St}
theorem lookB_mem {c : String} {b : Bool} : ∀ {tb : List (String × Bool)}, lookB c tb = some b → (c, b) ∈ tb
  | [], h => by simp [lookB] at h
  | (x, y) :: r, h => by
    simp only [lookB] at h
    split at h
    · rename_i e; subst e; cases h; exact List.mem_cons_self
    · exact List.mem_cons_of_mem _ (lookB_mem h)
end
section
variable {X : Cx} {B : Bx} {W : WX} {e : Expr} {st : Stmt} {f g : E} {tg : Expr}
end
end U
namespace PySem.W
open Lean Elab Tactic Meta PySem PySem.Spec PySem.Calls PyProof.Rows
section
variable {prog : Program} {w : World} {A : Around} {E : Value → Shared → Prop} {s : Shared} {K : Frag} {x C L f : Addr} {h₀ : Heap} {m : Str → Option Value} {ox : Obj} {od : Option Obj}
end
end PySem.W
namespace PySem.W
open Lean Elab Tactic Meta PySem PySem.Spec PySem.Calls PyProof.Rows
section
variable {prog : Program} {w : World} {A A₀ : Around} {E : Value → Shared → Prop} {s : Shared} {K : Frag} {x C L f : Addr} {h₀ : Heap} {m : Str → Option Value} {ox : Obj} {od : Option Obj} {name : Str} {b tb : Value}
open Builtin in
end
end PySem.W
namespace L2
open PySem PySem.Spec PyProof.Rows
def rOwn2 (C : Addr) (sp : Sp) : R2 := fun x y H Q => ∃ a b dx dy fs gs, x = .ref a ∧ y = .ref b ∧ H a = some (.ins C dx fs) ∧ H b = some (.ins C dy gs) ∧ sp [x, y] H Q (fun _ _ _ => False)
def rOwnN (C : Addr) (sp : Sp) : R2 := fun x y H Q => ∃ a b dx dy fs gs, x = .ref a ∧ y = .ref b ∧ H a = some (.ins C dx fs) ∧ H b = some (.ins C dy gs) ∧ sp [x, y] H (fun v H' => ∃ r, v = .bl r ∧ Q (.bl (!r)) H') (fun _ _ _ => False)
section
variable {X : Cx} {k : Nat} {C f : Addr} {fd : FuncData} {ps : List Str} {sp : Sp}
def tBinSD (C : Addr) (sp : Sp) (E : St → XK) (ta tb : TE) : TE := fun σ H Q => ta σ H fun x H1 => tb σ H1 fun y H2 => ∃ a b dx dy fs gs, x = .ref a ∧ y = .ref b ∧ H2 a = some (.ins C dx fs) ∧ H2 b = some (.ins C dy gs) ∧ sp [x, y] H2 Q (E σ)
def tBinISD (C : Addr) (sp : Sp) (E : St → XK) (ta tb : TE) : TE := fun σ H Q => ta σ H fun x H1 => tb σ H1 fun y H2 => ∃ a i dx fs, x = .ref a ∧ y = .int i ∧ H2 a = some (.ins C dx fs) ∧ sp [x, y] H2 Q (E σ)
end
end L2
namespace U
open PySem PySem.Spec PyProof.Rows L2
def oEqC (c : String) (f : Fn) : D → D → Option D
  | .ins c1 n1 d1, .ins c2 n2 d2 => if c1 = c ∧ c2 = c then (match f [.ins c1 n1 d1, .ins c2 n2 d2] with
    | .ok (.bl b) _ => some (.bl b)
    | _ => none) else none
  | _, _ => none
def oNeC (c : String) (f : Fn) : D → D → Option D
  | .ins c1 n1 d1, .ins c2 n2 d2 => if c1 = c ∧ c2 = c then (match f [.ins c1 n1 d1, .ins c2 n2 d2] with
    | .ok (.bl b) _ => some (.bl !b)
    | _ => none) else none
  | _, _ => none
def oIn (c : String) : D → Option D
  | .ins c' ns ds => if c' = c then some (.ins c' ns ds) else none
  | _ => none
def isIn (c : String) : D → Bool
  | .ins c' _ _ => decide (c' = c)
  | _ => false
def valK (ρ : Env) : ER → ER
  | .ok d _ => .ok d ρ
  | .exc x _ => .exc x ρ
  | .bad => .bad
def eBin (c : String) (f : Fn) (a b : E) : E := fun ρ => (a ρ).bind fun x ρ1 => (b ρ1).bind fun y ρ2 => if isIn c x && isIn c y then valK ρ2 (f [x, y]) else .bad
def isInt : D → Bool
  | .int _ => true
  | _ => false
def eBinI (c : String) (f : Fn) (a b : E) : E := fun ρ => (a ρ).bind fun x ρ1 => (b ρ1).bind fun y ρ2 => if isIn c x && isInt y then valK ρ2 (f [x, y]) else .bad
section
variable {K : PySem.W.Frag} {B : Bx} {F F' : Fz} {H H' : Hp} {W : WX} {σ : L2.St}
def P2D (K : PySem.W.Frag) (o : D → D → Option D) (r : R2) : Prop := ∀ (F : Fz) (H : Hp) (x y : V) (a b d : D) (Q : VK), (∀ a, F a → ∃ o, H a = some o) → RV K F H x a → RV K F H y b → o a b = some d → (∀ v F' H', Grow F H F' H' → RV K F' H' v d → Q v H') → r x y H Q
theorem OVps.ofRVs : ∀ {vs : List V} {ds : List D}, RVs K F H vs ds → OVps K F H B vs ds []
  | [], [], _ => by simp only [OVps]
  | _ :: _, _ :: _, h => by
    simp only [RVs] at h
    simp only [OVps]
    exact ⟨[], [], h.1.own.op, OVps.ofRVs h.2, rfl⟩
  | [], _ :: _, h => by simp only [RVs] at h
  | _ :: _, [], h => by simp only [RVs] at h
end
section
variable {X : Cx} {B : Bx} {W : WX} {e : Expr} {st : Stmt} {f g : E}
end
end U
namespace ClX
open PySem PySem.Spec PyProof.Rows L2
section
variable {X : Cx} {k : Nat} {C p g : Addr} {mc : Value} {fd : FuncData} {ps : List Str} {sp : Sp} {E : L2.St → XK} {o e : Expr} {es : List Expr} {f m : Str} {pos apos : Pos} {ta : TE} {t : TA} {pl : Sem Bool} {dvs : List V}
def tCMethSD (C : Addr) (sp : Sp) (dvs : List V) (E : L2.St → XK) (t : TA) : TE := fun σ H Q => t σ H fun vs H2 => sp (.ref C :: (vs ++ dvs)) H2 Q (E σ)
end
end ClX
namespace L2
open PySem PySem.Spec PyProof.Rows
section
variable {X : Cx} {CX : CXT} {k i : Nat} {f C : Addr} {fd : FuncData} {ps : List Str} {sp : Sp} {dvs : List V} {E : St → XK} {x : Str} {p pos : Pos} {e : Expr} {es : List Expr} {t : TA}
def tMakeL (i : Nat) (C : Addr) (sp : Sp) (dvs : List V) (E : St → XK) (t : TA) : TE := fun σ H Q => σ[i]? = some (some (.ref C)) ∧ tMakeSD C sp dvs E t σ H Q
end
end L2
namespace U
open PySem PySem.Spec PyProof.Rows L2
def fnOfC (n m : Nat) (c : String) (b : St) : Fn := fun ds => if ds.length = n ∧ allPlain ds = true then (match b (some (.exn c [] []) :: (ds.map some ++ List.replicate m none)) with
  | .rt d _ => .ok d []
  | .nx _ => .ok .non []
  | .ex x _ => .exc x []
  | _ => .bad) else .bad
def isC (c : String) : Option (Option D) → Bool
  | some (some (.exn c' [] [])) => decide (c' = c)
  | _ => false
def eMakeL (i : Nat) (c : String) (f : Fn) (a : As) (dd : List D) : E := fun ρ => if isC c ρ[i]? then eMake c f a dd ρ else .bad
def spC (K : PySem.W.Frag) (c : String) (f : Fn) : Sp := fun vs H Q E => ∃ vs', vs = .ref (He.ga K (Str.ofString c)) :: vs' ∧ spD K f vs' H Q E
section
variable {K : PySem.W.Frag} {B : Bx} {F F' : Fz} {H H' : Hp} {W : WX} {σ : L2.St}
theorem OVS.ofRVs (m : Nat) : ∀ {vs : List V} {ds : List D}, RVs K F H vs ds → OVS K F H B (vs.map some ++ List.replicate m none) (ds.map some ++ List.replicate m none) []
  | [], [], _ => OVS.nones m
  | _ :: _, _ :: _, h => by
    simp only [RVs] at h
    simp only [List.map_cons, List.cons_append, OVS]
    exact ⟨[], [], by simp only [OVo]; exact h.1.own.op, OVS.ofRVs m h.2, rfl⟩
  | [], _ :: _, h => by simp only [RVs] at h
  | _ :: _, [], h => by simp only [RVs] at h
end
section
variable {X : Cx} {B : Bx} {W : WX} {e : Expr} {st : Stmt} {f g : E}
end
end U
namespace L2
open PySem PySem.Spec PyProof.Rows
section
variable {X : Cx} {CX : CXT} {k : Nat} {f C : Addr} {fd : FuncData} {ps : List Str} {sp : Sp} {dvs : List V} {E : St → XK} {x : Str} {p pos : Pos} {e : Expr} {es : List Expr} {ta : TE} {t : TA}
def tOCall (C : Addr) (sp : Sp) (dvs : List V) (E : St → XK) (ta : TE) (t : TA) : TE := fun σ H Q => ta σ H fun x H1 => (∃ a dx fs, x = .ref a ∧ H1 a = some (.ins C dx fs)) ∧ t σ H1 fun vs H2 => (∃ a dx fs, x = .ref a ∧ H2 a = some (.ins C dx fs)) ∧ sp (x :: (vs ++ dvs)) H2 Q (E σ)
end
end L2
namespace U
open PySem PySem.Spec PyProof.Rows L2
def fI (c : String) (f : Fn) : Fn := fun ds => if isI1 c ds then f ds else .bad
where isI1 (c : String) : List D → Bool
  | .ins c' _ _ :: _ => decide (c' = c)
  | _ => false
def eOCall (c : String) (f : Fn) (o : E) (g : List Ag) (dd : List D) : E := eCall (fI c f) (.v (eUn (oIn c) o) :: g) dd
section
variable {K : PySem.W.Frag} {B : Bx} {F F' : Fz} {H H' : Hp} {W : WX} {σ : L2.St}
end
section
variable {X : Cx} {B : Bx} {W : WX} {e : Expr} {st : Stmt} {f g : E}
end
section
variable {c : String} {fn : Fn} {a : E} {dd ds : List D} {ρ : Env} {ns : List String} {r : List D}
theorem v_ocall {g : List Ag} : eOCall c fn a g dd ρ = eCall (fI c fn) (.v (eUn (oIn c) a) :: g) dd ρ := id rfl
theorem v_fI : fI c fn (.ins c ns ds :: r) = fn (.ins c ns ds :: r) := by simp [fI, fI.isI1]
theorem v_oInO : oIn c (.ins c ns ds) = some (.ins c ns ds) := by simp [oIn]
end
end U
namespace U
theorem atD_nat {α : Type} {l : List α} {j : Nat} : atD l (j : Int) = l[j]? := by
  unfold atD ixD
  rw [if_pos (by omega)]
  by_cases h : j < l.length
  · rw [if_pos (by omega)]; simp
  · rw [if_neg (by omega)]; simp; omega
theorem at_0 {α : Type} {x : α} {xs : List α} : atD (x :: xs) 0 = some x := atD_nat (j := 0)
theorem at_1 {α : Type} {x y : α} {xs : List α} : atD (x :: y :: xs) 1 = some y := atD_nat (j := 1)
theorem at_2 {α : Type} {x y z : α} {xs : List α} : atD (x :: y :: z :: xs) 2 = some z := atD_nat (j := 2)
theorem at_3 {α : Type} {w x y z : α} {xs : List α} : atD (w :: x :: y :: z :: xs) 3 = some z := atD_nat (j := 3)
theorem at_neg {α : Type} {x : α} {xs : List α} : atD (xs ++ [x]) (-1) = some x := by
  unfold atD ixD
  rw [if_neg (by omega), if_pos (by simp; omega)]
  simp only [Option.bind_some]
  rw [show ((-1 : Int) + ((xs ++ [x]).length : Nat)).toNat = xs.length by simp; omega]
  simp
theorem ixD_nat {n j : Nat} (h : j < n) : ixD n (j : Int) = some j := by
  unfold ixD
  rw [if_pos (by omega), if_pos (by omega)]; simp
theorem ix_0 {n : Nat} : ixD (n + 1) 0 = some 0 := ixD_nat (j := 0) (by omega)
theorem ix_1 {n : Nat} : ixD (n + 1 + 1) 1 = some 1 := ixD_nat (j := 1) (by omega)
theorem ix_2 {n : Nat} : ixD (n + 1 + 1 + 1) 2 = some 2 := ixD_nat (j := 2) (by omega)
theorem cap_le {n : Nat} : (n ≤ cap) = (n ≤ 16777216) := rfl
theorem small_lim {n : Nat} : (n < lim64) = (n < 18446744073709551616) := rfl
end U
namespace U
section
variable {d x y : D} {ρ ρ1 : Env} {e : Ex} {k : D → Env → ER} {kf : D → Env → Fl} {ka : D → Env → AR} {kl : List D → Env → ER} {kla : List D → Env → AR} {kn : Env → Fl} {ds : List D} {a b c : E} {s t : St} {g : Tg} {i : Nat}
theorem v_bind : (ER.ok d ρ).bind k = k d ρ := id rfl
theorem v_bindX : (ER.exc e ρ).bind k = .exc e ρ := id rfl
theorem v_bindB : ER.bad.bind k = .bad := id rfl
theorem v_binds : (ER.ok d ρ).binds kf = kf d ρ := id rfl
theorem v_bindsX : (ER.exc e ρ).binds kf = .ex e ρ := id rfl
theorem v_bindsB : ER.bad.binds kf = .bad := id rfl
theorem v_bindA : (ER.ok d ρ).bindA ka = ka d ρ := id rfl
theorem v_bindAX : (ER.exc e ρ).bindA ka = .exc e ρ := id rfl
theorem v_bindAB : ER.bad.bindA ka = .bad := id rfl
theorem v_abind : (AR.ok ds ρ).bind kl = kl ds ρ := id rfl
theorem v_abindX : (AR.exc e ρ).bind kl = .exc e ρ := id rfl
theorem v_abindB : AR.bad.bind kl = .bad := id rfl
theorem v_abindA : (AR.ok ds ρ).bindA kla = kla ds ρ := id rfl
theorem v_abindAX : (AR.exc e ρ).bindA kla = .exc e ρ := id rfl
theorem v_abindAB : AR.bad.bindA kla = .bad := id rfl
theorem v_nx : (Fl.nx ρ).bind kn = kn ρ := id rfl
theorem v_rt : (Fl.rt d ρ).bind kn = .rt d ρ := id rfl
theorem v_bk : (Fl.bk ρ).bind kn = .bk ρ := id rfl
theorem v_ct : (Fl.ct ρ).bind kn = .ct ρ := id rfl
theorem v_ex : (Fl.ex e ρ).bind kn = .ex e ρ := id rfl
theorem v_bad : Fl.bad.bind kn = .bad := id rfl
theorem v_c : eC d ρ = .ok d ρ := id rfl
theorem v_var : eVar i ρ = lift (rd ρ[i]?) ρ := id rfl
theorem v_some : lift (some d) ρ = .ok d ρ := id rfl
theorem v_none : lift none ρ = .bad := id rfl
theorem v_rd (h : d.isMut = false) : rd (some (some d)) = some d := by
  cases d <;> first | rfl | cases h
theorem v_rdN : rd (some none) = none := id rfl
theorem m_non : D.isMut .non = false := id rfl
theorem m_bl {z : Bool} : D.isMut (.bl z) = false := id rfl
theorem m_int {z : Int} : D.isMut (.int z) = false := id rfl
theorem m_str {z : List Nat} : D.isMut (.str z) = false := id rfl
theorem m_tup {z : List D} : D.isMut (.tup z) = false := id rfl
theorem m_lst {z : List D} : D.isMut (.lst z) = false := id rfl
theorem m_scr {z : List Int} : D.isMut (.scr z) = false := id rfl
theorem m_exv {c : String} {ns : List String} {z : List D} : D.isMut (.exv c ns z) = false := id rfl
theorem m_ins {z : List D} {n : String} {ns : List String} : D.isMut (.ins n ns z) = false := id rfl
def kOp2 (o : D → D → Option D) (x : D) : D → Env → ER := fun y ρ2 => lift (o x y) ρ2
def kOp1 (o : D → D → Option D) (b : E) : D → Env → ER := fun x ρ1 => (b ρ1).bind (kOp2 o x)
theorem v_kOp2 {o : D → D → Option D} : kOp2 o x y ρ = lift (o x y) ρ := id rfl
theorem v_kOp1 {o : D → D → Option D} : kOp1 o b x ρ = (b ρ).bind (kOp2 o x) := id rfl
theorem v_op {o : D → D → Option D} : eOp o a b ρ = (a ρ).bind (kOp1 o b) := id rfl
def kUn (o : D → Option D) : D → Env → ER := fun x ρ1 => lift (o x) ρ1
theorem v_kUn {o : D → Option D} : kUn o x ρ = lift (o x) ρ := id rfl
theorem v_un {o : D → Option D} : eUn o a ρ = (a ρ).bind (kUn o) := id rfl
theorem v_anil : aNil ρ = .ok [] ρ := id rfl
def kA2 (x : D) : List D → Env → AR := fun xs ρ2 => .ok (x :: xs) ρ2
def kA1 (r : As) : D → Env → AR := fun x ρ1 => (r ρ1).bindA (kA2 x)
theorem v_kA2 : kA2 x ds ρ = .ok (x :: ds) ρ := id rfl
theorem v_kA1 {r : As} : kA1 r x ρ = (r ρ).bindA (kA2 x) := id rfl
theorem v_acons {r : As} : aCons a r ρ = (a ρ).bindA (kA1 r) := id rfl
def kN (o : List D → Option D) : List D → Env → ER := fun xs ρ1 => lift (o xs) ρ1
theorem v_kN {o : List D → Option D} : kN o ds ρ = lift (o ds) ρ := id rfl
theorem v_n {o : List D → Option D} {r : As} : eN o r ρ = (r ρ).bind (kN o) := id rfl
def andK (b : E) (x : D) (ρ1 : Env) : ER := match x with
  | .bl true => b ρ1
  | .bl false => .ok (.bl false) ρ1
  | _ => .bad
theorem v_and : eAnd a b ρ = (a ρ).bind (andK b) := id rfl
theorem v_andT : andK b (.bl true) ρ = b ρ := id rfl
theorem v_andF : andK b (.bl false) ρ = .ok (.bl false) ρ := id rfl
def orK (b : E) (x : D) (ρ1 : Env) : ER := match x with
  | .bl false => b ρ1
  | .bl true => .ok (.bl true) ρ1
  | _ => .bad
theorem v_or : eOr a b ρ = (a ρ).bind (orK b) := id rfl
theorem v_orT : orK b (.bl true) ρ = .ok (.bl true) ρ := id rfl
theorem v_orF : orK b (.bl false) ρ = b ρ := id rfl
def ifE (a b : E) (x : D) (ρ1 : Env) : ER := match x with
  | .bl true => a ρ1
  | .bl false => b ρ1
  | _ => .bad
theorem v_ife : eIf c a b ρ = (c ρ).bind (ifE a b) := id rfl
theorem v_ifeT : ifE a b (.bl true) ρ = a ρ := id rfl
theorem v_ifeF : ifE a b (.bl false) ρ = b ρ := id rfl
def chK (o' : D → D → Option D) (c : E) (y : D) (ρ2 : Env) (r : Option D) : ER := match r with
  | some (.bl true) => (c ρ2).bind fun z ρ3 => lift (o' y z) ρ3
  | some (.bl false) => .ok (.bl false) ρ2
  | _ => .bad
def kC2 (o o' : D → D → Option D) (c : E) (x : D) : D → Env → ER := fun y ρ2 => chK o' c y ρ2 (o x y)
def kC1 (o o' : D → D → Option D) (b c : E) : D → Env → ER := fun x ρ1 => (b ρ1).bind (kC2 o o' c x)
theorem v_kC2 {o o' : D → D → Option D} : kC2 o o' c x y ρ = chK o' c y ρ (o x y) := id rfl
theorem v_kC1 {o o' : D → D → Option D} : kC1 o o' b c x ρ = (b ρ).bind (kC2 o o' c x) := id rfl
theorem v_ch {o o' : D → D → Option D} : eChain o o' a b c ρ = (a ρ).bind (kC1 o o' b c) := id rfl
theorem v_chT {o' : D → D → Option D} : chK o' c y ρ (some (.bl true)) = (c ρ).bind (kOp2 o' y) := id rfl
theorem v_chF {o' : D → D → Option D} : chK o' c y ρ (some (.bl false)) = .ok (.bl false) ρ := id rfl
def kFrz : D → Env → ER := fun x ρ1 => lift (frzD x) ρ1
theorem v_kFrz : kFrz x ρ = lift (frzD x) ρ := id rfl
theorem v_frz : eFrz a ρ = (a ρ).bind kFrz := id rfl
theorem v_frzP (h : d.isMut = false) : frzD d = some d := by cases d <;> first | rfl | cases h
theorem v_frzL {l : List D} : frzD (.own 0 (.lst l)) = if allPlain l then some (.lst l) else none := id rfl
theorem v_plN : allPlain [] = true := id rfl
theorem v_plC {l : List D} : allPlain (d :: l) = (!d.isMut && allPlain l) := id rfl
def giveK (i : Nat) (ρ : Env) (o : Option (Option D)) : ER := match o with
  | some (some d) => (match frzD d with
    | some d' => .ok d' (ρ.set i (some d'))
    | none => .bad)
  | _ => .bad
theorem v_give : eGive i ρ = giveK i ρ ρ[i]? := id rfl
theorem v_giveO {l : List D} (h : allPlain l = true) : giveK i ρ (some (some (.own 0 (.lst l)))) = .ok (.lst l) (ρ.set i (some (.lst l))) := by simp [giveK, frzD, h]
theorem v_giveP (h : d.isMut = false) : giveK i ρ (some (some d)) = .ok d (ρ.set i (some d)) := by simp [giveK, v_frzP h]
theorem v_isOL {t : Nat} {l : List D} : isOL (some (some (.own t (.lst l)))) = true := id rfl
def appK (i : Nat) (x : D) (ρ1 : Env) (o : Option (Option D)) : ER := match o with
  | some (some (.own t (.lst l))) => if l.length < cap then .ok .non (ρ1.set i (some (.own t (.lst (l ++ [x]))))) else .bad
  | _ => .bad
def kApp (i : Nat) : D → Env → ER := fun x ρ1 => appK i x ρ1 ρ1[i]?
theorem v_kApp : kApp i x ρ = appK i x ρ ρ[i]? := id rfl
theorem v_app : eApp i a ρ = if isOL ρ[i]? then (a ρ).bind (kApp i) else .bad := id rfl
theorem v_appL {t : Nat} {l : List D} (h : l.length < 16777216) : appK i x ρ (some (some (.own t (.lst l)))) = .ok .non (ρ.set i (some (.own t (.lst (l ++ [x]))))) := by simp [appK, cap, h]
def ixK (ρ1 : Env) (x : D) (o : Option (Option D)) : ER := match o, x with
  | some (some (.own _ (.lst l))), .int k => (match atD l k with
    | some d => if d.isMut then .bad else .ok d ρ1
    | none => .bad)
  | _, _ => .bad
def kIx (i : Nat) : D → Env → ER := fun x ρ1 => ixK ρ1 x ρ1[i]?
theorem v_kIx : kIx i x ρ = ixK ρ x ρ[i]? := id rfl
theorem v_ixO : eIxO i a ρ = if isOL ρ[i]? then (a ρ).bind (kIx i) else .bad := by
  unfold kIx
  unfold eIxO
  congr 2
theorem v_ixL {t : Nat} {l : List D} {k : Int} : ixK ρ (.int k) (some (some (.own t (.lst l)))) = match atD l k with
    | some d => if d.isMut then .bad else .ok d ρ
    | none => .bad := rfl
def putK (i : Nat) (x y : D) (ρ2 : Env) (o : Option (Option D)) : Fl := match o, y with
  | some (some (.own t (.lst l))), .int j => (match ixD l.length j with
    | some m => if allPlain l then .nx (ρ2.set i (some (.own t (.lst (l.set m x))))) else .bad
    | none => .bad)
  | _, _ => .bad
def kPO2 (i : Nat) (x : D) : D → Env → Fl := fun y ρ2 => putK i x y ρ2 ρ2[i]?
def kPO1 (i : Nat) (b : E) : D → Env → Fl := fun x ρ1 => if isOL ρ1[i]? then (b ρ1).binds (kPO2 i x) else .bad
theorem v_kPO2 : kPO2 i x y ρ = putK i x y ρ ρ[i]? := id rfl
theorem v_kPO1 : kPO1 i b x ρ = if isOL ρ[i]? then (b ρ).binds (kPO2 i x) else .bad := id rfl
theorem v_putO : sPutO i b a ρ = (a ρ).binds (kPO1 i b) := by
  unfold kPO1 kPO2
  unfold sPutO
  congr 1
theorem v_putL {t : Nat} {l : List D} {k : Int} : putK i x (.int k) ρ (some (some (.own t (.lst l)))) = match ixD l.length k with
    | some m => if allPlain l then .nx (ρ.set i (some (.own t (.lst (l.set m x))))) else .bad
    | none => .bad := rfl
def lenK (ρ : Env) (o : Option (Option D)) : ER := match o with
  | some (some (.own _ (.lst l))) => .ok (.int l.length) ρ
  | _ => .bad
theorem v_lenO : eLenO i ρ = lenK ρ ρ[i]? := id rfl
theorem v_lenL {t : Nat} {l : List D} : lenK ρ (some (some (.own t (.lst l)))) = .ok (.int l.length) ρ := id rfl
def msK (o : D → D → Option D) (b : E) (x : D) (ρ1 : Env) : ER := match x with
  | .str s => (b ρ1).bind fun y ρ2 => lift (o (.str s) y) ρ2
  | _ => .bad
theorem v_ms {o : D → D → Option D} : eMs o a b ρ = (a ρ).bind (msK o b) := id rfl
theorem v_msS {o : D → D → Option D} {z : List Nat} : msK o b (.str z) ρ = (b ρ).bind (kOp2 o (.str z)) := id rfl
def slK1 (o : D → Option Int → Option Int → Option D) (x : D) (hi : Option E) (r : OR) : ER := match r with
  | .ok l ρ2 => (match part hi ρ2 with
    | .ok h ρ3 => lift (o x l h) ρ3
    | .exc x ρ3 => .exc x ρ3
    | .bad => .bad)
  | .exc x ρ2 => .exc x ρ2
  | .bad => .bad
def slK2 (o : D → Option Int → Option Int → Option D) (x : D) (l : Option Int) (r : OR) : ER := match r with
  | .ok h ρ3 => lift (o x l h) ρ3
  | .exc x ρ3 => .exc x ρ3
  | .bad => .bad
def kSl (o : D → Option Int → Option Int → Option D) (lo hi : Option E) : D → Env → ER := fun x ρ1 => slK1 o x hi (part lo ρ1)
theorem v_kSl {o : D → Option Int → Option Int → Option D} {lo hi : Option E} : kSl o lo hi x ρ = slK1 o x hi (part lo ρ) := id rfl
theorem v_sl {o : D → Option Int → Option Int → Option D} {lo hi : Option E} : eSl o a lo hi ρ = (a ρ).bind (kSl o lo hi) := id rfl
theorem v_sl1 {o : D → Option Int → Option Int → Option D} {hi : Option E} {l : Option Int} : slK1 o x hi (.ok l ρ) = slK2 o x l (part hi ρ) := id rfl
theorem v_sl2 {o : D → Option Int → Option Int → Option D} {l h : Option Int} : slK2 o x l (.ok h ρ) = lift (o x l h) ρ := id rfl
def partK (r : ER) : OR := match r with
  | .ok (.int i) ρ1 => .ok (some i) ρ1
  | .ok _ _ => .bad
  | .exc x ρ1 => .exc x ρ1
  | .bad => .bad
theorem v_part0 : part none ρ = .ok none ρ := id rfl
theorem v_part : part (some a) ρ = partK (a ρ) := id rfl
theorem v_partI {z : Int} : partK (.ok (.int z) ρ) = .ok (some z) ρ := id rfl
theorem v_seq : sSeq s t ρ = (s ρ).bind t := id rfl
theorem v_nil : sNil ρ = .nx ρ := id rfl
theorem v_ret : sRet a ρ = (a ρ).binds Fl.rt := id rfl
theorem v_retN : sRetN ρ = .rt .non ρ := id rfl
def kDrop : D → Env → Fl := fun _ ρ1 => .nx ρ1
theorem v_kDrop : kDrop x ρ = .nx ρ := id rfl
theorem v_drop : sDrop a ρ = (a ρ).binds kDrop := id rfl
theorem v_bkS : sBk ρ = .bk ρ := id rfl
theorem v_ctS : sCt ρ = .ct ρ := id rfl
def ifK (s t : St) (x : D) (ρ1 : Env) : Fl := match x with
  | .bl true => s ρ1
  | .bl false => t ρ1
  | _ => .bad
theorem v_if : sIf c s t ρ = (c ρ).binds (ifK s t) := id rfl
theorem v_ifT : ifK s t (.bl true) ρ = s ρ := id rfl
theorem v_ifF : ifK s t (.bl false) ρ = t ρ := id rfl
def toFl (o : Option Env) : Fl := match o with
  | some ρ => .nx ρ
  | none => .bad
theorem v_toS : toFl (some ρ) = .nx ρ := id rfl
def kSet (i : Nat) : D → Env → Fl := fun d ρ1 => toFl (put i d ρ1)
theorem v_kSet : kSet i d ρ = toFl (put i d ρ) := id rfl
theorem v_set : sSet i a ρ = (a ρ).binds (kSet i) := id rfl
def kAsg (g : Tg) : D → Env → Fl := fun d ρ1 => toFl (g d ρ1)
theorem v_kAsg : kAsg g d ρ = toFl (g d ρ) := id rfl
theorem v_asg : sAsg a g ρ = (a ρ).binds (kAsg g) := id rfl
def putQ (i : Nat) (d : D) (ρ : Env) (o : Option (Option D)) : Option Env := match o with
  | some (some (.own (_ + 1) _)) => none
  | some _ => some (ρ.set i (some d))
  | none => none
theorem v_put : put i d ρ = putQ i d ρ ρ[i]? := id rfl
theorem v_putN : putQ i d ρ (some none) = some (ρ.set i (some d)) := id rfl
theorem v_putP (h : x.isMut = false) : putQ i d ρ (some (some x)) = some (ρ.set i (some d)) := by cases x <;> first | rfl | cases h
theorem v_putOwn : putQ i d ρ (some (some (.own 0 x))) = some (ρ.set i (some d)) := id rfl
def pln (o : Option D) : Prop := ∀ d, o = some d → d.isMut = false
theorem pln_none : pln none := fun _ h => by cases h
theorem pln_some (h : d.isMut = false) : pln (some d) := fun _ e => by cases e; exact h
theorem v_putV {v : Option D} (h : pln v) : putQ i d ρ (some v) = some (ρ.set i (some d)) := by
  cases v with
  | none => rfl
  | some x => exact v_putP (h x rfl)
def Fre (v : Option D) : Prop := ∀ t z, v ≠ some (.own (t + 1) z)
theorem v_putF {v : Option D} (h : Fre v) : putQ i d ρ (some v) = some (ρ.set i (some d)) := by
  cases v with
  | none => rfl
  | some e =>
    cases e with
    | own t z =>
      cases t with
      | zero => rfl
      | succ t => exact absurd rfl (h t z)
    | _ => rfl
theorem fre_none : Fre none := fun _ _ z => by cases z
theorem fre_own {z : D} : Fre (some (.own 0 z)) := fun _ _ e => by cases e
theorem fre_pl (h : d.isMut = false) : Fre (some d) := fun _ _ e => by cases e; cases h
def FreL : Env → Prop
  | [] => True
  | v :: r => Fre v ∧ FreL r
theorem v_gvar : gVar i d ρ = put i d ρ := id rfl
theorem v_gtup {gs : List Tg} : gTup gs (.tup ds) ρ = gAll gs ds ρ := id rfl
theorem v_gnil : gAll [] [] ρ = some ρ := id rfl
theorem v_gcons {gs : List Tg} : gAll (g :: gs) (d :: ds) ρ = (g d ρ).bind (gAll gs ds) := id rfl
def parK (is : List Nat) (r : AR) : Fl := match r with
  | .ok ds ρ1 => toFl (putAll is ds ρ1)
  | .exc x ρ1 => .ex x ρ1
  | .bad => .bad
theorem v_par {is : List Nat} {r : As} : sPar is r ρ = parK is (r ρ) := by
  unfold sPar parK
  cases r ρ <;> rfl
theorem v_parO {is : List Nat} : parK is (.ok ds ρ) = toFl (putAll is ds ρ) := id rfl
theorem v_pa0 : putAll [] [] ρ = some ρ := id rfl
theorem v_pa1 {is : List Nat} : putAll (i :: is) (d :: ds) ρ = (put i d ρ).bind (putAll is ds) := id rfl
def augK (i : Nat) (o : D → D → Option D) (a : E) (ρ : Env) (r : Option D) : Fl := match r with
  | none => .bad
  | some x => (a ρ).binds fun y ρ1 => toFl ((o x y).bind fun z => put i z ρ1)
theorem v_aug {o : D → D → Option D} : sAug i o a ρ = augK i o a ρ (rd ρ[i]?) := by
  unfold sAug augK
  cases rd ρ[i]? with
  | none => rfl
  | some x =>
    show (a ρ).binds _ = (a ρ).binds _
    congr 1
    funext y ρ1
    cases o x y with
    | none => rfl
    | some z => rfl
def kPut (i : Nat) (ρ : Env) : D → Option Env := fun z => put i z ρ
theorem v_kPut : kPut i ρ d = put i d ρ := id rfl
def kAug (i : Nat) (o : D → D → Option D) (x : D) : D → Env → Fl := fun y ρ1 => toFl ((o x y).bind (kPut i ρ1))
theorem v_kAug {o : D → D → Option D} : kAug i o x y ρ = toFl ((o x y).bind (kPut i ρ)) := id rfl
theorem v_augS {o : D → D → Option D} : augK i o a ρ (some x) = (a ρ).binds (kAug i o x) := id rfl
def itK (o : D → Option (List D)) (r : ER) : AR := match r with
  | .ok d ρ1 => (match o d with
    | some ds => .ok ds ρ1
    | none => .bad)
  | .exc x ρ1 => .exc x ρ1
  | .bad => .bad
theorem v_iof {o : D → Option (List D)} : iOf o a ρ = itK o (a ρ) := by unfold iOf itK; cases a ρ <;> rfl
theorem v_itL {l : List D} : itK itL (.ok (.lst l) ρ) = .ok l ρ := id rfl
theorem v_itT {l : List D} : itK itT (.ok (.tup l) ρ) = .ok l ρ := id rfl
theorem v_itS {l : List Nat} : itK itS (.ok (.str l) ρ) = .ok (l.map fun c => .str [c]) ρ := id rfl
def itA (o : List D → Option (List D)) (r : AR) : AR := match r with
  | .ok xs ρ1 => (match o xs with
    | some ds => .ok ds ρ1
    | none => .bad)
  | .exc x ρ1 => .exc x ρ1
  | .bad => .bad
theorem v_ioa {o : List D → Option (List D)} {r : As} : iOfA o r ρ = itA o (r ρ) := by unfold iOfA itA; cases r ρ <;> rfl
theorem v_itR1 {z : Int} (h : okR z = true) : itA itR (.ok [.int z] ρ) = .ok (rangeD 0 z.toNat) ρ := by simp [itA, itR, h]
theorem v_itR2 {y z : Int} (h : okR y = true) (h' : okR z = true) : itA itR (.ok [.int y, .int z] ρ) = .ok (rangeD y (z - y).toNat) ρ := by simp [itA, itR, h, h']
theorem v_itES {l : List Nat} : itA itES (.ok [.str l] ρ) = .ok (enumD (l.map fun c => .str [c])) ρ := id rfl
theorem v_itEL {l : List D} : itA itEL (.ok [.lst l] ρ) = .ok (enumD l) ρ := id rfl
def forA (g : Tg) (b : St) (r : AR) : Fl := match r with
  | .ok ds ρ1 => forL g b ds ρ1
  | .exc x ρ1 => .ex x ρ1
  | .bad => .bad
theorem v_for {it : Is} : sFor it g s ρ = forA g s (it ρ) := by unfold sFor forA; cases it ρ <;> rfl
theorem v_forO : forA g s (.ok ds ρ) = forL g s ds ρ := id rfl
theorem v_fl0 : forL g s [] ρ = .nx ρ := id rfl
def forK (g : Tg) (b : St) (ds : List D) (r : Fl) : Fl := match r with
  | .nx ρ2 => forL g b ds ρ2
  | .ct ρ2 => forL g b ds ρ2
  | .bk ρ2 => .nx ρ2
  | .rt d ρ2 => .rt d ρ2
  | .ex x ρ2 => .ex x ρ2
  | .bad => .bad
theorem v_fl1 : forL g s (d :: ds) ρ = forK g s ds ((toFl (g d ρ)).bind s) := by
  unfold forK
  simp only [forL]
  cases g d ρ with
  | none => rfl
  | some ρ1 => show _ = (match s ρ1 with | _ => _); cases s ρ1 <;> rfl
theorem v_fkN : forK g s ds (.nx ρ) = forL g s ds ρ := id rfl
theorem v_fkC : forK g s ds (.ct ρ) = forL g s ds ρ := id rfl
theorem v_fkB : forK g s ds (.bk ρ) = .nx ρ := id rfl
theorem v_fkR : forK g s ds (.rt d ρ) = .rt d ρ := id rfl
theorem v_fkX : forK g s ds (.ex e ρ) = .ex e ρ := id rfl
def cpA (g : Tg) (t e : E) (vs : List Nat) (r : AR) : ER := match r with
  | .ok ds ρ1 => (match compL g t e vs ds (wipeE vs ρ1) [] with
    | .ok l ρ2 => .ok (.own 0 (.lst l)) ρ2
    | .exc x ρ2 => .exc x ρ2
    | .bad => .bad)
  | .exc x ρ1 => .exc x ρ1
  | .bad => .bad
def cpB (r : AR) : ER := match r with
    | .ok l ρ2 => .ok (.own 0 (.lst l)) ρ2
    | .exc x ρ2 => .exc x ρ2
    | .bad => .bad
theorem v_cp {it : Is} {vs : List Nat} : eComp it g a b vs ρ = cpA g a b vs (it ρ) := by unfold eComp cpA; cases it ρ <;> rfl
theorem v_cpO {vs : List Nat} : cpA g a b vs (.ok ds ρ) = cpB (compL g a b vs ds (wipeE vs ρ) []) := id rfl
theorem v_cpB : cpB (.ok ds ρ) = .ok (.own 0 (.lst ds)) ρ := id rfl
def clE (g : Tg) (t e : E) (vs : List Nat) (ds acc : List D) (r : ER) : AR := match r with
  | .ok x ρ3 => if acc.length < 16777216 then compL g t e vs ds (wipeE vs ρ3) (acc ++ [x]) else .bad
  | _ => .bad
def clT (g : Tg) (t e : E) (vs : List Nat) (ds acc : List D) (r : ER) : AR := match r with
  | .ok (.bl true) ρ2 => clE g t e vs ds acc (e ρ2)
  | .ok (.bl false) ρ2 => compL g t e vs ds (wipeE vs ρ2) acc
  | _ => .bad
def clG (g : Tg) (t e : E) (vs : List Nat) (ds acc : List D) (o : Option Env) : AR := match o with
  | none => .bad
  | some ρ1 => clT g t e vs ds acc (t ρ1)
theorem v_cl0 {vs : List Nat} {acc : List D} : compL g a b vs [] ρ acc = .ok acc ρ := by rw [compL]
theorem v_cl1 {vs : List Nat} {acc : List D} : compL g a b vs (d :: ds) ρ acc = clG g a b vs ds acc (g d ρ) := by
  rw [compL]
  unfold clG
  generalize g d ρ = o
  cases o with
  | none => rfl
  | some ρ1 =>
    show _ = clT g a b vs ds acc (a ρ1)
    simp only []
    generalize a ρ1 = r
    cases r with
    | ok x ρ2 => cases x with
      | bl z => cases z with
        | true =>
          show _ = clE g a b vs ds acc (b ρ2)
          simp only []
          generalize b ρ2 = r2
          cases r2 <;> rfl
        | false => rfl
      | _ => rfl
    | _ => rfl
theorem v_clG {vs : List Nat} {acc : List D} : clG g a b vs ds acc (some ρ) = clT g a b vs ds acc (a ρ) := id rfl
theorem v_clT {vs : List Nat} {acc : List D} : clT g a b vs ds acc (.ok (.bl true) ρ) = clE g a b vs ds acc (b ρ) := id rfl
theorem v_clF {vs : List Nat} {acc : List D} : clT g a b vs ds acc (.ok (.bl false) ρ) = compL g a b vs ds (wipeE vs ρ) acc := id rfl
theorem v_clE {vs : List Nat} {acc : List D} : clE g a b vs ds acc (.ok x ρ) = if acc.length < 16777216 then compL g a b vs ds (wipeE vs ρ) (acc ++ [x]) else .bad := id rfl
def rsK (c : String) (ns : List String) (r : AR) : Fl := match r with
  | .ok ds ρ1 => .ex ⟨c, ns, ds⟩ ρ1
  | .exc x ρ1 => .ex x ρ1
  | .bad => .bad
theorem v_raise {c : String} {ns : List String} {r : As} : sRaise c ns r ρ = rsK c ns (r ρ) := by unfold sRaise rsK; cases r ρ <;> rfl
theorem v_rsO {c : String} {ns : List String} : rsK c ns (.ok ds ρ) = .ex ⟨c, ns, ds⟩ ρ := id rfl
def tryK (tb : Tb) (hs : List Hd) (t : St) (r : Fl) : Fl := match r with
  | .nx ρ1 => t ρ1
  | .ex x ρ1 => catch_ tb x ρ1 hs
  | r => r
theorem v_try {tb : Tb} {hs : List Hd} : sTry tb s hs t ρ = tryK tb hs t (s ρ) := by unfold sTry tryK; cases s ρ <;> rfl
theorem v_tryN {tb : Tb} {hs : List Hd} : tryK tb hs t (.nx ρ) = t ρ := id rfl
theorem v_tryX {tb : Tb} {hs : List Hd} : tryK tb hs t (.ex e ρ) = catch_ tb e ρ hs := id rfl
theorem v_tryR {tb : Tb} {hs : List Hd} : tryK tb hs t (.rt d ρ) = .rt d ρ := id rfl
theorem v_tryB {tb : Tb} {hs : List Hd} : tryK tb hs t (.bk ρ) = .bk ρ := id rfl
theorem v_tryC {tb : Tb} {hs : List Hd} : tryK tb hs t (.ct ρ) = .ct ρ := id rfl
def endF_ (n : Nat) (r : Fl) : ER := match r with
  | .rt d ρ => .ok d (ρ.take n)
  | .nx ρ => .ok .non (ρ.take n)
  | .ex x ρ => .exc x (ρ.take n)
  | _ => .bad
theorem v_fn {n m : Nat} : fnOf n m s ds = if ds.length = n then endF_ n (s (ds.map some ++ List.replicate m none)) else .bad := by
  unfold fnOf endF_
  split
  · cases s (ds.map some ++ List.replicate m none) <;> rfl
  · rfl
theorem v_fnR {n : Nat} : endF_ n (.rt d ρ) = .ok d (ρ.take n) := id rfl
theorem v_fnN {n : Nat} : endF_ n (.nx ρ) = .ok .non (ρ.take n) := id rfl
theorem v_fnX {n : Nat} : endF_ n (.ex e ρ) = .exc e (ρ.take n) := id rfl
def agK (r : GR) (z : Arg) : GR := match r with
  | .ok l ρ2 => .ok (z :: l) ρ2
  | .exc x ρ2 => .exc x ρ2
  | .bad => .bad
def agV (r : List Ag) (q : ER) : GR := match q with
  | .ok d ρ1 => agK (evAg r ρ1) (.v d)
  | .exc x ρ1 => .exc x ρ1
  | .bad => .bad
theorem v_ag0 : evAg [] ρ = .ok [] ρ := id rfl
theorem v_agV {r : List Ag} : evAg (.v a :: r) ρ = agV r (a ρ) := by
  simp only [evAg, agV, agK]
  all_goals
    cases a ρ with
    | ok d ρ1 => cases evAg r ρ1 <;> rfl
    | exc x ρ1 => rfl
    | bad => rfl
theorem v_agO {r : List Ag} : agV r (.ok d ρ) = agK (evAg r ρ) (.v d) := id rfl
theorem v_agX {r : List Ag} : agV r (.exc e ρ) = .exc e ρ := id rfl
def agB (r : List Ag) (i : Nat) (ρ : Env) (o : Option (Option D)) : GR := match o with
  | some (some (.own _ _)) => agK (evAg r ρ) (.b i)
  | _ => .bad
theorem v_agB {r : List Ag} : evAg (.b i :: r) ρ = agB r i ρ ρ[i]? := by
  simp only [evAg]
  unfold agB agK
  generalize ρ[i]? = o
  rcases o with _ | _ | d
  · rfl
  · rfl
  · cases d <;> first | rfl | (cases evAg r ρ <;> rfl)
theorem v_agBO {r : List Ag} {t : Nat} : agB r i ρ (some (some (.own t x))) = agK (evAg r ρ) (.b i) := id rfl
theorem v_agK {l : List Arg} {z : Arg} : agK (.ok l ρ) z = .ok (z :: l) ρ := id rfl
def callK (f : Fn) (dd : List D) (r : GR) : ER := match r with
  | .ok l ρ1 => (match hand ρ1 0 l with
    | some ds => if (lent l).Nodup then (match f (ds ++ dd) with
      | .ok d o => (match back 0 l o ρ1 with
        | some ρ2 => .ok d ρ2
        | none => .bad)
      | .exc x o => (match back 0 l o ρ1 with
        | some ρ2 => .exc x ρ2
        | none => .bad)
      | .bad => .bad) else .bad
    | none => .bad)
  | .exc x ρ1 => .exc x ρ1
  | .bad => .bad
theorem v_call {f : Fn} {g : List Ag} {dd : List D} : eCall f g dd ρ = callK f dd (evAg g ρ) := by unfold eCall callK; cases evAg g ρ <;> rfl
theorem v_callX {f : Fn} {dd : List D} : callK f dd (.exc e ρ) = .exc e ρ := id rfl
def retK (l : List Arg) (ρ1 : Env) (r : ER) : ER := match r with
  | .ok d o => (match back 0 l o ρ1 with
        | some ρ2 => .ok d ρ2
        | none => .bad)
  | .exc x o => (match back 0 l o ρ1 with
        | some ρ2 => .exc x ρ2
        | none => .bad)
  | .bad => .bad
theorem v_callO {f : Fn} {dd : List D} {l : List Arg} (h : hand ρ 0 l = some ds) (hn : (lent l).Nodup) : callK f dd (.ok l ρ) = retK l ρ (f (ds ++ dd)) := by
  simp only [callK, h, if_pos hn]
  unfold retK
  cases f (ds ++ dd) <;> rfl
theorem v_call0 {f : Fn} {dd : List D} : callK f dd (.ok [] ρ) = retK [] ρ (f dd) := v_callO (ds := []) rfl List.nodup_nil
theorem v_call1 {f : Fn} {dd : List D} {d1 : D} : callK f dd (.ok [.v d1] ρ) = retK [.v d1] ρ (f (d1 :: dd)) := v_callO (ds := [d1]) rfl List.nodup_nil
theorem v_call2 {f : Fn} {dd : List D} {d1 d2 : D} : callK f dd (.ok [.v d1, .v d2] ρ) = retK [.v d1, .v d2] ρ (f (d1 :: d2 :: dd)) := v_callO (ds := [d1, d2]) rfl List.nodup_nil
theorem v_call3 {f : Fn} {dd : List D} {d1 d2 d3 : D} : callK f dd (.ok [.v d1, .v d2, .v d3] ρ) = retK [.v d1, .v d2, .v d3] ρ (f (d1 :: d2 :: d3 :: dd)) := v_callO (ds := [d1, d2, d3]) rfl List.nodup_nil
theorem v_call4 {f : Fn} {dd : List D} {d1 d2 d3 d4 : D} : callK f dd (.ok [.v d1, .v d2, .v d3, .v d4] ρ) = retK [.v d1, .v d2, .v d3, .v d4] ρ (f (d1 :: d2 :: d3 :: d4 :: dd)) := v_callO (ds := [d1, d2, d3, d4]) rfl List.nodup_nil
theorem v_ret0 {o : Env} : retK [] ρ (.ok d o) = .ok d ρ := id rfl
theorem v_ret1 {o : Env} {d1 : D} : retK [.v d1] ρ (.ok d o) = .ok d ρ := id rfl
theorem v_ret2 {o : Env} {d1 d2 : D} : retK [.v d1, .v d2] ρ (.ok d o) = .ok d ρ := id rfl
theorem v_ret3 {o : Env} {d1 d2 d3 : D} : retK [.v d1, .v d2, .v d3] ρ (.ok d o) = .ok d ρ := id rfl
theorem v_ret4 {o : Env} {d1 d2 d3 d4 : D} : retK [.v d1, .v d2, .v d3, .v d4] ρ (.ok d o) = .ok d ρ := id rfl
theorem v_retX0 {o : Env} : retK [] ρ (.exc e o) = .exc e ρ := id rfl
theorem v_retX1 {o : Env} {d1 : D} : retK [.v d1] ρ (.exc e o) = .exc e ρ := id rfl
theorem v_retX2 {o : Env} {d1 d2 : D} : retK [.v d1, .v d2] ρ (.exc e o) = .exc e ρ := id rfl
theorem v_retX3 {o : Env} {d1 d2 d3 : D} : retK [.v d1, .v d2, .v d3] ρ (.exc e o) = .exc e ρ := id rfl
theorem v_retX4 {o : Env} {d1 d2 d3 d4 : D} : retK [.v d1, .v d2, .v d3, .v d4] ρ (.exc e o) = .exc e ρ := id rfl
def retB (i t : Nat) (ρ : Env) (r : ER) : ER := match r with
  | .ok d (some (.own 1 p') :: _) => .ok d (ρ.set i (some (.own t p')))
  | .exc x (some (.own 1 p') :: _) => .exc x (ρ.set i (some (.own t p')))
  | _ => .bad
def lendK (f : Fn) (i : Nat) (ρ : Env) (args : List D) (o : Option (Option D)) : ER := match o with
  | some (some (.own t p)) => retB i t ρ (f (.own 1 p :: args))
  | _ => .bad
theorem back_vs {i t : Nat} {ρ : Env} {p' : D} {o : Env} (h : ∃ q, ρ[i]? = some (some (.own t q))) : ∀ {l : List Arg}, lent l = [] → back 0 (.b i :: l) (some (.own 1 p') :: o) ρ = some (ρ.set i (some (.own t p'))) := by
  intro l hl
  obtain ⟨q, hq⟩ := h
  simp only [back, List.head?_cons, hq, List.tail_cons, if_true]
  have : ∀ (l : List Arg) (j : Nat) (o ρ : Env), lent l = [] → back j l o ρ = some ρ := by
    intro l
    induction l with
    | nil => intros; rfl
    | cons z l ih =>
      intro j o ρ h
      cases z with
      | v d => simp only [back]; exact ih _ _ _ (by simpa [lent] using h)
      | b i => simp [lent] at h
  exact this l _ _ _ hl
theorem lend_of {f : Fn} {dd : List D} {l : List Arg} {ds : List D} (hl : lent l = []) (hh : ∀ ρ, hand ρ 1 l = some ds) : callK f dd (.ok (.b i :: l) ρ) = lendK f i ρ (ds ++ dd) ρ[i]? := by
  unfold lendK
  rcases e : ρ[i]? with _ | _ | d0
  · simp [callK, hand, e]
  · simp [callK, hand, e]
  · cases d0 with
    | own t p =>
      have h1 : hand ρ 0 (.b i :: l) = some (.own 1 p :: ds) := by simp [hand, e, hh]
      rw [v_callO h1 (by simp [lent, hl])]
      simp only [List.cons_append]
      unfold retK retB
      cases f (.own 1 p :: (ds ++ dd)) with
      | bad => rfl
      | ok d o =>
        match o with
        | some (.own 1 p') :: o => simp only [back_vs ⟨p, e⟩ hl]
        | [] => simp [back]
        | none :: _ => simp [back]
        | some .non :: _ => simp [back]
        | some (.bl _) :: _ => simp [back]
        | some (.int _) :: _ => simp [back]
        | some (.str _) :: _ => simp [back]
        | some (.tup _) :: _ => simp [back]
        | some (.lst _) :: _ => simp [back]
        | some (.ins _ _ _) :: _ => simp [back]
        | some (.exn _ _ _) :: _ => simp [back]
        | some (.scr _) :: _ => simp [back]
        | some (.dic _) :: _ => simp [back]
        | some (.exv _ _ _) :: _ => simp [back]
        | some (.own 0 _) :: _ => simp [back]
        | some (.own (n + 2) _) :: _ => simp [back, e]
      | exc x o =>
        match o with
        | some (.own 1 p') :: o => simp only [back_vs ⟨p, e⟩ hl]
        | [] => simp [back]
        | none :: _ => simp [back]
        | some .non :: _ => simp [back]
        | some (.bl _) :: _ => simp [back]
        | some (.int _) :: _ => simp [back]
        | some (.str _) :: _ => simp [back]
        | some (.tup _) :: _ => simp [back]
        | some (.lst _) :: _ => simp [back]
        | some (.ins _ _ _) :: _ => simp [back]
        | some (.exn _ _ _) :: _ => simp [back]
        | some (.scr _) :: _ => simp [back]
        | some (.dic _) :: _ => simp [back]
        | some (.exv _ _ _) :: _ => simp [back]
        | some (.own 0 _) :: _ => simp [back]
        | some (.own (n + 2) _) :: _ => simp [back, e]
    | _ => simp [callK, hand, e]
theorem v_b1 {f : Fn} {dd : List D} : callK f dd (.ok [.b i] ρ) = lendK f i ρ dd ρ[i]? := lend_of (ds := []) rfl fun _ => rfl
theorem v_b2 {f : Fn} {dd : List D} {d1 : D} : callK f dd (.ok [.b i, .v d1] ρ) = lendK f i ρ (d1 :: dd) ρ[i]? := lend_of (ds := [d1]) rfl fun _ => rfl
theorem v_b3 {f : Fn} {dd : List D} {d1 d2 : D} : callK f dd (.ok [.b i, .v d1, .v d2] ρ) = lendK f i ρ (d1 :: d2 :: dd) ρ[i]? := lend_of (ds := [d1, d2]) rfl fun _ => rfl
theorem v_b4 {f : Fn} {dd : List D} {d1 d2 d3 : D} : callK f dd (.ok [.b i, .v d1, .v d2, .v d3] ρ) = lendK f i ρ (d1 :: d2 :: d3 :: dd) ρ[i]? := lend_of (ds := [d1, d2, d3]) rfl fun _ => rfl
theorem v_b5 {f : Fn} {dd : List D} {d1 d2 d3 d4 : D} : callK f dd (.ok [.b i, .v d1, .v d2, .v d3, .v d4] ρ) = lendK f i ρ (d1 :: d2 :: d3 :: d4 :: dd) ρ[i]? := lend_of (ds := [d1, d2, d3, d4]) rfl fun _ => rfl
theorem v_lend {f : Fn} {args : List D} {t : Nat} {p : D} : lendK f i ρ args (some (some (.own t p))) = retB i t ρ (f (.own 1 p :: args)) := id rfl
theorem v_retB {t : Nat} {p : D} {o : Env} : retB i t ρ (.ok d (some (.own 1 p) :: o)) = .ok d (ρ.set i (some (.own t p))) := id rfl
theorem v_retBX {t : Nat} {p : D} {o : Env} : retB i t ρ (.exc e (some (.own 1 p) :: o)) = .exc e (ρ.set i (some (.own t p))) := id rfl
end
end U
namespace U
section
variable {d x y : D} {ρ ρ1 o : Env} {e : Ex} {ds fs : List D} {a b : E} {i t : Nat} {c f m : String} {ns : List String} {fn : Fn} {dd : List D} {as : As}
def okPl : Option D → Option D
  | some d => if d.isMut then none else some d
  | none => none
theorem v_okPl (h : d.isMut = false) : okPl (some d) = some d := by simp [okPl, h]
theorem v_fldO : eFldO i c f ρ = lift (fldO c f ρ[i]?) ρ := id rfl
theorem v_fldI : fldO c f (some (some (.own t (.ins c ns ds)))) = okPl (lookN f ns ds) := by
  simp only [fldO, okPl, if_true]
  all_goals (cases lookN f ns ds <;> rfl)
def setFK (i : Nat) (ρ : Env) : Option D → Fl
  | some d => .nx (ρ.set i (some d))
  | none => .bad
def kFld (i : Nat) (c f : String) : D → Env → Fl := fun d ρ => setFK i ρ (putFO c f d ρ[i]?)
theorem v_sfld : sFldO i c f a ρ = (a ρ).binds (kFld i c f) := by
  unfold sFldO kFld setFK; cases a ρ <;> simp only [ER.binds]
  all_goals (rename_i d ρ1; cases putFO c f d ρ1[i]? <;> rfl)
theorem v_kFld : kFld i c f d ρ = setFK i ρ (putFO c f d ρ[i]?) := id rfl
theorem v_setFK : setFK i ρ (some d) = .nx (ρ.set i (some d)) := id rfl
theorem v_putFO (h : ns.length < 1000) : putFO c f d (some (some (.own t (.ins c ns ds)))) = some (.own t (.ins c (putNs f ns) (putDs f d ns ds))) := by simp [putFO, h]
def mkR (c : String) (ρ : Env) : ER → ER
  | .ok .non (some (.own 1 (.ins c' ns fs)) :: _) => if c' = c then .ok (.own 0 (.ins c ns fs)) ρ else .bad
  | .exc x _ => .exc x ρ
  | _ => .bad
def mkK (c : String) (fn : Fn) (dd : List D) : AR → ER
  | .ok ds ρ => mkR c ρ (fn (.own 1 (.ins c [] []) :: (ds ++ dd)))
  | .exc x ρ => .exc x ρ
  | .bad => .bad
theorem v_make : eMake c fn as dd ρ = mkK c fn dd (as ρ) := by
  unfold eMake mkK
  cases as ρ <;> simp only
  rename_i ds ρ1
  unfold mkR
  rfl
theorem v_mkK : mkK c fn dd (.ok ds ρ) = mkR c ρ (fn (.own 1 (.ins c [] []) :: (ds ++ dd))) := id rfl
theorem v_mkKX : mkK c fn dd (.exc e ρ) = .exc e ρ := id rfl
theorem v_mkKB : mkK c fn dd .bad = .bad := id rfl
theorem v_mkR : mkR c ρ (.ok .non (some (.own 1 (.ins c ns fs)) :: o)) = .ok (.own 0 (.ins c ns fs)) ρ := by simp [mkR]
theorem v_mkRX : mkR c ρ (.exc e o) = .exc e ρ := id rfl
theorem v_meth {g : List Ag} : eMeth c m fn a g dd ρ = eCall fn (.v (eUn (oIns c m) a) :: g) dd ρ := id rfl
theorem v_oIns (h : m ∉ ns) : oIns c m (.ins c ns ds) = some (.ins c ns ds) := by simp [oIns, h]
theorem v_methO {g : List Ag} : eMethO c m fn i g dd ρ = if isIO c m ρ[i]? then eCall fn (.b i :: g) dd ρ else .bad := id rfl
theorem v_isIO (h : m ∉ ns) : isIO c m (some (some (.own t (.ins c ns ds)))) = true := by simp [isIO, h]
theorem v_propO : ePropO c fn i ρ = if isI c ρ[i]? then (eCall fn [.b i] [] ρ).plain else .bad := id rfl
theorem v_isI : isI c (some (some (.own t (.ins c ns ds)))) = true := by simp [isI]
theorem v_plain (h : d.isMut = false) : (ER.ok d ρ).plain = .ok d ρ := by simp [ER.plain, h]
def prK : ER → Option D
  | .ok d _ => if d.isMut then none else some d
  | _ => none
theorem v_oProp : oProp c fn (.ins c ns ds) = prK (fn [.ins c ns ds]) := by
  simp only [oProp, prK, if_true]
  all_goals (cases fn [.ins c ns ds] <;> rfl)
theorem v_prK (h : d.isMut = false) : prK (.ok d o) = some d := by simp [prK, h]
theorem v_oCon (h : f ∉ ns) : oCon c f d (.ins c ns ds) = some d := by simp [oCon, h]
theorem v_conO : eConO c f d i ρ = if isIO c f ρ[i]? then .ok d ρ else .bad := id rfl
theorem v_oFld : oFld c f (.ins c ns ds) = lookN f ns ds := by simp [oFld]
theorem v_look : lookN f (m :: ns) (d :: ds) = if m = f then some d else lookN f ns ds := id rfl
theorem v_frzI (h : allPlain ds = true) : frzD (.own 0 (.ins c ns ds)) = some (.ins c ns ds) := by simp [frzD, h]
theorem v_itAL : itA itEQ (.ok [.lst ds] ρ) = .ok (enumD ds) ρ := id rfl
theorem v_itAT : itA itEQ (.ok [.tup ds] ρ) = .ok (enumD ds) ρ := id rfl
theorem v_itEQL : itEQ [.lst ds] = some (enumD ds) := id rfl
theorem v_itEQT : itEQ [.tup ds] = some (enumD ds) := id rfl
def eqK : ER → Option D
  | .ok (.bl b) _ => some (.bl b)
  | _ => none
def neK : ER → Option D
  | .ok (.bl b) _ => some (.bl !b)
  | _ => none
theorem v_eqC {n1 n2 : List String} {d1 d2 : List D} : oEqC c fn (.ins c n1 d1) (.ins c n2 d2) = eqK (fn [.ins c n1 d1, .ins c n2 d2]) := by
  simp only [oEqC, and_self, if_true]; unfold eqK; rfl
theorem v_neC {n1 n2 : List String} {d1 d2 : List D} : oNeC c fn (.ins c n1 d1) (.ins c n2 d2) = neK (fn [.ins c n1 d1, .ins c n2 d2]) := by
  simp only [oNeC, and_self, if_true]; unfold neK; rfl
theorem v_eqK {z : Bool} : eqK (.ok (.bl z) o) = some (.bl z) := id rfl
theorem v_neK {z : Bool} : neK (.ok (.bl z) o) = some (.bl !z) := id rfl
def kB2 (c : String) (fn : Fn) (x : D) : D → Env → ER := fun y ρ2 => if isIn c x && isIn c y then valK ρ2 (fn [x, y]) else .bad
def kB1 (c : String) (fn : Fn) (b : E) : D → Env → ER := fun x ρ1 => (b ρ1).bind (kB2 c fn x)
theorem v_bin : eBin c fn a b ρ = (a ρ).bind (kB1 c fn b) := id rfl
theorem v_kB1 : kB1 c fn b x ρ = (b ρ).bind (kB2 c fn x) := id rfl
theorem v_kB2 : kB2 c fn x y ρ = if isIn c x && isIn c y then valK ρ (fn [x, y]) else .bad := id rfl
theorem v_isIn : isIn c (.ins c ns ds) = true := by simp [isIn]
theorem v_isInt {z : Int} : isInt (.int z) = true := id rfl
def kBI2 (c : String) (fn : Fn) (x : D) : D → Env → ER := fun y ρ2 => if isIn c x && isInt y then valK ρ2 (fn [x, y]) else .bad
def kBI1 (c : String) (fn : Fn) (b : E) : D → Env → ER := fun x ρ1 => (b ρ1).bind (kBI2 c fn x)
theorem v_binI : eBinI c fn a b ρ = (a ρ).bind (kBI1 c fn b) := id rfl
theorem v_kBI1 : kBI1 c fn b x ρ = (b ρ).bind (kBI2 c fn x) := id rfl
theorem v_kBI2 : kBI2 c fn x y ρ = if isIn c x && isInt y then valK ρ (fn [x, y]) else .bad := id rfl
theorem v_valK : valK ρ (.ok d o) = .ok d ρ := id rfl
theorem v_valKX : valK ρ (.exc e o) = .exc e ρ := id rfl
theorem v_makeL : eMakeL i c fn as dd ρ = if isC c ρ[i]? then eMake c fn as dd ρ else .bad := id rfl
theorem v_isC : isC c (some (some (.exn c [] []))) = true := by simp [isC]
end
end U
local macro_rules | `(tactic| walk_at "ev") => `(tactic| simp only [U.v_bind, U.v_kOp2, U.v_kOp1, U.v_kUn, U.v_kA2, U.v_kA1, U.v_kN, U.v_kC2, U.v_kC1, U.v_kFrz, U.v_kApp, U.v_kIx, U.v_kPO2, U.v_kPO1, U.v_kSl, U.v_kDrop, U.v_kSet, U.v_kAsg, U.v_kPut, U.v_kAug, U.v_cl0, U.v_cl1, U.v_clG, U.v_clT, U.v_clF, U.v_clE, U.v_bindX, U.v_bindB, U.v_binds, U.v_bindsX, U.v_bindsB, U.v_bindA, U.v_bindAX, U.v_bindAB, U.v_abind, U.v_abindX, U.v_abindB, U.v_abindA, U.v_abindAX, U.v_abindAB, U.v_nx, U.v_rt, U.v_bk, U.v_ct, U.v_ex, U.v_bad, U.v_c, U.v_var, U.v_some, U.v_none, U.v_rd, U.v_rdN, U.m_non, U.m_bl, U.m_int, U.m_str, U.m_exv, U.m_tup, U.m_lst, U.m_scr, U.m_ins, U.v_op, U.v_un, U.v_anil, U.v_acons, U.v_n, U.v_and, U.v_andT, U.v_andF, U.v_or, U.v_orT, U.v_orF, U.v_ife, U.v_ifeT, U.v_ifeF, U.v_ch, U.v_chT, U.v_chF, U.v_frz, U.v_frzP, U.v_frzL, U.v_plN, U.v_plC, U.v_give, U.v_giveO, U.v_giveP, U.v_isOL, U.v_app, U.v_appL, U.v_ixO, U.v_ixL, U.v_putO, U.v_putL, U.v_lenO, U.v_lenL, U.v_ms, U.v_msS, U.v_sl, U.v_sl1, U.v_sl2, U.v_part0, U.v_part, U.v_partI, U.v_seq, U.v_nil, U.v_ret, U.v_retN, U.v_drop, U.v_bkS, U.v_ctS, U.v_if, U.v_ifT, U.v_ifF, U.v_toS, U.v_set, U.v_asg, U.v_put, U.v_putN, U.v_putP, U.v_putOwn, U.v_putV, U.v_putF, U.fre_none, U.fre_own, U.fre_pl, U.pln_none, U.pln_some, U.v_gvar, U.v_gtup, U.v_gnil, U.v_gcons, U.v_par, U.v_parO, U.v_pa0, U.v_pa1, U.v_aug, U.v_augS, U.v_iof, U.v_itL, U.v_itT, U.v_itS, U.v_ioa, U.v_itR1, U.v_itR2, U.v_itES, U.v_itEL, U.v_for, U.v_forO, U.v_fl0, U.v_fl1, U.v_fkN, U.v_fkC, U.v_fkB, U.v_fkR, U.v_fkX, U.v_cp, U.v_cpO, U.v_cpB, U.v_raise, U.v_rsO, U.v_try, U.v_tryN, U.v_tryX, U.v_tryR, U.v_tryB, U.v_tryC, U.v_fn, U.v_fnR, U.v_fnN, U.v_fnX, U.v_ag0, U.v_agV, U.v_agO, U.v_agX, U.v_agB, U.v_agBO, U.v_agK, U.v_call, U.v_callX, U.v_call0, U.v_call1, U.v_call2, U.v_call3, U.v_call4, U.v_ret0, U.v_ret1, U.v_ret2, U.v_ret3, U.v_ret4, U.v_retX0, U.v_retX1, U.v_retX2, U.v_retX3, U.v_retX4, U.v_b1, U.v_b2, U.v_b3, U.v_b4, U.v_b5, U.v_lend, U.v_retB, U.v_retBX, U.oNot, U.oAdd, U.oSub, U.oMul, U.oMulW, U.oDiv, U.oMod, U.oPow, U.oNeg, U.oLt, U.oLe, U.oGt, U.oGe, U.oEq, U.oNe, U.okD, U.D.eqv, U.eqvs, U.oNeScr, U.oIxScr, U.oLenScr, U.oIsN, U.oNotN, U.D.isN, U.oInS, U.oNotInS, U.oInQ, U.oNotInQ, U.D.flat, U.inD, U.oAddS, U.oMulS, U.oCatL, U.oRepL, U.oCatT, U.oRepT, U.oIxL, U.oIxT, U.oIxS, U.oLenS, U.oLenQ, U.oMax2, U.oMin2, U.oMax3, U.oAbs, U.oSum, U.oAll, U.oAny, U.intsD, U.boolsD, U.strsD, U.oInt, U.oStrI, U.oTupOf, U.oLstOf, U.oSlS, U.oSlL, U.oSlT, U.oRev, U.mkTup, U.mkLst, U.eIsi, U.oIsi, U.tyName, U.v_okPl, U.v_fldO, U.v_fldI, U.v_sfld, U.v_kFld, U.v_setFK, U.v_putFO, U.v_make, U.v_mkK, U.v_mkKX, U.v_mkKB, U.v_mkR, U.v_mkRX, U.v_meth, U.v_oIns, U.v_methO, U.v_isIO, U.v_propO, U.v_isI, U.v_plain, U.v_oProp, U.v_prK, U.v_oCon, U.v_conO, U.v_oFld, U.v_look, U.v_frzI, U.v_itAL, U.v_itAT, U.v_itEQL, U.v_itEQT, U.putNs, U.putDs, U.okPl, U.oIsiC, U.oIsi2, U.lookB, U.lookN, List.mem_cons, List.not_mem_nil, not_false_eq_true, U.v_eqC, U.v_neC, U.v_eqK, U.v_neK, U.v_bin, U.v_kB1, U.v_kB2, U.v_isIn, U.v_isInt, U.v_binI, U.v_kBI1, U.v_kBI2, U.v_valK, U.v_valKX, U.v_makeL, U.v_isC, U.v_ocall, U.v_fI, U.v_oInO, U.wipeE, U.at_0, U.at_1, U.at_2, U.at_3, U.at_neg, U.ix_0, U.ix_1, U.ix_2, List.map_cons, List.map_nil, List.length_cons, List.length_nil, List.length_map, List.length_append, List.getElem?_cons_zero, List.getElem?_cons_succ, List.getElem?_nil, List.cons_append, List.nil_append, List.append_nil, List.set_cons_zero, List.set_cons_succ, List.set_nil, List.all_cons, List.all_nil, List.any_cons, List.any_nil, List.reduceReplicate, List.take_succ_cons, List.take_zero, List.take_nil, Option.bind_some, Option.bind_none, Option.map_some, Option.map_none, Bool.and_true, Bool.true_and, Bool.and_false, Bool.false_and, Bool.or_true, Bool.true_or, Bool.or_false, Bool.false_or, Bool.not_true, Bool.not_false, Bool.not_not, Nat.reduceAdd, Nat.reduceLeDiff, Nat.reduceLT, Nat.zero_le, Nat.reduceEqDiff, Int.reducePow, Int.reduceToNat, Int.reduceNeg, Int.reduceLE, Int.reduceLT, Int.reduceAdd, Int.reduceSub, Int.reduceMul, Int.reduceEq, ite_true, ite_false, if_true, if_false, decide_true, decide_false, and_self, true_and, and_true, false_and, and_false, or_true, true_or, or_self, or_false, false_or, List.cons.injEq, reduceCtorEq, String.reduceEq, Bool.false_eq_true, Bool.true_eq_false, beq_self_eq_true, U.cap_le, U.small_lim])
local macro_rules | `(tactic| walk_at "evh") => `(tactic| simp only [U.v_bind, U.v_kOp2, U.v_kOp1, U.v_kUn, U.v_kA2, U.v_kA1, U.v_kN, U.v_kC2, U.v_kC1, U.v_kFrz, U.v_kApp, U.v_kIx, U.v_kPO2, U.v_kPO1, U.v_kSl, U.v_kDrop, U.v_kSet, U.v_kAsg, U.v_kPut, U.v_kAug, U.v_cl0, U.v_cl1, U.v_clG, U.v_clT, U.v_clF, U.v_clE, U.v_bindX, U.v_bindB, U.v_binds, U.v_bindsX, U.v_bindsB, U.v_bindA, U.v_bindAX, U.v_bindAB, U.v_abind, U.v_abindX, U.v_abindB, U.v_abindA, U.v_abindAX, U.v_abindAB, U.v_nx, U.v_rt, U.v_bk, U.v_ct, U.v_ex, U.v_bad, U.v_c, U.v_var, U.v_some, U.v_none, U.v_rd, U.v_rdN, U.m_non, U.m_bl, U.m_int, U.m_str, U.m_exv, U.m_tup, U.m_lst, U.m_scr, U.m_ins, U.v_op, U.v_un, U.v_anil, U.v_acons, U.v_n, U.v_and, U.v_andT, U.v_andF, U.v_or, U.v_orT, U.v_orF, U.v_ife, U.v_ifeT, U.v_ifeF, U.v_ch, U.v_chT, U.v_chF, U.v_frz, U.v_frzP, U.v_frzL, U.v_plN, U.v_plC, U.v_give, U.v_giveO, U.v_giveP, U.v_isOL, U.v_app, U.v_appL, U.v_ixO, U.v_ixL, U.v_putO, U.v_putL, U.v_lenO, U.v_lenL, U.v_ms, U.v_msS, U.v_sl, U.v_sl1, U.v_sl2, U.v_part0, U.v_part, U.v_partI, U.v_seq, U.v_nil, U.v_ret, U.v_retN, U.v_drop, U.v_bkS, U.v_ctS, U.v_if, U.v_ifT, U.v_ifF, U.v_toS, U.v_set, U.v_asg, U.v_put, U.v_putN, U.v_putP, U.v_putOwn, U.v_putV, U.v_putF, U.fre_none, U.fre_own, U.fre_pl, U.pln_none, U.pln_some, U.v_gvar, U.v_gtup, U.v_gnil, U.v_gcons, U.v_par, U.v_parO, U.v_pa0, U.v_pa1, U.v_aug, U.v_augS, U.v_iof, U.v_itL, U.v_itT, U.v_itS, U.v_ioa, U.v_itR1, U.v_itR2, U.v_itES, U.v_itEL, U.v_for, U.v_forO, U.v_fl0, U.v_fl1, U.v_fkN, U.v_fkC, U.v_fkB, U.v_fkR, U.v_fkX, U.v_cp, U.v_cpO, U.v_cpB, U.v_raise, U.v_rsO, U.v_try, U.v_tryN, U.v_tryX, U.v_tryR, U.v_tryB, U.v_tryC, U.v_fn, U.v_fnR, U.v_fnN, U.v_fnX, U.v_ag0, U.v_agV, U.v_agO, U.v_agX, U.v_agB, U.v_agBO, U.v_agK, U.v_call, U.v_callX, U.v_call0, U.v_call1, U.v_call2, U.v_call3, U.v_call4, U.v_ret0, U.v_ret1, U.v_ret2, U.v_ret3, U.v_ret4, U.v_retX0, U.v_retX1, U.v_retX2, U.v_retX3, U.v_retX4, U.v_b1, U.v_b2, U.v_b3, U.v_b4, U.v_b5, U.v_lend, U.v_retB, U.v_retBX, U.oNot, U.oAdd, U.oSub, U.oMul, U.oMulW, U.oDiv, U.oMod, U.oPow, U.oNeg, U.oLt, U.oLe, U.oGt, U.oGe, U.oEq, U.oNe, U.okD, U.D.eqv, U.eqvs, U.oNeScr, U.oIxScr, U.oLenScr, U.oIsN, U.oNotN, U.D.isN, U.oInS, U.oNotInS, U.oInQ, U.oNotInQ, U.D.flat, U.inD, U.oAddS, U.oMulS, U.oCatL, U.oRepL, U.oCatT, U.oRepT, U.oIxL, U.oIxT, U.oIxS, U.oLenS, U.oLenQ, U.oMax2, U.oMin2, U.oMax3, U.oAbs, U.oSum, U.oAll, U.oAny, U.intsD, U.boolsD, U.strsD, U.oInt, U.oStrI, U.oTupOf, U.oLstOf, U.oSlS, U.oSlL, U.oSlT, U.oRev, U.mkTup, U.mkLst, U.eIsi, U.oIsi, U.tyName, U.v_okPl, U.v_fldO, U.v_fldI, U.v_sfld, U.v_kFld, U.v_setFK, U.v_putFO, U.v_make, U.v_mkK, U.v_mkKX, U.v_mkKB, U.v_mkR, U.v_mkRX, U.v_meth, U.v_oIns, U.v_methO, U.v_isIO, U.v_propO, U.v_isI, U.v_plain, U.v_oProp, U.v_prK, U.v_oCon, U.v_conO, U.v_oFld, U.v_look, U.v_frzI, U.v_itAL, U.v_itAT, U.v_itEQL, U.v_itEQT, U.putNs, U.putDs, U.okPl, U.oIsiC, U.oIsi2, U.lookB, U.lookN, List.mem_cons, List.not_mem_nil, not_false_eq_true, U.v_eqC, U.v_neC, U.v_eqK, U.v_neK, U.v_bin, U.v_kB1, U.v_kB2, U.v_isIn, U.v_isInt, U.v_binI, U.v_kBI1, U.v_kBI2, U.v_valK, U.v_valKX, U.v_makeL, U.v_isC, U.v_ocall, U.v_fI, U.v_oInO, U.wipeE, U.at_0, U.at_1, U.at_2, U.at_3, U.at_neg, U.ix_0, U.ix_1, U.ix_2, List.map_cons, List.map_nil, List.length_cons, List.length_nil, List.length_map, List.length_append, List.getElem?_cons_zero, List.getElem?_cons_succ, List.getElem?_nil, List.cons_append, List.nil_append, List.append_nil, List.set_cons_zero, List.set_cons_succ, List.set_nil, List.all_cons, List.all_nil, List.any_cons, List.any_nil, List.reduceReplicate, List.take_succ_cons, List.take_zero, List.take_nil, Option.bind_some, Option.bind_none, Option.map_some, Option.map_none, Bool.and_true, Bool.true_and, Bool.and_false, Bool.false_and, Bool.or_true, Bool.true_or, Bool.or_false, Bool.false_or, Bool.not_true, Bool.not_false, Bool.not_not, Nat.reduceAdd, Nat.reduceLeDiff, Nat.reduceLT, Nat.zero_le, Nat.reduceEqDiff, Int.reducePow, Int.reduceToNat, Int.reduceNeg, Int.reduceLE, Int.reduceLT, Int.reduceAdd, Int.reduceSub, Int.reduceMul, Int.reduceEq, ite_true, ite_false, if_true, if_false, decide_true, decide_false, and_self, true_and, and_true, false_and, and_false, or_true, true_or, or_self, or_false, false_or, List.cons.injEq, reduceCtorEq, String.reduceEq, Bool.false_eq_true, Bool.true_eq_false, beq_self_eq_true, U.cap_le, U.small_lim, *])
local macro_rules | `(tactic| walk_at "fre") => `(tactic| simp only [U.FreL, U.fre_none, U.fre_own, U.fre_pl, U.m_non, U.m_bl, U.m_int, U.m_str, U.m_exv, U.m_tup, U.m_lst, U.m_scr, U.m_ins, and_self, and_true, true_and, *])
namespace L2
open PySem PySem.Spec PyProof.Rows
section
variable {X : Cx} {k : Nat} {f C : Addr} {fd : FuncData} {ps : List Str} {sp : Sp} {E : St → XK} {a b : Expr} {pos : Pos} {ta tb : TE}
def tOSub (C : Addr) (sp : Sp) (E : St → XK) (ta tb : TE) : TE := fun σ H Q => ta σ H fun x H1 => tb σ H1 fun y H2 => (∃ a dx fs, x = .ref a ∧ H2 a = some (.ins C dx fs)) ∧ sp [x, y] H2 Q (E σ)
end
end L2
namespace U
open PySem PySem.Spec PyProof.Rows L2
def eOSub (c : String) (f : Fn) (a b : E) : E := eCall (fI c f) [.v (eUn (oIn c) a), .v b] []
def oCount : D → D → Option D
  | .str l, .str [c] => some (.int (l.count c : Nat))
  | _, _ => none
section
variable {K : PySem.W.Frag} {B : Bx} {F F' : Fz} {H H' : Hp} {W : WX} {σ : L2.St}
end
section
variable {X : Cx} {B : Bx} {W : WX} {e : Expr} {st : Stmt} {f g : E}
end
end U
namespace U
open PySem PySem.Spec PyProof.Rows L2
def eMove (i : Nat) : E := fun ρ => match ρ[i]? with
  | some (some (.own 0 d)) => .ok (.own 0 d) (ρ.set i none)
  | _ => .bad
def lookO : Option (Option D) → Option (List D)
  | some (some (.own 0 (.lst l))) => if allPlain l then some l else none
  | _ => none
def cmpO (o : D → D → Option D) (l : List D) (y : D) : Option Bool := match o (.lst l) y with
  | some (.bl r) => some r
  | _ => none
def eCmpO (i : Nat) (o : D → D → Option D) (b : E) : E := fun ρ => if (lookO ρ[i]?).isSome then (b ρ).bind fun y ρ1 => (match lookO ρ1[i]? with
  | some l => (match cmpO o l y with
    | some r => .ok (.bl r) ρ1
    | none => .bad)
  | none => .bad) else .bad
section
variable {K : PySem.W.Frag} {B : Bx} {F F' : Fz} {H H' : Hp} {W : WX} {σ : L2.St}
end
section
variable {X : Cx} {B : Bx} {W : WX} {e : Expr} {f g : E}
end
section
variable {K : PySem.W.Frag} {B : Bx} {F F' : Fz} {H H' : Hp} {W : WX} {σ : L2.St}
def tDAM (K : PySem.W.Frag) (B : Bx) (W : WX) (f : As) : TA := fun σ H Q => ∃ F ρ A, Rep K F H B σ ρ A ∧ match f ρ with
  | .ok ds ρ' => ∀ vs F' H' A' Ar, Rep K F' H' B σ ρ' A' → OVs K F' H' vs ds Ar → (A' ++ Ar).Nodup → (∀ a ∈ Ar, ¬ F' a) → Step A F H (A' ++ Ar) F' H' → Q vs H'
  | .exc x ρ' => xendE K B W σ A F H x ρ'
  | .bad => False
theorem Step.apart {A1 Ar1 A2 Ar2 : List Addr} {F1 F2 : Fz} {H1 H2 : Hp} (s2 : Step A1 F1 H1 (A2 ++ Ar2) F2 H2) : Step (A1 ++ Ar1) F1 H1 (A2 ++ (Ar1 ++ Ar2)) F2 H2 := by
  refine ⟨s2.mono, fun a o h n => s2.keep a o h fun z => n (List.mem_append_left _ z), fun a h => ?_, fun a h => ?_⟩
  · rcases s2.froz a h with q | q | q
    · exact .inl q
    · exact .inr (.inl q)
    · exact .inr (.inr (List.mem_append_left _ q))
  · simp only [List.mem_append] at h
    rcases h with h | h | h
    · rcases s2.own a (List.mem_append_left _ h) with q | q
      · exact .inl (List.mem_append_left _ q)
      · exact .inr q
    · exact .inl (List.mem_append_right _ h)
    · rcases s2.own a (List.mem_append_right _ h) with q | q
      · exact .inl (List.mem_append_left _ q)
      · exact .inr q
end
section
variable {X : Cx} {B : Bx} {W : WX} {e : Expr} {f g : E} {st : Stmt}
abbrev DAM (X : Cx) (B : Bx) (W : WX) (es : List Expr) (a : As) : Prop := PA X es (tDAM X.K B W a)
end
end U
namespace U
section
variable {i : Nat} {ρ : Env} {o : D → D → Option D} {b : E} {y d : D} {l : List D} {r : Bool} {k : Nat}
def moveK (i : Nat) (ρ : Env) (o : Option (Option D)) : ER := match o with
  | some (some (.own 0 d)) => .ok (.own 0 d) (ρ.set i none)
  | _ => .bad
theorem v_move : eMove i ρ = moveK i ρ ρ[i]? := id rfl
theorem v_moveK : moveK i ρ (some (some (.own 0 d))) = .ok (.own 0 d) (ρ.set i none) := id rfl
def cmpS (ρ : Env) (o : Option D) : ER := match o with
  | some (.bl r) => .ok (.bl r) ρ
  | _ => .bad
def cmpR (ρ : Env) (o : D → D → Option D) (y : D) (l : Option (List D)) : ER := match l with
  | some l => cmpS ρ (o (.lst l) y)
  | none => .bad
def kCmp (i : Nat) (o : D → D → Option D) : D → Env → ER := fun y ρ1 => cmpR ρ1 o y (lookO ρ1[i]?)
theorem v_cmpO : eCmpO i o b ρ = if (lookO ρ[i]?).isSome then (b ρ).bind (kCmp i o) else .bad := by
  unfold eCmpO
  congr 1
  congr 1
  funext y ρ1
  unfold kCmp cmpR
  cases lookO ρ1[i]? with
  | none => rfl
  | some l =>
    simp only [cmpO, cmpS]
    cases o (.lst l) y with
    | none => rfl
    | some d => cases d <;> rfl
theorem v_kCmp : kCmp i o y ρ = cmpR ρ o y (lookO ρ[i]?) := id rfl
theorem v_cmpR : cmpR ρ o y (some l) = cmpS ρ (o (.lst l) y) := id rfl
theorem v_cmpS : cmpS ρ (some (.bl r)) = .ok (.bl r) ρ := id rfl
theorem v_lookO (h : allPlain l = true) : lookO (some (some (.own 0 (.lst l)))) = some l := by simp [lookO, h]
end
end U
namespace U
open PySem PySem.Spec PyProof.Rows L2
def eXf2 (i : Nat) (c f1 f2 f : String) : E := fun ρ => match ρ[i]? with
  | some (some (.exn c' ns [d1, d2])) => if c' = c ∧ ns = [f1, f2] ∧ f1 ≠ f2 then (if f = f1 then .ok d1 ρ else if f = f2 then .ok d2 ρ else .bad) else .bad
  | _ => .bad
def gLst (gs : List Tg) : Tg := fun d ρ => match d with
  | .lst ds => gAll gs ds ρ
  | _ => none
def zipD : List D → List D → List D
  | a :: as, b :: bs => .tup [a, b] :: zipD as bs
  | _, _ => []
def itZ : List D → Option (List D)
  | [.tup a, .tup b] => some (zipD a b)
  | [.lst a, .lst b] => some (zipD a b)
  | _ => none
section
variable {K : PySem.W.Frag} {B : Bx} {F F' : Fz} {H H' : Hp} {W : WX} {σ : L2.St}
end
section
variable {X : Cx} {B : Bx} {W : WX} {e tg : Expr} {f g : E} {st : Stmt} {a : As}
end
section
variable {i : Nat} {ρ : Env} {c f1 f2 f : String} {d1 d2 d : D} {ds es : List D} {gs : List Tg}
def xf2K (c f1 f2 f : String) (ρ : Env) (o : Option (Option D)) : ER := match o with
  | some (some (.exn c' ns [d1, d2])) => if c' = c ∧ ns = [f1, f2] ∧ f1 ≠ f2 then (if f = f1 then .ok d1 ρ else if f = f2 then .ok d2 ρ else .bad) else .bad
  | _ => .bad
theorem v_xf2 : eXf2 i c f1 f2 f ρ = xf2K c f1 f2 f ρ ρ[i]? := id rfl
theorem v_xf2K (h : f1 ≠ f2) : xf2K c f1 f2 f ρ (some (some (.exn c [f1, f2] [d1, d2]))) = if f = f1 then .ok d1 ρ else if f = f2 then .ok d2 ρ else .bad := by simp [xf2K, h]
theorem v_glst : gLst gs (.lst ds) ρ = gAll gs ds ρ := id rfl
theorem v_itZT : itA itZ (.ok [.tup ds, .tup es] ρ) = .ok (zipD ds es) ρ := id rfl
theorem v_itZL : itA itZ (.ok [.lst ds, .lst es] ρ) = .ok (zipD ds es) ρ := id rfl
end
end U
namespace GQ
open PySem PySem.SeqAt
open AutoSeq1 (wpAny_loadPart')
open MeetsSeq MeetsSeq2 MeetsSeq3 SeqRoads2
section
variable {prog : Program} {w : World} {A : Around} {R : Result → Shared → Prop}
end
section
variable {prog : Program} {w : World} {A : Around} {E : Value → Shared → Prop} {s : Shared}
end
end GQ
namespace L2
open PySem PySem.Spec PyProof.Rows
section
variable {X : Cx} {n : Nat} {D : Eqv}
def rNeG (D : Eqv) : R2 := fun x y H Q => DList D x y H ∧ ∀ H', Ext H H' → Q (.bl false) H'
end
def rOwnI (C : Addr) (sp : Sp) : R2 := fun x y H Q => ∃ b dy gs, y = .ref b ∧ H b = some (.ins C dy gs) ∧ sp [y, x] H (fun v H' => ∃ r, v = .bl r ∧ Q (.bl r) H') (fun _ _ _ => False)
def rOwnNI (C : Addr) (sp : Sp) : R2 := fun x y H Q => ∃ b dy gs, y = .ref b ∧ H b = some (.ins C dy gs) ∧ sp [y, x] H (fun v H' => ∃ r, v = .bl r ∧ Q (.bl (!r)) H') (fun _ _ _ => False)
def tOwnB (C : Addr) (sp : Sp) (t : TE) : TT := fun σ H Q => t σ H fun x H1 => ∃ a dx fs, x = .ref a ∧ H1 a = some (.ins C dx fs) ∧ sp [x] H1 (fun v H' => ∃ r, v = .bl r ∧ Q r H') (fun _ _ _ => False)
def rOwnL (C : Addr) (sp : Sp) : List V → Hp → VK → Prop := fun xs H Q => ∃ a dx fs, xs = [.ref a] ∧ H a = some (.ins C dx fs) ∧ sp [.ref a] H (fun v H' => ∃ i, v = .int i ∧ 0 ≤ i ∧ i < 2 ^ 62 ∧ Q (.int i) H') (fun _ _ _ => False)
section
variable {X : Cx} {k : Nat} {C f : Addr} {fd : FuncData} {ps : List Str} {sp : Sp}
end
end L2
namespace U
open PySem PySem.Spec PyProof.Rows L2
def oInC (c : String) (f : Fn) : D → D → Option D
  | a, .ins c' ns ds => if c' = c then (match f [.ins c' ns ds, a] with
    | .ok (.bl r) _ => some (.bl r)
    | _ => none) else none
  | _, _ => none
def oNotInC (c : String) (f : Fn) : D → D → Option D
  | a, .ins c' ns ds => if c' = c then (match f [.ins c' ns ds, a] with
    | .ok (.bl r) _ => some (.bl (!r))
    | _ => none) else none
  | _, _ => none
def oBoolC (c : String) (f : Fn) : D → Option D
  | .ins c' ns ds => if c' = c then (match f [.ins c' ns ds] with
    | .ok (.bl r) _ => some (.bl r)
    | _ => none) else none
  | _ => none
def oLenC (c : String) (f : Fn) : List D → Option D
  | [.ins c' ns ds] => if c' = c then (match f [.ins c' ns ds] with
    | .ok (.int i) _ => if 0 ≤ i ∧ i < 4611686018427387904 then some (.int i) else none
    | _ => none) else none
  | _ => none
def eqPrs (c : String) (f : Fn) : List D → List D → Bool
  | [], [] => true
  | a :: as, b :: bs => isIn c a && isIn c b && (match f [a, b] with
    | .ok (.bl true) _ => true
    | _ => false) && eqPrs c f as bs
  | _, _ => false
def oNeI (c : String) (f : Fn) : D → D → Option D
  | .lst as, .lst bs => if eqPrs c f as bs then some (.bl false) else none
  | _, _ => none
section
variable {K : PySem.W.Frag} {B : Bx} {F F' : Fz} {H H' : Hp} {W : WX} {σ : L2.St}
def PND (K : PySem.W.Frag) (o : List D → Option D) (r : List V → Hp → VK → Prop) : Prop := ∀ (F : Fz) (H : Hp) (xs : List V) (ds : List D) (d : D) (Q : VK), (∀ a, F a → ∃ o, H a = some o) → RVs K F H xs ds → o ds = some d → (∀ v F' H', Grow F H F' H' → RV K F' H' v d → Q v H') → r xs H Q
def EqR (K : PySem.W.Frag) (f : Fn) : Addr → Addr → Hp → Prop := fun a b H => ∃ (F : Fz) (da db : D) (o : Env), (∀ a, F a → ∃ o, H a = some o) ∧ RV K F H (.ref a) da ∧ RV K F H (.ref b) db ∧ f [da, db] = .ok (.bl true) o
end
section
variable {X : Cx} {B : Bx} {W : WX} {e : Expr} {f g : E} {st : Stmt} {a : As} {k : Nat} {C fa : Addr} {fd : FuncData} {ps : List Str}
end
section
variable {c : String} {fn : Fn} {ns : List String} {ds as bs : List D} {a : D} {o : Env} {r : Bool} {i : Int}
def blK : ER → Option D
  | .ok (.bl r) _ => some (.bl r)
  | _ => none
def nblK : ER → Option D
  | .ok (.bl r) _ => some (.bl (!r))
  | _ => none
def inK : ER → Option D
  | .ok (.int i) _ => if 0 ≤ i ∧ i < 4611686018427387904 then some (.int i) else none
  | _ => none
theorem v_inC : oInC c fn a (.ins c ns ds) = blK (fn [.ins c ns ds, a]) := by simp only [oInC, if_true]; rfl
theorem v_notInC : oNotInC c fn a (.ins c ns ds) = nblK (fn [.ins c ns ds, a]) := by simp only [oNotInC, if_true]; rfl
theorem v_boolC : oBoolC c fn (.ins c ns ds) = blK (fn [.ins c ns ds]) := by simp only [oBoolC, if_true]; rfl
theorem v_lenC : oLenC c fn [.ins c ns ds] = inK (fn [.ins c ns ds]) := by simp only [oLenC, if_true]; rfl
theorem v_blK : blK (.ok (.bl r) o) = some (.bl r) := id rfl
theorem v_nblK : nblK (.ok (.bl r) o) = some (.bl (!r)) := id rfl
theorem v_inK (h : 0 ≤ i ∧ i < 4611686018427387904) : inK (.ok (.int i) o) = some (.int i) := by simp [inK, h]
theorem v_neI (h : eqPrs c fn as bs = true) : oNeI c fn (.lst as) (.lst bs) = some (.bl false) := by simp [oNeI, h]
theorem v_prs0 : eqPrs c fn [] [] = true := id rfl
def trK : ER → Bool
  | .ok (.bl true) _ => true
  | _ => false
theorem v_prs {b : D} : eqPrs c fn (a :: as) (b :: bs) = (isIn c a && isIn c b && trK (fn [a, b]) && eqPrs c fn as bs) := by
  simp only [eqPrs]; rfl
theorem v_trK : trK (.ok (.bl true) o) = true := id rfl
end
end U
local macro_rules | `(tactic| walk_at "evx") => `(tactic| simp only [U.v_bind, U.v_kOp2, U.v_kOp1, U.v_kUn, U.v_kA2, U.v_kA1, U.v_kN, U.v_kC2, U.v_kC1, U.v_kFrz, U.v_kApp, U.v_kIx, U.v_kPO2, U.v_kPO1, U.v_kSl, U.v_kDrop, U.v_kSet, U.v_kAsg, U.v_kPut, U.v_kAug, U.v_cl0, U.v_cl1, U.v_clG, U.v_clT, U.v_clF, U.v_clE, U.v_bindX, U.v_bindB, U.v_binds, U.v_bindsX, U.v_bindsB, U.v_bindA, U.v_bindAX, U.v_bindAB, U.v_abind, U.v_abindX, U.v_abindB, U.v_abindA, U.v_abindAX, U.v_abindAB, U.v_nx, U.v_rt, U.v_bk, U.v_ct, U.v_ex, U.v_bad, U.v_c, U.v_var, U.v_some, U.v_none, U.v_rd, U.v_rdN, U.m_non, U.m_bl, U.m_int, U.m_str, U.m_exv, U.m_tup, U.m_lst, U.m_scr, U.m_ins, U.v_op, U.v_un, U.v_anil, U.v_acons, U.v_n, U.v_and, U.v_andT, U.v_andF, U.v_or, U.v_orT, U.v_orF, U.v_ife, U.v_ifeT, U.v_ifeF, U.v_ch, U.v_chT, U.v_chF, U.v_frz, U.v_frzP, U.v_frzL, U.v_plN, U.v_plC, U.v_give, U.v_giveO, U.v_giveP, U.v_isOL, U.v_app, U.v_appL, U.v_ixO, U.v_ixL, U.v_putO, U.v_putL, U.v_lenO, U.v_lenL, U.v_ms, U.v_msS, U.v_sl, U.v_sl1, U.v_sl2, U.v_part0, U.v_part, U.v_partI, U.v_seq, U.v_nil, U.v_ret, U.v_retN, U.v_drop, U.v_bkS, U.v_ctS, U.v_if, U.v_ifT, U.v_ifF, U.v_toS, U.v_set, U.v_asg, U.v_put, U.v_putN, U.v_putP, U.v_putOwn, U.v_putV, U.v_putF, U.fre_none, U.fre_own, U.fre_pl, U.pln_none, U.pln_some, U.v_gvar, U.v_gtup, U.v_gnil, U.v_gcons, U.v_par, U.v_parO, U.v_pa0, U.v_pa1, U.v_aug, U.v_augS, U.v_iof, U.v_itL, U.v_itT, U.v_itS, U.v_ioa, U.v_itR1, U.v_itR2, U.v_itES, U.v_itEL, U.v_for, U.v_forO, U.v_fl0, U.v_fl1, U.v_fkN, U.v_fkC, U.v_fkB, U.v_fkR, U.v_fkX, U.v_cp, U.v_cpO, U.v_cpB, U.v_raise, U.v_rsO, U.v_try, U.v_tryN, U.v_tryX, U.v_tryR, U.v_tryB, U.v_tryC, U.v_fn, U.v_fnR, U.v_fnN, U.v_fnX, U.v_ag0, U.v_agV, U.v_agO, U.v_agX, U.v_agB, U.v_agBO, U.v_agK, U.v_call, U.v_callX, U.v_call0, U.v_call1, U.v_call2, U.v_call3, U.v_call4, U.v_ret0, U.v_ret1, U.v_ret2, U.v_ret3, U.v_ret4, U.v_retX0, U.v_retX1, U.v_retX2, U.v_retX3, U.v_retX4, U.v_b1, U.v_b2, U.v_b3, U.v_b4, U.v_b5, U.v_lend, U.v_retB, U.v_retBX, U.oNot, U.oAdd, U.oSub, U.oMul, U.oMulW, U.oDiv, U.oMod, U.oPow, U.oNeg, U.oLt, U.oLe, U.oGt, U.oGe, U.oEq, U.oNe, U.okD, U.D.eqv, U.eqvs, U.oNeScr, U.oIxScr, U.oLenScr, U.oIsN, U.oNotN, U.D.isN, U.oInS, U.oNotInS, U.oInQ, U.oNotInQ, U.D.flat, U.inD, U.oAddS, U.oMulS, U.oCatL, U.oRepL, U.oCatT, U.oRepT, U.oIxL, U.oIxT, U.oIxS, U.oLenS, U.oLenQ, U.oMax2, U.oMin2, U.oMax3, U.oAbs, U.oSum, U.oAll, U.oAny, U.intsD, U.boolsD, U.strsD, U.oInt, U.oStrI, U.oTupOf, U.oLstOf, U.oSlS, U.oSlL, U.oSlT, U.oRev, U.mkTup, U.mkLst, U.eIsi, U.oIsi, U.tyName, U.v_okPl, U.v_fldO, U.v_fldI, U.v_sfld, U.v_kFld, U.v_setFK, U.v_putFO, U.v_make, U.v_mkK, U.v_mkKX, U.v_mkKB, U.v_mkR, U.v_mkRX, U.v_meth, U.v_oIns, U.v_methO, U.v_isIO, U.v_propO, U.v_isI, U.v_plain, U.v_oProp, U.v_prK, U.v_oCon, U.v_conO, U.v_oFld, U.v_look, U.v_frzI, U.v_itAL, U.v_itAT, U.v_itEQL, U.v_itEQT, U.putNs, U.putDs, U.okPl, U.oIsiC, U.oIsi2, U.lookB, U.lookN, List.mem_cons, List.not_mem_nil, not_false_eq_true, U.v_eqC, U.v_neC, U.v_eqK, U.v_neK, U.v_bin, U.v_kB1, U.v_kB2, U.v_isIn, U.v_isInt, U.v_binI, U.v_kBI1, U.v_kBI2, U.v_valK, U.v_valKX, U.v_makeL, U.v_isC, U.v_ocall, U.v_fI, U.v_oInO, U.wipeE, U.at_0, U.at_1, U.at_2, U.at_3, U.at_neg, U.ix_0, U.ix_1, U.ix_2, List.map_cons, List.map_nil, List.length_cons, List.length_nil, List.length_map, List.length_append, List.getElem?_cons_zero, List.getElem?_cons_succ, List.getElem?_nil, List.cons_append, List.nil_append, List.append_nil, List.set_cons_zero, List.set_cons_succ, List.set_nil, List.all_cons, List.all_nil, List.any_cons, List.any_nil, List.reduceReplicate, List.take_succ_cons, List.take_zero, List.take_nil, Option.bind_some, Option.bind_none, Option.map_some, Option.map_none, Bool.and_true, Bool.true_and, Bool.and_false, Bool.false_and, Bool.or_true, Bool.true_or, Bool.or_false, Bool.false_or, Bool.not_true, Bool.not_false, Bool.not_not, Nat.reduceAdd, Nat.reduceLeDiff, Nat.reduceLT, Nat.zero_le, Nat.reduceEqDiff, Int.reducePow, Int.reduceToNat, Int.reduceNeg, Int.reduceLE, Int.reduceLT, Int.reduceAdd, Int.reduceSub, Int.reduceMul, Int.reduceEq, ite_true, ite_false, if_true, if_false, decide_true, decide_false, and_self, true_and, and_true, false_and, and_false, or_true, true_or, or_self, or_false, false_or, List.cons.injEq, reduceCtorEq, String.reduceEq, Bool.false_eq_true, Bool.true_eq_false, beq_self_eq_true, U.cap_le, U.small_lim, U.v_move, U.v_moveK, U.v_cmpO, U.v_kCmp, U.v_cmpR, U.v_cmpS, U.v_lookO, Option.isSome_some, U.v_xf2, U.v_xf2K, U.v_glst, U.v_itZT, U.v_itZL, ne_eq, U.v_inC, U.v_notInC, U.v_boolC, U.v_lenC, U.v_blK, U.v_nblK, U.v_inK, U.v_neI, U.v_prs0, U.v_prs, U.v_trK, *])
namespace U
noncomputable def body_law_draws : St := (sSeq (sSet 2 (eC (.int 0)))
    (sSeq (sIf (eOp oNeScr (eVar 0) (eFrz (eN mkLst aNil)))
    (sSet 2 (eOp oIxScr (eVar 0) (eOp oMod (eVar 1) (eN oLenScr (aCons (eVar 0) aNil)))))
    sNil)
    (sSeq (sIf (eOp oGe (eVar 1) (eN oLenScr (aCons (eVar 0) aNil)))
    (sSet 2 (eOp oMod (eVar 2) (eC (.int 1000003))))
    sNil)
    (sSeq (sSet 3 (eOp oMod (eOp oMul (eOp oAdd (eOp oAdd (eOp oMod (eVar 2) (eC (.int 2147483629))) (eOp oMul (eC (.int 104729)) (eVar 1))) (eC (.int 11))) (eC (.int 48271))) (eC (.int 2147483647))))
    (sRet (eN mkLst (aCons (eOp oMul (eVar 2) (eN oInt (aCons (eOp oGe (eVar 2) (eOp oPow (eC (.int 10)) (eC (.int 18)))) aNil))) (aCons (eVar 3) aNil))))))))
noncomputable def fn_law_draws : Fn := fnOf 2 2 body_law_draws
noncomputable def body_law_draw : St := (sSeq (sIf (eOp oGt (eIxO 0 (eC (.int 0))) (eC (.int 0)))
    (sSeq (sSet 2 (eOp oMod (eIxO 0 (eC (.int 0))) (eVar 1)))
    (sSeq (sPutO 0 (eC (.int 0)) (eOp oDiv (eIxO 0 (eC (.int 0))) (eVar 1)))
    (sRet (eVar 2))))
    sNil)
    (sSeq (sPutO 0 (eC (.int 1)) (eOp oMod (eOp oAdd (eOp oMul (eIxO 0 (eC (.int 1))) (eC (.int 48271))) (eC (.int 11))) (eC (.int 2147483647))))
    (sRet (eOp oMod (eOp oDiv (eOp oMod (eOp oMul (eIxO 0 (eC (.int 1))) (eIxO 0 (eC (.int 1)))) (eC (.int 2147483629))) (eC (.int 64))) (eVar 1)))))
noncomputable def fn_law_draw : Fn := fnOf 2 1 body_law_draw
noncomputable def body_law_letter : St := (sRet (eOp oIxS (eC (.str [97, 98, 99, 120, 121, 122])) (eFrz (eCall fn_law_draw [.b 0, .v (eC (.int 6))] []))))
noncomputable def fn_law_letter : Fn := fnOf 1 0 body_law_letter
noncomputable def body_law_sequence : St := (sSeq (sSet 2 (eN mkLst aNil))
    (sSeq (sSet 3 (eOp oAdd (eC (.int 1)) (eFrz (eCall fn_law_draw [.b 0, .v (eC (.int 4))] []))))
    (sSeq (sFor (iOfA itR (aCons (eFrz (eCall fn_law_draw [.b 0, .v (eOp oAdd (eVar 1) (eC (.int 1)))] [])) aNil)) (gVar 4)
    (sDrop (eApp 2 (eOp oIxL (eFrz (eN mkLst (aCons (eFrz (eCall fn_law_letter [.b 0] [])) (aCons (eC (.str [45])) aNil)))) (eN oInt (aCons (eOp oLt (eFrz (eCall fn_law_draw [.b 0, .v (eC (.int 5))] [])) (eVar 3)) aNil))))))
    (sRet (eMs oJoin (eC (.str [])) (eGive 2))))))
noncomputable def fn_law_sequence : Fn := fnOf 2 3 body_law_sequence
noncomputable def fn_law_program : Nat → Fn
  | 0 => fun _ => .bad
  | n + 1 => fnOf 2 7 (sSeq (sAsg (eN mkTup (aCons (eC (.str [])) (aCons (eC (.str [])) aNil))) (gTup [(gVar 2), (gVar 3)]))
    (sSeq (sFor (iOfA itR (aCons (eOp oAdd (eC (.int 1)) (eFrz (eCall fn_law_draw [.b 0, .v (eC (.int 3))] []))) aNil)) (gVar 4)
    (sSeq (sSet 5 (eFrz (eCall fn_law_sequence [.b 0, .v (eC (.int 3))] [])))
    (sSeq (sPar [2, 3] (aCons (eOp oAddS (eVar 2) (eVar 5)) (aCons (eOp oAddS (eVar 3) (eVar 5)) aNil)))
    (sIf (eAnd (eOp oGt (eVar 1) (eC (.int 0))) (eOp oEq (eFrz (eCall fn_law_draw [.b 0, .v (eC (.int 2))] [])) (eC (.int 0))))
    (sSeq (sAsg (eFrz (eCall (fn_law_program n) [.b 0, .v (eOp oSub (eVar 1) (eC (.int 1)))] [])) (gTup [(gVar 6), (gVar 7)]))
    (sSeq (sSet 8 (eFrz (eCall fn_law_draw [.b 0, .v (eC (.int 5))] [])))
    (sSeq (sSet 2 (eOp oAddS (eOp oAddS (eOp oAddS (eOp oAddS (eVar 2) (eC (.str [40]))) (eVar 6)) (eC (.str [41]))) (eN oStrI (aCons (eVar 8) aNil))))
    (sSet 3 (eOp oAddS (eVar 3) (eOp oMulS (eVar 7) (eVar 8)))))))
    sNil))))
    (sRet (eN mkTup (aCons (eVar 2) (aCons (eVar 3) aNil))))))
noncomputable def body_law_run : St := (sSeq (sAsg (eN mkTup (aCons (eC (.str [])) (aCons (eC (.str [])) aNil))) (gTup [(gVar 4), (gVar 5)]))
    (sSeq (sFor (iOfA itES (aCons (eVar 1) aNil)) (gTup [(gVar 6), (gVar 7)])
    (sIf (eOp oEq (eVar 7) (eC (.str [45])))
    (sSeq (sIf (eOp oEq (eVar 0) (eC (.str [])))
    (sRet (eFrz (eN mkLst (aCons (eC (.str [102, 97, 105, 108, 101, 100])) (aCons (eVar 6) aNil)))))
    sNil)
    (sPar [4, 0] (aCons (eOp oAddS (eVar 4) (eOp oIxS (eVar 0) (eC (.int 0)))) (aCons (eSl oSlS (eVar 0) (some (eC (.int 1))) none) aNil))))
    (sIf (eOp oLt (eN oLenS (aCons (eVar 0) aNil)) (eVar 2))
    (sSet 0 (eOp oAddS (eVar 0) (eVar 7)))
    (sIf (eOp oEq (eVar 3) (eC (.str [111, 108, 100, 101, 115, 116])))
    (sPar [5, 0] (aCons (eOp oAddS (eVar 5) (eOp oIxS (eVar 0) (eC (.int 0)))) (aCons (eOp oAddS (eSl oSlS (eVar 0) (some (eC (.int 1))) none) (eVar 7)) aNil)))
    (sIf (eOp oEq (eVar 3) (eC (.str [110, 101, 119, 101, 115, 116])))
    (sSet 5 (eOp oAddS (eVar 5) (eVar 7)))
    (sRet (eFrz (eN mkLst (aCons (eC (.str [102, 97, 105, 108, 101, 100])) (aCons (eVar 6) aNil))))))))))
    (sRet (eFrz (eN mkLst (aCons (eC (.str [100, 111, 110, 101])) (aCons (eVar 0) (aCons (eVar 4) (aCons (eVar 5) aNil)))))))))
noncomputable def fn_law_run : Fn := fnOf 4 4 body_law_run
end U
namespace U
def Pool (p : D) : Prop := ∃ a b : Int, p = .lst [.int a, .int b] ∧ 0 ≤ a ∧ 0 ≤ b ∧ b < 2147483647
def outP (r : ER) : D := match r with
  | .ok _ (some (.own _ p) :: _) => p
  | _ => .non
def outV (r : ER) : D := match r with
  | .ok d _ => d
  | _ => .non
noncomputable def drawR (p : D) (n : Int) : ER := fn_law_draw [.own 1 p, .int n]
noncomputable def drawV (p : D) (n : Int) : Int := match outV (drawR p n) with
  | .int r => r
  | _ => 0
noncomputable def drawP (p : D) (n : Int) : D := outP (drawR p n)
theorem draw_all {p : D} {n : Int} (hp : Pool p) (h1 : 1 ≤ n) (h2 : n.natAbs < lim4k) : drawR p n = .ok (.int (drawV p n)) [some (.own 1 (drawP p n)), some (.int n)] ∧ Pool (drawP p n) ∧ 0 ≤ drawV p n ∧ drawV p n < n := by
  obtain ⟨a, b, rfl, ha, hb, hb2⟩ := hp
  have key : ∃ (r a' b' : Int), drawR (.lst [.int a, .int b]) n = .ok (.int r) [some (.own 1 (.lst [.int a', .int b'])), some (.int n)] ∧ 0 ≤ r ∧ r < n ∧ 0 ≤ a' ∧ 0 ≤ b' ∧ b' < 2147483647 := by
    have hn : 0 < n := by omega
    unfold drawR fn_law_draw body_law_draw
    by_cases c : 0 < a
    · walk_at "evh"
      refine ⟨a % n, a / n, b, rfl, Int.emod_nonneg _ (by omega), Int.emod_lt_of_pos _ hn, Int.ediv_nonneg ha (by omega), hb, hb2⟩
    · walk_at "evh"
      have m1 := Int.emod_nonneg (b * 48271 + 11) (show (2147483647 : Int) ≠ 0 by decide)
      have m2 := Int.emod_lt_of_pos (b * 48271 + 11) (show (0 : Int) < 2147483647 by decide)
      have q1 : b.natAbs < 18446744073709551616 := by omega
      have q2 : ((b * 48271 + 11) % 2147483647).natAbs < 18446744073709551616 := by omega
      have q3 : (64 : Int).natAbs < lim4k := by unfold lim4k; exact Nat.lt_of_lt_of_le (show 64 < 2 ^ 7 by decide) (Nat.pow_le_pow_right (by decide) (by decide))
      walk_at "evh"
      exact ⟨_, _, _, rfl, Int.emod_nonneg _ (by omega), Int.emod_lt_of_pos _ hn, ha, m1, m2⟩
  obtain ⟨r, a', b', e, h3, h4, h5, h6, h7⟩ := key
  have eV : drawV (.lst [.int a, .int b]) n = r := by unfold drawV; rw [e]; rfl
  have eP : drawP (.lst [.int a, .int b]) n = .lst [.int a', .int b'] := by unfold drawP; rw [e]; rfl
  rw [eV, eP]
  exact ⟨e, ⟨a', b', rfl, h5, h6, h7⟩, h3, h4⟩
theorem lim_of {n : Int} (h1 : 1 ≤ n) (h2 : n ≤ 1000000000000000000000000000000) : n.natAbs < lim4k := by
  have h : n.natAbs < 2 ^ 100 := Nat.lt_of_le_of_lt (m := 1000000000000000000000000000000) (by omega) (by decide)
  exact Nat.lt_of_lt_of_le h (Nat.pow_le_pow_right (by decide) (by decide))
theorem f_draw {p : D} {n : Int} (hp : Pool p) (h1 : 1 ≤ n) (h2 : n ≤ 1000000000000000000000000000000) : fn_law_draw [.own 1 p, .int n] = .ok (.int (drawV p n)) [some (.own 1 (drawP p n)), some (.int n)] := (draw_all hp h1 (lim_of h1 h2)).1
theorem pool_draw {p : D} {n : Int} (hp : Pool p) (h1 : 1 ≤ n) (h2 : n ≤ 1000000000000000000000000000000) : Pool (drawP p n) := (draw_all hp h1 (lim_of h1 h2)).2.1
theorem draw_lo {p : D} {n : Int} (hp : Pool p) (h1 : 1 ≤ n) (h2 : n ≤ 1000000000000000000000000000000) : 0 ≤ drawV p n := (draw_all hp h1 (lim_of h1 h2)).2.2.1
theorem draw_hi {p : D} {n : Int} (hp : Pool p) (h1 : 1 ≤ n) (h2 : n ≤ 1000000000000000000000000000000) : drawV p n < n := (draw_all hp h1 (lim_of h1 h2)).2.2.2
noncomputable def letC (p : D) : Nat := ([97, 98, 99, 120, 121, 122] : List Nat)[(drawV p 6).toNat]?.getD 0
theorem pick {α : Type} {l : List α} {p : D} {n : Int} (hp : Pool p) (h1 : 1 ≤ n) (h2 : n ≤ 1000000000000000000000000000000) (hl : (l.length : Int) = n) : ∃ x, atD l (drawV p n) = some x ∧ x ∈ l := by
  have a := draw_lo hp h1 h2
  have b := draw_hi hp h1 h2
  obtain ⟨j, hj⟩ : ∃ j : Nat, drawV p n = j := ⟨(drawV p n).toNat, by omega⟩
  rw [hj, atD_nat]
  have : j < l.length := by omega
  exact ⟨l[j], List.getElem?_eq_getElem this, List.getElem_mem this⟩
theorem let_at {p : D} (hp : Pool p) : atD ([97, 98, 99, 120, 121, 122] : List Nat) (drawV p 6) = some (letC p) ∧ letC p ∈ ([97, 98, 99, 120, 121, 122] : List Nat) := by
  have a := draw_lo hp (n := 6) (by decide) (by decide)
  obtain ⟨x, h1, h2⟩ := pick (l := ([97, 98, 99, 120, 121, 122] : List Nat)) hp (n := 6) (by decide) (by decide) rfl
  have : letC p = x := by
    unfold letC
    rw [show drawV p 6 = ((drawV p 6).toNat : Int) by omega, atD_nat] at h1
    rw [h1]; rfl
  rw [this]
  exact ⟨h1, h2⟩
theorem f_letter {p : D} (hp : Pool p) : fn_law_letter [.own 1 p] = .ok (.str [letC p]) [some (.own 1 (drawP p 6))] := by
  have h1 := f_draw (n := 6) hp (by decide) (by decide)
  have h2 := (let_at hp).1
  unfold fn_law_letter body_law_letter
  walk_at "evh"
abbrev sg (c : Nat) : D := .str [c]
def sgs : List Nat := [97, 98, 99, 120, 121, 122, 45]
noncomputable def seqB : St := sDrop (eApp 2 (eOp oIxL (eFrz (eN mkLst (aCons (eFrz (eCall fn_law_letter [.b 0] [])) (aCons (eC (.str [45])) aNil)))) (eN oInt (aCons (eOp oLt (eFrz (eCall fn_law_draw [.b 0, .v (eC (.int 5))] [])) (eVar 3)) aNil))))
noncomputable def seqR (p : D) (m : Int) : ER := fn_law_sequence [.own 1 p, .int m]
def strV (d : D) : List Nat := match d with
  | .str l => l
  | _ => []
noncomputable def seqV (p : D) (m : Int) : List Nat := strV (outV (seqR p m))
noncomputable def seqP (p : D) (m : Int) : D := outP (seqR p m)
end U
namespace U
noncomputable def poolR (ns : List Int) (k : Int) : ER := fn_law_draws [.scr ns, .int k]
noncomputable def poolOf (ns : List Int) (k : Int) : D := match outV (poolR ns k) with
  | .own _ p => p
  | _ => .non
theorem draws_all {ns : List Int} {k : Int} (hl : ns.length ≤ 63) (h0 : 0 ≤ k) (h1 : k ≤ 1000) : fn_law_draws [.scr ns, .int k] = .ok (.own 0 (poolOf ns k)) [some (.scr ns), some (.int k)] ∧ Pool (poolOf ns k) := by
  have key : ∃ p, fn_law_draws [.scr ns, .int k] = .ok (.own 0 p) [some (.scr ns), some (.int k)] ∧ Pool p := by
    have fin : ∀ cell : Int, ∃ p, endF_ 2 ((sSeq (sSet 3 (eOp oMod (eOp oMul (eOp oAdd (eOp oAdd (eOp oMod (eVar 2) (eC (.int 2147483629))) (eOp oMul (eC (.int 104729)) (eVar 1))) (eC (.int 11))) (eC (.int 48271))) (eC (.int 2147483647))))
    (sRet (eN mkLst (aCons (eOp oMul (eVar 2) (eN oInt (aCons (eOp oGe (eVar 2) (eOp oPow (eC (.int 10)) (eC (.int 18)))) aNil))) (aCons (eVar 3) aNil))))) [some (.scr ns), some (.int k), some (.int cell), none]) = .ok (.own 0 p) [some (.scr ns), some (.int k)] ∧ Pool p := fun cell => by
      have a1 := Int.emod_nonneg cell (show (2147483629 : Int) ≠ 0 by decide)
      have a2 := Int.emod_lt_of_pos cell (show (0 : Int) < 2147483629 by decide)
      have b1 := Int.emod_nonneg ((cell % 2147483629 + 104729 * k + 11) * 48271) (show (2147483647 : Int) ≠ 0 by decide)
      have b2 := Int.emod_lt_of_pos ((cell % 2147483629 + 104729 * k + 11) * 48271) (show (0 : Int) < 2147483647 by decide)
      have q1 : (104729 : Int).natAbs < 18446744073709551616 := by decide
      have q2 : (48271 : Int).natAbs < 18446744073709551616 := by decide
      have q3 : (10 : Int).natAbs < 1000 := by decide
      by_cases c : 1000000000000000000 ≤ cell
      · have q4 : (1 : Int).natAbs < 18446744073709551616 := by decide
        walk_at "evh"
        exact ⟨_, rfl, _, _, rfl, by omega, b1, b2⟩
      · have q4 : (0 : Int).natAbs < 18446744073709551616 := by decide
        walk_at "evh"
        exact ⟨_, rfl, _, _, rfl, by omega, b1, b2⟩
    have cell : ∃ cell : Int, fn_law_draws [.scr ns, .int k] = endF_ 2 ((sSeq (sSet 3 (eOp oMod (eOp oMul (eOp oAdd (eOp oAdd (eOp oMod (eVar 2) (eC (.int 2147483629))) (eOp oMul (eC (.int 104729)) (eVar 1))) (eC (.int 11))) (eC (.int 48271))) (eC (.int 2147483647))))
    (sRet (eN mkLst (aCons (eOp oMul (eVar 2) (eN oInt (aCons (eOp oGe (eVar 2) (eOp oPow (eC (.int 10)) (eC (.int 18)))) aNil))) (aCons (eVar 3) aNil))))) [some (.scr ns), some (.int k), some (.int cell), none]) := by
      unfold fn_law_draws body_law_draws
      cases ns with
      | nil =>
        refine ⟨0, ?_⟩
        generalize (sSeq (sSet 3 (eOp oMod (eOp oMul (eOp oAdd (eOp oAdd (eOp oMod (eVar 2) (eC (.int 2147483629))) (eOp oMul (eC (.int 104729)) (eVar 1))) (eC (.int 11))) (eC (.int 48271))) (eC (.int 2147483647)))) (sRet (eN mkLst (aCons (eOp oMul (eVar 2) (eN oInt (aCons (eOp oGe (eVar 2) (eOp oPow (eC (.int 10)) (eC (.int 18)))) aNil))) (aCons (eVar 3) aNil))))) = tl
        have h0' : ((([] : List Int).length : Nat) : Int) ≤ k := by simpa using h0
        have e1 : ([] : List Int).isEmpty = true := rfl
        walk_at "evh"
        simp only [Int.natCast_zero, h0, decide_true]
        walk_at "ev"
        simp
      | cons n ns =>
        have hlen : 0 < (((n :: ns).length : Nat) : Int) := by simp only [List.length_cons]; omega
        have m1 := Int.emod_nonneg k (show (((n :: ns).length : Nat) : Int) ≠ 0 by omega)
        have m2 := Int.emod_lt_of_pos k hlen
        obtain ⟨j, hj⟩ : ∃ j : Nat, k % (((n :: ns).length : Nat) : Int) = j := ⟨(k % (((n :: ns).length : Nat) : Int)).toNat, by omega⟩
        have hjl : j < (n :: ns).length := by omega
        have hat : atD (n :: ns) (k % (((n :: ns).length : Nat) : Int)) = some (n :: ns)[j] := by rw [hj, atD_nat, List.getElem?_eq_getElem hjl]
        have hne : (n :: ns).isEmpty = false := rfl
        clear hj
        generalize n :: ns = l at *
        generalize (sSeq (sSet 3 (eOp oMod (eOp oMul (eOp oAdd (eOp oAdd (eOp oMod (eVar 2) (eC (.int 2147483629))) (eOp oMul (eC (.int 104729)) (eVar 1))) (eC (.int 11))) (eC (.int 48271))) (eC (.int 2147483647)))) (sRet (eN mkLst (aCons (eOp oMul (eVar 2) (eN oInt (aCons (eOp oGe (eVar 2) (eOp oPow (eC (.int 10)) (eC (.int 18)))) aNil))) (aCons (eVar 3) aNil))))) = tl
        by_cases c : ((l.length : Nat) : Int) ≤ k
        · refine ⟨l[j] % 1000003, ?_⟩
          walk_at "evh"
        · refine ⟨l[j], ?_⟩
          walk_at "evh"
    obtain ⟨cell, e⟩ := cell
    rw [e]
    exact fin cell
  obtain ⟨p, e, hp⟩ := key
  have eP : poolOf ns k = p := by unfold poolOf poolR; rw [e]; rfl
  rw [eP]
  exact ⟨e, hp⟩
def wMost : Nat → Nat
  | 0 => 9
  | n + 1 => 9 + 12 * wMost n
def tMost : Nat → Nat
  | 0 => 9
  | n + 1 => 9 + 3 * (tMost n + 3)
noncomputable def prgB (f : Fn) : St := (sSeq (sSet 5 (eFrz (eCall fn_law_sequence [.b 0, .v (eC (.int 3))] [])))
    (sSeq (sPar [2, 3] (aCons (eOp oAddS (eVar 2) (eVar 5)) (aCons (eOp oAddS (eVar 3) (eVar 5)) aNil)))
    (sIf (eAnd (eOp oGt (eVar 1) (eC (.int 0))) (eOp oEq (eFrz (eCall fn_law_draw [.b 0, .v (eC (.int 2))] [])) (eC (.int 0))))
    (sSeq (sAsg (eFrz (eCall f [.b 0, .v (eOp oSub (eVar 1) (eC (.int 1)))] [])) (gTup [(gVar 6), (gVar 7)]))
    (sSeq (sSet 8 (eFrz (eCall fn_law_draw [.b 0, .v (eC (.int 5))] [])))
    (sSeq (sSet 2 (eOp oAddS (eOp oAddS (eOp oAddS (eOp oAddS (eVar 2) (eC (.str [40]))) (eVar 6)) (eC (.str [41]))) (eN oStrI (aCons (eVar 8) aNil))))
    (sSet 3 (eOp oAddS (eVar 3) (eOp oMulS (eVar 7) (eVar 8)))))))
    sNil)))
def PrgOk (f : Fn) (m : Nat) : Prop := ∀ p, Pool p → ∃ tx fl p', f [.own 1 p, .int (m : Nat)] = .ok (.tup [.str tx, .str fl]) [some (.own 1 p'), some (.int (m : Nat))] ∧ Pool p' ∧ Q.Spells m tx fl ∧ tx.length ≤ tMost m ∧ fl.length ≤ wMost m
noncomputable def prgR (p : D) (m : Int) : ER := fn_law_program 4 [.own 1 p, .int m]
def tupV (d : D) (i : Nat) : D := match d with
  | .tup l => l[i]?.getD .non
  | _ => .non
noncomputable def prgT (p : D) (m : Int) : List Nat := strV (tupV (outV (prgR p m)) 0)
noncomputable def prgW (p : D) (m : Int) : List Nat := strV (tupV (outV (prgR p m)) 1)
noncomputable def prgP (p : D) (m : Int) : D := outP (prgR p m)
end U
namespace U
theorem for_inv {g : Tg} {b : St} (I : Env → Prop) : ∀ {ds : List D}, (∀ d ∈ ds, ∀ ρ, I ρ → ∃ ρ', (toFl (g d ρ)).bind b = .nx ρ' ∧ I ρ') → ∀ {ρ : Env}, I ρ → ∃ ρ', forL g b ds ρ = .nx ρ' ∧ I ρ'
  | [], _, ρ, h => ⟨ρ, rfl, h⟩
  | d :: ds, ht, ρ, h => by
    obtain ⟨ρ1, e, h1⟩ := ht d List.mem_cons_self ρ h
    obtain ⟨ρ2, e2, h2⟩ := for_inv (g := g) (b := b) I (ds := ds) (fun x hx => ht x (List.mem_cons_of_mem _ hx)) h1
    exact ⟨ρ2, by rw [v_fl1, e, v_fkN, e2], h2⟩
theorem for_at {g : Tg} {b : St} {lo : Int} (I : Nat → Env → Prop) : ∀ (n k : Nat) {ρ : Env}, (∀ i, k ≤ i → i < k + n → ∀ ρ, I i ρ → ∃ ρ', (toFl (g (.int (lo + (i : Nat))) ρ)).bind b = .nx ρ' ∧ I (i + 1) ρ') → I k ρ → ∃ ρ', forL g b ((List.range' k n).map fun (i : Nat) => D.int (lo + i)) ρ = .nx ρ' ∧ I (k + n) ρ'
  | 0, k, ρ, _, h => ⟨ρ, rfl, h⟩
  | n + 1, k, ρ, ht, h => by
    obtain ⟨ρ1, e, h1⟩ := ht k (Nat.le_refl _) (by omega) ρ h
    obtain ⟨ρ2, e2, h2⟩ := for_at (g := g) (b := b) (lo := lo) I n (k + 1) (fun i a c => ht i (by omega) (by omega)) h1
    refine ⟨ρ2, ?_, by rw [show k + (n + 1) = k + 1 + n by omega]; exact h2⟩
    rw [List.range'_succ, List.map_cons, v_fl1, e, v_fkN, e2]
theorem for_rng {g : Tg} {b : St} {lo : Int} {n : Nat} (I : Nat → Env → Prop) {ρ : Env} (ht : ∀ i, i < n → ∀ ρ, I i ρ → ∃ ρ', (toFl (g (.int (lo + (i : Nat))) ρ)).bind b = .nx ρ' ∧ I (i + 1) ρ') (h : I 0 ρ) : ∃ ρ', forL g b (rangeD lo n) ρ = .nx ρ' ∧ I n ρ' := by
  have := for_at (g := g) (b := b) (lo := lo) I n 0 (ρ := ρ) (fun i _ c => ht i (by omega)) h
  rw [← List.range_eq_range', Nat.zero_add] at this
  exact this
def Okv (v : Option D) : Prop := ∀ d, v = some d → d.isMut = false
def Oko (v : Option D) : Prop := v = none ∨ ∃ p, v = some (.own 0 p)
def cellN (m : Int) (ns : List Int) : Int := if (if ((ns.length : Nat) : Int) < m then ((ns.length : Nat) : Int) else m) > 1 then (if ((ns.length : Nat) : Int) < m then ((ns.length : Nat) : Int) else m) else 1
theorem law_end {b : St} {m : Nat} {ns : List Int} {ρ' : Env} (h : b (some (.scr ns) :: List.replicate m none) = .nx ρ') : ∃ o, fnOf 1 m (sSeq b (sRet (eC (.bl true)))) [.scr ns] = .ok (.bl true) o := by
  refine ⟨ρ'.take 1, ?_⟩
  rw [v_fn, if_pos (show [D.scr ns].length = 1 from rfl)]
  have e : sSeq b (sRet (eC (.bl true))) ([D.scr ns].map some ++ List.replicate m none) = .rt (.bl true) ρ' := by
    show (b (some (.scr ns) :: List.replicate m none)).bind _ = _
    rw [h]
    rfl
  rw [e, v_fnR]
end U
namespace U
def FrE (n : Nat) (ρ : Env) : Prop := ρ.length = n ∧ FreL ρ
theorem fr_cons {n : Nat} {ρ : Env} (h : FrE (n + 1) ρ) : ∃ v r, ρ = v :: r ∧ Fre v ∧ FrE n r := by
  obtain ⟨h1, h2⟩ := h
  cases ρ with
  | nil => cases h1
  | cons v r => exact ⟨v, r, rfl, h2.1, by simpa using h1, h2.2⟩
theorem fr_nil {ρ : Env} (h : FrE 0 ρ) : ρ = [] := List.length_eq_zero_iff.mp h.1
theorem fr13 {ρ : Env} (h : FrE 13 ρ) : ∃ v1 v2 v3 v4 v5 v6 v7 v8 v9 v10 v11 v12 v13, ρ = [v1, v2, v3, v4, v5, v6, v7, v8, v9, v10, v11, v12, v13] ∧ Fre v1 ∧ Fre v2 ∧ Fre v3 ∧ Fre v4 ∧ Fre v5 ∧ Fre v6 ∧ Fre v7 ∧ Fre v8 ∧ Fre v9 ∧ Fre v10 ∧ Fre v11 ∧ Fre v12 ∧ Fre v13 := by
  obtain ⟨v1, r1, rfl, o1, h⟩ := fr_cons h
  obtain ⟨v2, r2, rfl, o2, h⟩ := fr_cons h
  obtain ⟨v3, r3, rfl, o3, h⟩ := fr_cons h
  obtain ⟨v4, r4, rfl, o4, h⟩ := fr_cons h
  obtain ⟨v5, r5, rfl, o5, h⟩ := fr_cons h
  obtain ⟨v6, r6, rfl, o6, h⟩ := fr_cons h
  obtain ⟨v7, r7, rfl, o7, h⟩ := fr_cons h
  obtain ⟨v8, r8, rfl, o8, h⟩ := fr_cons h
  obtain ⟨v9, r9, rfl, o9, h⟩ := fr_cons h
  obtain ⟨v10, r10, rfl, o10, h⟩ := fr_cons h
  obtain ⟨v11, r11, rfl, o11, h⟩ := fr_cons h
  obtain ⟨v12, r12, rfl, o12, h⟩ := fr_cons h
  obtain ⟨v13, r13, rfl, o13, h⟩ := fr_cons h
  obtain rfl := fr_nil h
  exact ⟨v1, v2, v3, v4, v5, v6, v7, v8, v9, v10, v11, v12, v13, rfl, o1, o2, o3, o4, o5, o6, o7, o8, o9, o10, o11, o12, o13⟩
def LawI (n : Nat) (ns : List Int) (ρ : Env) : Prop := ∃ r, ρ = some (.scr ns) :: r ∧ FrE n r
theorem frE_nones (n : Nat) : FrE n (List.replicate n none) := by
  refine ⟨by simp, ?_⟩
  induction n with
  | zero => trivial
  | succ n ih => exact ⟨fre_none, ih⟩
theorem all_cells {b : St} {n : Nat} {ns : List Int} (hns : ns.length ≤ 63) (turn : ∀ k : Nat, k ≤ 1000 → ∀ ρ, LawI n ns ρ → ∃ ρ', (toFl (gVar 1 (.int (k : Nat)) ρ)).bind b = .nx ρ' ∧ LawI n ns ρ') {ρ : Env} (hρ : LawI n ns ρ) :
    ∃ ρ', sFor (iOfA itR (aCons (eN oMax2 (aCons (eC (.int 1)) (aCons (eN oLenScr (aCons (eVar 0) aNil)) aNil))) aNil)) (gVar 1) b ρ = .nx ρ' ∧ LawI n ns ρ' := by
  obtain ⟨r, rfl, hr⟩ := hρ
  have hR : okR (if ((ns.length : Nat) : Int) > 1 then ((ns.length : Nat) : Int) else 1) = true := by unfold okR; refine decide_eq_true ?_; split <;> omega
  obtain ⟨ρ', e, h⟩ := for_rng (g := gVar 1) (b := b) (lo := 0) (n := (if ((ns.length : Nat) : Int) > 1 then ((ns.length : Nat) : Int) else 1).toNat) (fun _ => LawI n ns) (fun i hi ρ hρ => by rw [Int.zero_add]; exact turn i (by split at hi <;> omega) ρ hρ) ⟨_, rfl, hr⟩
  refine ⟨ρ', ?_, h⟩
  rw [← e]
  have e2 : aCons (eN oMax2 (aCons (eC (.int 1)) (aCons (eN oLenScr (aCons (eVar 0) aNil)) aNil))) aNil (some (.scr ns) :: r) = .ok [.int (if ((ns.length : Nat) : Int) > 1 then ((ns.length : Nat) : Int) else 1)] (some (.scr ns) :: r) := rfl
  unfold sFor iOfA
  simp only [e2, itR]
  rw [if_pos hR]
end U
namespace U
theorem drw {p : D} (hp : Pool p) (n : Int) (h1 : 1 ≤ n) (h2 : n ≤ 1000000000000000000000000000000) : ∃ (x : Nat) (p' : D), Pool p' ∧ (x : Int) < n ∧ fn_law_draw [.own 1 p, .int n] = .ok (.int (x : Nat)) [some (.own 1 p'), some (.int n)] := by
  have a := draw_lo hp h1 h2
  have b := draw_hi hp h1 h2
  refine ⟨(drawV p n).toNat, drawP p n, pool_draw hp h1 h2, by omega, ?_⟩
  rw [f_draw hp h1 h2, Int.toNat_of_nonneg a]
theorem drws {ns : List Int} {k : Int} (hl : ns.length ≤ 63) (h0 : 0 ≤ k) (h1 : k ≤ 1000) : ∃ p, Pool p ∧ fn_law_draws [.scr ns, .int k] = .ok (.own 0 p) [some (.scr ns), some (.int k)] := ⟨_, (draws_all hl h0 h1).2, (draws_all hl h0 h1).1⟩
theorem ltr {p : D} (hp : Pool p) : ∃ (x : Nat) (p' : D), Pool p' ∧ x ∈ ([97, 98, 99, 120, 121, 122] : List Nat) ∧ fn_law_letter [.own 1 p] = .ok (.str [x]) [some (.own 1 p')] := ⟨letC p, drawP p 6, pool_draw hp (by decide) (by decide), (let_at hp).2, f_letter hp⟩
end U
namespace PySem.W
open PySem PySem.Spec PySem.Calls PyProof.Rows
section
variable {prog : Program} {w : World} {A : Around} {E : Value → Shared → Prop} {s : Shared} {K : Frag} {x D : Addr} {ox : Obj} {od : Option Obj}
theorem find_bound {C : Addr} {name : Str} {a g : Value} (hc : (clsIn K C).isSome = true) (ha : findIn K (.ref C) name = some (some a)) (hg : specialIn K a "__get__" = some (some g)) (ht : takesIn K a = some true) : findObj K C od name = some (.bind g a) := by
  obtain ⟨cd, hc⟩ := Option.isSome_iff_exists.mp hc
  simp only [findObj, hc, ha, hg, ht, Option.bind_some]
theorem cls_some (C : L2.ExcC K D) : (clsIn K D).isSome = true := by
  obtain ⟨cd, hc, _⟩ := any_some C.hd
  rw [hc]; rfl
theorem exc_class {Q : Option Value → Shared → Prop} (C : L2.ExcC K D) (X : K.In s.heap) (I : InstAt s.heap x ox D od) (h : Q (some (.ref D)) { s with toks := s.toks + 1 }) : wpAny (model prog w) A (getAttr? (.ref x) "__class__") Q E s := by
  obtain ⟨hp, g, d, t, os⟩ := s
  have ty := I.type (M := model prog w)
  have ga := looks_findIn (M := model prog w) X C.hg
  have gt := looks_findIn (M := model prog w) X C.hk
  have fd := looks_find (M := model prog w) X I (find_bound (od := od) (cls_some C) C.ha C.hn C.ht)
  have sub : Looks (model prog w) hp (isInstance (.ref x) (.type "BaseException")) true := ty.andThen (looks_subIn X C.hs)
  have ne : (onTheHeap (Value.ref D) && Value.builtin "BaseException.__getattribute__" == Value.builtin "object.__getattribute__") = false := by
    rw [show (Value.builtin "BaseException.__getattribute__" == Value.builtin "object.__getattribute__") = false by decide +kernel]; rfl
  unfold getAttr? getAttrBy? getAttrBy
  refine wpAny_bind (wpAny_mkText (wpAny_bind (wpAny_attempt (wpAny_holding (wpAny_bind (ty.at (wpAny_bind (ga.at ?_))))))))
  show wpAny _ _ (if (onTheHeap (Value.ref D) && Value.builtin "BaseException.__getattribute__" == Value.builtin "object.__getattribute__") = true then _ else _) _ _ _
  rw [ne, if_neg Bool.false_ne_true]
  unfold getAttrByItsOwn hookBefore
  refine wpAny_bind ?_
  rw [if_pos (show onTheHeap (Value.ref D) = true from rfl)]
  refine gt.at (wpAny_bind (wpAny_attempt (wpAny_holding ?_)))
  unfold callGetattribute
  rw [if_neg (show ¬ (false && onTheHeap (Value.builtin "BaseException.__getattribute__")) = true from Bool.false_ne_true)]
  unfold boundAndCalled
  rw [PySem.F.excAttr_ValueError.ga.bind (.ref x)]
  refine wpAny_bind (wpAny_pure (wpAny_call (codeAny_call_builtin PySem.F.excAttr_ValueError.ga.plain PySem.F.entry_bexc_ga ?_)))
  refine @check_slot (model prog w) _ _ ⟨hp, g, d, t + 1, os⟩ "BaseException.__getattribute__" "BaseException" "__getattribute__" (.ref x) [.str "__class__" t] [] _ (by decide +kernel) (by decide +kernel) sub (PySem.F.args_bexc_ga (.ref x) (.str "__class__" t)) ?_
  unfold Builtin.«object.__getattribute__»
  refine wpAny_bind (wpAny_of_eq (a := ((Value.ref x : Value), [Value.str "__class__" t])) (by first | rfl | (simp only [slotArgs]; rfl)) ?_)
  refine wpAny_bind (wpAny_pure (wpAny_bind (ty.at (wpAny_bind (fd.at ?_)))))
  show wpAny _ _ (holding [Value.builtin "object.__class__"] (call (.builtin "getset_descriptor.__get__") [.builtin "object.__class__", .ref x, .ref D]) >>= ret) _ _ _
  refine wpAny_bind (wpAny_holding (wpAny_call (class_get (s := ⟨hp, g, d, t + 1, os⟩) (ox := ox) (od := od) X I C.hm (wpAny_pure ?_))))
  show wpAny _ _ (handedOut (.ref D)) _ _ _
  rw [handedOut_of (v := .ref D) rfl]
  first
    | exact wpAny_pure (wpAny_pure h)
    | exact wpAny_pure h
    | exact wpAny_pure (wpAny_bind (wpAny_pure (wpAny_pure h)))
theorem cls_obj (C : L2.ExcC K D) : ∃ c d cd sl, K.lookup D = some ⟨c, d, .cls cd, sl⟩ := by
  have h := cls_some C
  unfold clsIn at h
  split at h
  · rename_i e; exact ⟨_, _, _, _, e⟩
  · cases h
theorem kitx_exc (C : L2.ExcC K D) : KitX K (.ref x) (.ref D) (fun h => InstAt h x ox D od) where
  ty := fun _ _ _ I => I.type
  it := fun _ _ X _ => by
    obtain ⟨c, d, cd, sl, e⟩ := cls_obj C
    intro A' Q' E' s' k q
    unfold isType loadHead
    exact wpAny_bind (wpAny_loadPart (k _ _ (X _ _ e)) (wpAny_pure q))
  ne := fun h tp dd its n sl X htp => by
    obtain ⟨c, d, cd, sl', e⟩ := cls_obj C
    refine Bool.eq_false_iff.mpr fun q => ?_
    obtain rfl : D = tp := Value.ref.inj (beq_iff_eq.mp q)
    cases (X _ _ e).symm.trans htp
  ca := fun X I k => exc_class C X I k
end
end PySem.W
namespace L2
open PySem PySem.Spec PyProof.Rows
def rIsX (K : PySem.W.Frag) (a : Addr) (cls : Value) (d : Option Addr) : List V → Hp → VK → Prop := fun xs H Q => ∃ (D c : Addr) (b : Bool), xs = [.ref a, .ref c] ∧ cls = .ref D ∧ ExcC K D ∧ PySem.W.kitOne K (.ref D) (.ref c) = some b ∧ (d = none ∨ ∃ p fs, d = some p ∧ H p = some (.xd fs)) ∧ Q (.bl b) H
def rInT (K : PySem.W.Frag) : R2 := fun x y H Q => ∃ d ds, Dp K H x d ∧ Dp K H y (.tuple ds) ∧ SeqAt.shaped d = true ∧ SeqAt.shaped (.tuple ds) = true ∧ Q (.bl (ds.any fun z => PyData.eqv z d)) H
def rNotInT (K : PySem.W.Frag) : R2 := fun x y H Q => ∃ d ds, Dp K H x d ∧ Dp K H y (.tuple ds) ∧ SeqAt.shaped d = true ∧ SeqAt.shaped (.tuple ds) = true ∧ Q (.bl (!ds.any fun z => PyData.eqv z d)) H
section
variable {X : Cx}
end
end L2
namespace U
open PySem PySem.Spec PyProof.Rows L2
def eXis (i : Nat) (c : String) (b : Bool) : E := fun ρ => match ρ[i]? with
  | some (some (.exn c' _ _)) => if c' = c then .ok (.bl b) ρ else .bad
  | _ => .bad
def oInA : D → D → Option D
  | x, .tup l => if okD 9 x && okD 9 (.tup l) then some (.bl (inD x l)) else none
  | _, _ => none
def oNotInA : D → D → Option D
  | x, .tup l => if okD 9 x && okD 9 (.tup l) then some (.bl (!inD x l)) else none
  | _, _ => none
section
variable {K : PySem.W.Frag} {B : Bx} {F F' : Fz} {H H' : Hp} {W : WX} {σ : L2.St}
end
section
variable {X : Cx} {B : Bx} {W : WX} {e : Expr} {f g : E}
end
def kXis (c : String) (b : Bool) (ρ : Env) (o : Option (Option D)) : ER := match o with
  | some (some (.exn c' _ _)) => if c' = c then .ok (.bl b) ρ else .bad
  | _ => .bad
end U
namespace StY
open PySem PySem.Spec PyProof.Rows L2
section
variable {X : Cx} {CX : CXT} {k i : Nat} {f C : Addr} {fd : FuncData} {ps : List Str} {sp : Sp} {dvs : List V} {E : L2.St → XK} {x : Str} {p sp_ pos : Pos} {e : Expr} {te : TE}
end
end StY
namespace U
open PySem PySem.Spec PyProof.Rows L2
def aStar (f : E) (r : As) : As := fun ρ => (f ρ).bindA fun x ρ1 => match x with
  | .tup l => (r ρ1).bindA fun ys ρ2 => .ok (l ++ ys) ρ2
  | .lst l => (r ρ1).bindA fun ys ρ2 => .ok (l ++ ys) ρ2
  | _ => .bad
section
variable {K : PySem.W.Frag} {B : Bx} {F F' : Fz} {H H' : Hp} {W : WX} {σ : L2.St}
end
section
variable {X : Cx} {B : Bx} {W : WX} {e : Expr} {f g : E}
end
section
variable {ρ : Env} {f : E} {r : As} {l : List D}
def starK (r : As) : D → Env → AR := fun x ρ1 => match x with
  | .tup l => (r ρ1).bindA fun ys ρ2 => .ok (l ++ ys) ρ2
  | .lst l => (r ρ1).bindA fun ys ρ2 => .ok (l ++ ys) ρ2
  | _ => .bad
def catK (l : List D) : List D → Env → AR := fun ys ρ2 => .ok (l ++ ys) ρ2
end
end U
namespace L2
open PySem PySem.Spec PyProof.Rows
section
variable {X : Cx} {k n j : Nat} {f : Addr} {fd : FuncData} {ps ks : List Str} {sp : Sp} {x : Str} {p pos : Pos} {e : Expr} {es : List Expr} {kws : List Keyword} {t tk : TA} {gV : List V → List V → List V}
end
end L2
namespace U
open PySem PySem.Spec PyProof.Rows L2
def eCallKw (f : Fn) (n m : Nat) (a kw : As) (dd : List D) : E := fun ρ => match a ρ with
  | .ok ds ρ1 => (match kw ρ1 with
    | .ok es ρ2 => if ds.length = n ∧ es.length = m then (match f (ds ++ (dd ++ es)) with
      | .ok d _ => .ok d ρ2
      | _ => .bad) else .bad
    | .exc x ρ2 => .exc x ρ2
    | .bad => .bad)
  | .exc x ρ1 => .exc x ρ1
  | .bad => .bad
section
variable {K : PySem.W.Frag} {B : Bx} {F F' : Fz} {H H' : Hp} {W : WX} {σ : L2.St}
end
section
variable {X : Cx} {B : Bx} {W : WX} {e : Expr}
abbrev DKw (X : Cx) (B : Bx) (W : WX) (kws : List Keyword) (a : As) : Prop := PK X kws (tDA X.K B W a)
theorem PK_weak {kws : List Keyword} {t t' : TA} (h : PK X kws t) (w : ∀ σ H Q, t' σ H Q → t σ H Q) : PK X kws t' := ⟨fun pos pins s σ H Q I q => h.run pos pins s σ H Q I (w σ H Q q)⟩
theorem kw_nil : DKw X B W [] aNil := PK_weak pk_nil w_anil
theorem kw_cons {f : E} {r : As} {nm : Option Str} {kpos : Pos} {kws : List Keyword} (h : DE X B W e f) (hr : DKw X B W kws r) : DKw X B W (⟨nm, e, kpos⟩ :: kws) (aCons f r) := PK_weak (pk_cons h hr) w_acons
end
end U
namespace U
open PySem PySem.Spec PyProof.Rows L2
section
variable {X : Cx} {B : Bx} {W : WX} {e : Expr}
theorem d_dic0 (h : PE X e tDNewK) : DE X B W e (eC (.dic [])) := h.weak fun σ H Q q => by
  obtain ⟨F, ρ, A, rp, q⟩ := q
  intro p hp
  have g : Grow F H (fun a => F a ∨ a = p) (upd H p (.dK [])) := Grow.new hp
  refine q (.ref p) _ _ A (rp.grow g) ?_ g.step
  simp only [RV]
  exact ⟨p, rfl, .inr rfl, upd_same⟩
end
end U
namespace TK
open PySem PySem.W PySem.Calls PyProof.Rows PySem.Spec L2
structure FnT (N : Nat) (P : Program) (w : World) (K : Frag) (mg : Str → Option Value) (base : Heap) (CX : CXT) (k : Nat) (f : Addr) (fd : FuncData) (ps : List Str) (sp : Sp) : Prop where
  len : ∀ vs H Q E, sp vs H Q E → vs.length = ps.length
  run : ∀ (A : Around) (outer : List PySem.Env) (s : Shared) (H : Hp) (args : Args) (us : List Value) (vs : List V) (Q : VK) (E : XK),
    N ≤ s.toks → A.guards = some [] → Room k A → Env0 P w K mg base A outer s H → BindsTo s fd args (ps.zip us) → Vals vs us → sp vs H Q E →
    codeAny (model P w) A (.call (.ref f) args) (CR CX outer P w H s Q E) s
theorem FnT.of {N : Nat} {P : Program} {w : World} {K : Frag} {mg : Str → Option Value} {base : Heap} {CX : CXT} {k : Nat} {f : Addr} {fd : FuncData} {ps : List Str} {sp : Sp} (F : FnOk P w K mg base CX k f fd ps sp) : FnT N P w K mg base CX k f fd ps sp :=
  ⟨F.len, fun A outer s H args us vs Q E _ _ => F.run A outer s H args us vs Q E⟩
abbrev EndT (s₁ : Shared) (r : Result) (s' : Shared) : Prop := r = .ok (.ret (.bool true)) ∧ OldK s₁.heap s'.heap ∧ s'.os = s₁.os ∧ AllBare s'.gens
section
variable {N : Nat} {P : Program} {w : World} {K : Frag} {mg mb : Str → Option Value} {CX : CXT} {k : Nat} {fa a : Addr} {fd : FuncData} {x : Str} {sp : Sp} {s₁ : Shared} {vs : List Value} {ns : List Int}
theorem call_one (hT : N ≤ s₁.toks) (KX : K.In s₁.heap) (hns : s₁.heap.Ns mainGlobals mg) (hb : s₁.heap.Ns builtinsNs mb) (hbb : ∀ x : Str, x ≠ "__name__" → mb x = bootBuiltins x) (hlim : s₁.heap.NoLimit) (hg : s₁.gens = #[])
    (ha : s₁.heap.get? a = some { cls := .type "list", data := .seq vs.toArray }) (hr : Room k callerA)
    (F : ∀ base : Heap, K.In base → base.Ns mainGlobals mg → FnT N P w K mg base CX k fa fd [x] sp) (hbind : ∀ (s : Shared) (u : Value), BindsTo s fd ⟨[u], []⟩ [(x, u)])
    (hCX : ∀ H e s', CX [] H s₁ (fun _ _ _ => False) e s' → False) {H : Hp} (hO : Only H)
    (hok : HOk P w H s₁.heap) (hA : ∀ b, H b ≠ none → b = a) (hK : H a ≠ none → K.lookup a = none) (hsp : sp [.ref a] H (fun v _ => v = .bl true) fun _ _ _ => False) :
    codeAny (model P w) callerA (.call (.ref fa) ⟨[.ref a], []⟩) (EndT s₁) s₁ := by
  have only : ∀ {b : Addr} {u : HO}, H b = some u → b = a := fun {b u} q => hA b (by rw [q]; exact fun z => nomatch z)
  have hid : ∀ {b : Addr} {o : Obj} {es : Array DictEntry} {ep : Nat}, s₁.heap.get? b = some o → o.data = .dict es ep → (hidT s₁.heap H).get? b = some o := fun {b o es ep} e d => by
    refine hidT_get e ?_
    cases q : H b with
    | none => rfl
    | some u =>
      rw [only q, ha] at e
      cases e
      cases (show Data.seq vs.toArray _ = Data.dict es ep from d)
  have nsK : ∀ {b : Addr} {m : Str → Option Value}, s₁.heap.Ns b m → (hidT s₁.heap H).Ns b m := fun {b m} z => by
    obtain ⟨o, es, ep, e, d, r⟩ := z
    exact ⟨o, es, ep, hid e d, d, r⟩
  have KB : K.In (hidT s₁.heap H) := fun b o e => by
    refine hidT_get (KX b o e) ?_
    cases q : H b with
    | none => rfl
    | some u =>
      have eb := only q
      have hk0 := hK (by rw [← eb, q]; exact fun z => nomatch z)
      rw [eb, hk0] at e
      cases e
  obtain ⟨mc, l1, l2⟩ := hlim
  have md : Mod K mg (hidT s₁.heap H) := ⟨KB, nsK hns, ⟨mb, nsK hb, hbb⟩, mc, nsK l1, l2⟩
  have e0 : Env0 P w K mg (hidT s₁.heap H) callerA [] s₁ H := ⟨rfl, md, fun _ _ e => of_hidT e, Nat.le_of_eq (hidT_size _ _), trivial, fun _ hb => (List.not_mem_nil hb).elim, hok, .of_eq hg⟩
  have z := (F _ KB (nsK hns)).run callerA [] s₁ H ⟨[.ref a], []⟩ [.ref a] [.ref a] _ _ hT rfl hr e0 (hbind s₁ (.ref a)) (.cons rfl .nil) hsp
  refine codeAny_mono z fun r s' h => ?_
  match r, h with
  | .error e, h => exact (hCX H e s' h).elim
  | .ok .next, h => exact h.elim
  | .ok .brk, h => exact h.elim
  | .ok .cont, h => exact h.elim
  | .ok (.ret u), ⟨v, H', os, bare, un, hok', r', q⟩ =>
    obtain rfl : v = .bl true := q
    obtain rfl : u = Value.bool true := r'
    refine ⟨rfl, OldK.of_keep fun b o e => ?_, os, bare⟩
    rcases hO b with q | ⟨ob, xs, q⟩
    · exact un.keep b o e q (fun z => (List.not_mem_nil z).elim) (by simp)
    · have e1 := (hok b _ q).1
      have e2 := (hok' b _ (un.frzs b ob _ q)).1
      rw [e] at e1
      cases e1
      exact e2
theorem call_law (hT : N ≤ s₁.toks) (KX : K.In s₁.heap) (hns : s₁.heap.Ns mainGlobals mg) (hb : s₁.heap.Ns builtinsNs mb) (hbb : ∀ x : Str, x ≠ "__name__" → mb x = bootBuiltins x) (hlim : s₁.heap.NoLimit) (hg : s₁.gens = #[])
    (ha : s₁.heap.get? a = some { cls := .type "list", data := .seq vs.toArray }) (hi : IntsAre vs ns) (hl : ns.length ≤ sizeLine) (hr : Room k callerA)
    (F : ∀ base : Heap, K.In base → base.Ns mainGlobals mg → FnT N P w K mg base CX k fa fd [x] sp) (hbind : ∀ (s : Shared) (u : Value), BindsTo s fd ⟨[u], []⟩ [(x, u)])
    (hsp : ∀ H : Hp, Only H → SqL K H a (ns.map V.int) → sp [.ref a] H (fun v _ => v = .bl true) fun _ _ _ => False)
    (hCX : ∀ H e s', CX [] H s₁ (fun _ _ _ => False) e s' → False) : codeAny (model P w) callerA (.call (.ref fa) ⟨[.ref a], []⟩) (EndT s₁) s₁ := by
  have rv := vals_ints hi
  have lenV := hi.length
  cases hk : K.lookup a with
  | some o =>
    have e := KX a o hk
    rw [ha] at e
    cases e
    have nn : ∀ b : Addr, (fun _ => none : Hp) b ≠ none → b = a := fun b z => (z rfl).elim
    exact call_one (H := fun _ => none) hT KX hns hb hbb hlim hg ha hr F hbind hCX (fun _ => .inl rfl) (fun _ _ z => nomatch z) nn (fun z => (z rfl).elim)
      (hsp _ (fun _ => .inl rfl) (.inr ⟨_, vs.toArray, _, hk, rfl, rfl, rfl, by rw [List.size_toArray, lenV]; exact hl, by simpa using rv⟩))
  | none =>
    let Hs : Hp := fun b => if b = a then some (.frz { cls := .type "list", data := .seq vs.toArray } (.lst (ns.map V.int))) else none
    have at_a : Hs a = some (.frz { cls := .type "list", data := .seq vs.toArray } (.lst (ns.map V.int))) := if_pos rfl
    have off : ∀ {b : Addr}, b ≠ a → Hs b = none := fun h => if_neg h
    have hO : Only Hs := fun b => by
      by_cases h : b = a
      · rw [h]; exact .inr ⟨_, _, at_a⟩
      · exact .inl (off h)
    refine call_one (H := Hs) hT KX hns hb hbb hlim hg ha hr F hbind hCX hO (fun b u z => ?_) (fun b z => ?_) (fun _ => hk) (hsp Hs hO (.inl (.inr ⟨_, at_a⟩)))
    · by_cases h : b = a
      · subst h
        rw [at_a] at z
        cases z
        exact ⟨ha, by rw [List.length_map]; exact hl, vs, _, rv, ha⟩
      · rw [off h] at z
        cases z
    · by_cases h : b = a
      · exact h
      · exact (z (off h)).elim
end
end TK
namespace PySem.W
open PySem PySem.Calls PyProof.Rows
abbrev WalkT (N : Nat) (q : Program) (loose : List Str) (XP : (Str → Option Value) → Heap → Prop) (YP : World → Heap → Prop) (r : RowW) (d : DefRec) (kwd : List (Str × Expr)) (run : Value → List Value → Sem Value) : Prop :=
  ∀ (w : World) (s₀ s₁ : Shared) (mg mb : Str → Option Value), N ≤ s₁.toks →
    Ground q loose r.records XP w s₀ mg mb s₁.heap → YP w s₁.heap →
    ∀ (a : Addr) (o : Obj) (pm cd doc dV kV : Value), s₁.heap.get? a = some o →
    o.data = .func { docDef d.name d.params d.body d.scope pm cd doc with defaults := dV, kwdefaults := kV } →
    s₁.heap.CodeRec cd d.name → Dflts mg s₁.heap d.params kwd dV kV → mg d.name = some (.ref a) → s₁.gens = #[] →
    ∀ (args : List WData) (vals : List Value) (as : List Addr), r.claim.pre args = true → WData.layableAll args = true →
      ReadsAllW r.records (classAt s₀.heap) s₁.heap vals args as → WellAll w.params s₁.heap vals args →
      (∀ a ∈ as, (a == sysModules) = false) →
      wpAny (model r.prog w) callerA (run (.ref a) vals)
        (fun v s' => GoodWG r.claim (classAt s₀.heap) (ExcName.means s₀.heap) args s₁ (.ok (.ret v)) s')
        (fun e s' => GoodWG r.claim (classAt s₀.heap) (ExcName.means s₀.heap) args s₁ (.error e) s') s₁
theorem holdsT {N : Nat} {r : OpenRow} {q : Program} {loose : List Str} {Xt : Shared → Bool} {XP : (Str → Option Value) → Heap → Prop} {α : Type} {Yf : Shared → α} {Ya : World → α} {YP : World → Heap → Prop} {d : DefRec} {kwd : List (Str × Expr)} {M : Nat}
    (left : LeftO r.prog q loose Xt Yf Ya M) (hY : ∀ w s, Yf s = Ya w → YP w s.heap) (hZ : ∀ w s, Yf s = Ya w → N ≤ s.toks)
    (hYk : ∀ w h h', YP w h → (∀ b o, h.get? b = some o → h'.get? b = some o) → YP w h') (hX : ∀ s, Xt s = true → XP (s.heap.nsMap mainGlobals) s.heap)
    (hXk : ∀ mg h h', XP mg h → (∀ b o, h.get? b = some o → h'.get? b = some o) → XP mg h') (hdef : defOf q r.name = some (d, kwd))
    (hp : r.prog.theDef r.name = some (d.params, d.body, d.scope)) (hk : kwWritten? d.params.kwonlyargs d.params.kw_defaults = some kwd)
    (hRf : ∀ s, Xt s = true → RecFacts r.records s.heap) (hwr : (!r.writes || r.records.isEmpty) = true) (k1 : r.wellSaid = true)
    (ok : (chainsOk q && opensWell r.prog && (frees r.toRowW && r.within.isEmpty)) = true) (hb : r.prog.bare) (hw : r.toRowW.promised)
    (call : WalkT N q loose XP YP r.toRowW d kwd fun f vs => PySem.call f vs) : r.Holds := by
  have o := Bool.and_eq_true_iff.mp ok
  have o1 := Bool.and_eq_true_iff.mp o.1
  have o5 := Bool.and_eq_true_iff.mp o.2
  obtain ⟨hsame, hu, ha, hap, hm⟩ := frees_parts o5.1
  have lb := fun w => left.behind (XP := fun mg h => XP mg h ∧ RecFacts r.records h) (fun s hs => ⟨hX s hs, hRf s hs⟩) o1.1 w
  refine ⟨k1, hw, ⟨⟨hb, o1.2, by show r.toRowW.makers.map _ = []; rw [hm]; rfl⟩, hw.witness, fun w => ⟨(left.behind hX o1.1 w).1, fun s' hs' => ?_⟩⟩⟩
  obtain ⟨s₀, hf, hg0, s, hT, hz, hgens, hg, GX, y⟩ := (lb w).2 s' hs'
  have G0 : Ground q loose [] XP w s (s.heap.nsMap mainGlobals) (s.heap.nsMap builtinsNs) s.heap := ⟨GX.T, GX.B, GX.D, GX.TE, GX.TD, GX.W, GX.X.1, GX.cls, GX.has, GX.apart, GX.once, GX.K⟩
  have RF := GX.X.2
  refine ⟨s₀, hf, hg0, s, hT, fun n hn => ?_, RF.1, RF.2.1, ?_⟩
  · obtain rfl : n = r.name := by split at hn <;> simp_all
    exact pinned_of_view hg G0 hdef hp hk
  have hgs : s.gens = #[] := Array.eq_empty_of_size_eq_zero (beq_iff_eq.mp hgens)
  have G : Ground q loose r.records XP w s _ _ s.heap := RF.ground G0
  refine ClaimW.callFrom_of_specG (c := r.toRowW.claim) hz hgs fun args hpre hlay ord hord => ?_
  obtain ⟨⟨vs, s₁⟩, hl⟩ := Option.isSome_iff_exists.mp (layAllW_isSome (P := w.params) (ord := ord) G.has args r.args s (pre_splitW hpre).1)
  have keeps := layAllW_keeps _ _ _ hl
  have rest := layAllW_rest _ _ _ hl
  have more := (layAllW_grows _ _ _ hl).toks
  obtain ⟨as, hrd, hin, hold⟩ := reads_layAllW hord _ _ _ hl hlay s₁.heap (fun _ _ e => e)
  have L : Laid r.records w s s₁ args vs as := ⟨⟨ord, hord, hl⟩, hrd, hin, hold, keeps, rest.1.trans hgs, rest.2.2.1⟩
  have G₁ := G.keeps hXk keeps
  obtain ⟨a, ob, pm, cd, doc, dV, kV, h1, h2, h3, h4, h5⟩ := G₁.fn hdef
  have h := call w s s₁ _ _ (Nat.le_trans (hZ w s y) more) G₁ (hYk _ _ _ (hY w s y) keeps) a ob pm cd doc dV kV h2 h3 h4 h5 (defOf_name hdef ▸ h1) L.gens args vs as hpre hlay L.reads L.well (L.low G.low)
  have hi := ident_freeW hu ha hap
  have hwi : r.toRowW.claim.within = [] := List.isEmpty_iff.mp o5.2
  refine ⟨vs, s₁, hl, ?_⟩
  have fin : ∀ (res : Result) (s2 : Shared), GoodWG r.claim (classAt s.heap) (ExcName.means s.heap) args s₁ res s2 →
      r.toRowW.claim.Ends s args vs s₁ res s2 ∧ s2.os = s.os ∧ AllBare s2.gens ∧ (r.writes = true → namesKept r.prog r.keeps s.heap s2.heap ∧ ∀ x : Str × List (Str × WShape), x ∈ r.records → ∀ a, classAt s.heap x.1 = some a → recordClass s2.heap a x.1 (x.2.map fun y => y.1) = true) := fun res s2 g => by
    have z := g.laid (c := r.toRowW.claim) hsame hwi hi L
    exact ⟨z.1, z.2.1, z.2.2, fun q => ⟨namesKept_of hT hg r.keeps keeps g.2.1.old, noTable hwr q⟩⟩
  refine wpAny_bind (wpAny_nsGet G₁.T.g ?_)
  rw [h1]
  refine wpAny_bind (wpAny_mono h (fun v s2 g => ?_) fun e s2 g => fin _ _ g)
  exact wpAny_pure ⟨_, rfl, fin _ _ g⟩
end PySem.W
namespace TK
open PySem PySem.W PySem.Calls PyProof.Rows PySem.Spec L2 HandSHeadRun
theorem headT {N : Nat} {r : OpenRow} {q : Program} {H : Hook} {ob : SharedT → H.α} {M : Nat} {loose : List PySem.Str} {d : DefRec} {kwd : List (PySem.Str × PySem.Expr)} (ho : ∀ s : SharedT, ob s = H.obs s.abs)
    (hZ : ∀ w s, H.obs s = H.val w → N ≤ s.toks) (e : opening r.prog = plainProg r.prog.main.scope.names) (f : ∀ s, fenceModules? r.prog s = some s)
    (run : ∀ w, RunEq r q H ob M loose w) (hdef : defOf q r.name = some (d, kwd)) (hp : r.prog.theDef r.name = some (d.params, d.body, d.scope))
    (hk : kwWritten? d.params.kwonlyargs d.params.kw_defaults = some kwd) (hwr : (!r.writes || r.records.isEmpty) = true) (k1 : r.wellSaid = true)
    (ok : (chainsOk q && opensWell r.prog && (frees r.toRowW && r.within.isEmpty)) = true) (hb : r.prog.bare) (hw : r.toRowW.promised)
    (call : WalkT N q loose (XL q []) H.says r.toRowW d kwd fun f vs => PySem.call f vs) : r.Holds := by
  obtain rfl : ob = fun s => H.obs s.abs := funext ho
  have big : M + 60 ≤ M + 600 := by omega
  have left : LeftO r.prog q loose (fun s => xlAt q [] s && recOk r.toRowW.records s) H.obs H.val (M + 600) true := by
    refine left_one (M := M) e (Nat.ble_eq_true_of_le (by omega)) f (Nat.ble_eq_true_of_le (by omega)) fun w os => ?_
    have z := run w os
    simp only [endQ_eq, seenQ_eq]
    exact z
  refine holdsT (N := N) left H.of hZ H.keeps (fun s z => ?_) XL.keeps hdef hp hk (fun s z => ?_) hwr k1 ok hb hw call
  · exact xl_of s (Bool.and_eq_true_iff.mp z).1
  · exact recFacts_of (Bool.and_eq_true_iff.mp z).2
theorem walkT {N : Nat} {l : PySem.W.OpenLaw} {n k : Nat} {q : Program} {loose : List Str} {XP : (Str → Option Value) → Heap → Prop} {YP : World → Heap → Prop} {d : DefRec} {CX : CXT} {x : Str}
    (hn : l.most = some n) (hn2 : n ≤ sizeLine) (hdf : d.params.defaults = []) (hr : Room k callerA)
    (F : ∀ (w : World) (mg : Str → Option Value) (fa : Addr) (h : Heap), YP w h → h.Ns mainGlobals mg → mg d.name = some (.ref fa) →
      ∃ (K : PySem.W.Frag) (fd : FuncData) (sp : Sp), K.In h ∧ (∀ (s : Shared) (u : Value), BindsTo s fd ⟨[u], []⟩ [(x, u)]) ∧
        (∀ (H : Hp) (a : Addr) (ns : List Int), ns.length ≤ n → Only H → SqL K H a (ns.map V.int) → sp [.ref a] H (fun v _ => v = .bl true) fun _ _ _ => False) ∧
        ∀ base : Heap, K.In base → base.Ns mainGlobals mg → FnT N l.prog w K mg base CX k fa fd [x] sp)
    (hCX : ∀ (H : Hp) (s : Shared) (e : Value) (s' : Shared), CX [] H s (fun _ _ _ => False) e s' → False) :
    PySem.W.WalkT N q loose XP YP l.row.toRowW d [] (fun f vs => PySem.call f vs) := by
  intro w s₀ s₁ mg mb hN G Y fa o pm cd doc dV kV ho hd hcd hD hmg hg args vals as hpre hlay hrd hwl hlo
  obtain rfl : dV = .none := Dflts.none hD hdf
  obtain rfl : kV = .none := Dflts.noKw hD
  obtain ⟨a, vs, ns, rfl, rfl, hobj, hints, hlen⟩ := Att.script_of hn hpre hwl
  obtain ⟨K, fd, sp, KX, hb, hsp, hF⟩ := F w mg fa _ Y G.T.g hmg
  have z := call_law hN KX G.T.g G.T.b G.T.builtins G.T.nolimit hg hobj hints (Nat.le_trans hlen hn2) hr hF hb (fun H hO hS => hsp H a ns hlen hO hS) fun H e s' => hCX H s₁ e s'
  refine W.enter_call (codeAny_mono z fun r s' hq => ?_)
  obtain ⟨rfl, h2, h3, h4⟩ := hq
  exact ⟨.inl ⟨.bool true, .bool true, [], rfl, fun _ => rfl, .bool true, Att.post_true l _, fun _ => ⟨.nil, fun _ hm => (nomatch hm)⟩⟩, h2, h3, h4⟩
end TK
namespace TK
open PySem PySem.W PySem.Calls PyProof.Rows PySem.Spec L2
structure JE (N : Nat) (X : Cx) (e : Expr) (t : TE) : Prop where
  run : ∀ (pins : List (Addr × Obj)) (s : Shared) (σ : L2.St) (H : Hp) (Q : VK), N ≤ s.toks → Inv X pins σ H s → t σ H Q → wpAny (model X.prog X.w) X.A (eval e X.env) (EP X pins σ Q) X.xe s
structure JT (N : Nat) (X : Cx) (e : Expr) (t : TT) : Prop where
  run : ∀ (pins : List (Addr × Obj)) (s : Shared) (σ : L2.St) (H : Hp) (Q : Bool → Hp → Prop), N ≤ s.toks → Inv X pins σ H s → t σ H Q → wpAny (model X.prog X.w) X.A (isTrue e X.env (eval e X.env)) (TP X pins σ Q) X.xe s
structure JW (N : Nat) (X : Cx) (e : Expr) (t : TT) : Prop where
  run : ∀ (whole : Sem Value) (pins : List (Addr × Obj)) (s : Shared) (σ : L2.St) (H : Hp) (Q : Bool → Hp → Prop), N ≤ s.toks → Inv X pins σ H s → t σ H Q → wpAny (model X.prog X.w) X.A (isTrue e X.env whole) (TP X pins σ Q) X.xe s
structure JS (N : Nat) (X : Cx) (st : Stmt) (t : TS) : Prop where
  run : ∀ (pins : List (Addr × Obj)) (s : Shared) (σ : L2.St) (H : Hp) (D : Ends), N ≤ s.toks → Inv X pins σ H s → t D σ H → wpAny (model X.prog X.w) X.A (exec st X.env) (SP X pins D) X.xe s
structure JSs (N : Nat) (X : Cx) (st : List Stmt) (t : TS) : Prop where
  run : ∀ (pins : List (Addr × Obj)) (s : Shared) (σ : L2.St) (H : Hp) (D : Ends), N ≤ s.toks → Inv X pins σ H s → t D σ H → wpAny (model X.prog X.w) X.A (execs st X.env) (SP X pins D) X.xe s
theorem on {α : Type} {M : Model} {A : Around} {E : Value → Shared → Prop} {t : Sem α} {Q R : α → Shared → Prop} {s : Shared} {N : Nat} (hn : N ≤ s.toks) (h : wpAny M A t Q E s) (k : ∀ a s', N ≤ s'.toks → Q a s' → R a s') : wpAny M A t R E s :=
  wpAny_mono (wpAny_toks_of hn h) (fun a s' x => k a s' x.1 x.2) fun _ _ x => x.2
section
variable {N : Nat} {X : Cx}
theorem jss_of {st : List Stmt} {t : TS} (h : PSs X st t) : JSs N X st t := ⟨fun pins s σ H D _ => h.run pins s σ H D⟩
theorem JE.weak {e : Expr} {t u : TE} (h : JE N X e t) (k : ∀ σ H Q, u σ H Q → t σ H Q) : JE N X e u := ⟨fun pins s σ H Q n I q => h.run pins s σ H Q n I (k _ _ _ q)⟩
theorem JT.weak {e : Expr} {t u : TT} (h : JT N X e t) (k : ∀ σ H Q, u σ H Q → t σ H Q) : JT N X e u := ⟨fun pins s σ H Q n I q => h.run pins s σ H Q n I (k _ _ _ q)⟩
theorem JW.weak {e : Expr} {t u : TT} (h : JW N X e t) (k : ∀ σ H Q, u σ H Q → t σ H Q) : JW N X e u := ⟨fun wh pins s σ H Q n I q => h.run wh pins s σ H Q n I (k _ _ _ q)⟩
theorem JS.weak {st : Stmt} {t u : TS} (h : JS N X st t) (k : ∀ D σ H, u D σ H → t D σ H) : JS N X st u := ⟨fun pins s σ H D n I q => h.run pins s σ H D n I (k _ _ _ q)⟩
theorem JSs.weak {st : List Stmt} {t u : TS} (h : JSs N X st t) (k : ∀ D σ H, u D σ H → t D σ H) : JSs N X st u := ⟨fun pins s σ H D n I q => h.run pins s σ H D n I (k _ _ _ q)⟩
end
section
variable {N : Nat} {X : Cx} {CX : CXT} {k : Nat} {f : Addr} {fd : FuncData} {ps : List Str} {sp : Sp} {dvs : List V} {ds : List Value} {E : L2.St → XK} {x : Str} {p pos : Pos} {e : Expr} {es : List Expr} {t : TA}
end
section
variable {N : Nat} {X : Cx}
def tRepT (to : TE) (y z : Str) : TE := fun σ H Q => to σ H fun v H1 => ∃ x, v = .str x ∧ x.length + (x.length + 1) * z.length ≤ 16777216 ∧ Q (.str (Txt.replace x y z)) H1
end
end TK
namespace TK
open PySem PySem.W PySem.Calls PyProof.Rows PySem.Spec L2
section
variable {T : Nat} {P : Program} {w : World} {K : Frag} {mg : Str → Option Value} {base : Heap} {CX : CXT} {k : Nat} {f : Addr} {fd : FuncData} {N ps : List Str} {sp : Sp} {x qual : Str} {params : Arguments} {body : List Stmt} {scope : Scope} {dvs : List V} {kws : List (Str × V)}
theorem fnT_ok (Fd : FunD K x qual params body scope dvs kws f fd) (S : FnScope N ps scope) (len : ∀ vs H Q E, sp vs H Q E → vs.length = ps.length)
    (hbody : ∀ (cdv : Value) (A : Around) (outer : List PySem.Env) (s : Shared) (H : Hp) (vs : List V) (Q : VK) (E : XK), A.guards = some [] → Room k (A.deeper (envOfC qual scope s.heap.objs.size f cdv)) → sp vs H Q E →
      ∃ t, JSs T (cxOf CX P w K mg base N qual scope f cdv A outer s H E) body t ∧ t { nx := fun _ H' => Q .non H', rt := Q } (start N vs) H) : FnT T P w K mg base CX (k + 1) f fd ps sp := by
  obtain ⟨oc, od, dV, kV, doc, pm, an, cdv, ct, osl, rfl, lk, hcd, _, _⟩ := Fd.ex
  refine ⟨len, fun A outer s H args us vs Q E hT hG hr e0 hb r hsp => ?_⟩
  have hl := len _ _ _ _ hsp
  have KX : K.In s.heap := e0.mod.kin.keeps fun b o e => (e0.bs b o e).1
  have lim : s.heap.NoLimit := e0.mod.nolimit.keeps fun b o e => (e0.bs b o e).1
  have kinds : ∀ y ∈ ps.zip us, scope.names.lookup y.1 = some .local ∨ (scope.names.lookup y.1 = some .cell ∧ ((cellsFrom (s.heap.objs.size + 1) scope.names []).lookup y.1).isSome = true) := fun y hy => by
    rcases S.par y.1 (List.of_mem_zip hy).1 with q | q
    · exact .inl q
    · exact .inr ⟨q, PySem.W.cellsFrom_some _ _ _ (.inl q)⟩
  refine codeAny_call_function hr.depth (KX _ _ lk) rfl S.co S.gen rfl (PySem.W.codeRec_of KX hcd) (hb _ _ _ _ ?_)
  refine on hT (wpAny_newFunctionEnv_cells (Q := fun env s1 => env = envOfC qual scope s.heap.objs.size f cdv ∧ InCallC s _ _ _ _ s1) S.kind kinds fun env he s1 x => ⟨he, x⟩) fun env s1 n1 z => ?_
  obtain ⟨rfl, x⟩ := z
  refine ⟨lim.keeps x.toInCall.keep, codeAny_func ?_⟩
  obtain ⟨t, ht, hq⟩ := hbody cdv A outer s H vs Q E hG (hr.deeper _) hsp
  have I : Inv (cxOf CX P w K mg base N qual scope f cdv A outer s H E) [] (start N vs) H s1 := inv_start S hr.hd e0 hl r x
  refine thn (ht.run [] s1 (start N vs) H _ n1 I hq) fun fl s' hs => ?_
  match fl, hs with
  | .ret u, ⟨v, σ', H', J, rv, q⟩ => exact ⟨v, H', J.os, J.bare, J.base, J.hok, rv, q⟩
  | .next, ⟨σ', H', J, q⟩ => exact ⟨.non, H', J.os, J.bare, J.base, J.hok, rfl, q⟩
  | .brk, ⟨_, _, _, q⟩ => exact q.elim
  | .cont, ⟨_, _, _, q⟩ => exact q.elim
end
end TK
namespace U
open PySem PySem.Spec PyProof.Rows L2 TK
section
variable {N : Nat} {X : Cx} {e : Expr} {B : Bx} {W : WX} {f g k : E} {st : Stmt}
abbrev DET (N : Nat) (X : Cx) (B : Bx) (W : WX) (e : Expr) (f : E) : Prop := JE N X e (tDE X.K B W f)
abbrev DMT (N : Nat) (X : Cx) (B : Bx) (W : WX) (e : Expr) (f : E) : Prop := JE N X e (tDM X.K B W f)
abbrev DTT (N : Nat) (X : Cx) (B : Bx) (W : WX) (e : Expr) (f : E) : Prop := JT N X e (tDT X.K B W f)
abbrev DST (N : Nat) (X : Cx) (B : Bx) (W : WX) (st : Stmt) (f : U.St) : Prop := JS N X st (tDS X.K B W f)
abbrev DSsT (N : Nat) (X : Cx) (B : Bx) (W : WX) (st : List Stmt) (f : U.St) : Prop := JSs N X st (tDS X.K B W f)
variable {b c : U.St}
end
def oDel (c : Nat) : D → Option D
  | .str l => if l.length ≤ cap then some (.str (l.filter fun x => decide (x ≠ c))) else none
  | _ => none
section
variable {N : Nat} {X : Cx} {B : Bx} {W : WX} {f : E} {o : Expr} {c : Nat}
end
theorem sp_body {K : PySem.W.Frag} {b : U.St} {n m : Nat} {N ps : List Str} {vs : List V} {H : Hp} {Q : VK} {E : XK} (hn : ps.length = n) (hN : N.length = n + m) (h : spD K (fnOf n m b) vs H Q E) :
    ∃ B : Bx, tDS K B (fun cls d _ H => E cls d H) b { nx := fun _ H' => Q .non H', rt := Q } (L2.start N vs) H := by
  obtain ⟨F, ds, A', B, o, nd, nf, dm, h⟩ := h
  refine ⟨B, ?_⟩
  unfold fnOf at h
  by_cases c : ds.length = n
  case neg => rw [if_neg c] at h; exact h.elim
  case pos =>
    rw [if_pos c] at h
    have hl := o.len
    have es : L2.start N vs = vs.map some ++ List.replicate m none := by
      unfold L2.start
      rw [hN, hl, c, Nat.add_sub_cancel_left]
    refine ⟨F, ds.map some ++ List.replicate m none, A', ⟨by rw [es]; exact o.start m, nd, nf, dm⟩, ?_⟩
    have fin : ∀ {ρ : Env} {σ' : L2.St} {F' : Fz} {H' : Hp} {A2 : List Addr}, Rep K F' H' B σ' ρ A2 → ∃ A3 A4, A2 = A3 ++ A4 ∧ OVS K F' H' B (σ'.take n) (ρ.take n) A3 := fun r => r.sl.take n
    cases e : b (ds.map some ++ List.replicate m none) with
    | bad => rw [e] at h; exact h
    | bk ρ => rw [e] at h; exact h.elim
    | ct ρ => rw [e] at h; exact h.elim
    | nx ρ =>
      rw [e] at h
      intro σ' F' H' A2 r st _
      obtain ⟨A3, A4, rfl, o3⟩ := fin r
      have nd' := r.nd
      simp only [List.nodup_append] at nd'
      exact h .non F' H' _ A3 [] o3 (by simpa using nd'.1) (fun a ha => r.nf a (List.mem_append_left _ (by simpa using ha))) r.dm (by simp only [OV, RV]; exact ⟨trivial, trivial⟩) (st.sub fun a ha => List.mem_append_left _ (by simpa using ha))
    | rt d ρ =>
      rw [e] at h
      intro v σ' F' H' A2 Ar r ov nda nfa st _
      obtain ⟨A3, A4, rfl, o3⟩ := fin r
      simp only [List.nodup_append, List.mem_append] at nda
      refine h v F' H' _ A3 Ar o3 ?_ (fun a ha => ?_) r.dm ov (st.sub fun a ha => ?_)
      · simp only [List.nodup_append]
        exact ⟨nda.1.1, nda.2.1, fun a ha b hb => nda.2.2 a (.inl ha) b hb⟩
      · rcases List.mem_append.mp ha with z | z
        · exact r.nf a (List.mem_append_left _ z)
        · exact nfa a z
      · simp only [List.mem_append] at ha ⊢
        exact ha.elim (fun z => .inl (.inl z)) .inr
    | ex x ρ =>
      rw [e] at h
      intro cls dd σ' F' H' A2 r xv st _
      obtain ⟨A3, A4, rfl, o3⟩ := fin r
      have nd' := r.nd
      simp only [List.nodup_append] at nd'
      exact h cls dd F' H' _ A3 o3 nd'.1 (fun a ha => r.nf a (List.mem_append_left _ ha)) r.dm xv (st.sub fun a ha => List.mem_append_left _ ha)
theorem fn_okT {T : Nat} {P : Program} {w : World} {K : PySem.W.Frag} {mg : Str → Option Value} {base : Heap} {x qual : Str} {params : Arguments} {body : List Stmt} {scope : Scope} {dvs : List V} {kws : List (Str × V)} {f : Addr} {fd : FuncData} {N ps : List Str} {k n m : Nat} {b : U.St}
    (Fd : FunD K x qual params body scope dvs kws f fd) (S : FnScope N ps scope) (hn : ps.length = n) (hN : N.length = n + m)
    (hb : ∀ (cdv : Value) (A : Around) (outer : List PySem.Env) (s : Shared) (H : Hp) (E : XK) (B : Bx), A.guards = some [] → Room k (A.deeper (envOfC qual scope s.heap.objs.size f cdv)) →
      JSs T (cxOf (L2.CX P w) P w K mg base N qual scope f cdv A outer s H E) body (tDS K B (fun cls d _ H => E cls d H) b)) : FnT T P w K mg base (L2.CX P w) (k + 1) f fd ps (spD K (fnOf n m b)) := by
  refine fnT_ok Fd S (fun vs H Q E h => ?_) fun cdv A outer s H vs Q E hG hr h => ?_
  · obtain ⟨F, ds, A, B, o, nd, nf, dm, h⟩ := h
    unfold fnOf at h
    by_cases c : ds.length = n
    · rw [o.len, c, hn]
    · rw [if_neg c] at h; exact h.elim
  · obtain ⟨B, q⟩ := sp_body (N := N) hn hN h
    exact ⟨_, hb cdv A outer s H E B hG hr, q⟩
end U
namespace U
open PySem PySem.Spec PyProof.Rows L2 TK
theorem fn_aT {N : Nat} {P : Program} {w : World} {K : PySem.W.Frag} {mg : Str → Option Value} {base : Heap} {k : Nat} {f : Addr} {fd : FuncData} {ps : List Str} {sp : Sp} (F : FnT N P w K mg base (L2.CX P w) k f fd ps sp) : FnT N P w K mg base CXa k f fd ps sp :=
  ⟨F.len, fun A outer s H args us vs Q E hT hG hr e0 hb hv hs => codeAny_mono (F.run A outer s H args us vs Q E hT hG hr e0 hb hv hs) fun r s' h => by
    match r, h with
    | .error e, h => exact ⟨P, w, h⟩
    | .ok .next, h => exact h
    | .ok .brk, h => exact h
    | .ok .cont, h => exact h
    | .ok (.ret u), h => exact h⟩
theorem _root_.TK.FnT.mono {N : Nat} {P : Program} {w : World} {K : PySem.W.Frag} {mg : Str → Option Value} {base : Heap} {CX : CXT} {j k : Nat} {f : Addr} {fd : FuncData} {ps : List Str} {sp : Sp} (F : FnT N P w K mg base CX j f fd ps sp) (h : j ≤ k) : FnT N P w K mg base CX k f fd ps sp :=
  ⟨F.len, fun A outer s H args us vs Q E hT hG hr => F.run A outer s H args us vs Q E hT hG (hr.mono h)⟩
end U
namespace TK
open PySem PySem.W PySem.Calls PyProof.Rows PySem.Spec L2
structure JA (N : Nat) (X : Cx) (es : List Expr) (t : TA) : Prop where
  run : ∀ (pos : Pos) (pins : List (Addr × Obj)) (s : Shared) (σ : L2.St) (H : Hp) (Q : List V → Hp → Prop), N ≤ s.toks → Inv X pins σ H s → t σ H Q →
    wpAny (model X.prog X.w) X.A (spliced (backTo pos (starEach es X.env))) (AP X pins σ Q) X.xe s
section
variable {N : Nat} {X : Cx}
theorem JA.weak {es : List Expr} {t u : TA} (h : JA N X es t) (k : ∀ σ H Q, u σ H Q → t σ H Q) : JA N X es u := ⟨fun pos pins s σ H Q n I q => h.run pos pins s σ H Q n I (k _ _ _ q)⟩
end
end TK
namespace U
open PySem PySem.Spec PyProof.Rows L2 TK
section
variable {N : Nat} {X : Cx} {e : Expr} {B : Bx} {W : WX} {f g : E}
abbrev DAT (N : Nat) (X : Cx) (B : Bx) (W : WX) (es : List Expr) (f : As) : Prop := JA N X es (tDA X.K B W f)
end
end U
namespace TK
open PySem PySem.W PySem.Calls PyProof.Rows PySem.Spec L2
abbrev Nev : Value → Shared → Prop := fun _ _ => False
structure JTs (N : Nat) (X : Cx) (ifs : List Expr) (t : TT) : Prop where
  run : ∀ (pins : List (Addr × Obj)) (s : Shared) (σ : L2.St) (H : Hp) (Q : Bool → Hp → Prop), N ≤ s.toks → Inv X pins σ H s → t σ H Q →
    wpAny (model X.prog X.w) X.A (forIn ifs true fun c r => if r = true then do let ok ← isTrue c X.env (eval c X.env); pure (ForInStep.yield ok) else pure (ForInStep.yield r)) (TP X pins σ Q) X.xe s
abbrev BlkJ (P : Cx → Prop) (X : Cx) (scope : Scope) : Prop := ∀ (z : Shared) (G : Hp) (C : Addr) (cl : List (Str × Addr)) (fp : List Addr), P (X.blk z G scope (compEnvC scope cl C X.env) fp)
section
variable {N : Nat} {X : Cx}
end
end TK
namespace U
open PySem PySem.Spec PyProof.Rows L2 TK
section
variable {N : Nat} {X : Cx} {B : Bx} {W : WX} {e : Expr} {f : E}
end
end U
namespace U
open PySem PySem.Spec PyProof.Rows L2
def rRepr (K : PySem.W.Frag) : List V → Hp → VK → Prop := fun xs H Q => ∃ x d, xs = [x] ∧ Dp K H x d ∧ d.showable = true ∧ d.hasDict = false ∧ d.depth ≤ 16 ∧ d.shown.length ≤ sizeLine ∧ Q (.str d.shown) H
def reprL (d : D) : List Nat := (toPy d).shown.cps.toList
def reprOk (d : D) : Bool := okD 9 d && (toPy d).showable && !(toPy d).hasDict && decide ((reprL d).length ≤ cap) && (reprL d).all fun c => decide (c < 1114112)
def oRepr : List D → Option D
  | [d] => if reprOk d = true then some (.str (reprL d)) else none
  | _ => none
theorem S_of (x : Str) : S x.cps.toList = x := by
  obtain ⟨a⟩ := x
  simp [S]
end U
namespace U
open PySem PySem.Spec PyProof.Rows L2
mutual
inductive Dq (K : PySem.W.Frag) (H : Hp) : V → PyData → Prop
  | non : Dq K H .non .none
  | bl (b : Bool) : Dq K H (.bl b) (.bool b)
  | int (i : Int) : Dq K H (.int i) (.int i)
  | str (x : Str) : Dq K H (.str x) (.str x)
  | lst {a : Addr} {xs : List V} {ds : List PyData} : SqL K H a xs → DqAll K H xs ds → Dq K H (.ref a) (.list ds)
  | tup {a : Addr} {xs : List V} {ds : List PyData} : SqT K H a xs → DqAll K H xs ds → Dq K H (.ref a) (.tuple ds)
  | dic {a : Addr} : H a = some (.dK []) → Dq K H (.ref a) (.dict [])
inductive DqAll (K : PySem.W.Frag) (H : Hp) : List V → List PyData → Prop
  | nil : DqAll K H [] []
  | cons {v : V} {vs : List V} {d : PyData} {ds : List PyData} : Dq K H v d → DqAll K H vs ds → DqAll K H (v :: vs) (d :: ds)
end
section
variable {X : Cx} {pins : List (Addr × Obj)} {σ : L2.St} {H : Hp} {s : Shared}
theorem not_sys (hS : ∃ o es n, X.K.lookup sysModules = some o ∧ o.data = .dict es n) (I : L2.Inv X pins σ H s) {a : Addr} {o : Obj} {vs : Array Value} {n : Nat} (ho : s.heap.get? a = some o) (hd : o.data = .seq vs n) : sysModules ≠ a := fun z => by
  obtain ⟨od, es, m, e1, e2⟩ := hS
  have := I.kIn _ _ e1
  rw [z, ho] at this
  cases this
  rw [hd] at e2
  cases e2
mutual
theorem Dq.reads (hS : ∃ o es n, X.K.lookup sysModules = some o ∧ o.data = .dict es n) (I : L2.Inv X pins σ H s) : ∀ (d : PyData) (v : V) (u : Value), Dq X.K H v d → RelV v u → ∃ as, Reads s.heap u d as ∧ sysModules ∉ as
  | .none, _, _, h, r => by
    cases h
    cases r
    exact ⟨_, Reads.none, by simp⟩
  | .bool b, _, _, h, r => by
    cases h
    cases r
    exact ⟨_, Reads.bool b, by simp⟩
  | .int i, _, _, h, r => by
    cases h
    obtain ⟨t, rfl⟩ := r
    exact ⟨_, Reads.int i t, by simp⟩
  | .str x, _, _, h, r => by
    cases h
    obtain ⟨t, rfl⟩ := r
    exact ⟨_, Reads.str x t, by simp⟩
  | .list ds, _, _, h, r => by
    cases h with
    | lst hs ha =>
      cases r
      obtain ⟨its, rv, ⟨o, n, ho, hc, _, hd⟩, _⟩ := I.list hs
      obtain ⟨as, hr, hn⟩ := Dq.readsAll hS I ds _ its ha rv
      exact ⟨_, Reads.list ho hc hd hr, fun z => (List.mem_cons.mp z).elim (not_sys hS I ho hd) hn⟩
  | .tuple ds, _, _, h, r => by
    cases h with
    | tup hs ha =>
      cases r
      obtain ⟨its, rv, ⟨o, ho, hc, n, hd⟩, _⟩ := I.tuple hs
      obtain ⟨as, hr, hn⟩ := Dq.readsAll hS I ds _ its ha rv
      exact ⟨_, Reads.tuple ho hc hd hr, hn⟩
  | .dict [], _, _, h, r => by
    cases h with
    | dic ha =>
      cases r
      obtain ⟨_, hne, vs, rel, o, es, ep, ho, hx, hd, _, hp, _⟩ := dk_of I.hok ha
      cases rel
      have e0 : es.toList = [] := by
        cases hl : es.toList with
        | nil => rfl
        | cons x l => rw [hl] at hp; cases hp
      refine ⟨_, Reads.dict (kvs := []) ho hx.1 hd (by rw [e0]; exact ReadsAll.nil) (by rw [e0]; exact ReadsAll.nil), fun z => ?_⟩
      simp only [List.cons_append, List.nil_append, List.mem_singleton, List.append_nil] at z
      rw [← z] at hne
      exact absurd rfl (beq_eq_false_iff_ne.mp hne)
  | .dict (_ :: _), _, _, h, _ => by cases h
theorem Dq.readsAll (hS : ∃ o es n, X.K.lookup sysModules = some o ∧ o.data = .dict es n) (I : L2.Inv X pins σ H s) : ∀ (ds : List PyData) (vs : List V) (us : List Value), DqAll X.K H vs ds → Vals vs us → ∃ as, ReadsAll s.heap us ds as ∧ sysModules ∉ as
  | [], _, _, h, r => by
    cases h
    cases r
    exact ⟨_, ReadsAll.nil, by simp⟩
  | d :: ds, _, _, h, r => by
    cases h with
    | cons h1 h2 =>
      cases r with
      | cons r1 r2 =>
        obtain ⟨as, q1, n1⟩ := Dq.reads hS I d _ _ h1 r1
        obtain ⟨bs, q2, n2⟩ := Dq.readsAll hS I ds _ _ h2 r2
        exact ⟨_, ReadsAll.cons q1 q2, fun z => (List.mem_append.mp z).elim n1 n2⟩
end
end
def rReprE (K : PySem.W.Frag) : List V → Hp → VK → Prop := fun xs H Q => ∃ x ds, xs = [x] ∧ Dq K H x (.list ds) ∧ (PyData.list ds).showable = true ∧ (PyData.list ds).depth ≤ 16 ∧ (PyData.list ds).shown.length ≤ sizeLine ∧ Q (.str (PyData.list ds).shown) H
theorem call_reprE {X : Cx} (hS : _root_.Q.sysB X.K = true) (hG : X.A.guards = some []) (hu : X.A.units + 64 < cLine) : CallR X (.builtin "repr") (rReprE X.K) := by
  intro pins s σ H xs us Q I r h
  obtain ⟨x, ds, rfl, hd, h1, h3, h4, q⟩ := h
  cases r with
  | cons rx rn =>
    cases rn
    rename_i u
    obtain ⟨as, rr, hn⟩ := Dq.reads (_root_.Q.sysB_ok hS) I _ x u hd rx
    cases hd
    cases rx
    exact repr_of_reads' rr h1 (fun _ => hn) hG (by omega) (fun _ _ e => e) (fun h' w tk hk => ⟨.str _, H, I.kept hk, ⟨_, rfl⟩, q⟩) h4
mutual
def okE : Nat → D → Bool
  | _, .non => true
  | _, .bl _ => true
  | _, .int _ => true
  | _, .str _ => true
  | n + 1, .tup l => okEs n l
  | n + 1, .lst l => okEs n l
  | _, .dic l => l.isEmpty
  | _, _ => false
def okEs : Nat → List D → Bool
  | _, [] => true
  | n, d :: l => okE n d && okEs n l
end
mutual
def toPyE : D → PyData
  | .non => .none
  | .bl b => .bool b
  | .int i => .int i
  | .str l => .str (S l)
  | .tup l => .tuple (toPyEs l)
  | .lst l => .list (toPyEs l)
  | .dic _ => .dict []
  | _ => .none
def toPyEs : List D → List PyData
  | [] => []
  | d :: l => toPyE d :: toPyEs l
end
section
variable {K : PySem.W.Frag} {F : Fz} {H : Hp}
mutual
theorem dq_of : ∀ {n : Nat} {v : V} {d : D}, okE n d = true → RV K F H v d → Dq K H v (toPyE d) ∧ PyData.depth (toPyE d) ≤ n + 1
  | n, v, .non, _, r => by simp only [RV] at r; subst r; exact ⟨.non, by simp [toPyE, PyData.depth]⟩
  | n, v, .bl b, _, r => by simp only [RV] at r; subst r; exact ⟨.bl b, by simp [toPyE, PyData.depth]⟩
  | n, v, .int i, _, r => by simp only [RV] at r; subst r; exact ⟨.int i, by simp [toPyE, PyData.depth]⟩
  | n, v, .str l, _, r => by simp only [RV] at r; rw [r.1]; exact ⟨.str _, by simp [toPyE, PyData.depth]⟩
  | 0, v, .tup l, h, _ => by simp [okE] at h
  | 0, v, .lst l, h, _ => by simp [okE] at h
  | n + 1, v, .tup l, h, r => by
    simp only [RV] at r
    obtain ⟨a, vs, rfl, sq, rs⟩ := r
    obtain ⟨h1, h3⟩ := dqs_of (n := n) (by simpa only [okE] using h) rs
    exact ⟨by simp only [toPyE]; exact .tup sq.seq h1, by simp only [toPyE, PyData.depth]; omega⟩
  | n + 1, v, .lst l, h, r => by
    simp only [RV] at r
    obtain ⟨a, vs, rfl, sq, rs⟩ := r
    obtain ⟨h1, h3⟩ := dqs_of (n := n) (by simpa only [okE] using h) rs
    exact ⟨by simp only [toPyE]; exact .lst sq.seq h1, by simp only [toPyE, PyData.depth]; omega⟩
  | n, v, .dic [], h, r => by
    simp only [RV] at r
    obtain ⟨a, rfl, fa, ha⟩ := r
    exact ⟨by simp only [toPyE]; exact .dic ha, by simp [toPyE, PyData.depth, PyData.depthKv]⟩
  | n, v, .dic (_ :: _), h, _ => by simp [okE] at h
  | n, v, .ins _ _ _, h, _ => by simp [okE] at h
  | n, v, .own _ _, h, _ => by simp [okE] at h
  | n, v, .exn _ _ _, h, _ => by simp [okE] at h
  | n, v, .exv _ _ _, h, _ => by simp [okE] at h
  | n, v, .scr _, h, _ => by simp [okE] at h
theorem dqs_of : ∀ {n : Nat} {vs : List V} {ds : List D}, okEs n ds = true → RVs K F H vs ds → DqAll K H vs (toPyEs ds) ∧ PyData.depthAll (toPyEs ds) ≤ n + 1
  | n, [], [], _, _ => ⟨by simp only [toPyEs]; exact .nil, by simp [toPyEs, PyData.depthAll]⟩
  | n, v :: vs, d :: ds, h, r => by
    simp only [RVs] at r
    simp only [okEs, Bool.and_eq_true] at h
    obtain ⟨a1, a3⟩ := dq_of h.1 r.1
    obtain ⟨b1, b3⟩ := dqs_of h.2 r.2
    exact ⟨by simp only [toPyEs]; exact .cons a1 b1, by simp only [toPyEs, PyData.depthAll]; omega⟩
  | _, [], _ :: _, _, r => by simp only [RVs] at r
  | _, _ :: _, [], _, r => by simp only [RVs] at r
end
end
def reprE (l : List D) : List Nat := (PyData.list (toPyEs l)).shown.cps.toList
def reprEok (l : List D) : Bool := okEs 8 l && (PyData.list (toPyEs l)).showable && decide ((reprE l).length ≤ cap) && (reprE l).all fun c => decide (c < 1114112)
def oReprE : List D → Option D
  | [.lst l] => if reprEok l = true then some (.str (reprE l)) else none
  | _ => none
theorem p_reprE {K : PySem.W.Frag} : PN K oReprE (rReprE K) := by
  intro F H xs ds d Q r e q
  unfold oReprE at e
  split at e
  · rename_i l
    split at e
    · rename_i hk
      cases e
      unfold reprEok at hk
      simp only [Bool.and_eq_true, decide_eq_true_eq, List.all_eq_true] at hk
      obtain ⟨⟨⟨k1, k2⟩, k4⟩, k5⟩ := hk
      obtain ⟨v, rfl, r1⟩ := r.one
      obtain ⟨p1, p3⟩ := dq_of (n := 9) (d := .lst l) (by simpa only [okE] using k1) r1
      simp only [toPyE] at p1 p3
      refine ⟨v, toPyEs l, rfl, p1, k2, Nat.le_trans p3 (by decide), ?_, ?_⟩
      · show (PyData.list (toPyEs l)).shown.cps.size ≤ _
        rw [← Array.length_toList]
        exact k4
      · rw [← S_of (PyData.list (toPyEs l)).shown]
        exact q _ F H Grow.refl (RV.strS k5)
    · cases e
  · cases e
end U
namespace L2
open PySem PySem.Spec PyProof.Rows
section
variable {X : Cx} {e : Expr} {pos : Pos}
theorem pe_mkv {t : L2.St → Hp → XK → Prop} (h : PMk X e t) : PE X e (fun σ H Q => t σ H fun cls d H' => ∃ C, cls = .ref C ∧ ∀ a, H' a = none → Q (.ref a) (upd H' a (U.ExV C d a))) := by
  refine ⟨fun pins s σ H Q I q => wpAny_mono (h pins s σ H _ I q) (fun u s1 hu => ?_) fun _ _ x => x⟩
  obtain ⟨a, oe, vs, sI, H', cls, d, rfl, J, k, hne, ha, hz, hd, h1, na, os, ag, r, C, rfl, q⟩ := hu
  have new : ObjOk X.prog X.w (upd H' a (U.ExV C d a)) s1.heap a (U.ExV C d a) := ⟨⟨oe, vs, ha, hz, hd⟩, ⟨oe, ha⟩, fun h1 h2 ⟨o, ws, e1, z1, d1⟩ kk => ⟨o, ws, kk _ e1, z1, d1⟩⟩
  exact ⟨.ref a, upd H' a (U.ExV C d a), J.call' (ch := []) os (Un.laidN k hne na) (J.hok.laidN k na new) ag (fun b z => absurd z (by simp)), rfl, q a na⟩
def tXv (K : PySem.W.Frag) (f : Str) (te : TE) : TE := fun σ H Q => te σ H fun x H1 => ∃ a C dd fs v, x = .ref a ∧ H1 a = some (U.ExV C (some dd) a) ∧ XfC K C ∧ PySem.W.findIn K (.ref C) f = some none ∧ H1 dd = some (.xd fs) ∧ fs.lookup f = some v ∧ Q v H1
theorem exV_at {P : Program} {w : World} {H : Hp} {h : Heap} {C a : Addr} {dd : Option Addr} (hok : HOk P w H h) (e : H a = some (U.ExV C dd a)) : ∃ (oe : Obj) (vs : Array Value), h.get? a = some oe ∧ Zc (.ref C) dd oe ∧ oe.data = .fields vs := by
  have x : ObjOk P w H h a (.ext fun h => ∃ (oe : Obj) (vs : Array Value), h.get? a = some oe ∧ Zc (.ref C) dd oe ∧ oe.data = .fields vs) := hok a _ e
  exact x.1
theorem pe_xv {te : TE} {f : Str} (he : PE X e te) (hb : attributeBase e f X.env (eval e X.env) = eval e X.env := by rfl) : PE X (.Attribute e f pos) (tXv X.K f te) := by
  refine ⟨fun pins s σ H Q I h => ?_⟩
  refine attr_of hb (thn (he.run pins s σ H _ I h) fun u s1 hh => ?_)
  obtain ⟨x, H1, I1, rx, a, C, dd, fs, v, ex, ea, T, hno, ed, l, q⟩ := hh
  subst ex
  obtain rfl : u = Value.ref a := rx
  obtain ⟨oe, vs, ha, hz, hd⟩ := exV_at I1.hok ea
  have hx : ObjOk X.prog X.w H1 s1.heap dd (.xd fs) := I1.hok dd _ ed
  obtain ⟨mA, hns, hr⟩ := hx
  obtain ⟨od, ho, hl⟩ := lookIn_ns hns
  obtain ⟨u, hu, ru⟩ := RelO.some_of (v := v) (o := mA f) (by rw [← l]; exact hr f)
  have J : PySem.W.InstAt s1.heap a oe C (some od) := ⟨ha, hz.1, by unfold PySem.W.notCls; rw [hd] <;> rfl, by rw [hz.2]; exact ho⟩
  exact HandSPX.exc_get I1.kIn J T.ga T.gg T.exC (PySem.W.findObj_own T.hdC hno rfl (by rw [hl, hu])) (handed_of ru) ⟨v, H1, I1.tok _, ru, q⟩
def rIsV (K : PySem.W.Frag) : List V → Hp → VK → Prop := fun xs H Q => ∃ (a C : Addr) (dd : Option Addr) (c : V) (cv : Value) (b : Bool), xs = [.ref a, c] ∧ (∀ u, RelV c u → u = cv) ∧ H a = some (U.ExV C dd a) ∧ ExcC K C ∧ PySem.W.kitOne K (.ref C) cv = some b ∧ (dd = none ∨ ∃ p fs, dd = some p ∧ H p = some (.xd fs)) ∧ Q (.bl b) H
theorem call_isV : CallR X (.builtin "isinstance") (rIsV X.K) := by
  intro pins s σ H xs us Q I r h
  obtain ⟨a, C, dd, c, cv, b, rfl, hc, ea, T, e, hd, q⟩ := h
  cases r with
  | cons rx rr =>
    cases rr with
    | cons rt rr =>
      cases rr
      cases rx
      obtain rfl := hc _ rt
      obtain ⟨oe, vs, ha, hz, hv⟩ := exV_at I.hok ea
      have no : PySem.W.notCls oe = true := by unfold PySem.W.notCls; rw [hv] <;> rfl
      suffices hJ : ∃ od, PySem.W.InstAt s.heap a oe C od by
        obtain ⟨od, J⟩ := hJ
        exact PySem.W.kia_one (PySem.W.kitx_exc T) I.kIn J e (fun z => nomatch z) fun tk => ⟨.bl b, H, I.kept (t' := tk) fun _ _ z => z, rfl, q⟩
      rcases hd with rfl | ⟨p, fs, rfl, hp⟩
      · exact ⟨none, ha, hz.1, no, by rw [hz.2]; trivial⟩
      · obtain ⟨mA, hns, hr⟩ := (show ObjOk X.prog X.w H s.heap p (.xd fs) from I.hok p _ hp)
        obtain ⟨od, ho, hl⟩ := lookIn_ns hns
        exact ⟨some od, ha, hz.1, no, by rw [hz.2]; exact ho⟩
end
end L2
namespace U
open PySem PySem.Spec PyProof.Rows L2
def eMkv (c : String) (ns : List String) (r : As) : E := fun ρ => (r ρ).bind fun ds ρ1 => .ok (.exv c ns ds) ρ1
def swpL : List D → List D
  | [a, b] => [b, a]
  | l => l
def eMkr (c : String) (ns : List String) (r : As) : E := fun ρ => (r ρ).bind fun ds ρ1 => .ok (.exv c ns (swpL ds)) ρ1
def lookD (f : String) : List String → List D → Option D
  | n :: ns, d :: ds => if n = f then some d else lookD f ns ds
  | _, _ => none
def oXv (cs : List String) (f : String) : D → Option D
  | .exv c ns ds => if c ∈ cs then lookD f ns ds else none
  | _ => none
def oIsv (tb : List (String × Bool)) : D → Option D
  | .exv c _ _ => (lookB c tb).map .bl
  | _ => none
section
variable {K : PySem.W.Frag} {B : Bx} {W : WX} {F : Fz} {H : Hp}
theorem w_mkv0 {c : String} {C : Addr} (hC : C = He.ga K (Str.ofString c)) (σ : L2.St) (H : Hp) (Q : VK) (h : tDE K B W (eMkv c [] aNil) σ H Q) :
    (fun (_ : L2.St) (H : Hp) (Q : XK) => Q (.ref C) none H) σ H fun cls d H' => ∃ C, cls = .ref C ∧ ∀ a, H' a = none → Q (.ref a) (upd H' a (ExV C d a)) := by
  obtain ⟨F, ρ, A, rp, h⟩ := h
  refine ⟨C, rfl, fun a ha => ?_⟩
  have g : Grow F H (fun b => F b ∨ b = a) (upd H a (ExV C none a)) := Grow.new ha
  exact h (.ref a) _ _ A (rp.grow g) (by simp only [RV]; exact ⟨a, none, [], rfl, .inr rfl, by rw [← hC]; exact upd_same, rfl, .inl ⟨rfl, rfl⟩, by simp only [List.map_nil, RVs]⟩) g.step
theorem rv_two {C p a : Addr} {c : String} {ns : List String} {fs : List (Str × V)} {ds : List D} (hC : C = He.ga K (Str.ofString c)) (hp : H p = none) (ha : upd H p (.xd fs) a = none) (hn : fs.map (·.1) = ns.map Str.ofString) (r : RVs K F H (fs.map (·.2)) ds) :
    ∃ F', Grow F H F' (upd (upd H p (.xd fs)) a (ExV C (some p) a)) ∧ RV K F' (upd (upd H p (.xd fs)) a (ExV C (some p) a)) (.ref a) (.exv c ns ds) := by
  have g1 : Grow F H (fun b => F b ∨ b = p) (upd H p (.xd fs)) := Grow.new hp
  have g2 : Grow (fun b => F b ∨ b = p) (upd H p (.xd fs)) (fun b => (F b ∨ b = p) ∨ b = a) (upd (upd H p (.xd fs)) a (ExV C (some p) a)) := Grow.new ha
  refine ⟨_, g1.trans g2, ?_⟩
  have hpa : p ≠ a := fun z => by rw [← z, upd_same] at ha; cases ha
  simp only [RV]
  refine ⟨a, some p, fs, rfl, .inr rfl, by rw [← hC]; exact upd_same, hn, .inr ⟨p, rfl, .inl (.inr rfl), by rw [upd_ne hpa]; exact upd_same⟩, ?_⟩
  exact r.grow (g1.trans g2)
theorem w_mkv1 {c fld : String} {C : Addr} {f : As} (hC : C = He.ga K (Str.ofString c)) (h1 : ∀ ρ ds ρ', f ρ = .ok ds ρ' → ds.length = 1) (σ : L2.St) (H : Hp) (Q : VK) (h : tDE K B W (eMkv c [fld] f) σ H Q) :
    _root_.Q.tMk1 C (Str.ofString fld) (tDA K B W f) σ H fun cls d H' => ∃ C, cls = .ref C ∧ ∀ a, H' a = none → Q (.ref a) (upd H' a (ExV C d a)) := by
  obtain ⟨F, ρ, A, rp, h⟩ := h
  refine ⟨F, ρ, A, rp, ?_⟩
  unfold eMkv at h
  cases e1 : f ρ with
  | bad => rw [e1] at h; exact h
  | exc x ρ1 => rw [e1] at h; exact h
  | ok ds ρ1 =>
    rw [e1] at h
    have hl := h1 ρ ds ρ1 e1
    intro vs F1 H1 A1 r1 vr s1
    match ds, hl, vr, h with
    | [d], _, vr, h =>
      obtain ⟨v, rfl, rv⟩ := vr.one
      refine ⟨v, rfl, fun p hp => ⟨C, rfl, fun a ha => ?_⟩⟩
      obtain ⟨F2, g, rr⟩ := rv_two (F := F1) (c := c) (ns := [fld]) (ds := [d]) hC hp ha rfl (by simp only [List.map_cons, List.map_nil, RVs]; exact ⟨rv, trivial⟩)
      exact h (.ref a) _ _ A1 (r1.grow g) rr (s1.trans g.step)
theorem w_mkv2 {c f1 f2 : String} {C : Addr} {f : As} (hC : C = He.ga K (Str.ofString c)) (h1 : ∀ ρ ds ρ', f ρ = .ok ds ρ' → ds.length = 2) (σ : L2.St) (H : Hp) (Q : VK) (h : tDE K B W (eMkv c [f1, f2] f) σ H Q) :
    _root_.Q.tMk2 C (Str.ofString f1) (Str.ofString f2) (tDA K B W f) σ H fun cls d H' => ∃ C, cls = .ref C ∧ ∀ a, H' a = none → Q (.ref a) (upd H' a (ExV C d a)) := by
  obtain ⟨F, ρ, A, rp, h⟩ := h
  refine ⟨F, ρ, A, rp, ?_⟩
  unfold eMkv at h
  cases e1 : f ρ with
  | bad => rw [e1] at h; exact h
  | exc x ρ1 => rw [e1] at h; exact h
  | ok ds ρ1 =>
    rw [e1] at h
    have hl := h1 ρ ds ρ1 e1
    intro vs F1 H1 A1 r1 vr s1
    match ds, hl, vs, vr, h with
    | [d1, d2], _, [v1, v2], vr, h =>
      refine ⟨v1, v2, rfl, fun p hp => ⟨C, rfl, fun a ha => ?_⟩⟩
      obtain ⟨F2, g, rr⟩ := rv_two (F := F1) (c := c) (ns := [f1, f2]) (ds := [d1, d2]) hC hp ha rfl (by simpa only [List.map_cons, List.map_nil] using vr)
      exact h (.ref a) _ _ A1 (r1.grow g) rr (s1.trans g.step)
    | [_, _], _, [], vr, _ => simp only [RVs] at vr
    | [_, _], _, [_], vr, _ => simp only [RVs] at vr; exact vr.2.elim
    | [_, _], _, _ :: _ :: _ :: _, vr, _ => simp only [RVs] at vr; exact vr.2.2.elim
theorem w_mkv2r {c f1 f2 : String} {C : Addr} {f : As} (hC : C = He.ga K (Str.ofString c)) (h1 : ∀ ρ ds ρ', f ρ = .ok ds ρ' → ds.length = 2) (σ : L2.St) (H : Hp) (Q : VK) (h : tDE K B W (eMkr c [f1, f2] f) σ H Q) :
    _root_.Q.tMk2r C (Str.ofString f1) (Str.ofString f2) (tDA K B W f) σ H fun cls d H' => ∃ C, cls = .ref C ∧ ∀ a, H' a = none → Q (.ref a) (upd H' a (ExV C d a)) := by
  obtain ⟨F, ρ, A, rp, h⟩ := h
  refine ⟨F, ρ, A, rp, ?_⟩
  unfold eMkr at h
  cases e1 : f ρ with
  | bad => rw [e1] at h; exact h
  | exc x ρ1 => rw [e1] at h; exact h
  | ok ds ρ1 =>
    rw [e1] at h
    have hl := h1 ρ ds ρ1 e1
    intro vs F1 H1 A1 r1 vr s1
    match ds, hl, vs, vr, h with
    | [d2, d1], _, [v2, v1], vr, h =>
      refine ⟨v1, v2, rfl, fun p hp => ⟨C, rfl, fun a ha => ?_⟩⟩
      simp only [RVs] at vr
      obtain ⟨F2, g, rr⟩ := rv_two (F := F1) (c := c) (ns := [f1, f2]) (ds := [d1, d2]) hC hp ha rfl (by simp only [List.map_cons, List.map_nil, RVs]; exact ⟨vr.2.1, vr.1, trivial⟩)
      exact h (.ref a) _ _ A1 (r1.grow g) rr (s1.trans g.step)
    | [_, _], _, [], vr, _ => simp only [RVs] at vr
    | [_, _], _, [_], vr, _ => simp only [RVs] at vr; exact vr.2.elim
    | [_, _], _, _ :: _ :: _ :: _, vr, _ => simp only [RVs] at vr; exact vr.2.2.elim
theorem lookD_of {f : String} {d : D} : ∀ {ns : List String} {fs : List (Str × V)} {ds : List D}, fs.map (·.1) = ns.map Str.ofString → RVs K F H (fs.map (·.2)) ds → (∀ n ∈ ns, Str.ofString n = Str.ofString f → n = f) → lookD f ns ds = some d → ∃ v, fs.lookup (Str.ofString f) = some v ∧ RV K F H v d
  | [], _, _, _, _, _, h => by simp [lookD] at h
  | _ :: _, _, [], _, _, _, h => by simp [lookD] at h
  | n :: ns, [], _ :: _, hn, _, _, _ => by cases hn
  | n :: ns, (g, v) :: fs, x :: ds, hn, r, inj, h => by
    simp only [List.map_cons, List.cons.injEq] at hn
    simp only [List.map_cons, RVs] at r
    unfold lookD at h
    by_cases e : n = f
    · rw [if_pos e] at h
      cases h
      subst e
      exact ⟨v, by rw [hn.1]; simp [List.lookup], r.1⟩
    · rw [if_neg e] at h
      obtain ⟨u, hu, ru⟩ := lookD_of hn.2 r.2 (fun m hm => inj m (List.mem_cons_of_mem _ hm)) h
      refine ⟨u, ?_, ru⟩
      have ne : (Str.ofString f == g) = false := by
        rw [hn.1]
        exact beq_eq_false_iff_ne.mpr fun z => e (inj n List.mem_cons_self z.symm)
      simp only [List.lookup, ne]
      exact hu
end
section
variable {X : Cx} {B : Bx} {W : WX} {e : Expr} {g : E} {a : As} {pos : Pos}
theorem d_mkv0 {c : String} {C : Addr} (hC : C = He.ga X.K (Str.ofString c)) (h : PMk X e (fun _ H Q => Q (.ref C) none H)) : DE X B W e (eMkv c [] aNil) := (pe_mkv h).weak (w_mkv0 hC)
theorem d_mkv1 {c fld : String} {C : Addr} (hC : C = He.ga X.K (Str.ofString c)) (h1 : ∀ ρ ds ρ', a ρ = .ok ds ρ' → ds.length = 1) (h : PMk X e (_root_.Q.tMk1 C (Str.ofString fld) (tDA X.K B W a))) : DE X B W e (eMkv c [fld] a) := (pe_mkv h).weak (w_mkv1 hC h1)
theorem d_mkv2 {c f1 f2 : String} {C : Addr} (hC : C = He.ga X.K (Str.ofString c)) (h1 : ∀ ρ ds ρ', a ρ = .ok ds ρ' → ds.length = 2) (h : PMk X e (_root_.Q.tMk2 C (Str.ofString f1) (Str.ofString f2) (tDA X.K B W a))) : DE X B W e (eMkv c [f1, f2] a) := (pe_mkv h).weak (w_mkv2 hC h1)
theorem d_mkv2r {c f1 f2 : String} {C : Addr} (hC : C = He.ga X.K (Str.ofString c)) (h1 : ∀ ρ ds ρ', a ρ = .ok ds ρ' → ds.length = 2) (h : PMk X e (_root_.Q.tMk2r C (Str.ofString f1) (Str.ofString f2) (tDA X.K B W a))) : DE X B W e (eMkr c [f1, f2] a) := (pe_mkv h).weak (w_mkv2r hC h1)
theorem d_xv {cs : List String} {f : String} (hcs : ∀ c ∈ cs, XfC X.K (He.ga X.K (Str.ofString c)) ∧ PySem.W.findIn X.K (.ref (He.ga X.K (Str.ofString c))) (Str.ofString f) = some none)
    (h : PE X e (tXv X.K (Str.ofString f) (tDE X.K B W g))) : DE X B W e (eUn (oXv cs f) g) := by
  refine h.weak fun σ H Q q => ?_
  refine w_un (r := fun x H1 Q => ∃ a C dd fs v, x = .ref a ∧ H1 a = some (ExV C (some dd) a) ∧ XfC X.K C ∧ PySem.W.findIn X.K (.ref C) (Str.ofString f) = some none ∧ H1 dd = some (.xd fs) ∧ fs.lookup (Str.ofString f) = some v ∧ Q v H1) ?_ σ H Q q
  intro F H x a d Q ra e q
  unfold oXv at e; split at e
  · rename_i c ns ds
    split at e
    · rename_i hm
      simp only [RV] at ra
      obtain ⟨a, dd, fs, rfl, fa, ha, en, z, rs⟩ := ra
      obtain ⟨v, hl, rv⟩ := lookD_of en rs (fun n _ z => ofS_inj.mp z) e
      rcases z with ⟨rfl, rfl⟩ | ⟨p, rfl, fp, hp⟩
      · cases hl
      · exact ⟨a, _, p, fs, v, rfl, ha, (hcs c hm).1, (hcs c hm).2, hp, hl, q _ F H Grow.refl rv⟩
    · cases e
  · cases e
theorem d_isv {tb : List (String × Bool)} {c : V} {cv : Value} (hc : ∀ u, RelV c u → u = cv) (ht : ∀ p ∈ tb, ExcC X.K (He.ga X.K (Str.ofString p.1)) ∧ PySem.W.kitOne X.K (.ref (He.ga X.K (Str.ofString p.1))) cv = some p.2)
    (h : PE X e (tCB (rIsV X.K) (tCons (tDE X.K B W g) (tCons (tC c) tNil)))) : DE X B W e (eUn (oIsv tb) g) := by
  refine h.weak fun σ H Q q => ?_
  refine w_un (r := fun v H Q => rIsV X.K [v, c] H Q) ?_ σ H Q q
  intro F H x a d Q ra e q
  unfold oIsv at e; split at e
  · rename_i n ns ds
    obtain ⟨b, h1, rfl⟩ := Option.map_eq_some_iff.mp e
    obtain ⟨T, hk⟩ := ht _ (lookB_mem h1)
    simp only [RV] at ra
    obtain ⟨a, dd, fs, rfl, fa, ha, en, z, rs⟩ := ra
    refine ⟨a, _, dd, c, cv, b, rfl, hc, ha, T, hk, ?_, q _ F H Grow.refl (by simp only [RV])⟩
    rcases z with ⟨rfl, rfl⟩ | ⟨p, rfl, fp, hp⟩
    · exact .inl rfl
    · exact .inr ⟨p, fs, rfl, hp⟩
  · cases e
end
end U
namespace U
open PySem
theorem seq_nx {a b : St} {ρ ρ1 : Env} (h : a ρ = .nx ρ1) : sSeq a b ρ = b ρ1 := by unfold sSeq; rw [h]; rfl
theorem opS_at {o : D → D → Option D} {a b : E} {ρ ρ1 ρ2 : Env} {x y d : D} (ha : a ρ = .ok x ρ1) (hb : b ρ1 = .ok y ρ2) (h : o x y = some d) : eOp o a b ρ = .ok d ρ2 := by
  unfold eOp
  rw [ha]
  simp only [ER.bind]
  rw [hb]
  simp only [h]
  rfl
theorem if_f {c : E} {t e : St} {ρ ρ1 : Env} (hc : c ρ = .ok (.bl false) ρ1) : sIf c t e ρ = e ρ1 := by
  unfold sIf
  rw [hc]
  rfl
theorem orS_f {a b : E} {ρ ρ1 : Env} (ha : a ρ = .ok (.bl false) ρ1) : eOr a b ρ = b ρ1 := by
  unfold eOr
  rw [ha]
  rfl
theorem setS_at {i : Nat} {a : E} {ρ ρ1 : Env} {d : D} {v : Option D} (ha : a ρ = .ok d ρ1) (hv : ρ1[i]? = some v) (h : Fre v) : sSet i a ρ = .nx (ρ1.set i (some d)) := by
  unfold sSet
  rw [ha]
  have : U.put i d ρ1 = some (ρ1.set i (some d)) := by
    unfold U.put
    rw [hv]
    rcases v with _ | v
    · rfl
    · cases v with
      | own t z =>
        cases t with
        | zero => rfl
        | succ t => exact absurd rfl (h t z)
      | _ => rfl
  simp only [ER.binds, this]
theorem retS_at {a : E} {ρ ρ1 : Env} {d : D} (ha : a ρ = .ok d ρ1) : sRet a ρ = .rt d ρ1 := by
  unfold sRet
  rw [ha]
  rfl
theorem consS_at {a : E} {r : As} {ρ ρ1 ρ2 : Env} {d : D} {ds : List D} (ha : a ρ = .ok d ρ1) (hr : r ρ1 = .ok ds ρ2) : aCons a r ρ = .ok (d :: ds) ρ2 := by
  unfold aCons
  rw [ha]
  simp only [ER.bindA, hr, AR.bindA]
theorem lstS_at {r : As} {ρ ρ1 : Env} {ds : List D} (hr : r ρ = .ok ds ρ1) (hn : ds.length ≤ 1000) : eN mkLst r ρ = .ok (.own 0 (.lst ds)) ρ1 := by
  unfold eN
  rw [hr]
  simp only [AR.bind]
  have : mkLst ds = some (.own 0 (.lst ds)) := by
    unfold mkLst
    rw [if_pos (by show ds.length ≤ 16777216; omega)]
  rw [this]
  rfl
theorem tupS_at {r : As} {ρ ρ1 : Env} {ds : List D} (hr : r ρ = .ok ds ρ1) (hn : ds.length ≤ 1000) : eN mkTup r ρ = .ok (.tup ds) ρ1 := by
  unfold eN
  rw [hr]
  simp only [AR.bind]
  have : mkTup ds = some (.tup ds) := by
    unfold mkTup
    rw [if_pos (by show ds.length ≤ 16777216; omega)]
  rw [this]
  rfl
theorem frzS_at {a : E} {ρ ρ1 : Env} {d d' : D} (ha : a ρ = .ok d ρ1) (h : frzD d = some d') : eFrz a ρ = .ok d' ρ1 := by
  unfold eFrz
  rw [ha]
  simp only [ER.bind, h]
  rfl
theorem frz_lst {l : List D} (h : allPlain l = true) : frzD (.own 0 (.lst l)) = some (.lst l) := by
  simp only [frzD, h, if_true]
theorem frz_pl {d : D} (h : d.isMut = false) : frzD d = some d := by
  cases d <;> first | rfl | cases h
theorem varS_at {i : Nat} {ρ : Env} {d : D} (h : ρ[i]? = some (some d)) (hm : d.isMut = false) : eVar i ρ = .ok d ρ := by
  unfold eVar
  rw [h]
  cases d <;> first | rfl | cases hm
mutual
theorem eqvS_refl : ∀ (n : Nat) (d : D), okD n d = true → d.eqv d = true
  | _, .non, _ => rfl
  | _, .bl _, _ => by simp [D.eqv]
  | _, .int _, _ => by simp [D.eqv]
  | _, .str _, _ => by simp [D.eqv]
  | n + 1, .tup l, h => by
    simp only [okD] at h
    simp only [D.eqv]
    exact eqvsS_refl n l h
  | n + 1, .lst l, h => by
    simp only [okD] at h
    simp only [D.eqv]
    exact eqvsS_refl n l h
  | 0, .tup _, h => by simp [okD] at h
  | 0, .lst _, h => by simp [okD] at h
  | _, .own _ _, h => by simp [okD] at h
  | _, .exn _ _ _, h => by simp [okD] at h
  | _, .ins _ _ _, h => by simp [okD] at h
  | _, .dic _, h => by simp [okD] at h
  | _, .exv _ _ _, h => by simp [okD] at h
  | _, .scr _, h => by simp [okD] at h
theorem eqvsS_refl : ∀ (n : Nat) (l : List D), l.all (okD n) = true → eqvs l l = true
  | _, [], _ => rfl
  | n, x :: xs, h => by
    simp only [List.all_cons, Bool.and_eq_true] at h
    simp only [eqvs, Bool.and_eq_true]
    exact ⟨eqvS_refl n x h.1, eqvsS_refl n xs h.2⟩
end
theorem neS_self {d : D} (h : okD 9 d = true) : oNe d d = some (.bl false) := by
  simp only [oNe, h, Bool.and_self, if_true, eqvS_refl 9 d h, Bool.not_true]
def vAgs : List E → List Ag
  | [] => []
  | a :: r => .v a :: vAgs r
def vArgs : List D → List Arg
  | [] => []
  | d :: r => .v d :: vArgs r
theorem evS : ∀ {as : List E} {ds : List D} {ρ : Env}, as.length = ds.length → (∀ p ∈ as.zip ds, p.1 ρ = .ok p.2 ρ) → evAg (vAgs as) ρ = .ok (vArgs ds) ρ
  | [], [], _, _, _ => rfl
  | a :: as, d :: ds, ρ, hl, h => by
    have h1 : a ρ = .ok d ρ := h (a, d) (by simp)
    have ih := evS (as := as) (ds := ds) (ρ := ρ) (by simpa using hl) fun p hp => h p (by simp [hp])
    simp only [vAgs, vArgs, evAg, h1, ih]
theorem handS : ∀ {ds : List D} {ρ : Env} {j : Nat}, hand ρ j (vArgs ds) = some ds
  | [], _, _ => rfl
  | d :: ds, ρ, j => by simp only [vArgs, hand, handS, Option.map_some]
theorem lentS : ∀ {ds : List D}, lent (vArgs ds) = []
  | [] => rfl
  | d :: ds => by simp only [vArgs, lent, lentS]
theorem backS : ∀ {ds : List D} {j : Nat} {o ρ : Env}, back j (vArgs ds) o ρ = some ρ
  | [], _, _, _ => rfl
  | d :: ds, j, o, ρ => by simp only [vArgs, back, backS]
theorem callS_at {f : Fn} {as : List E} {ds dd : List D} {ρ o : Env} {d : D} (hl : as.length = ds.length) (ha : ∀ p ∈ as.zip ds, p.1 ρ = .ok p.2 ρ) (h : f (ds ++ dd) = .ok d o) : eCall f (vAgs as) dd ρ = .ok d ρ := by
  unfold eCall
  simp only [evS hl ha, handS, lentS, List.nodup_nil, if_true, h, backS]
theorem callO_at {f : Fn} {i : Nat} {as : List E} {ds dd : List D} {ρ o : Env} {S S2 d : D} (hi : ρ[i]? = some (some (.own 0 S))) (hl : as.length = ds.length) (ha : ∀ p ∈ as.zip ds, p.1 ρ = .ok p.2 ρ) (h : f (.own 1 S :: (ds ++ dd)) = .ok d (some (.own 1 S2) :: o)) :
    eCall f (.b i :: vAgs as) dd ρ = .ok d (ρ.set i (some (.own 0 S2))) := by
  unfold eCall
  have h1 : evAg (.b i :: vAgs as) ρ = .ok (.b i :: vArgs ds) ρ := by
    simp only [evAg, hi, evS hl ha]
  have h2 : hand ρ 0 (.b i :: vArgs ds) = some (.own 1 S :: ds) := by
    simp only [hand, hi, handS, Option.map_some]
  have h3 : lent (.b i :: vArgs ds) = [i] := by simp only [lent, lentS]
  have h4 : f ((.own 1 S :: ds) ++ dd) = .ok d (some (.own 1 S2) :: o) := h
  rw [h1]
  simp only [h2, h3, h4, List.nodup_cons, List.not_mem_nil, not_false_eq_true, List.nodup_nil, and_self, if_true]
  have h5 : back 0 (.b i :: vArgs ds) (some (.own 1 S2) :: o) ρ = some (ρ.set i (some (.own 0 S2))) := by
    simp only [back, List.head?, hi, List.tail, backS, if_true]
  rw [h5]
def KS30 : Nat := 1000000000000000000000000000000
end U
namespace U
open PySem PySem.Spec PyProof.Rows L2
def chOk (x : Str) : Prop := ∀ c ∈ x.cps.toList, c < 1114112
theorem chOk_app {x y : Str} (hx : chOk x) (hy : chOk y) : chOk (x ++ y) := by
  intro c hc
  have : c ∈ x.cps.toList ++ y.cps.toList := by
    have e : (x ++ y).cps = x.cps ++ y.cps := rfl
    rw [e] at hc
    simpa using hc
  rcases List.mem_append.mp this with h | h
  · exact hx c h
  · exact hy c h
theorem chOk_join {sep : Str} {ts : List Str} (hs : chOk sep) (ht : ∀ t ∈ ts, chOk t) : chOk (Str.join sep ts) := by
  intro c hc
  rcases (mem_join sep c ts).mp hc with ⟨t, h1, h2⟩ | ⟨_, h⟩
  · exact ht t h1 c h2
  · exact hs c h
theorem lit_ok : ∀ x ∈ [("(" : String), ", ", ",)", ")", "None"], chOk (Str.ofString x) := by
  unfold chOk
  decide +kernel
theorem lst_shown {xs : List PyData} {m : Nat} (h : ∀ x ∈ xs, x.shown.length ≤ m ∧ chOk x.shown) : (PyData.list xs).shown.length ≤ xs.length * (m + 2) + 3 ∧ chOk (PyData.list xs).shown := by
  constructor
  · have e : (PyData.list xs).shown = listText (PyData.shownAll xs) := by simp only [PyData.shown]
    rw [e]
    refine Nat.le_trans (listText_len_le _) ?_
    rw [shownAll_eq_map, List.length_map, List.map_map]
    have : (xs.map ((fun x : Str => x.length) ∘ PyData.shown)).sum ≤ xs.length * m := by
      clear e
      induction xs with
      | nil => simp
      | cons x xs ih =>
        have h1 := (h x List.mem_cons_self).1
        have h2 := ih fun y hy => h y (List.mem_cons_of_mem _ hy)
        simp only [List.map_cons, List.sum_cons, List.length_cons, Function.comp]
        rw [Nat.add_mul]
        omega
    rw [Nat.mul_add]
    omega
  · rw [PyData.shown_list]
    have b1 : chOk (Str.ofString "[") := by unfold chOk; decide +kernel
    have b2 : chOk (Str.ofString "]") := by unfold chOk; decide +kernel
    refine chOk_app (chOk_app b1 (chOk_join (lit_ok _ (by simp)) ?_)) b2
    rw [shownAll_eq_map]
    intro t ht
    obtain ⟨x, hx, rfl⟩ := List.mem_map.mp ht
    exact (h x hx).2
def shT (w : List Nat) : Prop := (PyData.shown (.str (S w))).length ≤ 100 ∧ chOk (PyData.shown (.str (S w)))
end U
namespace U
abbrev tb : Tb := []
noncomputable def body_law_argument : St := (sSeq (sSet 1 (eOp oSub (eOp oMul (eFrz (eCall fn_law_draw [.b 0, .v (eOp oPow (eC (.int 10)) (eC (.int 9)))] [])) (eOp oPow (eC (.int 10)) (eC (.int 20)))) (eC (.int 5))))
    (sRet (eOp oIxL (eFrz (eN mkLst (aCons (eC .non) (aCons (eC (.str [97, 98, 99])) (aCons (eVar 1) (aCons (eFrz (eCall fn_law_draw [.b 0, .v (eC (.int 50))] [])) (aCons (eC (.str [])) (aCons (eN mkTup (aCons (eC (.str [120])) (aCons (eC (.int 1)) aNil))) (aCons (eFrz (eN mkLst (aCons (eC (.int 1)) aNil))) (aCons (eC (.dic [])) aNil)))))))))) (eFrz (eCall fn_law_draw [.b 0, .v (eC (.int 8))] [])))))
noncomputable def fn_law_argument : Fn := fnOf 1 1 body_law_argument
noncomputable def body_law_by_position : St := (sSeq (sSet 2 (eFrz (eN mkLst (aCons (eMkv "InvalidInteger" [] aNil) (aCons (eMkv "InvalidLetter" [] aNil) (aCons (eMkv "InvalidCapacity" [] aNil) (aCons (eMkv "InvalidMode" [] aNil) (aCons (eMkv "InvalidQueue" [] aNil) aNil))))))))
    (sSeq (sSet 2 (eFrz (eOp oCatL (eVar 2) (eFrz (eN mkLst (aCons (eMkv "InvalidProgram" [] aNil) (aCons (eMkv "InvalidUser" [] aNil) (aCons (eMkv "InvalidText" [] aNil) (aCons (eMkv "InvalidCommand" [] aNil) aNil)))))))))
    (sSeq (sSet 2 (eFrz (eOp oCatL (eVar 2) (eFrz (eN mkLst (aCons (eMkv "InvalidEffect" ["position"] (aCons (eVar 0) aNil)) (aCons (eMkv "InvalidFacts" ["position"] (aCons (eVar 0) aNil)) (aCons (eMkv "RunFailed" ["position"] (aCons (eVar 0) aNil)) (aCons (eMkv "CapacityMismatch" ["first", "second"] (aCons (eVar 0) (aCons (eVar 1) aNil))) aNil)))))))))
    (sSeq (sSet 2 (eFrz (eOp oCatL (eVar 2) (eFrz (eN mkLst (aCons (eMkv "EmptyQueue" [] aNil) (aCons (eMkv "EffectFailed" ["length"] (aCons (eVar 0) aNil)) (aCons (eMkv "BufferFailed" ["index"] (aCons (eVar 0) aNil)) (aCons (eMkv "FullQueue" [] aNil) (aCons (eMkv "LimitExceeded" ["size"] (aCons (eVar 0) aNil)) aNil))))))))))
    (sRet (eFrz (eOp oCatL (eVar 2) (eFrz (eN mkLst (aCons (eMkv "NothingToUndo" [] aNil) aNil))))))))))
noncomputable def fn_law_by_position : Fn := fnOf 2 1 body_law_by_position
noncomputable def body_law_classes : St := (sSeq (sSet 1 (eFrz (eN mkLst (aCons (eUn (oIsv [("QueueError", false), ("InvalidInteger", true), ("InvalidLetter", false), ("InvalidCapacity", false), ("InvalidMode", false), ("InvalidQueue", false), ("InvalidProgram", false), ("InvalidUser", false), ("InvalidText", false), ("InvalidCommand", false), ("InvalidEffect", false), ("InvalidFacts", false), ("CapacityMismatch", false), ("RunFailed", false), ("EmptyQueue", false), ("EffectFailed", false), ("BufferFailed", false), ("FullQueue", false), ("LimitExceeded", false), ("NothingToUndo", false)]) (eVar 0)) (aCons (eUn (oIsv [("QueueError", false), ("InvalidInteger", false), ("InvalidLetter", true), ("InvalidCapacity", false), ("InvalidMode", false), ("InvalidQueue", false), ("InvalidProgram", false), ("InvalidUser", false), ("InvalidText", false), ("InvalidCommand", false), ("InvalidEffect", false), ("InvalidFacts", false), ("CapacityMismatch", false), ("RunFailed", false), ("EmptyQueue", false), ("EffectFailed", false), ("BufferFailed", false), ("FullQueue", false), ("LimitExceeded", false), ("NothingToUndo", false)]) (eVar 0)) (aCons (eUn (oIsv [("QueueError", false), ("InvalidInteger", false), ("InvalidLetter", false), ("InvalidCapacity", true), ("InvalidMode", false), ("InvalidQueue", false), ("InvalidProgram", false), ("InvalidUser", false), ("InvalidText", false), ("InvalidCommand", false), ("InvalidEffect", false), ("InvalidFacts", false), ("CapacityMismatch", false), ("RunFailed", false), ("EmptyQueue", false), ("EffectFailed", false), ("BufferFailed", false), ("FullQueue", false), ("LimitExceeded", false), ("NothingToUndo", false)]) (eVar 0)) aNil))))))
    (sSeq (sSet 1 (eFrz (eOp oCatL (eVar 1) (eFrz (eN mkLst (aCons (eUn (oIsv [("QueueError", false), ("InvalidInteger", false), ("InvalidLetter", false), ("InvalidCapacity", false), ("InvalidMode", true), ("InvalidQueue", false), ("InvalidProgram", false), ("InvalidUser", false), ("InvalidText", false), ("InvalidCommand", false), ("InvalidEffect", false), ("InvalidFacts", false), ("CapacityMismatch", false), ("RunFailed", false), ("EmptyQueue", false), ("EffectFailed", false), ("BufferFailed", false), ("FullQueue", false), ("LimitExceeded", false), ("NothingToUndo", false)]) (eVar 0)) (aCons (eUn (oIsv [("QueueError", false), ("InvalidInteger", false), ("InvalidLetter", false), ("InvalidCapacity", false), ("InvalidMode", false), ("InvalidQueue", true), ("InvalidProgram", false), ("InvalidUser", false), ("InvalidText", false), ("InvalidCommand", false), ("InvalidEffect", false), ("InvalidFacts", false), ("CapacityMismatch", false), ("RunFailed", false), ("EmptyQueue", false), ("EffectFailed", false), ("BufferFailed", false), ("FullQueue", false), ("LimitExceeded", false), ("NothingToUndo", false)]) (eVar 0)) (aCons (eUn (oIsv [("QueueError", false), ("InvalidInteger", false), ("InvalidLetter", false), ("InvalidCapacity", false), ("InvalidMode", false), ("InvalidQueue", false), ("InvalidProgram", true), ("InvalidUser", false), ("InvalidText", false), ("InvalidCommand", false), ("InvalidEffect", false), ("InvalidFacts", false), ("CapacityMismatch", false), ("RunFailed", false), ("EmptyQueue", false), ("EffectFailed", false), ("BufferFailed", false), ("FullQueue", false), ("LimitExceeded", false), ("NothingToUndo", false)]) (eVar 0)) aNil))))))))
    (sSeq (sSet 1 (eFrz (eOp oCatL (eVar 1) (eFrz (eN mkLst (aCons (eUn (oIsv [("QueueError", false), ("InvalidInteger", false), ("InvalidLetter", false), ("InvalidCapacity", false), ("InvalidMode", false), ("InvalidQueue", false), ("InvalidProgram", false), ("InvalidUser", true), ("InvalidText", false), ("InvalidCommand", false), ("InvalidEffect", false), ("InvalidFacts", false), ("CapacityMismatch", false), ("RunFailed", false), ("EmptyQueue", false), ("EffectFailed", false), ("BufferFailed", false), ("FullQueue", false), ("LimitExceeded", false), ("NothingToUndo", false)]) (eVar 0)) (aCons (eUn (oIsv [("QueueError", false), ("InvalidInteger", false), ("InvalidLetter", false), ("InvalidCapacity", false), ("InvalidMode", false), ("InvalidQueue", false), ("InvalidProgram", false), ("InvalidUser", false), ("InvalidText", true), ("InvalidCommand", false), ("InvalidEffect", false), ("InvalidFacts", false), ("CapacityMismatch", false), ("RunFailed", false), ("EmptyQueue", false), ("EffectFailed", false), ("BufferFailed", false), ("FullQueue", false), ("LimitExceeded", false), ("NothingToUndo", false)]) (eVar 0)) (aCons (eUn (oIsv [("QueueError", false), ("InvalidInteger", false), ("InvalidLetter", false), ("InvalidCapacity", false), ("InvalidMode", false), ("InvalidQueue", false), ("InvalidProgram", false), ("InvalidUser", false), ("InvalidText", false), ("InvalidCommand", true), ("InvalidEffect", false), ("InvalidFacts", false), ("CapacityMismatch", false), ("RunFailed", false), ("EmptyQueue", false), ("EffectFailed", false), ("BufferFailed", false), ("FullQueue", false), ("LimitExceeded", false), ("NothingToUndo", false)]) (eVar 0)) aNil))))))))
    (sSeq (sSet 1 (eFrz (eOp oCatL (eVar 1) (eFrz (eN mkLst (aCons (eUn (oIsv [("QueueError", false), ("InvalidInteger", false), ("InvalidLetter", false), ("InvalidCapacity", false), ("InvalidMode", false), ("InvalidQueue", false), ("InvalidProgram", false), ("InvalidUser", false), ("InvalidText", false), ("InvalidCommand", false), ("InvalidEffect", true), ("InvalidFacts", false), ("CapacityMismatch", false), ("RunFailed", false), ("EmptyQueue", false), ("EffectFailed", false), ("BufferFailed", false), ("FullQueue", false), ("LimitExceeded", false), ("NothingToUndo", false)]) (eVar 0)) (aCons (eUn (oIsv [("QueueError", false), ("InvalidInteger", false), ("InvalidLetter", false), ("InvalidCapacity", false), ("InvalidMode", false), ("InvalidQueue", false), ("InvalidProgram", false), ("InvalidUser", false), ("InvalidText", false), ("InvalidCommand", false), ("InvalidEffect", false), ("InvalidFacts", true), ("CapacityMismatch", false), ("RunFailed", false), ("EmptyQueue", false), ("EffectFailed", false), ("BufferFailed", false), ("FullQueue", false), ("LimitExceeded", false), ("NothingToUndo", false)]) (eVar 0)) (aCons (eUn (oIsv [("QueueError", false), ("InvalidInteger", false), ("InvalidLetter", false), ("InvalidCapacity", false), ("InvalidMode", false), ("InvalidQueue", false), ("InvalidProgram", false), ("InvalidUser", false), ("InvalidText", false), ("InvalidCommand", false), ("InvalidEffect", false), ("InvalidFacts", false), ("CapacityMismatch", false), ("RunFailed", true), ("EmptyQueue", false), ("EffectFailed", false), ("BufferFailed", false), ("FullQueue", false), ("LimitExceeded", false), ("NothingToUndo", false)]) (eVar 0)) aNil))))))))
    (sSeq (sSet 1 (eFrz (eOp oCatL (eVar 1) (eFrz (eN mkLst (aCons (eUn (oIsv [("QueueError", false), ("InvalidInteger", false), ("InvalidLetter", false), ("InvalidCapacity", false), ("InvalidMode", false), ("InvalidQueue", false), ("InvalidProgram", false), ("InvalidUser", false), ("InvalidText", false), ("InvalidCommand", false), ("InvalidEffect", false), ("InvalidFacts", false), ("CapacityMismatch", true), ("RunFailed", false), ("EmptyQueue", false), ("EffectFailed", false), ("BufferFailed", false), ("FullQueue", false), ("LimitExceeded", false), ("NothingToUndo", false)]) (eVar 0)) (aCons (eUn (oIsv [("QueueError", false), ("InvalidInteger", false), ("InvalidLetter", false), ("InvalidCapacity", false), ("InvalidMode", false), ("InvalidQueue", false), ("InvalidProgram", false), ("InvalidUser", false), ("InvalidText", false), ("InvalidCommand", false), ("InvalidEffect", false), ("InvalidFacts", false), ("CapacityMismatch", false), ("RunFailed", false), ("EmptyQueue", true), ("EffectFailed", false), ("BufferFailed", false), ("FullQueue", false), ("LimitExceeded", false), ("NothingToUndo", false)]) (eVar 0)) (aCons (eUn (oIsv [("QueueError", false), ("InvalidInteger", false), ("InvalidLetter", false), ("InvalidCapacity", false), ("InvalidMode", false), ("InvalidQueue", false), ("InvalidProgram", false), ("InvalidUser", false), ("InvalidText", false), ("InvalidCommand", false), ("InvalidEffect", false), ("InvalidFacts", false), ("CapacityMismatch", false), ("RunFailed", false), ("EmptyQueue", false), ("EffectFailed", true), ("BufferFailed", false), ("FullQueue", false), ("LimitExceeded", false), ("NothingToUndo", false)]) (eVar 0)) aNil))))))))
    (sSeq (sSet 1 (eFrz (eOp oCatL (eVar 1) (eFrz (eN mkLst (aCons (eUn (oIsv [("QueueError", false), ("InvalidInteger", false), ("InvalidLetter", false), ("InvalidCapacity", false), ("InvalidMode", false), ("InvalidQueue", false), ("InvalidProgram", false), ("InvalidUser", false), ("InvalidText", false), ("InvalidCommand", false), ("InvalidEffect", false), ("InvalidFacts", false), ("CapacityMismatch", false), ("RunFailed", false), ("EmptyQueue", false), ("EffectFailed", false), ("BufferFailed", true), ("FullQueue", false), ("LimitExceeded", false), ("NothingToUndo", false)]) (eVar 0)) (aCons (eUn (oIsv [("QueueError", false), ("InvalidInteger", false), ("InvalidLetter", false), ("InvalidCapacity", false), ("InvalidMode", false), ("InvalidQueue", false), ("InvalidProgram", false), ("InvalidUser", false), ("InvalidText", false), ("InvalidCommand", false), ("InvalidEffect", false), ("InvalidFacts", false), ("CapacityMismatch", false), ("RunFailed", false), ("EmptyQueue", false), ("EffectFailed", false), ("BufferFailed", false), ("FullQueue", true), ("LimitExceeded", false), ("NothingToUndo", false)]) (eVar 0)) (aCons (eUn (oIsv [("QueueError", false), ("InvalidInteger", false), ("InvalidLetter", false), ("InvalidCapacity", false), ("InvalidMode", false), ("InvalidQueue", false), ("InvalidProgram", false), ("InvalidUser", false), ("InvalidText", false), ("InvalidCommand", false), ("InvalidEffect", false), ("InvalidFacts", false), ("CapacityMismatch", false), ("RunFailed", false), ("EmptyQueue", false), ("EffectFailed", false), ("BufferFailed", false), ("FullQueue", false), ("LimitExceeded", true), ("NothingToUndo", false)]) (eVar 0)) aNil))))))))
    (sRet (eFrz (eOp oCatL (eVar 1) (eFrz (eN mkLst (aCons (eUn (oIsv [("QueueError", false), ("InvalidInteger", false), ("InvalidLetter", false), ("InvalidCapacity", false), ("InvalidMode", false), ("InvalidQueue", false), ("InvalidProgram", false), ("InvalidUser", false), ("InvalidText", false), ("InvalidCommand", false), ("InvalidEffect", false), ("InvalidFacts", false), ("CapacityMismatch", false), ("RunFailed", false), ("EmptyQueue", false), ("EffectFailed", false), ("BufferFailed", false), ("FullQueue", false), ("LimitExceeded", false), ("NothingToUndo", true)]) (eVar 0)) aNil))))))))))))
noncomputable def fn_law_classes : Fn := fnOf 1 1 body_law_classes
noncomputable def body_law_bases : St := (sSeq (sSet 1 (eFrz (eN mkLst (aCons (eUn (oIsv [("QueueError", true), ("InvalidInteger", true), ("InvalidLetter", true), ("InvalidCapacity", true), ("InvalidMode", true), ("InvalidQueue", true), ("InvalidProgram", true), ("InvalidUser", true), ("InvalidText", true), ("InvalidCommand", true), ("InvalidEffect", true), ("InvalidFacts", true), ("CapacityMismatch", true), ("RunFailed", true), ("EmptyQueue", false), ("EffectFailed", false), ("BufferFailed", false), ("FullQueue", false), ("LimitExceeded", false), ("NothingToUndo", false)]) (eVar 0)) (aCons (eUn (oIsv [("QueueError", true), ("InvalidInteger", true), ("InvalidLetter", true), ("InvalidCapacity", true), ("InvalidMode", true), ("InvalidQueue", true), ("InvalidProgram", true), ("InvalidUser", true), ("InvalidText", true), ("InvalidCommand", true), ("InvalidEffect", true), ("InvalidFacts", true), ("CapacityMismatch", true), ("RunFailed", true), ("EmptyQueue", false), ("EffectFailed", false), ("BufferFailed", false), ("FullQueue", false), ("LimitExceeded", false), ("NothingToUndo", false)]) (eVar 0)) (aCons (eUn (oIsv [("QueueError", false), ("InvalidInteger", false), ("InvalidLetter", false), ("InvalidCapacity", false), ("InvalidMode", false), ("InvalidQueue", false), ("InvalidProgram", false), ("InvalidUser", false), ("InvalidText", false), ("InvalidCommand", false), ("InvalidEffect", false), ("InvalidFacts", false), ("CapacityMismatch", false), ("RunFailed", false), ("EmptyQueue", true), ("EffectFailed", true), ("BufferFailed", true), ("FullQueue", false), ("LimitExceeded", false), ("NothingToUndo", false)]) (eVar 0)) (aCons (eUn (oIsv [("QueueError", false), ("InvalidInteger", false), ("InvalidLetter", false), ("InvalidCapacity", false), ("InvalidMode", false), ("InvalidQueue", false), ("InvalidProgram", false), ("InvalidUser", false), ("InvalidText", false), ("InvalidCommand", false), ("InvalidEffect", false), ("InvalidFacts", false), ("CapacityMismatch", false), ("RunFailed", false), ("EmptyQueue", false), ("EffectFailed", false), ("BufferFailed", false), ("FullQueue", false), ("LimitExceeded", false), ("NothingToUndo", false)]) (eVar 0)) aNil)))))))
    (sSeq (sSet 1 (eFrz (eOp oCatL (eVar 1) (eFrz (eN mkLst (aCons (eUn (oIsv [("QueueError", false), ("InvalidInteger", false), ("InvalidLetter", false), ("InvalidCapacity", false), ("InvalidMode", false), ("InvalidQueue", false), ("InvalidProgram", false), ("InvalidUser", false), ("InvalidText", false), ("InvalidCommand", false), ("InvalidEffect", false), ("InvalidFacts", false), ("CapacityMismatch", false), ("RunFailed", false), ("EmptyQueue", false), ("EffectFailed", false), ("BufferFailed", false), ("FullQueue", false), ("LimitExceeded", false), ("NothingToUndo", false)]) (eVar 0)) (aCons (eUn (oIsv [("QueueError", false), ("InvalidInteger", false), ("InvalidLetter", false), ("InvalidCapacity", false), ("InvalidMode", false), ("InvalidQueue", false), ("InvalidProgram", false), ("InvalidUser", false), ("InvalidText", false), ("InvalidCommand", false), ("InvalidEffect", false), ("InvalidFacts", false), ("CapacityMismatch", false), ("RunFailed", false), ("EmptyQueue", false), ("EffectFailed", false), ("BufferFailed", false), ("FullQueue", true), ("LimitExceeded", true), ("NothingToUndo", false)]) (eVar 0)) (aCons (eUn (oIsv [("QueueError", false), ("InvalidInteger", false), ("InvalidLetter", false), ("InvalidCapacity", false), ("InvalidMode", false), ("InvalidQueue", false), ("InvalidProgram", false), ("InvalidUser", false), ("InvalidText", false), ("InvalidCommand", false), ("InvalidEffect", false), ("InvalidFacts", false), ("CapacityMismatch", false), ("RunFailed", false), ("EmptyQueue", false), ("EffectFailed", false), ("BufferFailed", false), ("FullQueue", true), ("LimitExceeded", true), ("NothingToUndo", false)]) (eVar 0)) aNil))))))))
    (sRet (eFrz (eOp oCatL (eVar 1) (eFrz (eN mkLst (aCons (eUn (oIsv [("QueueError", false), ("InvalidInteger", false), ("InvalidLetter", false), ("InvalidCapacity", false), ("InvalidMode", false), ("InvalidQueue", false), ("InvalidProgram", false), ("InvalidUser", false), ("InvalidText", false), ("InvalidCommand", false), ("InvalidEffect", false), ("InvalidFacts", false), ("CapacityMismatch", false), ("RunFailed", false), ("EmptyQueue", false), ("EffectFailed", false), ("BufferFailed", false), ("FullQueue", false), ("LimitExceeded", false), ("NothingToUndo", true)]) (eVar 0)) aNil))))))))
noncomputable def fn_law_bases : Fn := fnOf 1 1 body_law_bases
noncomputable def body_law_fields : St := (sSeq (sSet 1 (eFrz (eN mkLst (aCons (eUn (oXv ["InvalidEffect", "InvalidFacts", "RunFailed"] "position") (eOp oIxL (eVar 0) (eC (.int 0)))) (aCons (eUn (oXv ["InvalidEffect", "InvalidFacts", "RunFailed"] "position") (eOp oIxL (eVar 0) (eC (.int 1)))) (aCons (eUn (oXv ["InvalidEffect", "InvalidFacts", "RunFailed"] "position") (eOp oIxL (eVar 0) (eC (.int 2)))) (aCons (eUn (oXv ["CapacityMismatch"] "first") (eOp oIxL (eVar 0) (eC (.int 3)))) (aCons (eUn (oXv ["CapacityMismatch"] "second") (eOp oIxL (eVar 0) (eC (.int 3)))) aNil))))))))
    (sRet (eFrz (eOp oCatL (eVar 1) (eFrz (eN mkLst (aCons (eUn (oXv ["EffectFailed"] "length") (eOp oIxL (eVar 0) (eC (.int 4)))) (aCons (eUn (oXv ["BufferFailed"] "index") (eOp oIxL (eVar 0) (eC (.int 5)))) (aCons (eUn (oXv ["LimitExceeded"] "size") (eOp oIxL (eVar 0) (eC (.int 6)))) aNil)))))))))
noncomputable def fn_law_fields : Fn := fnOf 1 1 body_law_fields
noncomputable def turn_law_1 : St := (sSeq (sPar [8, 9] (aCons (eOp oLt (eVar 6) (eC (.int 13))) (aCons (eOp oInQ (eVar 6) (eN mkTup (aCons (eC (.int 16)) (aCons (eC (.int 17)) aNil)))) aNil)))
    (sSeq (sSet 10 (eFrz (eN mkLst (aCons (eVar 8) (aCons (eVar 8) (aCons (eOp oInQ (eVar 6) (eN mkTup (aCons (eC (.int 13)) (aCons (eC (.int 14)) (aCons (eC (.int 15)) aNil))))) (aCons (eC (.bl false)) (aCons (eC (.bl false)) (aCons (eVar 9) (aCons (eVar 9) (aCons (eOp oEq (eVar 6) (eC (.int 18))) aNil)))))))))))
    (sIf (eOr (eOp oNe (eFrz (eCall fn_law_classes [.v (eVar 7)] [])) (eFrz (eComp (iOfA itR (aCons (eC (.int 19)) aNil)) (gVar 11) (eC (.bl true)) (eOp oEq (eVar 6) (eVar 11)) [11]))) (eOp oNe (eFrz (eCall fn_law_bases [.v (eVar 7)] [])) (eVar 10)))
    (sRet (eC (.bl false)))
    sNil)))
noncomputable def turn_law_2 : St := (sSeq (sSet 2 (eCall fn_law_draws [.v (eVar 0), .v (eVar 1)] []))
    (sSeq (sPar [3, 4] (aCons (eFrz (eCall fn_law_argument [.b 2] [])) (aCons (eFrz (eCall fn_law_argument [.b 2] [])) aNil)))
    (sSeq (sSet 5 (eFrz (eCall fn_law_by_position [.v (eVar 3), .v (eVar 4)] [])))
    (sSeq (sFor (iOfA itEL (aCons (eVar 5) aNil)) (gTup [(gVar 6), (gVar 7)]) turn_law_1)
    (sSeq (sSet 12 (eFrz (eN mkLst (aCons (eMkv "InvalidEffect" ["position"] (aCons (eVar 3) aNil)) (aCons (eMkv "InvalidFacts" ["position"] (aCons (eVar 3) aNil)) (aCons (eMkv "RunFailed" ["position"] (aCons (eVar 3) aNil)) aNil))))))
    (sSeq (sSet 12 (eFrz (eOp oCatL (eVar 12) (eFrz (eN mkLst (aCons (eMkr "CapacityMismatch" ["first", "second"] (aCons (eVar 4) (aCons (eVar 3) aNil))) (aCons (eMkv "EffectFailed" ["length"] (aCons (eVar 3) aNil)) aNil)))))))
    (sSeq (sSet 12 (eFrz (eOp oCatL (eVar 12) (eFrz (eN mkLst (aCons (eMkv "BufferFailed" ["index"] (aCons (eVar 3) aNil)) (aCons (eMkv "LimitExceeded" ["size"] (aCons (eVar 3) aNil)) aNil)))))))
    (sSeq (sSet 13 (eFrz (eOp oCatL (eFrz (eOp oCatL (eFrz (eSl oSlL (eVar 5) (some (eC (.int 9))) (some (eC (.int 13))))) (eFrz (eSl oSlL (eVar 5) (some (eC (.int 14))) (some (eC (.int 16))))))) (eFrz (eN mkLst (aCons (eOp oIxL (eVar 5) (eC (.int 17))) aNil))))))
    (sSeq (sSet 10 (eN oReprE (aCons (eFrz (eN mkLst (aCons (eVar 3) (aCons (eVar 3) (aCons (eVar 3) (aCons (eVar 3) (aCons (eVar 4) (aCons (eVar 3) (aCons (eVar 3) (aCons (eVar 3) aNil)))))))))) aNil)))
    (sIf (eOr (eOp oNe (eN oReprE (aCons (eFrz (eCall fn_law_fields [.v (eVar 13)] [])) aNil)) (eVar 10)) (eOp oNe (eN oReprE (aCons (eFrz (eCall fn_law_fields [.v (eVar 12)] [])) aNil)) (eVar 10)))
    (sRet (eC (.bl false)))
    sNil))))))))))
noncomputable def body_law : St := (sSeq (sFor (iOfA itR (aCons (eN oMax2 (aCons (eC (.int 1)) (aCons (eN oLenScr (aCons (eVar 0) aNil)) aNil))) aNil)) (gVar 1) turn_law_2)
    (sRet (eC (.bl true))))
noncomputable def fn_law : Fn := fnOf 1 13 body_law
end U
namespace U
open PySem
theorem mkS_at {c : String} {ns : List String} {r : As} {ρ ρ1 : Env} {ds : List D} (h : r ρ = .ok ds ρ1) : eMkv c ns r ρ = .ok (.exv c ns ds) ρ1 := by
  unfold eMkv
  rw [h]
  rfl
theorem mkR_at {c : String} {ns : List String} {r : As} {ρ ρ1 : Env} {ds : List D} (h : r ρ = .ok ds ρ1) : eMkr c ns r ρ = .ok (.exv c ns (swpL ds)) ρ1 := by
  unfold eMkr
  rw [h]
  rfl
theorem catS_at {a b : E} {ρ ρ1 ρ2 : Env} {x y : List D} (ha : a ρ = .ok (.lst x) ρ1) (hb : b ρ1 = .ok (.lst y) ρ2) (h : x.length + y.length ≤ 1000) : eOp oCatL a b ρ = .ok (.own 0 (.lst (x ++ y))) ρ2 := by
  refine opS_at ha hb ?_
  show (if x.length + y.length ≤ cap then some (D.own 0 (D.lst (x ++ y))) else none) = _
  rw [if_pos (by show _ ≤ 16777216; omega)]
theorem lstF {r : As} {ρ ρ1 : Env} {ds : List D} (hr : r ρ = .ok ds ρ1) (hn : ds.length ≤ 1000) (h : allPlain ds = true) : eFrz (eN mkLst r) ρ = .ok (.lst ds) ρ1 := frzS_at (lstS_at hr hn) (frz_lst h)
theorem catF {a b : E} {ρ ρ1 ρ2 : Env} {x y : List D} (ha : a ρ = .ok (.lst x) ρ1) (hb : b ρ1 = .ok (.lst y) ρ2) (h : x.length + y.length ≤ 1000) (hp : allPlain (x ++ y) = true) : eFrz (eOp oCatL a b) ρ = .ok (.lst (x ++ y)) ρ2 := frzS_at (catS_at ha hb h) (frz_lst hp)
theorem drawX {i t : Nat} {k : Int} {y : Int} {P P' : D} {ρ : Env} {a : E} (hi : ρ[i]? = some (some (.own t P))) (ha : a ρ = .ok (.int k) ρ) (e : fn_law_draw [.own 1 P, .int k] = .ok (.int y) [some (.own 1 P'), some (.int k)]) :
    eFrz (eCall fn_law_draw [.b i, .v a] []) ρ = .ok (.int y) (ρ.set i (some (.own t P'))) := by
  refine frzS_at (d := .int y) ?_ rfl
  have ea : ∀ p ∈ [a].zip [D.int k], p.1 ρ = .ok p.2 ρ := fun p hp => by simp only [List.zip_cons_cons, List.zip_nil_right, List.mem_singleton] at hp; subst hp; exact ha
  show eCall fn_law_draw (.b i :: vAgs [a]) [] ρ = _
  unfold eCall
  have h1 : evAg (.b i :: vAgs [a]) ρ = .ok (.b i :: vArgs [.int k]) ρ := by
    simp only [evAg, hi, evS (as := [a]) (ds := [.int k]) rfl ea]
  have h2 : hand ρ 0 (.b i :: vArgs [.int k]) = some (.own 1 P :: [.int k]) := by
    simp only [hand, hi, handS, Option.map_some]
  have h3 : lent (.b i :: vArgs [.int k]) = [i] := by simp only [lent, lentS]
  have h4 : fn_law_draw ((.own 1 P :: [.int k]) ++ []) = .ok (.int y) [some (.own 1 P'), some (.int k)] := e
  rw [h1]
  simp only [h2, h3, h4, List.nodup_cons, List.not_mem_nil, not_false_eq_true, List.nodup_nil, and_self, if_true]
  have h5 : back 0 (.b i :: vArgs [.int k]) [some (.own 1 P'), some (.int k)] ρ = some (ρ.set i (some (.own t P'))) := by
    simp only [back, List.head?, hi, List.tail, backS, if_true]
  rw [h5]
def ArgOk (a : D) : Prop := a = .non ∨ a = .str [97, 98, 99] ∨ (∃ i : Int, a = .int i ∧ -5 ≤ i ∧ i < 1000000000000000000000000000000) ∨ a = .str [] ∨ a = .tup [.str [120], .int 1] ∨ a = .lst [.int 1] ∨ a = .dic []
theorem ArgOk.pl {a : D} (h : ArgOk a) : a.isMut = false := by
  rcases h with rfl | rfl | ⟨i, rfl, _⟩ | rfl | rfl | rfl | rfl <;> rfl
theorem arg_ok {p : D} (hp : Pool p) : ∃ (a p' : D), ArgOk a ∧ Pool p' ∧ fn_law_argument [.own 1 p] = .ok a [some (.own 1 p')] := by
  obtain ⟨x1, p1, hp1, hx1, e1⟩ := drw hp 1000000000 (by decide) (by decide)
  obtain ⟨x2, p2, hp2, hx2, e2⟩ := drw hp1 50 (by decide) (by decide)
  obtain ⟨x3, p3, hp3, hx3, e3⟩ := drw hp2 8 (by decide) (by decide)
  have hpw : oPow (.int 10) (.int 9) = some (.int 1000000000) := by rfl
  have hpv : oPow (.int 10) (.int 20) = some (.int 100000000000000000000) := by rfl
  obtain ⟨a, ha, hat⟩ : ∃ a, ArgOk a ∧ oIxL (.lst [.non, .str [97, 98, 99], .int ((x1 : Int) * 100000000000000000000 - 5), .int (x2 : Int), .str [], .tup [.str [120], .int 1], .lst [.int 1], .dic []]) (.int (x3 : Int)) = some a := by
    have hx3' : x3 < 8 := by omega
    have c : x3 = 0 ∨ x3 = 1 ∨ x3 = 2 ∨ x3 = 3 ∨ x3 = 4 ∨ x3 = 5 ∨ x3 = 6 ∨ x3 = 7 := by omega
    rcases c with rfl | rfl | rfl | rfl | rfl | rfl | rfl | rfl
    · exact ⟨_, .inl rfl, rfl⟩
    · exact ⟨_, .inr (.inl rfl), rfl⟩
    · exact ⟨_, .inr (.inr (.inl ⟨_, rfl, by omega, by omega⟩)), rfl⟩
    · exact ⟨_, .inr (.inr (.inl ⟨_, rfl, by omega, by omega⟩)), rfl⟩
    · exact ⟨_, .inr (.inr (.inr (.inl rfl))), rfl⟩
    · exact ⟨_, .inr (.inr (.inr (.inr (.inl rfl)))), rfl⟩
    · exact ⟨_, .inr (.inr (.inr (.inr (.inr (.inl rfl))))), rfl⟩
    · exact ⟨_, .inr (.inr (.inr (.inr (.inr (.inr rfl))))), rfl⟩
  refine ⟨a, p3, ha, hp3, ?_⟩
  have hmul : oMul (.int (x1 : Int)) (.int 100000000000000000000) = some (.int ((x1 : Int) * 100000000000000000000)) := by
    show (if (x1 : Int).natAbs < lim64 ∨ (100000000000000000000 : Int).natAbs < lim64 then some (D.int ((x1 : Int) * 100000000000000000000)) else none) = _
    rw [if_pos (.inl (Nat.lt_of_lt_of_le (show (x1 : Int).natAbs < 1000000000 by omega) (by decide +kernel)))]
  have s1 : sSet 1 (eOp oSub (eOp oMul (eFrz (eCall fn_law_draw [.b 0, .v (eOp oPow (eC (.int 10)) (eC (.int 9)))] [])) (eOp oPow (eC (.int 10)) (eC (.int 20)))) (eC (.int 5))) [some (.own 1 p), none] = .nx [some (.own 1 p1), some (.int ((x1 : Int) * 100000000000000000000 - 5))] :=
    setS_at (v := none) (opS_at (opS_at (drawX (t := 1) (i := 0) (ρ := [some (.own 1 p), none]) rfl (opS_at (a := eC (.int 10)) (b := eC (.int 9)) rfl rfl hpw) e1) (opS_at (a := eC (.int 10)) (b := eC (.int 20)) rfl rfl hpv) hmul) (b := eC (.int 5)) rfl rfl) rfl fre_none
  unfold fn_law_argument body_law_argument
  rw [v_fn, if_pos (show [D.own 1 p].length = 1 from rfl)]
  show endF_ 1 (sSeq _ _ [some (.own 1 p), none]) = _
  rw [seq_nx s1, retS_at (opS_at (lstF (consS_at (a := eC .non) rfl (consS_at (a := eC (.str [97, 98, 99])) rfl (consS_at (varS_at (i := 1) (d := .int ((x1 : Int) * 100000000000000000000 - 5)) rfl rfl) (consS_at (drawX (t := 1) (i := 0) rfl (a := eC (.int 50)) rfl e2) (consS_at (a := eC (.str [])) rfl (consS_at (tupS_at (consS_at (a := eC (.str [120])) rfl (consS_at (a := eC (.int 1)) (r := aNil) rfl rfl)) (by decide)) (consS_at (lstF (consS_at (a := eC (.int 1)) (r := aNil) rfl rfl) (by decide) rfl) (consS_at (a := eC (.dic [])) (r := aNil) rfl rfl)))))))) (by show 8 ≤ 1000; decide) rfl) (drawX (t := 1) (i := 0) rfl (a := eC (.int 8)) rfl e3) hat)]
  rfl
def errs (a b : D) : List D := ([.exv "InvalidInteger" [] [], .exv "InvalidLetter" [] [], .exv "InvalidCapacity" [] [], .exv "InvalidMode" [] [], .exv "InvalidQueue" [] []] ++ [.exv "InvalidProgram" [] [], .exv "InvalidUser" [] [], .exv "InvalidText" [] [], .exv "InvalidCommand" [] []] ++
  [.exv "InvalidEffect" ["position"] [a], .exv "InvalidFacts" ["position"] [a], .exv "RunFailed" ["position"] [a], .exv "CapacityMismatch" ["first", "second"] [a, b]] ++ [.exv "EmptyQueue" [] [], .exv "EffectFailed" ["length"] [a], .exv "BufferFailed" ["index"] [a], .exv "FullQueue" [] [], .exv "LimitExceeded" ["size"] [a]] ++ [.exv "NothingToUndo" [] []])
theorem pos_ok {a b : D} (ha : a.isMut = false) (hb : b.isMut = false) : ∃ o, fn_law_by_position [a, b] = .ok (.lst (errs a b)) o := by
  have h0 : ∀ v, eVar 0 [some a, some b, v] = .ok a [some a, some b, v] := fun v => varS_at rfl ha
  have h1 : ∀ v, eVar 1 [some a, some b, v] = .ok b [some a, some b, v] := fun v => varS_at rfl hb
  have hn : ∀ {c : String} {ρ : Env}, eMkv c [] aNil ρ = .ok (.exv c [] []) ρ := mkS_at rfl
  have hf : ∀ {c f : String} {v : Option D}, eMkv c [f] (aCons (eVar 0) aNil) [some a, some b, v] = .ok (.exv c [f] [a]) [some a, some b, v] := mkS_at (consS_at (h0 _) rfl)
  have hg : ∀ {c : String} {fs : List String} {v : Option D}, eMkv c fs (aCons (eVar 0) (aCons (eVar 1) aNil)) [some a, some b, v] = .ok (.exv c fs [a, b]) [some a, some b, v] := mkS_at (consS_at (h0 _) (consS_at (h1 _) rfl))
  refine ⟨[some a, some b], ?_⟩
  unfold fn_law_by_position body_law_by_position
  rw [v_fn, if_pos (show [a, b].length = 2 from rfl)]
  show endF_ 2 (sSeq _ _ [some a, some b, none]) = _
  rw [seq_nx (setS_at (v := none) (lstF (consS_at hn (consS_at hn (consS_at hn (consS_at hn (consS_at hn (r := aNil) rfl))))) (by decide) rfl) rfl fre_none)]
  show endF_ 2 (sSeq _ _ [some a, some b, some _]) = _
  rw [seq_nx (setS_at (v := some (.lst _)) (catF (varS_at (i := 2) rfl rfl) (lstF (consS_at hn (consS_at hn (consS_at hn (consS_at hn (r := aNil) rfl)))) (by decide) rfl) (by decide) rfl) rfl (fre_pl rfl))]
  show endF_ 2 (sSeq _ _ [some a, some b, some _]) = _
  rw [seq_nx (setS_at (v := some (.lst _)) (catF (varS_at (i := 2) rfl rfl) (lstF (consS_at hf (consS_at hf (consS_at hf (consS_at hg (r := aNil) rfl)))) (by show 4 ≤ 1000; decide) rfl) (by show 13 ≤ 1000; decide) rfl) rfl (fre_pl rfl))]
  show endF_ 2 (sSeq _ _ [some a, some b, some _]) = _
  rw [seq_nx (setS_at (v := some (.lst _)) (catF (varS_at (i := 2) rfl rfl) (lstF (consS_at hn (consS_at hf (consS_at hf (consS_at hn (consS_at hf (r := aNil) rfl))))) (by show 5 ≤ 1000; decide) rfl) (by show 18 ≤ 1000; decide) rfl) rfl (fre_pl rfl))]
  show endF_ 2 (sRet _ [some a, some b, some _]) = _
  rw [retS_at (catF (varS_at (i := 2) rfl rfl) (lstF (consS_at hn (r := aNil) rfl) (by decide) rfl) (by show 19 ≤ 1000; decide) rfl)]
  rfl
theorem put_at {i : Nat} {ρ : Env} {d : D} {v : Option D} (hv : ρ[i]? = some v) (h : Fre v) : U.put i d ρ = some (ρ.set i (some d)) := by
  unfold U.put
  rw [hv]
  rcases v with _ | v
  · rfl
  · cases v with
    | own t z =>
      cases t with
      | zero => rfl
      | succ t => exact absurd rfl (h t z)
    | _ => rfl
noncomputable abbrev k02If : St := (sIf (eOr (eOp oNe (eFrz (eCall fn_law_classes [.v (eVar 7)] [])) (eFrz (eComp (iOfA itR (aCons (eC (.int 19)) aNil)) (gVar 11) (eC (.bl true)) (eOp oEq (eVar 6) (eVar 11)) [11]))) (eOp oNe (eFrz (eCall fn_law_bases [.v (eVar 7)] [])) (eVar 10)))
    (sRet (eC (.bl false)))
    sNil)
theorem turn1_eq : turn_law_1 = (sSeq (sPar [8, 9] (aCons (eOp oLt (eVar 6) (eC (.int 13))) (aCons (eOp oInQ (eVar 6) (eN mkTup (aCons (eC (.int 16)) (aCons (eC (.int 17)) aNil)))) aNil)))
    (sSeq (sSet 10 (eFrz (eN mkLst (aCons (eVar 8) (aCons (eVar 8) (aCons (eOp oInQ (eVar 6) (eN mkTup (aCons (eC (.int 13)) (aCons (eC (.int 14)) (aCons (eC (.int 15)) aNil))))) (aCons (eC (.bl false)) (aCons (eC (.bl false)) (aCons (eVar 9) (aCons (eVar 9) (aCons (eOp oEq (eVar 6) (eC (.int 18))) aNil)))))))))))
    k02If)) := rfl
section
variable {S v1 v2 v3 v4 v5 x6 x7 x8 x9 x10 x11 x12 x13 : Option D}
theorem t1_h {i : Int} {e : D} {p q r t : Bool} (he : e.isMut = false) (o6 : Fre x6) (o7 : Fre x7) (o8 : Fre x8) (o9 : Fre x9) (o10 : Fre x10)
    (h1 : oLt (.int i) (.int 13) = some (.bl p)) (h2 : oInQ (.int i) (.tup [.int 16, .int 17]) = some (.bl q)) (h3 : oInQ (.int i) (.tup [.int 13, .int 14, .int 15]) = some (.bl r)) (h4 : oEq (.int i) (.int 18) = some (.bl t))
    (hif : k02If [S, v1, v2, v3, v4, v5, some (.int i), some e, some (.bl p), some (.bl q), some (.lst [.bl p, .bl p, .bl r, .bl false, .bl false, .bl q, .bl q, .bl t]), x11, x12, x13] = .nx [S, v1, v2, v3, v4, v5, some (.int i), some e, some (.bl p), some (.bl q), some (.lst [.bl p, .bl p, .bl r, .bl false, .bl false, .bl q, .bl q, .bl t]), none, x12, x13]) :
    (toFl (gTup [gVar 6, gVar 7] (.tup [.int i, e]) [S, v1, v2, v3, v4, v5, x6, x7, x8, x9, x10, x11, x12, x13])).bind turn_law_1 = .nx [S, v1, v2, v3, v4, v5, some (.int i), some e, some (.bl p), some (.bl q), some (.lst [.bl p, .bl p, .bl r, .bl false, .bl false, .bl q, .bl q, .bl t]), none, x12, x13] := by
  have hg : gTup [gVar 6, gVar 7] (.tup [.int i, e]) [S, v1, v2, v3, v4, v5, x6, x7, x8, x9, x10, x11, x12, x13] = some [S, v1, v2, v3, v4, v5, some (.int i), some e, x8, x9, x10, x11, x12, x13] := by
    have p6 := put_at (i := 6) (d := .int i) (ρ := [S, v1, v2, v3, v4, v5, x6, x7, x8, x9, x10, x11, x12, x13]) rfl o6
    have p7 := put_at (i := 7) (d := e) (ρ := [S, v1, v2, v3, v4, v5, some (.int i), x7, x8, x9, x10, x11, x12, x13]) rfl o7
    show (U.put 6 (.int i) _).bind (gAll [gVar 7] [e]) = _
    rw [p6]
    show (U.put 7 e [S, v1, v2, v3, v4, v5, some (.int i), x7, x8, x9, x10, x11, x12, x13]).bind (gAll [] []) = _
    rw [p7]
    rfl
  rw [hg]
  show turn_law_1 [S, v1, v2, v3, v4, v5, some (.int i), some e, x8, x9, x10, x11, x12, x13] = _
  have v6 : ∀ {y8 y9 y10 : Option D}, eVar 6 [S, v1, v2, v3, v4, v5, some (.int i), some e, y8, y9, y10, x11, x12, x13] = .ok (.int i) _ := varS_at rfl rfl
  have e1 : sPar [8, 9] (aCons (eOp oLt (eVar 6) (eC (.int 13))) (aCons (eOp oInQ (eVar 6) (eN mkTup (aCons (eC (.int 16)) (aCons (eC (.int 17)) aNil)))) aNil)) [S, v1, v2, v3, v4, v5, some (.int i), some e, x8, x9, x10, x11, x12, x13] = .nx [S, v1, v2, v3, v4, v5, some (.int i), some e, some (.bl p), some (.bl q), x10, x11, x12, x13] := by
    have ha : aCons (eOp oLt (eVar 6) (eC (.int 13))) (aCons (eOp oInQ (eVar 6) (eN mkTup (aCons (eC (.int 16)) (aCons (eC (.int 17)) aNil)))) aNil) [S, v1, v2, v3, v4, v5, some (.int i), some e, x8, x9, x10, x11, x12, x13] = .ok [.bl p, .bl q] [S, v1, v2, v3, v4, v5, some (.int i), some e, x8, x9, x10, x11, x12, x13] :=
      consS_at (opS_at v6 (b := eC (.int 13)) rfl h1) (consS_at (opS_at v6 (tupS_at (consS_at (a := eC (.int 16)) rfl (consS_at (a := eC (.int 17)) (r := aNil) rfl rfl)) (by decide)) h2) rfl)
    have p8 := put_at (i := 8) (d := .bl p) (ρ := [S, v1, v2, v3, v4, v5, some (.int i), some e, x8, x9, x10, x11, x12, x13]) rfl o8
    have p9 := put_at (i := 9) (d := .bl q) (ρ := [S, v1, v2, v3, v4, v5, some (.int i), some e, some (.bl p), x9, x10, x11, x12, x13]) rfl o9
    unfold sPar
    rw [ha]
    have : putAll [8, 9] [D.bl p, D.bl q] [S, v1, v2, v3, v4, v5, some (.int i), some e, x8, x9, x10, x11, x12, x13] = some [S, v1, v2, v3, v4, v5, some (.int i), some e, some (.bl p), some (.bl q), x10, x11, x12, x13] := by
      show (U.put 8 (.bl p) _).bind (putAll [9] [.bl q]) = _
      rw [p8]
      show (U.put 9 (.bl q) [S, v1, v2, v3, v4, v5, some (.int i), some e, some (.bl p), x9, x10, x11, x12, x13]).bind (putAll [] []) = _
      rw [p9]
      rfl
    simp only [this]
  have e2 := setS_at (i := 10) (v := x10) (lstF (ρ := [S, v1, v2, v3, v4, v5, some (.int i), some e, some (.bl p), some (.bl q), x10, x11, x12, x13]) (consS_at (varS_at (i := 8) rfl rfl) (consS_at (varS_at (i := 8) rfl rfl) (consS_at (opS_at v6 (tupS_at (consS_at (a := eC (.int 13)) rfl (consS_at (a := eC (.int 14)) rfl (consS_at (a := eC (.int 15)) (r := aNil) rfl rfl))) (by decide)) h3) (consS_at (a := eC (.bl false)) rfl (consS_at (a := eC (.bl false)) rfl (consS_at (varS_at (i := 9) rfl rfl) (consS_at (varS_at (i := 9) rfl rfl) (consS_at (opS_at v6 (b := eC (.int 18)) rfl h4) (r := aNil) rfl)))))))) (by show 8 ≤ 1000; decide) rfl) rfl o10
  rw [turn1_eq, seq_nx e1, seq_nx e2]
  exact hif
def TI (S v1 v2 v3 v4 v5 x12 x13 : Option D) (ρ : Env) : Prop := ∃ x6 x7 x8 x9 x10 x11, ρ = [S, v1, v2, v3, v4, v5, x6, x7, x8, x9, x10, x11, x12, x13] ∧ Fre x6 ∧ Fre x7 ∧ Fre x8 ∧ Fre x9 ∧ Fre x10 ∧ Fre x11
theorem t1_all {a b : D} (d : D) (hd : d ∈ enumD (errs a b)) (ρ : Env) (hI : TI S v1 v2 v3 v4 v5 x12 x13 ρ) : ∃ ρ', (toFl (gTup [gVar 6, gVar 7] d ρ)).bind turn_law_1 = .nx ρ' ∧ TI S v1 v2 v3 v4 v5 x12 x13 ρ' := by
  obtain ⟨x6, x7, x8, x9, x10, x11, rfl, o6, o7, o8, o9, o10, _⟩ := hI
  have hd : d ∈ [D.tup [.int 0, .exv "InvalidInteger" [] []], D.tup [.int 1, .exv "InvalidLetter" [] []], D.tup [.int 2, .exv "InvalidCapacity" [] []], D.tup [.int 3, .exv "InvalidMode" [] []], D.tup [.int 4, .exv "InvalidQueue" [] []], D.tup [.int 5, .exv "InvalidProgram" [] []], D.tup [.int 6, .exv "InvalidUser" [] []], D.tup [.int 7, .exv "InvalidText" [] []], D.tup [.int 8, .exv "InvalidCommand" [] []], D.tup [.int 9, .exv "InvalidEffect" ["position"] [a]], D.tup [.int 10, .exv "InvalidFacts" ["position"] [a]], D.tup [.int 11, .exv "RunFailed" ["position"] [a]], D.tup [.int 12, .exv "CapacityMismatch" ["first", "second"] [a, b]], D.tup [.int 13, .exv "EmptyQueue" [] []], D.tup [.int 14, .exv "EffectFailed" ["length"] [a]], D.tup [.int 15, .exv "BufferFailed" ["index"] [a]], D.tup [.int 16, .exv "FullQueue" [] []], D.tup [.int 17, .exv "LimitExceeded" ["size"] [a]], D.tup [.int 18, .exv "NothingToUndo" [] []]] := hd
  simp only [List.mem_cons, List.not_mem_nil, or_false] at hd
  rcases hd with rfl | rfl | rfl | rfl | rfl | rfl | rfl | rfl | rfl | rfl | rfl | rfl | rfl | rfl | rfl | rfl | rfl | rfl | rfl
  · exact ⟨_, t1_h (p := true) (q := false) (r := false) (t := false) rfl o6 o7 o8 o9 o10 rfl rfl rfl rfl (by kernel_rfl), _, _, _, _, _, _, rfl, fre_pl rfl, fre_pl rfl, fre_pl rfl, fre_pl rfl, fre_pl rfl, fre_none⟩
  · exact ⟨_, t1_h (p := true) (q := false) (r := false) (t := false) rfl o6 o7 o8 o9 o10 rfl rfl rfl rfl (by kernel_rfl), _, _, _, _, _, _, rfl, fre_pl rfl, fre_pl rfl, fre_pl rfl, fre_pl rfl, fre_pl rfl, fre_none⟩
  · exact ⟨_, t1_h (p := true) (q := false) (r := false) (t := false) rfl o6 o7 o8 o9 o10 rfl rfl rfl rfl (by kernel_rfl), _, _, _, _, _, _, rfl, fre_pl rfl, fre_pl rfl, fre_pl rfl, fre_pl rfl, fre_pl rfl, fre_none⟩
  · exact ⟨_, t1_h (p := true) (q := false) (r := false) (t := false) rfl o6 o7 o8 o9 o10 rfl rfl rfl rfl (by kernel_rfl), _, _, _, _, _, _, rfl, fre_pl rfl, fre_pl rfl, fre_pl rfl, fre_pl rfl, fre_pl rfl, fre_none⟩
  · exact ⟨_, t1_h (p := true) (q := false) (r := false) (t := false) rfl o6 o7 o8 o9 o10 rfl rfl rfl rfl (by kernel_rfl), _, _, _, _, _, _, rfl, fre_pl rfl, fre_pl rfl, fre_pl rfl, fre_pl rfl, fre_pl rfl, fre_none⟩
  · exact ⟨_, t1_h (p := true) (q := false) (r := false) (t := false) rfl o6 o7 o8 o9 o10 rfl rfl rfl rfl (by kernel_rfl), _, _, _, _, _, _, rfl, fre_pl rfl, fre_pl rfl, fre_pl rfl, fre_pl rfl, fre_pl rfl, fre_none⟩
  · exact ⟨_, t1_h (p := true) (q := false) (r := false) (t := false) rfl o6 o7 o8 o9 o10 rfl rfl rfl rfl (by kernel_rfl), _, _, _, _, _, _, rfl, fre_pl rfl, fre_pl rfl, fre_pl rfl, fre_pl rfl, fre_pl rfl, fre_none⟩
  · exact ⟨_, t1_h (p := true) (q := false) (r := false) (t := false) rfl o6 o7 o8 o9 o10 rfl rfl rfl rfl (by kernel_rfl), _, _, _, _, _, _, rfl, fre_pl rfl, fre_pl rfl, fre_pl rfl, fre_pl rfl, fre_pl rfl, fre_none⟩
  · exact ⟨_, t1_h (p := true) (q := false) (r := false) (t := false) rfl o6 o7 o8 o9 o10 rfl rfl rfl rfl (by kernel_rfl), _, _, _, _, _, _, rfl, fre_pl rfl, fre_pl rfl, fre_pl rfl, fre_pl rfl, fre_pl rfl, fre_none⟩
  · exact ⟨_, t1_h (p := true) (q := false) (r := false) (t := false) rfl o6 o7 o8 o9 o10 rfl rfl rfl rfl (by kernel_rfl), _, _, _, _, _, _, rfl, fre_pl rfl, fre_pl rfl, fre_pl rfl, fre_pl rfl, fre_pl rfl, fre_none⟩
  · exact ⟨_, t1_h (p := true) (q := false) (r := false) (t := false) rfl o6 o7 o8 o9 o10 rfl rfl rfl rfl (by kernel_rfl), _, _, _, _, _, _, rfl, fre_pl rfl, fre_pl rfl, fre_pl rfl, fre_pl rfl, fre_pl rfl, fre_none⟩
  · exact ⟨_, t1_h (p := true) (q := false) (r := false) (t := false) rfl o6 o7 o8 o9 o10 rfl rfl rfl rfl (by kernel_rfl), _, _, _, _, _, _, rfl, fre_pl rfl, fre_pl rfl, fre_pl rfl, fre_pl rfl, fre_pl rfl, fre_none⟩
  · exact ⟨_, t1_h (p := true) (q := false) (r := false) (t := false) rfl o6 o7 o8 o9 o10 rfl rfl rfl rfl (by kernel_rfl), _, _, _, _, _, _, rfl, fre_pl rfl, fre_pl rfl, fre_pl rfl, fre_pl rfl, fre_pl rfl, fre_none⟩
  · exact ⟨_, t1_h (p := false) (q := false) (r := true) (t := false) rfl o6 o7 o8 o9 o10 rfl rfl rfl rfl (by kernel_rfl), _, _, _, _, _, _, rfl, fre_pl rfl, fre_pl rfl, fre_pl rfl, fre_pl rfl, fre_pl rfl, fre_none⟩
  · exact ⟨_, t1_h (p := false) (q := false) (r := true) (t := false) rfl o6 o7 o8 o9 o10 rfl rfl rfl rfl (by kernel_rfl), _, _, _, _, _, _, rfl, fre_pl rfl, fre_pl rfl, fre_pl rfl, fre_pl rfl, fre_pl rfl, fre_none⟩
  · exact ⟨_, t1_h (p := false) (q := false) (r := true) (t := false) rfl o6 o7 o8 o9 o10 rfl rfl rfl rfl (by kernel_rfl), _, _, _, _, _, _, rfl, fre_pl rfl, fre_pl rfl, fre_pl rfl, fre_pl rfl, fre_pl rfl, fre_none⟩
  · exact ⟨_, t1_h (p := false) (q := true) (r := false) (t := false) rfl o6 o7 o8 o9 o10 rfl rfl rfl rfl (by kernel_rfl), _, _, _, _, _, _, rfl, fre_pl rfl, fre_pl rfl, fre_pl rfl, fre_pl rfl, fre_pl rfl, fre_none⟩
  · exact ⟨_, t1_h (p := false) (q := true) (r := false) (t := false) rfl o6 o7 o8 o9 o10 rfl rfl rfl rfl (by kernel_rfl), _, _, _, _, _, _, rfl, fre_pl rfl, fre_pl rfl, fre_pl rfl, fre_pl rfl, fre_pl rfl, fre_none⟩
  · exact ⟨_, t1_h (p := false) (q := false) (r := false) (t := true) rfl o6 o7 o8 o9 o10 rfl rfl rfl rfl (by kernel_rfl), _, _, _, _, _, _, rfl, fre_pl rfl, fre_pl rfl, fre_pl rfl, fre_pl rfl, fre_pl rfl, fre_none⟩
end
theorem toPyEs_map : ∀ l : List D, toPyEs l = l.map toPyE
  | [] => by simp only [toPyEs, List.map_nil]
  | d :: l => by simp only [toPyEs, List.map_cons, toPyEs_map l]
theorem okEs_all {n : Nat} : ∀ {l : List D}, (∀ x ∈ l, okE n x = true) → okEs n l = true
  | [], _ => by simp only [okEs]
  | d :: l, h => by
    simp only [okEs, Bool.and_eq_true]
    exact ⟨h d List.mem_cons_self, okEs_all fun x hx => h x (List.mem_cons_of_mem _ hx)⟩
theorem shAll : ∀ {l : List PyData}, (∀ x ∈ l, x.showable = true) → PyData.showableAll l = true
  | [], _ => by simp only [PyData.showableAll]
  | d :: l, h => by
    simp only [PyData.showableAll, Bool.and_eq_true]
    exact ⟨h d List.mem_cons_self, shAll fun x hx => h x (List.mem_cons_of_mem _ hx)⟩
def Sh (a : D) : Prop := okE 8 a = true ∧ (toPyE a).showable = true ∧ (toPyE a).shown.length ≤ 100 ∧ chOk (toPyE a).shown
theorem chB {x : Str} (h : (x.cps.toList.all fun c => decide (c < 1114112)) = true) : chOk x := fun c hc => of_decide_eq_true (List.all_eq_true.mp h c hc)
theorem sh_nat {k : Nat} (h : k < 1000000000000000000000000000000) : Sh (.int (k : Nat)) := by
  have e : PyData.shown (.int ((k : Nat) : Int)) = Str.ofString (toString ((k : Nat) : Int)) := by simp only [PyData.shown]
  have h1 : (Str.ofString (toString ((k : Nat) : Int))).cps.toList = decL k := TL.tl_num k
  have hl : (decL k).length ≤ 31 := TL.numL_len (n := k) (k := 31) (by decide) (Nat.lt_of_lt_of_le h (by decide))
  refine ⟨by simp only [okE], ?_, ?_, ?_⟩
  · show PyData.showable (.int (k : Nat)) = true
    simp only [PyData.showable, decide_eq_true_eq, Int.natAbs_natCast]
    by_cases c : k = 0
    · rw [c]; decide
    · exact (Nat.log2_lt c).mpr (Nat.lt_of_lt_of_le h (Nat.le_trans (show 1000000000000000000000000000000 ≤ 2 ^ 100 by decide) (Nat.pow_le_pow_right (by decide) (by decide))))
  · show (PyData.shown (.int ((k : Nat) : Int))).length ≤ 100
    rw [e]
    show (Str.ofString (toString ((k : Nat) : Int))).cps.size ≤ 100
    rw [← Array.length_toList, h1]
    omega
  · show chOk (PyData.shown (.int ((k : Nat) : Int)))
    rw [e]
    intro c hc
    rw [h1] at hc
    unfold decL at hc
    obtain ⟨ch, h1, rfl⟩ := List.mem_map.mp hc
    have := ch.valid
    rcases this with h | h
    · exact Nat.lt_of_lt_of_le h (by decide)
    · exact h.2
theorem arg_sh {a : D} (h : ArgOk a) : Sh a := by
  rcases h with rfl | rfl | ⟨i, rfl, h1, h2⟩ | rfl | rfl | rfl | rfl
  · exact ⟨by decide +kernel, by decide +kernel, by decide +kernel, chB (by decide +kernel)⟩
  · exact ⟨by decide +kernel, by decide +kernel, by decide +kernel, chB (by decide +kernel)⟩
  · by_cases c : 0 ≤ i
    · obtain ⟨k, rfl⟩ : ∃ k : Nat, i = (k : Int) := ⟨i.toNat, by omega⟩
      exact sh_nat (by omega)
    · have c : i = -5 ∨ i = -4 ∨ i = -3 ∨ i = -2 ∨ i = -1 := by omega
      rcases c with rfl | rfl | rfl | rfl | rfl
      all_goals exact ⟨by decide +kernel, by decide +kernel, by decide +kernel, chB (by decide +kernel)⟩
  · exact ⟨by decide +kernel, by decide +kernel, by decide +kernel, chB (by decide +kernel)⟩
  · exact ⟨by decide +kernel, by decide +kernel, by decide +kernel, chB (by decide +kernel)⟩
  · exact ⟨by decide +kernel, by decide +kernel, by decide +kernel, chB (by decide +kernel)⟩
  · exact ⟨by decide +kernel, by decide +kernel, by decide +kernel, chB (by decide +kernel)⟩
theorem repr_okE {l : List D} (hl : l.length ≤ 8) (h : ∀ x ∈ l, ArgOk x) : oReprE [.lst l] = some (.str (reprE l)) := by
  have hs : ∀ x ∈ toPyEs l, x.showable = true ∧ x.shown.length ≤ 100 ∧ chOk x.shown := fun x hx => by
    rw [toPyEs_map] at hx
    obtain ⟨d, hd, rfl⟩ := List.mem_map.mp hx
    exact ⟨(arg_sh (h d hd)).2.1, (arg_sh (h d hd)).2.2.1, (arg_sh (h d hd)).2.2.2⟩
  obtain ⟨z1, z2⟩ := lst_shown (xs := toPyEs l) (m := 100) fun x hx => (hs x hx).2
  have len : (toPyEs l).length ≤ 8 := by rw [toPyEs_map, List.length_map]; exact hl
  have ok : reprEok l = true := by
    unfold reprEok
    simp only [Bool.and_eq_true, decide_eq_true_eq, List.all_eq_true]
    refine ⟨⟨⟨okEs_all fun x hx => (arg_sh (h x hx)).1, ?_⟩, ?_⟩, fun c hc => z2 c hc⟩
    · simp only [PyData.showable]
      exact shAll fun x hx => (hs x hx).1
    · have e : (reprE l).length = (PyData.list (toPyEs l)).shown.length := by
        show ((PyData.list (toPyEs l)).shown.cps.toList).length = _
        rw [Array.length_toList]
        rfl
      rw [e]
      show _ ≤ 16777216
      have : (toPyEs l).length * (100 + 2) ≤ 8 * 102 := Nat.mul_le_mul_right _ len
      omega
  show (if reprEok l = true then some (D.str (reprE l)) else none) = _
  rw [if_pos ok]
def sm (a b : D) : List D := [.exv "InvalidEffect" ["position"] [a], .exv "InvalidFacts" ["position"] [a], .exv "RunFailed" ["position"] [a], .exv "CapacityMismatch" ["first", "second"] [a, b], .exv "EffectFailed" ["length"] [a], .exv "BufferFailed" ["index"] [a], .exv "LimitExceeded" ["size"] [a]]
def fl8 (a b : D) : List D := [a, a, a, a, b, a, a, a]
theorem pl_cons {a : D} {l : List D} (h : a.isMut = false) (hl : allPlain l = true) : allPlain (a :: l) = true := by
  simp only [allPlain, h, hl, Bool.not_false, Bool.and_self]
theorem pl8 {a b : D} (ha : a.isMut = false) (hb : b.isMut = false) : allPlain (fl8 a b) = true := pl_cons ha (pl_cons ha (pl_cons ha (pl_cons ha (pl_cons hb (pl_cons ha (pl_cons ha (pl_cons ha rfl)))))))
theorem fld_ok {a b : D} (ha : a.isMut = false) (hb : b.isMut = false) : ∃ o, fn_law_fields [.lst (sm a b)] = .ok (.lst (fl8 a b)) o := by
  have p0 : ∀ {v : Option D}, eUn (oXv ["InvalidEffect", "InvalidFacts", "RunFailed"] "position") (eOp oIxL (eVar 0) (eC (.int 0))) [some (.lst (sm a b)), v] = .ok a [some (.lst (sm a b)), v] := by intro v; kernel_rfl
  have p1 : ∀ {v : Option D}, eUn (oXv ["InvalidEffect", "InvalidFacts", "RunFailed"] "position") (eOp oIxL (eVar 0) (eC (.int 1))) [some (.lst (sm a b)), v] = .ok a [some (.lst (sm a b)), v] := by intro v; kernel_rfl
  have p2 : ∀ {v : Option D}, eUn (oXv ["InvalidEffect", "InvalidFacts", "RunFailed"] "position") (eOp oIxL (eVar 0) (eC (.int 2))) [some (.lst (sm a b)), v] = .ok a [some (.lst (sm a b)), v] := by intro v; kernel_rfl
  have p3 : ∀ {v : Option D}, eUn (oXv ["CapacityMismatch"] "first") (eOp oIxL (eVar 0) (eC (.int 3))) [some (.lst (sm a b)), v] = .ok a [some (.lst (sm a b)), v] := by intro v; kernel_rfl
  have p4 : ∀ {v : Option D}, eUn (oXv ["CapacityMismatch"] "second") (eOp oIxL (eVar 0) (eC (.int 3))) [some (.lst (sm a b)), v] = .ok b [some (.lst (sm a b)), v] := by intro v; kernel_rfl
  have p5 : ∀ {v : Option D}, eUn (oXv ["EffectFailed"] "length") (eOp oIxL (eVar 0) (eC (.int 4))) [some (.lst (sm a b)), v] = .ok a [some (.lst (sm a b)), v] := by intro v; kernel_rfl
  have p6 : ∀ {v : Option D}, eUn (oXv ["BufferFailed"] "index") (eOp oIxL (eVar 0) (eC (.int 5))) [some (.lst (sm a b)), v] = .ok a [some (.lst (sm a b)), v] := by intro v; kernel_rfl
  have p7 : ∀ {v : Option D}, eUn (oXv ["LimitExceeded"] "size") (eOp oIxL (eVar 0) (eC (.int 6))) [some (.lst (sm a b)), v] = .ok a [some (.lst (sm a b)), v] := by intro v; kernel_rfl
  refine ⟨[some (.lst (sm a b))], ?_⟩
  unfold fn_law_fields body_law_fields
  rw [v_fn, if_pos (show [D.lst (sm a b)].length = 1 from rfl)]
  show endF_ 1 (sSeq _ _ [some (.lst (sm a b)), none]) = _
  rw [seq_nx (setS_at (v := none) (lstF (consS_at p0 (consS_at p1 (consS_at p2 (consS_at p3 (consS_at p4 (r := aNil) rfl))))) (by show 5 ≤ 1000; decide) (pl_cons ha (pl_cons ha (pl_cons ha (pl_cons ha (pl_cons hb rfl)))))) rfl fre_none)]
  show endF_ 1 (sRet _ [some (.lst (sm a b)), some (.lst [a, a, a, a, b])]) = _
  rw [retS_at (catF (varS_at (i := 1) rfl rfl) (lstF (consS_at p5 (consS_at p6 (consS_at p7 (r := aNil) rfl))) (by show 3 ≤ 1000; decide) (pl_cons ha (pl_cons ha (pl_cons ha rfl)))) (by show 8 ≤ 1000; decide) (pl8 ha hb))]
  rfl
theorem turn2_eq : turn_law_2 = (sSeq (sSet 2 (eCall fn_law_draws [.v (eVar 0), .v (eVar 1)] []))
    (sSeq (sPar [3, 4] (aCons (eFrz (eCall fn_law_argument [.b 2] [])) (aCons (eFrz (eCall fn_law_argument [.b 2] [])) aNil)))
    (sSeq (sSet 5 (eFrz (eCall fn_law_by_position [.v (eVar 3), .v (eVar 4)] [])))
    (sSeq (sFor (iOfA itEL (aCons (eVar 5) aNil)) (gTup [(gVar 6), (gVar 7)]) turn_law_1)
    (sSeq (sSet 12 (eFrz (eN mkLst (aCons (eMkv "InvalidEffect" ["position"] (aCons (eVar 3) aNil)) (aCons (eMkv "InvalidFacts" ["position"] (aCons (eVar 3) aNil)) (aCons (eMkv "RunFailed" ["position"] (aCons (eVar 3) aNil)) aNil))))))
    (sSeq (sSet 12 (eFrz (eOp oCatL (eVar 12) (eFrz (eN mkLst (aCons (eMkr "CapacityMismatch" ["first", "second"] (aCons (eVar 4) (aCons (eVar 3) aNil))) (aCons (eMkv "EffectFailed" ["length"] (aCons (eVar 3) aNil)) aNil)))))))
    (sSeq (sSet 12 (eFrz (eOp oCatL (eVar 12) (eFrz (eN mkLst (aCons (eMkv "BufferFailed" ["index"] (aCons (eVar 3) aNil)) (aCons (eMkv "LimitExceeded" ["size"] (aCons (eVar 3) aNil)) aNil)))))))
    (sSeq (sSet 13 (eFrz (eOp oCatL (eFrz (eOp oCatL (eFrz (eSl oSlL (eVar 5) (some (eC (.int 9))) (some (eC (.int 13))))) (eFrz (eSl oSlL (eVar 5) (some (eC (.int 14))) (some (eC (.int 16))))))) (eFrz (eN mkLst (aCons (eOp oIxL (eVar 5) (eC (.int 17))) aNil))))))
    (sSeq (sSet 10 (eN oReprE (aCons (eFrz (eN mkLst (aCons (eVar 3) (aCons (eVar 3) (aCons (eVar 3) (aCons (eVar 3) (aCons (eVar 4) (aCons (eVar 3) (aCons (eVar 3) (aCons (eVar 3) aNil)))))))))) aNil)))
    (sIf (eOr (eOp oNe (eN oReprE (aCons (eFrz (eCall fn_law_fields [.v (eVar 13)] [])) aNil)) (eVar 10)) (eOp oNe (eN oReprE (aCons (eFrz (eCall fn_law_fields [.v (eVar 12)] [])) aNil)) (eVar 10)))
    (sRet (eC (.bl false)))
    sNil)))))))))) := rfl
theorem argX {ρ : Env} {P P' a : D} (hi : ρ[2]? = some (some (.own 0 P))) (hm : a.isMut = false) (e : fn_law_argument [.own 1 P] = .ok a [some (.own 1 P')]) : eFrz (eCall fn_law_argument [.b 2] []) ρ = .ok a (ρ.set 2 (some (.own 0 P'))) :=
  frzS_at (callO_at (i := 2) (as := []) (ds := []) (dd := []) hi rfl (fun p hp => by simp at hp) e) (frz_pl hm)
section
variable {S v1 : Option D} {a b : D}
theorem t2_ok {ns : List Int} (hns : ns.length ≤ 63) {k : Nat} (hk : k ≤ 1000) (ρ : Env) (hI : LawI 13 ns ρ) : ∃ ρ', (toFl (gVar 1 (.int (k : Nat)) ρ)).bind turn_law_2 = .nx ρ' ∧ LawI 13 ns ρ' := by
  obtain ⟨r, rfl, hr⟩ := hI
  obtain ⟨v1, v2, v3, v4, v5, v6, v7, v8, v9, v10, v11, v12, v13, rfl, o1, o2, o3, o4, o5, o6, o7, o8, o9, o10, o11, o12, o13⟩ := fr13 hr
  obtain ⟨p, hp, e1⟩ := drws (ns := ns) (k := (k : Nat)) hns (by omega) (by omega)
  obtain ⟨a, p1, ha, hp1, e2⟩ := arg_ok hp
  obtain ⟨b, p2, hb, hp2, e3⟩ := arg_ok hp1
  have ma := ha.pl
  have mb := hb.pl
  obtain ⟨oq, e4⟩ := pos_ok ma mb
  have hput := put_at (i := 1) (d := .int (k : Nat)) (ρ := [some (.scr ns), v1, v2, v3, v4, v5, v6, v7, v8, v9, v10, v11, v12, v13]) rfl o1
  have w0 : eVar 0 [some (.scr ns), some (.int (k : Nat)), v2, v3, v4, v5, v6, v7, v8, v9, v10, v11, v12, v13] = .ok (.scr ns) [some (.scr ns), some (.int (k : Nat)), v2, v3, v4, v5, v6, v7, v8, v9, v10, v11, v12, v13] := varS_at rfl rfl
  have w1 : eVar 1 [some (.scr ns), some (.int (k : Nat)), v2, v3, v4, v5, v6, v7, v8, v9, v10, v11, v12, v13] = .ok (.int (k : Nat)) [some (.scr ns), some (.int (k : Nat)), v2, v3, v4, v5, v6, v7, v8, v9, v10, v11, v12, v13] := varS_at rfl rfl
  have s1 : sSet 2 (eCall fn_law_draws [.v (eVar 0), .v (eVar 1)] []) [some (.scr ns), some (.int (k : Nat)), v2, v3, v4, v5, v6, v7, v8, v9, v10, v11, v12, v13] = .nx [some (.scr ns), some (.int (k : Nat)), some (.own 0 p), v3, v4, v5, v6, v7, v8, v9, v10, v11, v12, v13] :=
    setS_at (i := 2) (v := v2) (callS_at (ρ := [some (.scr ns), some (.int (k : Nat)), v2, v3, v4, v5, v6, v7, v8, v9, v10, v11, v12, v13]) (as := [eVar 0, eVar 1]) (ds := [.scr ns, .int (k : Nat)]) (dd := []) rfl (fun q hq => by
      simp only [List.zip_cons_cons, List.zip_nil_right, List.mem_cons, List.not_mem_nil, or_false] at hq
      rcases hq with rfl | rfl
      · exact w0
      · exact w1) e1) rfl o2
  have s2 : sPar [3, 4] (aCons (eFrz (eCall fn_law_argument [.b 2] [])) (aCons (eFrz (eCall fn_law_argument [.b 2] [])) aNil)) [some (.scr ns), some (.int (k : Nat)), some (.own 0 p), v3, v4, v5, v6, v7, v8, v9, v10, v11, v12, v13] = .nx [some (.scr ns), some (.int (k : Nat)), some (.own 0 p2), some a, some b, v5, v6, v7, v8, v9, v10, v11, v12, v13] := by
    have hA : aCons (eFrz (eCall fn_law_argument [.b 2] [])) (aCons (eFrz (eCall fn_law_argument [.b 2] [])) aNil) [some (.scr ns), some (.int (k : Nat)), some (.own 0 p), v3, v4, v5, v6, v7, v8, v9, v10, v11, v12, v13] = .ok [a, b] [some (.scr ns), some (.int (k : Nat)), some (.own 0 p2), v3, v4, v5, v6, v7, v8, v9, v10, v11, v12, v13] :=
      consS_at (argX rfl ma e2) (consS_at (argX (ρ := [some (.scr ns), some (.int (k : Nat)), some (.own 0 p1), v3, v4, v5, v6, v7, v8, v9, v10, v11, v12, v13]) rfl mb e3) rfl)
    have q3 := put_at (i := 3) (d := a) (ρ := [some (.scr ns), some (.int (k : Nat)), some (.own 0 p2), v3, v4, v5, v6, v7, v8, v9, v10, v11, v12, v13]) rfl o3
    have q4 := put_at (i := 4) (d := b) (ρ := [some (.scr ns), some (.int (k : Nat)), some (.own 0 p2), some a, v4, v5, v6, v7, v8, v9, v10, v11, v12, v13]) rfl o4
    unfold sPar
    rw [hA]
    have : putAll [3, 4] [a, b] [some (.scr ns), some (.int (k : Nat)), some (.own 0 p2), v3, v4, v5, v6, v7, v8, v9, v10, v11, v12, v13] = some [some (.scr ns), some (.int (k : Nat)), some (.own 0 p2), some a, some b, v5, v6, v7, v8, v9, v10, v11, v12, v13] := by
      show (U.put 3 a _).bind (putAll [4] [b]) = _
      rw [q3]
      show (U.put 4 b [some (.scr ns), some (.int (k : Nat)), some (.own 0 p2), some a, v4, v5, v6, v7, v8, v9, v10, v11, v12, v13]).bind (putAll [] []) = _
      rw [q4]
      rfl
    simp only [this]
  have w3 : ∀ {y5 y6 y7 y8 y9 y10 y11 y12 y13 : Option D}, eVar 3 [some (.scr ns), some (.int (k : Nat)), some (.own 0 p2), some a, some b, y5, y6, y7, y8, y9, y10, y11, y12, y13] = .ok a _ := varS_at rfl ma
  have w4 : ∀ {y5 y6 y7 y8 y9 y10 y11 y12 y13 : Option D}, eVar 4 [some (.scr ns), some (.int (k : Nat)), some (.own 0 p2), some a, some b, y5, y6, y7, y8, y9, y10, y11, y12, y13] = .ok b _ := varS_at rfl mb
  have s3 : sSet 5 (eFrz (eCall fn_law_by_position [.v (eVar 3), .v (eVar 4)] [])) [some (.scr ns), some (.int (k : Nat)), some (.own 0 p2), some a, some b, v5, v6, v7, v8, v9, v10, v11, v12, v13] = .nx [some (.scr ns), some (.int (k : Nat)), some (.own 0 p2), some a, some b, some (.lst (errs a b)), v6, v7, v8, v9, v10, v11, v12, v13] :=
    setS_at (i := 5) (v := v5) (frzS_at (callS_at (as := [eVar 3, eVar 4]) (ds := [a, b]) (dd := []) rfl (fun q hq => by
      simp only [List.zip_cons_cons, List.zip_nil_right, List.mem_cons, List.not_mem_nil, or_false] at hq
      rcases hq with rfl | rfl
      · exact w3
      · exact w4) e4) rfl) rfl o5
  obtain ⟨ρ4, s4, x6, x7, x8, x9, x10, x11, rfl, p6, p7, p8, p9, p10, p11⟩ := for_inv (g := gTup [gVar 6, gVar 7]) (b := turn_law_1) (TI (some (.scr ns)) (some (.int (k : Nat))) (some (.own 0 p2)) (some a) (some b) (some (.lst (errs a b))) v12 v13) (ds := enumD (errs a b)) (fun d hd ρ hρ => t1_all d hd ρ hρ)
    (ρ := [some (.scr ns), some (.int (k : Nat)), some (.own 0 p2), some a, some b, some (.lst (errs a b)), v6, v7, v8, v9, v10, v11, v12, v13]) ⟨_, _, _, _, _, _, rfl, o6, o7, o8, o9, o10, o11⟩
  have s4' : sFor (iOfA itEL (aCons (eVar 5) aNil)) (gTup [gVar 6, gVar 7]) turn_law_1 [some (.scr ns), some (.int (k : Nat)), some (.own 0 p2), some a, some b, some (.lst (errs a b)), v6, v7, v8, v9, v10, v11, v12, v13] = .nx [some (.scr ns), some (.int (k : Nat)), some (.own 0 p2), some a, some b, some (.lst (errs a b)), x6, x7, x8, x9, x10, x11, v12, v13] := s4
  have f3 : ∀ {c f : String} {y5 y6 y7 y8 y9 y10 y11 y12 y13 : Option D}, eMkv c [f] (aCons (eVar 3) aNil) [some (.scr ns), some (.int (k : Nat)), some (.own 0 p2), some a, some b, y5, y6, y7, y8, y9, y10, y11, y12, y13] = .ok (.exv c [f] [a]) _ := mkS_at (consS_at w3 rfl)
  have f43 : ∀ {c : String} {fs : List String} {y5 y6 y7 y8 y9 y10 y11 y12 y13 : Option D}, eMkr c fs (aCons (eVar 4) (aCons (eVar 3) aNil)) [some (.scr ns), some (.int (k : Nat)), some (.own 0 p2), some a, some b, y5, y6, y7, y8, y9, y10, y11, y12, y13] = .ok (.exv c fs [a, b]) _ := mkR_at (consS_at w4 (consS_at w3 rfl))
  have s5 := setS_at (i := 12) (v := v12) (lstF (ρ := [some (.scr ns), some (.int (k : Nat)), some (.own 0 p2), some a, some b, some (.lst (errs a b)), x6, x7, x8, x9, x10, x11, v12, v13]) (consS_at (f3 (c := "InvalidEffect") (f := "position")) (consS_at (f3 (c := "InvalidFacts") (f := "position")) (consS_at (f3 (c := "RunFailed") (f := "position")) (r := aNil) rfl))) (by show 3 ≤ 1000; decide) rfl) rfl o12
  have s6 := setS_at (i := 12) (v := some (.lst ((sm a b).take 3))) (catF (a := eVar 12) (ρ := [some (.scr ns), some (.int (k : Nat)), some (.own 0 p2), some a, some b, some (.lst (errs a b)), x6, x7, x8, x9, x10, x11, some (.lst ((sm a b).take 3)), v13]) (x := (sm a b).take 3) (varS_at rfl rfl)
    (lstF (consS_at (f43 (c := "CapacityMismatch") (fs := ["first", "second"])) (consS_at (f3 (c := "EffectFailed") (f := "length")) (r := aNil) rfl)) (by show 2 ≤ 1000; decide) rfl) (by show 5 ≤ 1000; decide) rfl) rfl (fre_pl rfl)
  have s7 := setS_at (i := 12) (v := some (.lst ((sm a b).take 5))) (catF (a := eVar 12) (ρ := [some (.scr ns), some (.int (k : Nat)), some (.own 0 p2), some a, some b, some (.lst (errs a b)), x6, x7, x8, x9, x10, x11, some (.lst ((sm a b).take 5)), v13]) (x := (sm a b).take 5) (varS_at rfl rfl)
    (lstF (consS_at (f3 (c := "BufferFailed") (f := "index")) (consS_at (f3 (c := "LimitExceeded") (f := "size")) (r := aNil) rfl)) (by show 2 ≤ 1000; decide) rfl) (by show 7 ≤ 1000; decide) rfl) rfl (fre_pl rfl)
  have hsl : (eFrz (eOp oCatL (eFrz (eOp oCatL (eFrz (eSl oSlL (eVar 5) (some (eC (.int 9))) (some (eC (.int 13))))) (eFrz (eSl oSlL (eVar 5) (some (eC (.int 14))) (some (eC (.int 16))))))) (eFrz (eN mkLst (aCons (eOp oIxL (eVar 5) (eC (.int 17))) aNil))))) [some (.scr ns), some (.int (k : Nat)), some (.own 0 p2), some a, some b, some (.lst (errs a b)), x6, x7, x8, x9, x10, x11, some (.lst (sm a b)), v13] = .ok (.lst (sm a b)) [some (.scr ns), some (.int (k : Nat)), some (.own 0 p2), some a, some b, some (.lst (errs a b)), x6, x7, x8, x9, x10, x11, some (.lst (sm a b)), v13] := by kernel_rfl
  have s8 := setS_at (i := 13) (v := v13) hsl rfl o13
  have hr8 : oReprE [.lst (fl8 a b)] = some (.str (reprE (fl8 a b))) := repr_okE (Nat.le_refl _) fun x hx => by
    simp only [fl8, List.mem_cons, List.not_mem_nil, or_false] at hx
    rcases hx with rfl | rfl | rfl | rfl | rfl | rfl | rfl | rfl <;> assumption
  have nS : ∀ {r : As} {ρ ρ1 : Env}, r ρ = .ok [.lst (fl8 a b)] ρ1 → eN oReprE r ρ = .ok (.str (reprE (fl8 a b))) ρ1 := fun {r ρ ρ1} h => by
    unfold eN
    rw [h]
    simp only [AR.bind, hr8]
    rfl
  have s9 := setS_at (i := 10) (v := x10) (nS (ρ := [some (.scr ns), some (.int (k : Nat)), some (.own 0 p2), some a, some b, some (.lst (errs a b)), x6, x7, x8, x9, x10, x11, some (.lst (sm a b)), some (.lst (sm a b))]) (consS_at (lstF (consS_at w3 (consS_at w3 (consS_at w3 (consS_at w3 (consS_at w4 (consS_at w3 (consS_at w3 (consS_at w3 (r := aNil) rfl)))))))) (by show 8 ≤ 1000; decide) (pl8 ma mb)) (r := aNil) rfl)) rfl p10
  obtain ⟨of, ef⟩ := fld_ok ma mb
  have w12 : eVar 12 [some (.scr ns), some (.int (k : Nat)), some (.own 0 p2), some a, some b, some (.lst (errs a b)), x6, x7, x8, x9, some (.str (reprE (fl8 a b))), x11, some (.lst (sm a b)), some (.lst (sm a b))] = .ok (.lst (sm a b)) [some (.scr ns), some (.int (k : Nat)), some (.own 0 p2), some a, some b, some (.lst (errs a b)), x6, x7, x8, x9, some (.str (reprE (fl8 a b))), x11, some (.lst (sm a b)), some (.lst (sm a b))] := varS_at rfl rfl
  have w13 : eVar 13 [some (.scr ns), some (.int (k : Nat)), some (.own 0 p2), some a, some b, some (.lst (errs a b)), x6, x7, x8, x9, some (.str (reprE (fl8 a b))), x11, some (.lst (sm a b)), some (.lst (sm a b))] = .ok (.lst (sm a b)) [some (.scr ns), some (.int (k : Nat)), some (.own 0 p2), some a, some b, some (.lst (errs a b)), x6, x7, x8, x9, some (.str (reprE (fl8 a b))), x11, some (.lst (sm a b)), some (.lst (sm a b))] := varS_at rfl rfl
  have hc : ∀ i, (i = 12 ∨ i = 13) → eN oReprE (aCons (eFrz (eCall fn_law_fields [.v (eVar i)] [])) aNil) [some (.scr ns), some (.int (k : Nat)), some (.own 0 p2), some a, some b, some (.lst (errs a b)), x6, x7, x8, x9, some (.str (reprE (fl8 a b))), x11, some (.lst (sm a b)), some (.lst (sm a b))] = .ok (.str (reprE (fl8 a b))) [some (.scr ns), some (.int (k : Nat)), some (.own 0 p2), some a, some b, some (.lst (errs a b)), x6, x7, x8, x9, some (.str (reprE (fl8 a b))), x11, some (.lst (sm a b)), some (.lst (sm a b))] := fun i hi =>
    nS (consS_at (frzS_at (callS_at (ρ := [some (.scr ns), some (.int (k : Nat)), some (.own 0 p2), some a, some b, some (.lst (errs a b)), x6, x7, x8, x9, some (.str (reprE (fl8 a b))), x11, some (.lst (sm a b)), some (.lst (sm a b))]) (as := [eVar i]) (ds := [.lst (sm a b)]) (dd := []) rfl (fun q hq => by
      simp only [List.zip_cons_cons, List.zip_nil_right, List.mem_cons, List.not_mem_nil, or_false] at hq
      subst hq
      rcases hi with rfl | rfl
      · exact w12
      · exact w13) ef) rfl) (r := aNil) rfl)
  have h10 : eVar 10 [some (.scr ns), some (.int (k : Nat)), some (.own 0 p2), some a, some b, some (.lst (errs a b)), x6, x7, x8, x9, some (.str (reprE (fl8 a b))), x11, some (.lst (sm a b)), some (.lst (sm a b))] = .ok (.str (reprE (fl8 a b))) _ := varS_at rfl rfl
  have s10 := if_f (t := sRet (eC (.bl false))) (e := sNil) ((orS_f (opS_at (hc 13 (.inr rfl)) h10 (neS_self (by simp only [okD])))).trans (opS_at (hc 12 (.inl rfl)) h10 (neS_self (by simp only [okD]))))
  refine ⟨[some (.scr ns), some (.int (k : Nat)), some (.own 0 p2), some a, some b, some (.lst (errs a b)), x6, x7, x8, x9, some (.str (reprE (fl8 a b))), x11, some (.lst (sm a b)), some (.lst (sm a b))], ?_, _, rfl, rfl, ?_⟩
  · show (toFl (U.put 1 (.int (k : Nat)) _)).bind turn_law_2 = _
    rw [hput]
    show turn_law_2 [some (.scr ns), some (.int (k : Nat)), v2, v3, v4, v5, v6, v7, v8, v9, v10, v11, v12, v13] = _
    rw [turn2_eq, seq_nx s1, seq_nx s2, seq_nx s3, seq_nx s4', seq_nx s5]
    show sSeq _ _ [some (.scr ns), some (.int (k : Nat)), some (.own 0 p2), some a, some b, some (.lst (errs a b)), x6, x7, x8, x9, x10, x11, some (.lst ((sm a b).take 3)), v13] = _
    rw [seq_nx s6]
    show sSeq _ _ [some (.scr ns), some (.int (k : Nat)), some (.own 0 p2), some a, some b, some (.lst (errs a b)), x6, x7, x8, x9, x10, x11, some (.lst ((sm a b).take 5)), v13] = _
    rw [seq_nx s7]
    show sSeq _ _ [some (.scr ns), some (.int (k : Nat)), some (.own 0 p2), some a, some b, some (.lst (errs a b)), x6, x7, x8, x9, x10, x11, some (.lst (sm a b)), v13] = _
    rw [seq_nx s8]
    show sSeq _ _ [some (.scr ns), some (.int (k : Nat)), some (.own 0 p2), some a, some b, some (.lst (errs a b)), x6, x7, x8, x9, x10, x11, some (.lst (sm a b)), some (.lst (sm a b))] = _
    rw [seq_nx s9]
    exact s10
  · exact ⟨fre_pl rfl, fre_own, fre_pl ma, fre_pl mb, fre_pl rfl, p6, p7, p8, p9, fre_pl rfl, p11, fre_pl rfl, fre_pl rfl, trivial⟩
end
theorem law_holds (ns : List Int) (hns : ns.length ≤ 63) : ∃ o, fn_law [.scr ns] = .ok (.bl true) o := by
  obtain ⟨ρ', e, _⟩ := all_cells (b := turn_law_2) (n := 13) hns (fun k hk ρ hρ => t2_ok hns hk ρ hρ) (ρ := some (.scr ns) :: List.replicate 13 none) ⟨_, rfl, frE_nones 13⟩
  unfold fn_law body_law
  exact law_end (m := 13) e
end U
namespace Q
open PySem PySem.Spec PyProof.Rows L2
variable {P : Program} {w : World} {K : PySem.W.Frag} {mg : Str → Option Value} {base : Heap}
local macro_rules | `(tactic| walk_at "rd") => `(tactic| simp only [tRet, tRetN, tSeq, tNext, tAsg, gName, gTup, gCons, gNil, gSub, tDrop, tIfS, tIf, tB, tTest, tAnd, tOr, tNot, tAndV, tOrV, tNotV, tVar, tC, tOp, tUn, rI, rI0, rU, tCons, tNil, tCB, tTup, tLst, tCall, tCallS, tCallSD, wOnly, WE, tPar, tPar3, tAug, ipI, tSl, tPart, tNoPart, tChain, tBM, tBM0, tM0, tM1, tYes, Q.tFor_eq, Q.tLc_eq, iRng1, iRng2, iList, iTup, iStr, iEnumS, rEq, rNe, rIxS, rIxL, rIxT, rSlL, rAll, rAny, rSum, wAs, wX, Ends.gone, tJs, tFmt, reduceCtorEq, false_and, exists_false, Q.tBy1, Q.tMk1, Q.tWhile_eq, tIfW, wCmp, wNm, wE, rAppend, rPop, CDiv, Q.cpow_9, Q.cpow_18, Q.cpow_20, Q.cpow_29, Q.cpow_30, sizeLine_eq, Nat.reduceLeDiff, Nat.reduceLT, Nat.zero_le, rRep, rCat, tDNewK, rSlS, Int.reduceNeg, Int.reduceToNat, Nat.reduceMul, Int.reducePow, List.flatten_cons, List.flatten_nil, ge_iff_le, gt_iff_lt, Int.reduceLE, Int.reduceLT, Q.rIxM, rSetL, Q.atI_zero, Q.atI_one, Q.ixN_20, Q.ixN_21, upd_same, upd_upd, HO.lst.injEq, HO.tup.injEq, Q.scal_ii, Q.scal_ss, Q.scal_bb, Q.rIsiA, Q.tyIs_str, Q.tyIs_int, Q.tyIs_bool, cxOf, L2.start, wipe, List.map_cons, List.map_nil, List.length_cons, List.length_nil, List.getElem?_cons_zero, List.getElem?_cons_succ, List.cons_append, List.nil_append, List.append_nil, List.set_cons_zero, List.set_cons_succ, Nat.reduceAdd, Nat.reduceSub, List.reduceReplicate, Option.some.injEq, List.cons.injEq, V.bl.injEq, V.int.injEq, V.str.injEq, V.ref.injEq, V.ty.injEq, and_assoc, and_true, true_and, exists_eq_left, exists_eq_left', exists_eq_right, exists_eq_right', exists_and_left, exists_eq, ite_true, ite_false, if_true, if_false, Bool.not_true, Bool.not_false, decide_eq_true_eq, Bool.not_eq_true', or_true, true_or, String.reduceEq, or_false, false_or, Bool.true_eq_false, Bool.false_eq_true])
end Q
namespace Q
open PySem PySem.Spec PyProof.Rows L2 U
variable {P : Program} {w : World} {K : PySem.W.Frag} {mg : Str → Option Value} {base : Heap}
theorem okU_law_draws (T : Txt K mg) : FnOk P w K mg base (L2.CX P w) 1 (He.ga K "_law_draws") (fdA K (He.ga K "_law_draws")) ["_law_script", "_law_k"] (spD K fn_law_draws) :=
  fn_ok (b := body_law_draws) T.F_law_draws sc_law_draws rfl rfl (fun cdv A outer s H E B hr => (s_cons (s_set (ps_set (i := 2) sc_law_draws.nd rfl (by first | exact Or.inl rfl | exact Or.inr rfl) (d_dm (d_c c_int pe_int))))
      (s_cons (s_if (ps_if (t_op p_neScr (pt_cmpR (op_neD hr.units) (d_var (pv 0)) (d_frz (d_lst (pe_lst a_nil))) (nomark _)))
      (s_one (s_set (ps_set (i := 2) sc_law_draws.nd rfl (by first | exact Or.inl rfl | exact Or.inr rfl) (d_dm (d_op p_ixScr (pe_ix ix_list (d_var (pv 0)) (d_op p_mod (pe_op op_mod (d_var (pv 1)) (d_n p_lenScr (pe_callB call_len_seq rfl T.b_len (by decide +kernel) (a_cons (d_var (pv 0)) a_nil))))) (fun _ _ => rfl)))))))
      s_nil))
      (s_cons (s_if (ps_if (t_op p_ge (pt_cmpR op_ge (d_var (pv 1)) (d_n p_lenScr (pe_callB call_len_seq rfl T.b_len (by decide +kernel) (a_cons (d_var (pv 0)) a_nil))) (nomark _)))
      (s_one (s_set (ps_set (i := 2) sc_law_draws.nd rfl (by first | exact Or.inl rfl | exact Or.inr rfl) (d_dm (d_op p_mod (pe_op op_mod (d_var (pv 2)) (d_c c_int pe_int)))))))
      s_nil))
      (s_cons (s_set (ps_set (i := 3) sc_law_draws.nd rfl (by first | exact Or.inl rfl | exact Or.inr rfl) (d_dm (d_op p_mod (pe_op op_mod (d_op p_mul (pe_op op_mul (d_op p_add (pe_op op_add (d_op p_add (pe_op op_add (d_op p_mod (pe_op op_mod (d_var (pv 2)) (d_c c_int pe_int))) (d_op p_mul (pe_op op_mul (d_c c_int pe_int) (d_var (pv 1)))))) (d_c c_int pe_int))) (d_c c_int pe_int))) (d_c c_int pe_int))))))
      (s_one (s_ret (ps_ret (d_lst (pe_lst (a_cons (d_op p_mul (pe_op op_mul (d_var (pv 2)) (d_n p_int (pe_callTy call_int1 rfl T.b_int (by decide +kernel) (a_cons (d_op p_ge (pe_cmpR op_ge (d_var (pv 2)) (d_op p_pow (pe_op op_pow (d_c c_int pe_int) (d_c c_int pe_int))) (nomark _))) a_nil))))) (a_cons (d_var (pv 3)) a_nil))))))))))))
theorem okU_law_draw (T : Txt K mg) : FnOk P w K mg base (L2.CX P w) 1 (He.ga K "_law_draw") (fdA K (He.ga K "_law_draw")) ["_law_draws_here", "_law_upto"] (spD K fn_law_draw) :=
  fn_ok (b := body_law_draw) T.F_law_draw sc_law_draw rfl rfl (fun cdv A outer s H E B hr => (s_cons (s_if (ps_if (t_op p_gt (pt_cmpR op_gt (d_ixO (pe_ix Q.ix_listM (pv 0) (d_c c_int pe_int) (fun _ _ => rfl))) (d_c c_int pe_int) (nomark _)))
      (s_cons (s_set (ps_set (i := 2) sc_law_draw.nd rfl (by first | exact Or.inl rfl | exact Or.inr rfl) (d_dm (d_op p_mod (pe_op op_mod (d_ixO (pe_ix Q.ix_listM (pv 0) (d_c c_int pe_int) (fun _ _ => rfl))) (d_var (pv 1)))))))
      (s_cons (s_putO (ps_asg (d_op p_div (pe_op op_fdivW (d_ixO (pe_ix Q.ix_listM (pv 0) (d_c c_int pe_int) (fun _ _ => rfl))) (d_var (pv 1)))) (pg_sub (pv 0) (d_c c_int pe_int) set_list)))
      (s_one (s_ret (ps_ret (d_dm (d_var (pv 2))))))))
      s_nil))
      (s_cons (s_putO (ps_asg (d_op p_mod (pe_op op_mod (d_op p_add (pe_op op_add (d_op p_mul (pe_op op_mul (d_ixO (pe_ix Q.ix_listM (pv 0) (d_c c_int pe_int) (fun _ _ => rfl))) (d_c c_int pe_int))) (d_c c_int pe_int))) (d_c c_int pe_int))) (pg_sub (pv 0) (d_c c_int pe_int) set_list)))
      (s_one (s_ret (ps_ret (d_dm (d_op p_mod (pe_op op_mod (d_op p_div (pe_op op_fdivW (d_op p_mod (pe_op op_mod (d_op p_mul (pe_op op_mul (d_ixO (pe_ix Q.ix_listM (pv 0) (d_c c_int pe_int) (fun _ _ => rfl))) (d_ixO (pe_ix Q.ix_listM (pv 0) (d_c c_int pe_int) (fun _ _ => rfl))))) (d_c c_int pe_int))) (d_c c_int pe_int))) (d_var (pv 1)))))))))))
theorem okU_law_argument (T : Txt K mg) : FnOk P w K mg base (L2.CX P w) 2 (He.ga K "_law_argument") (fdA K (He.ga K "_law_argument")) ["_law_draws_here"] (spD K fn_law_argument) :=
  fn_ok (b := body_law_argument) T.F_law_argument sc_law_argument rfl rfl (fun cdv A outer s H E B hr => (s_cons (s_set (ps_set (i := 1) sc_law_argument.nd rfl (by first | exact Or.inl rfl | exact Or.inr rfl) (d_dm (d_op p_sub (pe_op op_sub (d_op p_mul (pe_op op_mul (d_frz (d_call c_nil (pe_callW (okU_law_draw T) (hr.mono (by omega)) rfl T.g_law_draw T.F_law_draw.kp (bd_law_draw T) (fun σ => passAt (takes_of rfl rfl rfl rfl) σ) (g_b (pv 0) (g_v (d_op p_pow (pe_op op_pow (d_c c_int pe_int) (d_c c_int pe_int))) g_nil))))) (d_op p_pow (pe_op op_pow (d_c c_int pe_int) (d_c c_int pe_int))))) (d_c c_int pe_int))))))
      (s_one (s_ret (ps_ret (d_dm (d_op p_ixL (pe_ix ix_list (d_frz (d_lst (pe_lst (a_cons (d_c c_non pe_non) (a_cons (d_c (c_str (by decide +kernel)) pe_str) (a_cons (d_var (pv 1)) (a_cons (d_frz (d_call c_nil (pe_callW (okU_law_draw T) (hr.mono (by omega)) rfl T.g_law_draw T.F_law_draw.kp (bd_law_draw T) (fun σ => passAt (takes_of rfl rfl rfl rfl) σ) (g_b (pv 0) (g_v (d_c c_int pe_int) g_nil))))) (a_cons (d_c (c_str (by decide +kernel)) pe_str) (a_cons (d_tup (pe_tup (a_cons (d_c (c_str (by decide +kernel)) pe_str) (a_cons (d_c c_int pe_int) a_nil)))) (a_cons (d_frz (d_lst (pe_lst (a_cons (d_c c_int pe_int) a_nil)))) (a_cons (d_dic0 pe_dnewK) a_nil))))))))))) (d_frz (d_call c_nil (pe_callW (okU_law_draw T) (hr.mono (by omega)) rfl T.g_law_draw T.F_law_draw.kp (bd_law_draw T) (fun σ => passAt (takes_of rfl rfl rfl rfl) σ) (g_b (pv 0) (g_v (d_c c_int pe_int) g_nil))))) (fun _ _ => rfl)))))))))
theorem okU_law_by_position (T : Txt K mg) : FnOk P w K mg base (L2.CX P w) 1 (He.ga K "_law_by_position") (fdA K (He.ga K "_law_by_position")) ["_law_one", "_law_two"] (spD K fn_law_by_position) :=
  fn_ok (b := body_law_by_position) T.F_law_by_position sc_law_by_position rfl rfl (fun cdv A outer s H E B hr => (s_cons (s_set (ps_set (i := 2) sc_law_by_position.nd rfl (by first | exact Or.inl rfl | exact Or.inr rfl) (d_dm (d_frz (d_lst (pe_lst (a_cons (d_mkv0 rfl (pmk_own PySem.F.excBase_ValueError T.x_InvalidInteger.x T.g_InvalidInteger T.x_InvalidInteger.k (raises_own T.x_InvalidInteger.b T.x_InvalidInteger.t) rfl rfl)) (a_cons (d_mkv0 rfl (pmk_own PySem.F.excBase_ValueError T.x_InvalidLetter.x T.g_InvalidLetter T.x_InvalidLetter.k (raises_own T.x_InvalidLetter.b T.x_InvalidLetter.t) rfl rfl)) (a_cons (d_mkv0 rfl (pmk_own PySem.F.excBase_ValueError T.x_InvalidCapacity.x T.g_InvalidCapacity T.x_InvalidCapacity.k (raises_own T.x_InvalidCapacity.b T.x_InvalidCapacity.t) rfl rfl)) (a_cons (d_mkv0 rfl (pmk_own PySem.F.excBase_ValueError T.x_InvalidMode.x T.g_InvalidMode T.x_InvalidMode.k (raises_own T.x_InvalidMode.b T.x_InvalidMode.t) rfl rfl)) (a_cons (d_mkv0 rfl (pmk_own PySem.F.excBase_ValueError T.x_InvalidQueue.x T.g_InvalidQueue T.x_InvalidQueue.k (raises_own T.x_InvalidQueue.b T.x_InvalidQueue.t) rfl rfl)) a_nil)))))))))))
      (s_cons (s_set (ps_set (i := 2) sc_law_by_position.nd rfl (by first | exact Or.inl rfl | exact Or.inr rfl) (d_dm (d_frz (d_opM p_catL (pe_op op_catR (d_var (pv 2)) (d_frz (d_lst (pe_lst (a_cons (d_mkv0 rfl (pmk_own PySem.F.excBase_ValueError T.x_InvalidProgram.x T.g_InvalidProgram T.x_InvalidProgram.k (raises_own T.x_InvalidProgram.b T.x_InvalidProgram.t) rfl rfl)) (a_cons (d_mkv0 rfl (pmk_own PySem.F.excBase_ValueError T.x_InvalidUser.x T.g_InvalidUser T.x_InvalidUser.k (raises_own T.x_InvalidUser.b T.x_InvalidUser.t) rfl rfl)) (a_cons (d_mkv0 rfl (pmk_own PySem.F.excBase_ValueError T.x_InvalidText.x T.g_InvalidText T.x_InvalidText.k (raises_own T.x_InvalidText.b T.x_InvalidText.t) rfl rfl)) (a_cons (d_mkv0 rfl (pmk_own PySem.F.excBase_ValueError T.x_InvalidCommand.x T.g_InvalidCommand T.x_InvalidCommand.k (raises_own T.x_InvalidCommand.b T.x_InvalidCommand.t) rfl rfl)) a_nil)))))))))))))
      (s_cons (s_set (ps_set (i := 2) sc_law_by_position.nd rfl (by first | exact Or.inl rfl | exact Or.inr rfl) (d_dm (d_frz (d_opM p_catL (pe_op op_catR (d_var (pv 2)) (d_frz (d_lst (pe_lst (a_cons (d_mkv1 rfl len1 (Q.pmk_1 PySem.F.excBase_ValueError T.x_InvalidEffect (init_InvalidEffect T) T.g_InvalidEffect hr rfl (a_cons (d_var (pv 0)) a_nil))) (a_cons (d_mkv1 rfl len1 (Q.pmk_1 PySem.F.excBase_ValueError T.x_InvalidFacts (init_InvalidFacts T) T.g_InvalidFacts hr rfl (a_cons (d_var (pv 0)) a_nil))) (a_cons (d_mkv1 rfl len1 (Q.pmk_1 PySem.F.excBase_ValueError T.x_RunFailed (init_RunFailed T) T.g_RunFailed hr rfl (a_cons (d_var (pv 0)) a_nil))) (a_cons (d_mkv2 rfl len2 (Q.pmk_2 PySem.F.excBase_ValueError (by decide) T.x_CapacityMismatch (init_CapacityMismatch T) T.g_CapacityMismatch hr rfl (a_cons (d_var (pv 0)) (a_cons (d_var (pv 1)) a_nil)))) a_nil)))))))))))))
      (s_cons (s_set (ps_set (i := 2) sc_law_by_position.nd rfl (by first | exact Or.inl rfl | exact Or.inr rfl) (d_dm (d_frz (d_opM p_catL (pe_op op_catR (d_var (pv 2)) (d_frz (d_lst (pe_lst (a_cons (d_mkv0 rfl (pmk_own PySem.F.excBase_LookupError T.x_EmptyQueue.x T.g_EmptyQueue T.x_EmptyQueue.k (raises_own T.x_EmptyQueue.b T.x_EmptyQueue.t) rfl rfl)) (a_cons (d_mkv1 rfl len1 (Q.pmk_1 PySem.F.excBase_LookupError T.x_EffectFailed (init_EffectFailed T) T.g_EffectFailed hr rfl (a_cons (d_var (pv 0)) a_nil))) (a_cons (d_mkv1 rfl len1 (Q.pmk_1 PySem.F.excBase_LookupError T.x_BufferFailed (init_BufferFailed T) T.g_BufferFailed hr rfl (a_cons (d_var (pv 0)) a_nil))) (a_cons (d_mkv0 rfl (pmk_own PySem.F.excBase_OverflowError T.x_FullQueue.x T.g_FullQueue T.x_FullQueue.k (raises_own T.x_FullQueue.b T.x_FullQueue.t) rfl rfl)) (a_cons (d_mkv1 rfl len1 (Q.pmk_1 PySem.F.excBase_OverflowError T.x_LimitExceeded (init_LimitExceeded T) T.g_LimitExceeded hr rfl (a_cons (d_var (pv 0)) a_nil))) a_nil))))))))))))))
      (s_one (s_ret (ps_ret (d_dm (d_frz (d_opM p_catL (pe_op op_catR (d_var (pv 2)) (d_frz (d_lst (pe_lst (a_cons (d_mkv0 rfl (pmk_own PySem.F.excBase_RuntimeError T.x_NothingToUndo.x T.g_NothingToUndo T.x_NothingToUndo.k (raises_own T.x_NothingToUndo.b T.x_NothingToUndo.t) rfl rfl)) a_nil))))))))))))))))
theorem okU_law_classes (T : Txt K mg) : FnOk P w K mg base (L2.CX P w) 1 (He.ga K "_law_classes") (fdA K (He.ga K "_law_classes")) ["_law_e"] (spD K fn_law_classes) :=
  fn_ok (b := body_law_classes) T.F_law_classes sc_law_classes rfl rfl (fun cdv A outer s H E B hr => (s_cons (s_set (ps_set (i := 1) sc_law_classes.nd rfl (by first | exact Or.inl rfl | exact Or.inr rfl) (d_dm (d_frz (d_lst (pe_lst (a_cons (d_isv (tb := [("QueueError", false), ("InvalidInteger", true), ("InvalidLetter", false), ("InvalidCapacity", false), ("InvalidMode", false), ("InvalidQueue", false), ("InvalidProgram", false), ("InvalidUser", false), ("InvalidText", false), ("InvalidCommand", false), ("InvalidEffect", false), ("InvalidFacts", false), ("CapacityMismatch", false), ("RunFailed", false), ("EmptyQueue", false), ("EffectFailed", false), ("BufferFailed", false), ("FullQueue", false), ("LimitExceeded", false), ("NothingToUndo", false)]) (fun u h => by cases h; rfl) (fun p hp => ⟨T.xcv p.1 (isv_mem hp), T.isv_InvalidInteger p hp⟩) (pe_callB call_isV rfl T.b_isinstance (by decide +kernel) (pa_cons (d_var (pv 0)) (pa_cons (pe_gc (v := .ref _) rfl ⟨_, T.g_InvalidInteger, rfl⟩) pa_nil)))) (a_cons (d_isv (tb := [("QueueError", false), ("InvalidInteger", false), ("InvalidLetter", true), ("InvalidCapacity", false), ("InvalidMode", false), ("InvalidQueue", false), ("InvalidProgram", false), ("InvalidUser", false), ("InvalidText", false), ("InvalidCommand", false), ("InvalidEffect", false), ("InvalidFacts", false), ("CapacityMismatch", false), ("RunFailed", false), ("EmptyQueue", false), ("EffectFailed", false), ("BufferFailed", false), ("FullQueue", false), ("LimitExceeded", false), ("NothingToUndo", false)]) (fun u h => by cases h; rfl) (fun p hp => ⟨T.xcv p.1 (isv_mem hp), T.isv_InvalidLetter p hp⟩) (pe_callB call_isV rfl T.b_isinstance (by decide +kernel) (pa_cons (d_var (pv 0)) (pa_cons (pe_gc (v := .ref _) rfl ⟨_, T.g_InvalidLetter, rfl⟩) pa_nil)))) (a_cons (d_isv (tb := [("QueueError", false), ("InvalidInteger", false), ("InvalidLetter", false), ("InvalidCapacity", true), ("InvalidMode", false), ("InvalidQueue", false), ("InvalidProgram", false), ("InvalidUser", false), ("InvalidText", false), ("InvalidCommand", false), ("InvalidEffect", false), ("InvalidFacts", false), ("CapacityMismatch", false), ("RunFailed", false), ("EmptyQueue", false), ("EffectFailed", false), ("BufferFailed", false), ("FullQueue", false), ("LimitExceeded", false), ("NothingToUndo", false)]) (fun u h => by cases h; rfl) (fun p hp => ⟨T.xcv p.1 (isv_mem hp), T.isv_InvalidCapacity p hp⟩) (pe_callB call_isV rfl T.b_isinstance (by decide +kernel) (pa_cons (d_var (pv 0)) (pa_cons (pe_gc (v := .ref _) rfl ⟨_, T.g_InvalidCapacity, rfl⟩) pa_nil)))) a_nil)))))))))
      (s_cons (s_set (ps_set (i := 1) sc_law_classes.nd rfl (by first | exact Or.inl rfl | exact Or.inr rfl) (d_dm (d_frz (d_opM p_catL (pe_op op_catR (d_var (pv 1)) (d_frz (d_lst (pe_lst (a_cons (d_isv (tb := [("QueueError", false), ("InvalidInteger", false), ("InvalidLetter", false), ("InvalidCapacity", false), ("InvalidMode", true), ("InvalidQueue", false), ("InvalidProgram", false), ("InvalidUser", false), ("InvalidText", false), ("InvalidCommand", false), ("InvalidEffect", false), ("InvalidFacts", false), ("CapacityMismatch", false), ("RunFailed", false), ("EmptyQueue", false), ("EffectFailed", false), ("BufferFailed", false), ("FullQueue", false), ("LimitExceeded", false), ("NothingToUndo", false)]) (fun u h => by cases h; rfl) (fun p hp => ⟨T.xcv p.1 (isv_mem hp), T.isv_InvalidMode p hp⟩) (pe_callB call_isV rfl T.b_isinstance (by decide +kernel) (pa_cons (d_var (pv 0)) (pa_cons (pe_gc (v := .ref _) rfl ⟨_, T.g_InvalidMode, rfl⟩) pa_nil)))) (a_cons (d_isv (tb := [("QueueError", false), ("InvalidInteger", false), ("InvalidLetter", false), ("InvalidCapacity", false), ("InvalidMode", false), ("InvalidQueue", true), ("InvalidProgram", false), ("InvalidUser", false), ("InvalidText", false), ("InvalidCommand", false), ("InvalidEffect", false), ("InvalidFacts", false), ("CapacityMismatch", false), ("RunFailed", false), ("EmptyQueue", false), ("EffectFailed", false), ("BufferFailed", false), ("FullQueue", false), ("LimitExceeded", false), ("NothingToUndo", false)]) (fun u h => by cases h; rfl) (fun p hp => ⟨T.xcv p.1 (isv_mem hp), T.isv_InvalidQueue p hp⟩) (pe_callB call_isV rfl T.b_isinstance (by decide +kernel) (pa_cons (d_var (pv 0)) (pa_cons (pe_gc (v := .ref _) rfl ⟨_, T.g_InvalidQueue, rfl⟩) pa_nil)))) (a_cons (d_isv (tb := [("QueueError", false), ("InvalidInteger", false), ("InvalidLetter", false), ("InvalidCapacity", false), ("InvalidMode", false), ("InvalidQueue", false), ("InvalidProgram", true), ("InvalidUser", false), ("InvalidText", false), ("InvalidCommand", false), ("InvalidEffect", false), ("InvalidFacts", false), ("CapacityMismatch", false), ("RunFailed", false), ("EmptyQueue", false), ("EffectFailed", false), ("BufferFailed", false), ("FullQueue", false), ("LimitExceeded", false), ("NothingToUndo", false)]) (fun u h => by cases h; rfl) (fun p hp => ⟨T.xcv p.1 (isv_mem hp), T.isv_InvalidProgram p hp⟩) (pe_callB call_isV rfl T.b_isinstance (by decide +kernel) (pa_cons (d_var (pv 0)) (pa_cons (pe_gc (v := .ref _) rfl ⟨_, T.g_InvalidProgram, rfl⟩) pa_nil)))) a_nil))))))))))))
      (s_cons (s_set (ps_set (i := 1) sc_law_classes.nd rfl (by first | exact Or.inl rfl | exact Or.inr rfl) (d_dm (d_frz (d_opM p_catL (pe_op op_catR (d_var (pv 1)) (d_frz (d_lst (pe_lst (a_cons (d_isv (tb := [("QueueError", false), ("InvalidInteger", false), ("InvalidLetter", false), ("InvalidCapacity", false), ("InvalidMode", false), ("InvalidQueue", false), ("InvalidProgram", false), ("InvalidUser", true), ("InvalidText", false), ("InvalidCommand", false), ("InvalidEffect", false), ("InvalidFacts", false), ("CapacityMismatch", false), ("RunFailed", false), ("EmptyQueue", false), ("EffectFailed", false), ("BufferFailed", false), ("FullQueue", false), ("LimitExceeded", false), ("NothingToUndo", false)]) (fun u h => by cases h; rfl) (fun p hp => ⟨T.xcv p.1 (isv_mem hp), T.isv_InvalidUser p hp⟩) (pe_callB call_isV rfl T.b_isinstance (by decide +kernel) (pa_cons (d_var (pv 0)) (pa_cons (pe_gc (v := .ref _) rfl ⟨_, T.g_InvalidUser, rfl⟩) pa_nil)))) (a_cons (d_isv (tb := [("QueueError", false), ("InvalidInteger", false), ("InvalidLetter", false), ("InvalidCapacity", false), ("InvalidMode", false), ("InvalidQueue", false), ("InvalidProgram", false), ("InvalidUser", false), ("InvalidText", true), ("InvalidCommand", false), ("InvalidEffect", false), ("InvalidFacts", false), ("CapacityMismatch", false), ("RunFailed", false), ("EmptyQueue", false), ("EffectFailed", false), ("BufferFailed", false), ("FullQueue", false), ("LimitExceeded", false), ("NothingToUndo", false)]) (fun u h => by cases h; rfl) (fun p hp => ⟨T.xcv p.1 (isv_mem hp), T.isv_InvalidText p hp⟩) (pe_callB call_isV rfl T.b_isinstance (by decide +kernel) (pa_cons (d_var (pv 0)) (pa_cons (pe_gc (v := .ref _) rfl ⟨_, T.g_InvalidText, rfl⟩) pa_nil)))) (a_cons (d_isv (tb := [("QueueError", false), ("InvalidInteger", false), ("InvalidLetter", false), ("InvalidCapacity", false), ("InvalidMode", false), ("InvalidQueue", false), ("InvalidProgram", false), ("InvalidUser", false), ("InvalidText", false), ("InvalidCommand", true), ("InvalidEffect", false), ("InvalidFacts", false), ("CapacityMismatch", false), ("RunFailed", false), ("EmptyQueue", false), ("EffectFailed", false), ("BufferFailed", false), ("FullQueue", false), ("LimitExceeded", false), ("NothingToUndo", false)]) (fun u h => by cases h; rfl) (fun p hp => ⟨T.xcv p.1 (isv_mem hp), T.isv_InvalidCommand p hp⟩) (pe_callB call_isV rfl T.b_isinstance (by decide +kernel) (pa_cons (d_var (pv 0)) (pa_cons (pe_gc (v := .ref _) rfl ⟨_, T.g_InvalidCommand, rfl⟩) pa_nil)))) a_nil))))))))))))
      (s_cons (s_set (ps_set (i := 1) sc_law_classes.nd rfl (by first | exact Or.inl rfl | exact Or.inr rfl) (d_dm (d_frz (d_opM p_catL (pe_op op_catR (d_var (pv 1)) (d_frz (d_lst (pe_lst (a_cons (d_isv (tb := [("QueueError", false), ("InvalidInteger", false), ("InvalidLetter", false), ("InvalidCapacity", false), ("InvalidMode", false), ("InvalidQueue", false), ("InvalidProgram", false), ("InvalidUser", false), ("InvalidText", false), ("InvalidCommand", false), ("InvalidEffect", true), ("InvalidFacts", false), ("CapacityMismatch", false), ("RunFailed", false), ("EmptyQueue", false), ("EffectFailed", false), ("BufferFailed", false), ("FullQueue", false), ("LimitExceeded", false), ("NothingToUndo", false)]) (fun u h => by cases h; rfl) (fun p hp => ⟨T.xcv p.1 (isv_mem hp), T.isv_InvalidEffect p hp⟩) (pe_callB call_isV rfl T.b_isinstance (by decide +kernel) (pa_cons (d_var (pv 0)) (pa_cons (pe_gc (v := .ref _) rfl ⟨_, T.g_InvalidEffect, rfl⟩) pa_nil)))) (a_cons (d_isv (tb := [("QueueError", false), ("InvalidInteger", false), ("InvalidLetter", false), ("InvalidCapacity", false), ("InvalidMode", false), ("InvalidQueue", false), ("InvalidProgram", false), ("InvalidUser", false), ("InvalidText", false), ("InvalidCommand", false), ("InvalidEffect", false), ("InvalidFacts", true), ("CapacityMismatch", false), ("RunFailed", false), ("EmptyQueue", false), ("EffectFailed", false), ("BufferFailed", false), ("FullQueue", false), ("LimitExceeded", false), ("NothingToUndo", false)]) (fun u h => by cases h; rfl) (fun p hp => ⟨T.xcv p.1 (isv_mem hp), T.isv_InvalidFacts p hp⟩) (pe_callB call_isV rfl T.b_isinstance (by decide +kernel) (pa_cons (d_var (pv 0)) (pa_cons (pe_gc (v := .ref _) rfl ⟨_, T.g_InvalidFacts, rfl⟩) pa_nil)))) (a_cons (d_isv (tb := [("QueueError", false), ("InvalidInteger", false), ("InvalidLetter", false), ("InvalidCapacity", false), ("InvalidMode", false), ("InvalidQueue", false), ("InvalidProgram", false), ("InvalidUser", false), ("InvalidText", false), ("InvalidCommand", false), ("InvalidEffect", false), ("InvalidFacts", false), ("CapacityMismatch", false), ("RunFailed", true), ("EmptyQueue", false), ("EffectFailed", false), ("BufferFailed", false), ("FullQueue", false), ("LimitExceeded", false), ("NothingToUndo", false)]) (fun u h => by cases h; rfl) (fun p hp => ⟨T.xcv p.1 (isv_mem hp), T.isv_RunFailed p hp⟩) (pe_callB call_isV rfl T.b_isinstance (by decide +kernel) (pa_cons (d_var (pv 0)) (pa_cons (pe_gc (v := .ref _) rfl ⟨_, T.g_RunFailed, rfl⟩) pa_nil)))) a_nil))))))))))))
      (s_cons (s_set (ps_set (i := 1) sc_law_classes.nd rfl (by first | exact Or.inl rfl | exact Or.inr rfl) (d_dm (d_frz (d_opM p_catL (pe_op op_catR (d_var (pv 1)) (d_frz (d_lst (pe_lst (a_cons (d_isv (tb := [("QueueError", false), ("InvalidInteger", false), ("InvalidLetter", false), ("InvalidCapacity", false), ("InvalidMode", false), ("InvalidQueue", false), ("InvalidProgram", false), ("InvalidUser", false), ("InvalidText", false), ("InvalidCommand", false), ("InvalidEffect", false), ("InvalidFacts", false), ("CapacityMismatch", true), ("RunFailed", false), ("EmptyQueue", false), ("EffectFailed", false), ("BufferFailed", false), ("FullQueue", false), ("LimitExceeded", false), ("NothingToUndo", false)]) (fun u h => by cases h; rfl) (fun p hp => ⟨T.xcv p.1 (isv_mem hp), T.isv_CapacityMismatch p hp⟩) (pe_callB call_isV rfl T.b_isinstance (by decide +kernel) (pa_cons (d_var (pv 0)) (pa_cons (pe_gc (v := .ref _) rfl ⟨_, T.g_CapacityMismatch, rfl⟩) pa_nil)))) (a_cons (d_isv (tb := [("QueueError", false), ("InvalidInteger", false), ("InvalidLetter", false), ("InvalidCapacity", false), ("InvalidMode", false), ("InvalidQueue", false), ("InvalidProgram", false), ("InvalidUser", false), ("InvalidText", false), ("InvalidCommand", false), ("InvalidEffect", false), ("InvalidFacts", false), ("CapacityMismatch", false), ("RunFailed", false), ("EmptyQueue", true), ("EffectFailed", false), ("BufferFailed", false), ("FullQueue", false), ("LimitExceeded", false), ("NothingToUndo", false)]) (fun u h => by cases h; rfl) (fun p hp => ⟨T.xcv p.1 (isv_mem hp), T.isv_EmptyQueue p hp⟩) (pe_callB call_isV rfl T.b_isinstance (by decide +kernel) (pa_cons (d_var (pv 0)) (pa_cons (pe_gc (v := .ref _) rfl ⟨_, T.g_EmptyQueue, rfl⟩) pa_nil)))) (a_cons (d_isv (tb := [("QueueError", false), ("InvalidInteger", false), ("InvalidLetter", false), ("InvalidCapacity", false), ("InvalidMode", false), ("InvalidQueue", false), ("InvalidProgram", false), ("InvalidUser", false), ("InvalidText", false), ("InvalidCommand", false), ("InvalidEffect", false), ("InvalidFacts", false), ("CapacityMismatch", false), ("RunFailed", false), ("EmptyQueue", false), ("EffectFailed", true), ("BufferFailed", false), ("FullQueue", false), ("LimitExceeded", false), ("NothingToUndo", false)]) (fun u h => by cases h; rfl) (fun p hp => ⟨T.xcv p.1 (isv_mem hp), T.isv_EffectFailed p hp⟩) (pe_callB call_isV rfl T.b_isinstance (by decide +kernel) (pa_cons (d_var (pv 0)) (pa_cons (pe_gc (v := .ref _) rfl ⟨_, T.g_EffectFailed, rfl⟩) pa_nil)))) a_nil))))))))))))
      (s_cons (s_set (ps_set (i := 1) sc_law_classes.nd rfl (by first | exact Or.inl rfl | exact Or.inr rfl) (d_dm (d_frz (d_opM p_catL (pe_op op_catR (d_var (pv 1)) (d_frz (d_lst (pe_lst (a_cons (d_isv (tb := [("QueueError", false), ("InvalidInteger", false), ("InvalidLetter", false), ("InvalidCapacity", false), ("InvalidMode", false), ("InvalidQueue", false), ("InvalidProgram", false), ("InvalidUser", false), ("InvalidText", false), ("InvalidCommand", false), ("InvalidEffect", false), ("InvalidFacts", false), ("CapacityMismatch", false), ("RunFailed", false), ("EmptyQueue", false), ("EffectFailed", false), ("BufferFailed", true), ("FullQueue", false), ("LimitExceeded", false), ("NothingToUndo", false)]) (fun u h => by cases h; rfl) (fun p hp => ⟨T.xcv p.1 (isv_mem hp), T.isv_BufferFailed p hp⟩) (pe_callB call_isV rfl T.b_isinstance (by decide +kernel) (pa_cons (d_var (pv 0)) (pa_cons (pe_gc (v := .ref _) rfl ⟨_, T.g_BufferFailed, rfl⟩) pa_nil)))) (a_cons (d_isv (tb := [("QueueError", false), ("InvalidInteger", false), ("InvalidLetter", false), ("InvalidCapacity", false), ("InvalidMode", false), ("InvalidQueue", false), ("InvalidProgram", false), ("InvalidUser", false), ("InvalidText", false), ("InvalidCommand", false), ("InvalidEffect", false), ("InvalidFacts", false), ("CapacityMismatch", false), ("RunFailed", false), ("EmptyQueue", false), ("EffectFailed", false), ("BufferFailed", false), ("FullQueue", true), ("LimitExceeded", false), ("NothingToUndo", false)]) (fun u h => by cases h; rfl) (fun p hp => ⟨T.xcv p.1 (isv_mem hp), T.isv_FullQueue p hp⟩) (pe_callB call_isV rfl T.b_isinstance (by decide +kernel) (pa_cons (d_var (pv 0)) (pa_cons (pe_gc (v := .ref _) rfl ⟨_, T.g_FullQueue, rfl⟩) pa_nil)))) (a_cons (d_isv (tb := [("QueueError", false), ("InvalidInteger", false), ("InvalidLetter", false), ("InvalidCapacity", false), ("InvalidMode", false), ("InvalidQueue", false), ("InvalidProgram", false), ("InvalidUser", false), ("InvalidText", false), ("InvalidCommand", false), ("InvalidEffect", false), ("InvalidFacts", false), ("CapacityMismatch", false), ("RunFailed", false), ("EmptyQueue", false), ("EffectFailed", false), ("BufferFailed", false), ("FullQueue", false), ("LimitExceeded", true), ("NothingToUndo", false)]) (fun u h => by cases h; rfl) (fun p hp => ⟨T.xcv p.1 (isv_mem hp), T.isv_LimitExceeded p hp⟩) (pe_callB call_isV rfl T.b_isinstance (by decide +kernel) (pa_cons (d_var (pv 0)) (pa_cons (pe_gc (v := .ref _) rfl ⟨_, T.g_LimitExceeded, rfl⟩) pa_nil)))) a_nil))))))))))))
      (s_one (s_ret (ps_ret (d_dm (d_frz (d_opM p_catL (pe_op op_catR (d_var (pv 1)) (d_frz (d_lst (pe_lst (a_cons (d_isv (tb := [("QueueError", false), ("InvalidInteger", false), ("InvalidLetter", false), ("InvalidCapacity", false), ("InvalidMode", false), ("InvalidQueue", false), ("InvalidProgram", false), ("InvalidUser", false), ("InvalidText", false), ("InvalidCommand", false), ("InvalidEffect", false), ("InvalidFacts", false), ("CapacityMismatch", false), ("RunFailed", false), ("EmptyQueue", false), ("EffectFailed", false), ("BufferFailed", false), ("FullQueue", false), ("LimitExceeded", false), ("NothingToUndo", true)]) (fun u h => by cases h; rfl) (fun p hp => ⟨T.xcv p.1 (isv_mem hp), T.isv_NothingToUndo p hp⟩) (pe_callB call_isV rfl T.b_isinstance (by decide +kernel) (pa_cons (d_var (pv 0)) (pa_cons (pe_gc (v := .ref _) rfl ⟨_, T.g_NothingToUndo, rfl⟩) pa_nil)))) a_nil))))))))))))))))))
theorem okU_law_bases (T : Txt K mg) : FnOk P w K mg base (L2.CX P w) 1 (He.ga K "_law_bases") (fdA K (He.ga K "_law_bases")) ["_law_e"] (spD K fn_law_bases) :=
  fn_ok (b := body_law_bases) T.F_law_bases sc_law_bases rfl rfl (fun cdv A outer s H E B hr => (s_cons (s_set (ps_set (i := 1) sc_law_bases.nd rfl (by first | exact Or.inl rfl | exact Or.inr rfl) (d_dm (d_frz (d_lst (pe_lst (a_cons (d_isv (tb := [("QueueError", true), ("InvalidInteger", true), ("InvalidLetter", true), ("InvalidCapacity", true), ("InvalidMode", true), ("InvalidQueue", true), ("InvalidProgram", true), ("InvalidUser", true), ("InvalidText", true), ("InvalidCommand", true), ("InvalidEffect", true), ("InvalidFacts", true), ("CapacityMismatch", true), ("RunFailed", true), ("EmptyQueue", false), ("EffectFailed", false), ("BufferFailed", false), ("FullQueue", false), ("LimitExceeded", false), ("NothingToUndo", false)]) (fun u h => by cases h; rfl) (fun p hp => ⟨T.xcv p.1 (isv_mem hp), T.isv_QueueError p hp⟩) (pe_callB call_isV rfl T.b_isinstance (by decide +kernel) (pa_cons (d_var (pv 0)) (pa_cons (pe_gc (v := .ref _) rfl ⟨_, T.g_QueueError, rfl⟩) pa_nil)))) (a_cons (d_isv (tb := [("QueueError", true), ("InvalidInteger", true), ("InvalidLetter", true), ("InvalidCapacity", true), ("InvalidMode", true), ("InvalidQueue", true), ("InvalidProgram", true), ("InvalidUser", true), ("InvalidText", true), ("InvalidCommand", true), ("InvalidEffect", true), ("InvalidFacts", true), ("CapacityMismatch", true), ("RunFailed", true), ("EmptyQueue", false), ("EffectFailed", false), ("BufferFailed", false), ("FullQueue", false), ("LimitExceeded", false), ("NothingToUndo", false)]) (fun u h => by cases h; rfl) (fun p hp => ⟨T.xcv p.1 (isv_mem hp), T.isv_ValueError p hp⟩) (pe_callB call_isV rfl T.b_isinstance (by decide +kernel) (pa_cons (d_var (pv 0)) (pa_cons (pe_bltn (v := .ty "ValueError") rfl T.b_ValueError (by decide +kernel) rfl) pa_nil)))) (a_cons (d_isv (tb := [("QueueError", false), ("InvalidInteger", false), ("InvalidLetter", false), ("InvalidCapacity", false), ("InvalidMode", false), ("InvalidQueue", false), ("InvalidProgram", false), ("InvalidUser", false), ("InvalidText", false), ("InvalidCommand", false), ("InvalidEffect", false), ("InvalidFacts", false), ("CapacityMismatch", false), ("RunFailed", false), ("EmptyQueue", true), ("EffectFailed", true), ("BufferFailed", true), ("FullQueue", false), ("LimitExceeded", false), ("NothingToUndo", false)]) (fun u h => by cases h; rfl) (fun p hp => ⟨T.xcv p.1 (isv_mem hp), T.isv_LookupError p hp⟩) (pe_callB call_isV rfl T.b_isinstance (by decide +kernel) (pa_cons (d_var (pv 0)) (pa_cons (pe_bltn (v := .ty "LookupError") rfl T.b_LookupError (by decide +kernel) rfl) pa_nil)))) (a_cons (d_isv (tb := [("QueueError", false), ("InvalidInteger", false), ("InvalidLetter", false), ("InvalidCapacity", false), ("InvalidMode", false), ("InvalidQueue", false), ("InvalidProgram", false), ("InvalidUser", false), ("InvalidText", false), ("InvalidCommand", false), ("InvalidEffect", false), ("InvalidFacts", false), ("CapacityMismatch", false), ("RunFailed", false), ("EmptyQueue", false), ("EffectFailed", false), ("BufferFailed", false), ("FullQueue", false), ("LimitExceeded", false), ("NothingToUndo", false)]) (fun u h => by cases h; rfl) (fun p hp => ⟨T.xcv p.1 (isv_mem hp), T.isv_KeyError p hp⟩) (pe_callB call_isV rfl T.b_isinstance (by decide +kernel) (pa_cons (d_var (pv 0)) (pa_cons (pe_bltn (v := .ty "KeyError") rfl T.b_KeyError (by decide +kernel) rfl) pa_nil)))) a_nil))))))))))
      (s_cons (s_set (ps_set (i := 1) sc_law_bases.nd rfl (by first | exact Or.inl rfl | exact Or.inr rfl) (d_dm (d_frz (d_opM p_catL (pe_op op_catR (d_var (pv 1)) (d_frz (d_lst (pe_lst (a_cons (d_isv (tb := [("QueueError", false), ("InvalidInteger", false), ("InvalidLetter", false), ("InvalidCapacity", false), ("InvalidMode", false), ("InvalidQueue", false), ("InvalidProgram", false), ("InvalidUser", false), ("InvalidText", false), ("InvalidCommand", false), ("InvalidEffect", false), ("InvalidFacts", false), ("CapacityMismatch", false), ("RunFailed", false), ("EmptyQueue", false), ("EffectFailed", false), ("BufferFailed", false), ("FullQueue", false), ("LimitExceeded", false), ("NothingToUndo", false)]) (fun u h => by cases h; rfl) (fun p hp => ⟨T.xcv p.1 (isv_mem hp), T.isv_IndexError p hp⟩) (pe_callB call_isV rfl T.b_isinstance (by decide +kernel) (pa_cons (d_var (pv 0)) (pa_cons (pe_bltn (v := .ty "IndexError") rfl T.b_IndexError (by decide +kernel) rfl) pa_nil)))) (a_cons (d_isv (tb := [("QueueError", false), ("InvalidInteger", false), ("InvalidLetter", false), ("InvalidCapacity", false), ("InvalidMode", false), ("InvalidQueue", false), ("InvalidProgram", false), ("InvalidUser", false), ("InvalidText", false), ("InvalidCommand", false), ("InvalidEffect", false), ("InvalidFacts", false), ("CapacityMismatch", false), ("RunFailed", false), ("EmptyQueue", false), ("EffectFailed", false), ("BufferFailed", false), ("FullQueue", true), ("LimitExceeded", true), ("NothingToUndo", false)]) (fun u h => by cases h; rfl) (fun p hp => ⟨T.xcv p.1 (isv_mem hp), T.isv_OverflowError p hp⟩) (pe_callB call_isV rfl T.b_isinstance (by decide +kernel) (pa_cons (d_var (pv 0)) (pa_cons (pe_bltn (v := .ty "OverflowError") rfl T.b_OverflowError (by decide +kernel) rfl) pa_nil)))) (a_cons (d_isv (tb := [("QueueError", false), ("InvalidInteger", false), ("InvalidLetter", false), ("InvalidCapacity", false), ("InvalidMode", false), ("InvalidQueue", false), ("InvalidProgram", false), ("InvalidUser", false), ("InvalidText", false), ("InvalidCommand", false), ("InvalidEffect", false), ("InvalidFacts", false), ("CapacityMismatch", false), ("RunFailed", false), ("EmptyQueue", false), ("EffectFailed", false), ("BufferFailed", false), ("FullQueue", true), ("LimitExceeded", true), ("NothingToUndo", false)]) (fun u h => by cases h; rfl) (fun p hp => ⟨T.xcv p.1 (isv_mem hp), T.isv_ArithmeticError p hp⟩) (pe_callB call_isV rfl T.b_isinstance (by decide +kernel) (pa_cons (d_var (pv 0)) (pa_cons (pe_bltn (v := .ty "ArithmeticError") rfl T.b_ArithmeticError (by decide +kernel) rfl) pa_nil)))) a_nil))))))))))))
      (s_one (s_ret (ps_ret (d_dm (d_frz (d_opM p_catL (pe_op op_catR (d_var (pv 1)) (d_frz (d_lst (pe_lst (a_cons (d_isv (tb := [("QueueError", false), ("InvalidInteger", false), ("InvalidLetter", false), ("InvalidCapacity", false), ("InvalidMode", false), ("InvalidQueue", false), ("InvalidProgram", false), ("InvalidUser", false), ("InvalidText", false), ("InvalidCommand", false), ("InvalidEffect", false), ("InvalidFacts", false), ("CapacityMismatch", false), ("RunFailed", false), ("EmptyQueue", false), ("EffectFailed", false), ("BufferFailed", false), ("FullQueue", false), ("LimitExceeded", false), ("NothingToUndo", true)]) (fun u h => by cases h; rfl) (fun p hp => ⟨T.xcv p.1 (isv_mem hp), T.isv_RuntimeError p hp⟩) (pe_callB call_isV rfl T.b_isinstance (by decide +kernel) (pa_cons (d_var (pv 0)) (pa_cons (pe_bltn (v := .ty "RuntimeError") rfl T.b_RuntimeError (by decide +kernel) rfl) pa_nil)))) a_nil))))))))))))))
theorem okU_law_fields (T : Txt K mg) : FnOk P w K mg base (L2.CX P w) 1 (He.ga K "_law_fields") (fdA K (He.ga K "_law_fields")) ["_law_errors"] (spD K fn_law_fields) :=
  fn_ok (b := body_law_fields) T.F_law_fields sc_law_fields rfl rfl (fun cdv A outer s H E B hr => (s_cons (s_set (ps_set (i := 1) sc_law_fields.nd rfl (by first | exact Or.inl rfl | exact Or.inr rfl) (d_dm (d_frz (d_lst (pe_lst (a_cons (d_xv (cs := ["InvalidEffect", "InvalidFacts", "RunFailed"]) (f := "position") (fun c hc => by simp only [List.mem_cons, List.not_mem_nil, or_false] at hc; rcases hc with rfl | rfl | rfl <;> first | exact ⟨⟨T.x_InvalidEffect.ga, T.x_InvalidEffect.gg, T.x_InvalidEffect.exC, T.x_InvalidEffect.hd⟩, T.x_InvalidEffect.no⟩ | exact ⟨⟨T.x_InvalidFacts.ga, T.x_InvalidFacts.gg, T.x_InvalidFacts.exC, T.x_InvalidFacts.hd⟩, T.x_InvalidFacts.no⟩ | exact ⟨⟨T.x_RunFailed.ga, T.x_RunFailed.gg, T.x_RunFailed.exC, T.x_RunFailed.hd⟩, T.x_RunFailed.no⟩) (pe_xv (d_op p_ixL (pe_ix ix_list (d_var (pv 0)) (d_c c_int pe_int) (fun _ _ => rfl))))) (a_cons (d_xv (cs := ["InvalidEffect", "InvalidFacts", "RunFailed"]) (f := "position") (fun c hc => by simp only [List.mem_cons, List.not_mem_nil, or_false] at hc; rcases hc with rfl | rfl | rfl <;> first | exact ⟨⟨T.x_InvalidEffect.ga, T.x_InvalidEffect.gg, T.x_InvalidEffect.exC, T.x_InvalidEffect.hd⟩, T.x_InvalidEffect.no⟩ | exact ⟨⟨T.x_InvalidFacts.ga, T.x_InvalidFacts.gg, T.x_InvalidFacts.exC, T.x_InvalidFacts.hd⟩, T.x_InvalidFacts.no⟩ | exact ⟨⟨T.x_RunFailed.ga, T.x_RunFailed.gg, T.x_RunFailed.exC, T.x_RunFailed.hd⟩, T.x_RunFailed.no⟩) (pe_xv (d_op p_ixL (pe_ix ix_list (d_var (pv 0)) (d_c c_int pe_int) (fun _ _ => rfl))))) (a_cons (d_xv (cs := ["InvalidEffect", "InvalidFacts", "RunFailed"]) (f := "position") (fun c hc => by simp only [List.mem_cons, List.not_mem_nil, or_false] at hc; rcases hc with rfl | rfl | rfl <;> first | exact ⟨⟨T.x_InvalidEffect.ga, T.x_InvalidEffect.gg, T.x_InvalidEffect.exC, T.x_InvalidEffect.hd⟩, T.x_InvalidEffect.no⟩ | exact ⟨⟨T.x_InvalidFacts.ga, T.x_InvalidFacts.gg, T.x_InvalidFacts.exC, T.x_InvalidFacts.hd⟩, T.x_InvalidFacts.no⟩ | exact ⟨⟨T.x_RunFailed.ga, T.x_RunFailed.gg, T.x_RunFailed.exC, T.x_RunFailed.hd⟩, T.x_RunFailed.no⟩) (pe_xv (d_op p_ixL (pe_ix ix_list (d_var (pv 0)) (d_c c_int pe_int) (fun _ _ => rfl))))) (a_cons (d_xv (cs := ["CapacityMismatch"]) (f := "first") (fun c hc => by simp only [List.mem_cons, List.not_mem_nil, or_false] at hc; rcases hc with rfl <;> first | exact ⟨⟨T.x_CapacityMismatch.ga, T.x_CapacityMismatch.gg, T.x_CapacityMismatch.exC, T.x_CapacityMismatch.hd⟩, T.x_CapacityMismatch.no⟩) (pe_xv (d_op p_ixL (pe_ix ix_list (d_var (pv 0)) (d_c c_int pe_int) (fun _ _ => rfl))))) (a_cons (d_xv (cs := ["CapacityMismatch"]) (f := "second") (fun c hc => by simp only [List.mem_cons, List.not_mem_nil, or_false] at hc; rcases hc with rfl <;> first | exact ⟨⟨T.x_CapacityMismatch.ga, T.x_CapacityMismatch.gg, T.x_CapacityMismatch.exC, T.x_CapacityMismatch.hd⟩, T.y_CapacityMismatch.no⟩) (pe_xv (d_op p_ixL (pe_ix ix_list (d_var (pv 0)) (d_c c_int pe_int) (fun _ _ => rfl))))) a_nil)))))))))))
      (s_one (s_ret (ps_ret (d_dm (d_frz (d_opM p_catL (pe_op op_catR (d_var (pv 1)) (d_frz (d_lst (pe_lst (a_cons (d_xv (cs := ["EffectFailed"]) (f := "length") (fun c hc => by simp only [List.mem_cons, List.not_mem_nil, or_false] at hc; rcases hc with rfl <;> first | exact ⟨⟨T.x_EffectFailed.ga, T.x_EffectFailed.gg, T.x_EffectFailed.exC, T.x_EffectFailed.hd⟩, T.x_EffectFailed.no⟩) (pe_xv (d_op p_ixL (pe_ix ix_list (d_var (pv 0)) (d_c c_int pe_int) (fun _ _ => rfl))))) (a_cons (d_xv (cs := ["BufferFailed"]) (f := "index") (fun c hc => by simp only [List.mem_cons, List.not_mem_nil, or_false] at hc; rcases hc with rfl <;> first | exact ⟨⟨T.x_BufferFailed.ga, T.x_BufferFailed.gg, T.x_BufferFailed.exC, T.x_BufferFailed.hd⟩, T.x_BufferFailed.no⟩) (pe_xv (d_op p_ixL (pe_ix ix_list (d_var (pv 0)) (d_c c_int pe_int) (fun _ _ => rfl))))) (a_cons (d_xv (cs := ["LimitExceeded"]) (f := "size") (fun c hc => by simp only [List.mem_cons, List.not_mem_nil, or_false] at hc; rcases hc with rfl <;> first | exact ⟨⟨T.x_LimitExceeded.ga, T.x_LimitExceeded.gg, T.x_LimitExceeded.exC, T.x_LimitExceeded.hd⟩, T.x_LimitExceeded.no⟩) (pe_xv (d_op p_ixL (pe_ix ix_list (d_var (pv 0)) (d_c c_int pe_int) (fun _ _ => rfl))))) a_nil)))))))))))))))
theorem okT_law (T : Txt K mg) : TK.FnT 1 P w K mg base (L2.CX P w) 3 (He.ga K "law") (fdA K (He.ga K "law")) ["_law_script"] (spD K fn_law) :=
  fn_okT (b := body_law) T.F_law sc_law rfl rfl (fun cdv A outer s H E B hG hr => (TK.jss_of (s_cons (s_for wg_var (ps_for (passes_of rfl) rfl (i_rng1 len1 (pi_range1 rfl T.b_range (a_cons (d_n p_max2 (pe_callB (call_max2 rfl) rfl T.b_max (by decide +kernel) (a_cons (d_c c_int pe_int) (a_cons (d_n p_lenScr (pe_callB call_len_seq rfl T.b_len (by decide +kernel) (a_cons (d_var (pv 0)) a_nil))) a_nil)))) a_nil))) (pg_name (i := 1) sc_law.nd rfl (by first | exact Or.inl rfl | exact Or.inr rfl)) (s_cons (s_set (ps_set (i := 2) sc_law.nd rfl (by first | exact Or.inl rfl | exact Or.inr rfl) (d_call c_nil (pe_callW (okU_law_draws T) (hr.mono (by omega)) rfl T.g_law_draws T.F_law_draws.kp (bd_law_draws T) (fun σ => passAt (takes_of rfl rfl rfl rfl) σ) (g_v (d_var (pv 0)) (g_v (d_var (pv 1)) g_nil)))))) (s_cons (s_par2 (ps_par (i := 3) (j := 4) (by rfl) sc_law.nd rfl rfl (by decide) rfl rfl (a_cons (d_frz (d_call c_nil (pe_callW (okU_law_argument T) (hr.mono (by omega)) rfl T.g_law_argument T.F_law_argument.kp (bd_law_argument T) (fun σ => passAt (takes_of rfl rfl rfl rfl) σ) (g_b (pv 2) g_nil)))) (a_cons (d_frz (d_call c_nil (pe_callW (okU_law_argument T) (hr.mono (by omega)) rfl T.g_law_argument T.F_law_argument.kp (bd_law_argument T) (fun σ => passAt (takes_of rfl rfl rfl rfl) σ) (g_b (pv 2) g_nil)))) a_nil)) (by first | rfl | kernel_rfl))) (s_cons (s_set (ps_set (i := 5) sc_law.nd rfl (by first | exact Or.inl rfl | exact Or.inr rfl) (d_dm (d_frz (d_call c_nil (pe_callW (okU_law_by_position T) (hr.mono (by omega)) rfl T.g_law_by_position T.F_law_by_position.kp (bd_law_by_position T) (fun σ => passAt (takes_of rfl rfl rfl rfl) σ) (g_v (d_var (pv 3)) (g_v (d_var (pv 4)) g_nil)))))))) (s_cons (s_for (wg_tup rfl (wg_cons wg_var (wg_cons wg_var wg_nil))) (ps_for (passes_of rfl) rfl (i_enumL (pi_enum rfl T.b_enumerate (a_cons (d_var (pv 5)) a_nil))) (pg_tup rfl (pgs_cons (pg_name (i := 6) sc_law.nd rfl (by first | exact Or.inl rfl | exact Or.inr rfl)) (pgs_cons (pg_name (i := 7) sc_law.nd rfl (by first | exact Or.inl rfl | exact Or.inr rfl)) pgs_nil))) (s_cons (s_par2 (ps_par (i := 8) (j := 9) (by rfl) sc_law.nd rfl rfl (by decide) rfl rfl (a_cons (d_op p_lt (pe_cmpR op_lt (d_var (pv 6)) (d_c c_int pe_int) (nomark _))) (a_cons (d_op p_inQ (pe_cmpR op_in_seq (d_var (pv 6)) (d_tup (pe_tup (a_cons (d_c c_int pe_int) (a_cons (d_c c_int pe_int) a_nil)))) (by with_unfolding_all rfl))) a_nil)) (by first | rfl | kernel_rfl))) (s_cons (s_set (ps_set (i := 10) sc_law.nd rfl (by first | exact Or.inl rfl | exact Or.inr rfl) (d_dm (d_frz (d_lst (pe_lst (a_cons (d_var (pv 8)) (a_cons (d_var (pv 8)) (a_cons (d_op p_inQ (pe_cmpR op_in_seq (d_var (pv 6)) (d_tup (pe_tup (a_cons (d_c c_int pe_int) (a_cons (d_c c_int pe_int) (a_cons (d_c c_int pe_int) a_nil))))) (by with_unfolding_all rfl))) (a_cons (d_c c_bl pe_bl) (a_cons (d_c c_bl pe_bl) (a_cons (d_var (pv 9)) (a_cons (d_var (pv 9)) (a_cons (d_op p_eq (pe_cmpR (op_eqD hr.units) (d_var (pv 6)) (d_c c_int pe_int) (nomark _))) a_nil)))))))))))))) (s_one (s_if (ps_if (PW.pt (t_or (pw_or (t_op p_ne (pt_cmpR (op_neD hr.units) (d_frz (d_call c_nil (pe_callW (okU_law_classes T) (hr.mono (by omega)) rfl T.g_law_classes T.F_law_classes.kp (bd_law_classes T) (fun σ => passAt (takes_of rfl rfl rfl rfl) σ) (g_v (d_var (pv 7)) g_nil)))) (d_frz (d_comp1 wg_var (by decide) (pe_lc (own := [ ("_law_spot", 11) ]) rfl sc_law.nd (i_rng1 len1 (pi_range1 rfl T.b_range (a_cons (d_c c_int pe_int) a_nil))) (blkOk_by (N := ["_law_script", "_law_k", "_law_draws_here", "_law_one", "_law_two", "_law_errors", "_law_at", "_law_e", "_law_own", "_law_over", "_law_expected", "_law_spot", "_law_named", "_law_some"]) (sc := defScope s_law) (own := [ ("_law_spot", 11) ]) (by decide +kernel)) (fun _ _ _ _ _ => pg_name (i := 11) sc_law.nd rfl (by first | exact Or.inl rfl | exact Or.inr rfl)) (fun _ _ _ _ _ => pts_nil) (fun _ _ _ _ _ => (d_op p_eq (pe_cmpR (op_eqD hr.units) (d_var (pv 6)) (d_var (pv 11)) (nomark _))))))) (nomark _))) (pw_or1 (t_op p_ne (pt_cmpR (op_neD hr.units) (d_frz (d_call c_nil (pe_callW (okU_law_bases T) (hr.mono (by omega)) rfl T.g_law_bases T.F_law_bases.kp (bd_law_bases T) (fun σ => passAt (takes_of rfl rfl rfl rfl) σ) (g_v (d_var (pv 7)) g_nil)))) (d_var (pv 10)) (nomark _))))))) (s_one (s_ret (ps_ret (d_dm (d_c c_bl pe_bl))))) s_nil))))))) (s_cons (s_set (ps_set (i := 12) sc_law.nd rfl (by first | exact Or.inl rfl | exact Or.inr rfl) (d_dm (d_frz (d_lst (pe_lst (a_cons (d_mkv1 rfl len1 (Q.pmk_1k PySem.F.excBase_ValueError T.x_InvalidEffect (init_InvalidEffectK T) T.g_InvalidEffect hr rfl (kw_cons (d_var (pv 3)) kw_nil))) (a_cons (d_mkv1 rfl len1 (Q.pmk_1k PySem.F.excBase_ValueError T.x_InvalidFacts (init_InvalidFactsK T) T.g_InvalidFacts hr rfl (kw_cons (d_var (pv 3)) kw_nil))) (a_cons (d_mkv1 rfl len1 (Q.pmk_1k PySem.F.excBase_ValueError T.x_RunFailed (init_RunFailedK T) T.g_RunFailed hr rfl (kw_cons (d_var (pv 3)) kw_nil))) a_nil))))))))) (s_cons (s_set (ps_set (i := 12) sc_law.nd rfl (by first | exact Or.inl rfl | exact Or.inr rfl) (d_dm (d_frz (d_opM p_catL (pe_op op_catR (d_var (pv 12)) (d_frz (d_lst (pe_lst (a_cons (d_mkv2r rfl len2 (Q.pmk_2r PySem.F.excBase_ValueError (by decide) T.x_CapacityMismatch (init_CapacityMismatchR T) T.g_CapacityMismatch hr rfl (kw_cons (d_var (pv 4)) (kw_cons (d_var (pv 3)) kw_nil)))) (a_cons (d_mkv1 rfl len1 (Q.pmk_1k PySem.F.excBase_LookupError T.x_EffectFailed (init_EffectFailedK T) T.g_EffectFailed hr rfl (kw_cons (d_var (pv 3)) kw_nil))) a_nil))))))))))) (s_cons (s_set (ps_set (i := 12) sc_law.nd rfl (by first | exact Or.inl rfl | exact Or.inr rfl) (d_dm (d_frz (d_opM p_catL (pe_op op_catR (d_var (pv 12)) (d_frz (d_lst (pe_lst (a_cons (d_mkv1 rfl len1 (Q.pmk_1k PySem.F.excBase_LookupError T.x_BufferFailed (init_BufferFailedK T) T.g_BufferFailed hr rfl (kw_cons (d_var (pv 3)) kw_nil))) (a_cons (d_mkv1 rfl len1 (Q.pmk_1k PySem.F.excBase_OverflowError T.x_LimitExceeded (init_LimitExceededK T) T.g_LimitExceeded hr rfl (kw_cons (d_var (pv 3)) kw_nil))) a_nil))))))))))) (s_cons (s_set (ps_set (i := 13) sc_law.nd rfl (by first | exact Or.inl rfl | exact Or.inr rfl) (d_dm (d_frz (d_opM p_catL (pe_op op_catR (d_frz (d_opM p_catL (pe_op op_catR (d_frz (d_slM p_slL (pe_slice sl_list (d_var (pv 5)) (d_po (d_c c_int pe_int)) (d_po (d_c c_int pe_int))))) (d_frz (d_slM p_slL (pe_slice sl_list (d_var (pv 5)) (d_po (d_c c_int pe_int)) (d_po (d_c c_int pe_int)))))))) (d_frz (d_lst (pe_lst (a_cons (d_op p_ixL (pe_ix ix_list (d_var (pv 5)) (d_c c_int pe_int) (fun _ _ => rfl))) a_nil)))))))))) (s_cons (s_set (ps_set (i := 10) sc_law.nd rfl (by first | exact Or.inl rfl | exact Or.inr rfl) (d_dm (d_n p_reprE (pe_callB (call_reprE T.sysd hG hr.units) rfl T.b_repr (by decide +kernel) (a_cons (d_frz (d_lst (pe_lst (a_cons (d_var (pv 3)) (a_cons (d_var (pv 3)) (a_cons (d_var (pv 3)) (a_cons (d_var (pv 3)) (a_cons (d_var (pv 4)) (a_cons (d_var (pv 3)) (a_cons (d_var (pv 3)) (a_cons (d_var (pv 3)) a_nil))))))))))) a_nil)))))) (s_one (s_if (ps_if (PW.pt (t_or (pw_or (t_op p_ne (pt_cmpR (op_neD hr.units) (d_n p_reprE (pe_callB (call_reprE T.sysd hG hr.units) rfl T.b_repr (by decide +kernel) (a_cons (d_frz (d_call c_nil (pe_callW (okU_law_fields T) (hr.mono (by omega)) rfl T.g_law_fields T.F_law_fields.kp (bd_law_fields T) (fun σ => passAt (takes_of rfl rfl rfl rfl) σ) (g_v (d_var (pv 13)) g_nil)))) a_nil))) (d_var (pv 10)) (nomark _))) (pw_or1 (t_op p_ne (pt_cmpR (op_neD hr.units) (d_n p_reprE (pe_callB (call_reprE T.sysd hG hr.units) rfl T.b_repr (by decide +kernel) (a_cons (d_frz (d_call c_nil (pe_callW (okU_law_fields T) (hr.mono (by omega)) rfl T.g_law_fields T.F_law_fields.kp (bd_law_fields T) (fun σ => passAt (takes_of rfl rfl rfl rfl) σ) (g_v (d_var (pv 12)) g_nil)))) a_nil))) (d_var (pv 10)) (nomark _))))))) (s_one (s_ret (ps_ret (d_dm (d_c c_bl pe_bl))))) s_nil)))))))))))))) (s_one (s_ret (ps_ret (d_dm (d_c c_bl pe_bl))))))))
end Q
open PySem PySem.W PySem.Calls PyProof.Rows
theorem PySem.Challenge.cw_fullqueue_k02_errors_and_fields_holds : PySem.Challenge.rw_fullqueue_k02_errors_and_fields.Holds := by
  w_on; o_law
  refine TK.headT (N := 1) (r := OpenLaw.row PySem.Challenge.rw_fullqueue_k02_errors_and_fields) (q := view (OpenLaw.row PySem.Challenge.rw_fullqueue_k02_errors_and_fields).prog [29]) (H := Q.hk) (ob := Q.ob) (M := 20000) (loose := Q.loose) (d := HandSHeadRun.topDef (OpenLaw.row PySem.Challenge.rw_fullqueue_k02_errors_and_fields).prog 29) (kwd := []) Q.ob_eq (fun w s e => Q.hookS_toks e)
    (by kernel_rfl) (fun s => by kernel_rfl) Q.run (by kernel_rfl) (by kernel_rfl) (by kernel_rfl) (by rfl) (by first | assumption | decide +kernel) (by decide +kernel) ⟨rfl, rfl, rfl, rfl, rfl, by decide +kernel⟩ ?hw ?hc
  case hw => w_witness2
  case hc =>
    refine TK.walkT (N := 1) (l := PySem.Challenge.rw_fullqueue_k02_errors_and_fields) (n := 63) (k := 3) (x := "_law_script") (CX := U.CXa) rfl (by decide) (by kernel_rfl) ⟨rfl, by decide, by decide⟩ ?F U.cxa_end
    intro w mg fa h Y G hmg0
    obtain ⟨K, KX, c⟩ := Y
    have hmg : mg ("law" : PySem.Str) = some (.ref fa) := by
      have e : (HandSHeadRun.topDef (OpenLaw.row PySem.Challenge.rw_fullqueue_k02_errors_and_fields).prog 29).name = ("law" : PySem.Str) := by kernel_rfl
      rw [← e]
      exact hmg0
    have T : Q.Txt K mg := Q.txt_of KX G c
    have e := hmg.symm.trans T.g_law
    cases e
    exact ⟨K, _, U.spD K U.fn_law, KX, fun s v => T.F_law.bindsA (ps := ["_law_script"]) (fun _ _ _ _ _ _ us hl => match us, hl with | [_], _ => rfl) s [v] rfl, fun H a ns hl _ hS => U.law_sp U.law_holds H a ns hl hS, fun base _ _ => U.fn_aT (Q.okT_law T)⟩
