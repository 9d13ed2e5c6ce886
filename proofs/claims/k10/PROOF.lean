import PyProof.Rows.All
import Wide.All
import OpenK.AllK
import Wide.FinOn
import KE.KStateDown
import Lean
import HandS.ForMost
import HandS.Exc
import HandS.ExcOwn
import HandS.TryOnly
import HandS.WordsExc
import HandS.Defaults
import HandS.Codes
import HandS.CallSlots
import HandS.IsInst
import HandS.Flow
import HandS.Walk
import HandS.Wide
import HandS.FStr
import HandS.Flt
import HandS.Style
import KE.IntTextLaws
import KE.KExcInit
import HandS.HeadEnd
import HandS.Head0
import HandS.Head1
import HandS.Head2
import HandS.HeadHook1
import HandS.HeadHook2
import HandS.HeadNt
import PySem.Challenge.RW_fullqueue_k10_whole_lengths_of_large_pro
set_option Elab.async false
set_option linter.all false
set_option maxRecDepth 100000
set_option maxHeartbeats 4000000
set_option pp.deepTerms true
set_option pp.maxSteps 200000
/-! ### row-independent words: the head's hook, calls, values of many kinds, heaps -/
namespace Q
open PySem PySem.Spec PyProof.Rows L2
abbrev St := L2.St
/-! #### functions by address -/
noncomputable def fdA (K : PySem.W.Frag) (a : Addr) : FuncData := match K.lookup a with
  | some ⟨_, _, .func fd, _⟩ => fd
  | _ => PySem.W.fnOf "" "" { posonlyargs := [], args := [], vararg := none, kwonlyargs := [], kw_defaults := [], kwarg := none, defaults := [] } [] { kind := .function, names := [], isGenerator := false, isCoroutine := false, more := [] } .none .none .none .none none .none .none
theorem funD_fdA {K : PySem.W.Frag} {x qual : Str} {params : Arguments} {body : List Stmt} {scope : Scope} {dvs : List V} {kws : List (Str × V)} {f : Addr}
    (h : ∃ fd, FunD K x qual params body scope dvs kws f fd) : FunD K x qual params body scope dvs kws f (fdA K f) := by
  obtain ⟨fd, F⟩ := h
  obtain ⟨oc, od, dV, kV, doc, pm, an, cdv, ct, osl, e, lk, r⟩ := F.ex
  have q : fdA K f = fd := by unfold fdA; rw [lk]
  rw [q]; exact F
/-! #### the hook: any Bools of the written part, and the defs -/
def obsM (ex : List (PySem.W.Frag → Bool)) (fn : List He5.DefA) (K : PySem.W.Frag) : He.AlD := ((ex.all fun f => f K) && fn.all fun d => d.ok K, fn.map fun d => He5.fnA K (d.at_ K))
def valM (fn : List He5.DefA) : He.AlD := (true, fn.map He5.DefA.val)
def SaysM (ex : List (PySem.W.Frag → Bool)) (fn : List He5.DefA) (K : PySem.W.Frag) : Prop := obsM ex fn K = valM fn
def obsMG (n : Nat) (ex : List (PySem.W.Frag → Bool)) (fn : List He5.DefA) (g : Addr → Option Obj) : He.AlD := obsM ex fn (He.frG g (He5.asA g n))
def hookM (n : Nat) (ex : List (PySem.W.Frag → Bool)) (fn : List He5.DefA) : PySem.W.Hook where
  α := He.AlD
  obs := fun s => obsMG n ex fn s.heap.get?
  val := fun _ => valM fn
  says := fun _ h => ∃ K : PySem.W.Frag, K.In h ∧ SaysM ex fn K
  of := fun _ _ e => ⟨_, He.frG_in, e⟩
  keeps := fun _ _ _ ⟨K, hK, c⟩ k => ⟨K, PySem.W.Frag.In.keeps hK k, c⟩
theorem obsMG_eq {n : Nat} {ex : List (PySem.W.Frag → Bool)} {fn : List He5.DefA} {g : Addr → Option Obj} {s : Shared} (h : ∀ a, g a = s.heap.get? a) : obsMG n ex fn g = (hookM n ex fn).obs s := by
  have e : g = s.heap.get? := funext h
  rw [e] <;> rfl
section
variable {ex : List (PySem.W.Frag → Bool)} {fn : List He5.DefA} {K : PySem.W.Frag}
theorem SaysM.fact (c : SaysM ex fn K) (i : Nat) {f : PySem.W.Frag → Bool} (h : ex[i]? = some f := by rfl) : f K = true := by
  have c1 := (He.ba (show ((ex.all fun f => f K) && fn.all fun d => d.ok K) = true from congrArg (fun z : He.AlD => z.1) c)).1
  exact List.all_eq_true.mp c1 f (List.mem_of_getElem? h)
theorem SaysM.def_ (c : SaysM ex fn K) (i : Nat) {d : He5.DefA} (h : fn[i]? = some d := by rfl) : FunD K d.name d.qual d.params d.body d.scope (d.dvs K) (d.kws K) (d.at_ K) (fdA K (d.at_ K)) := by
  have c2 := (He.ba (show ((ex.all fun f => f K) && fn.all fun d => d.ok K) = true from congrArg (fun z : He.AlD => z.1) c)).2
  have e : fn.map (fun d => He5.fnA K (d.at_ K)) = fn.map He5.DefA.val := congrArg (fun z : He.AlD => z.2) c
  have e2 : (fn.map fun d => He5.fnA K (d.at_ K))[i]? = (fn.map He5.DefA.val)[i]? := by rw [e]
  rw [List.getElem?_map, List.getElem?_map, h] at e2
  exact funD_fdA (He5.DefA.funD (Option.some.inj e2) (List.all_eq_true.mp c2 d (List.mem_of_getElem? h)))
end
/-! #### exceptions of the program without an own __init__ -/
structure ExcF (K : PySem.W.Frag) (C : Addr) (bm : List Value) (newId : String) : Prop where
  x : PySem.W.excIn K C bm newId = true
  k : PySem.W.keepIn K (.ref C) = true
  b : PySem.W.subIn K (.ref C) (.type "BaseException") = some true
  t : PySem.W.typeIn K (.ref C) = some (.type "type")
def excB (x : Str) (bm : List Value) (newId : String) (K : PySem.W.Frag) : Bool := PySem.W.excIn K (He.ga K x) bm newId && (PySem.W.keepIn K (.ref (He.ga K x)) && (decide (PySem.W.subIn K (.ref (He.ga K x)) (.type "BaseException") = some true) && decide (PySem.W.typeIn K (.ref (He.ga K x)) = some (.type "type"))))
theorem excB_ok {K : PySem.W.Frag} {x : Str} {bm : List Value} {newId : String} (h : excB x bm newId K = true) : ExcF K (He.ga K x) bm newId := by
  obtain ⟨c1, c⟩ := He.ba h
  obtain ⟨c2, c⟩ := He.ba c
  obtain ⟨c3, c4⟩ := He.ba c
  exact ⟨c1, c2, of_decide_eq_true c3, of_decide_eq_true c4⟩
/-! #### calls -/
section
variable {X : Cx} {CX : CXT} {k : Nat} {f : Addr} {fd : FuncData} {ps : List Str} {sp : Sp} {E : XK} {x : Str} {p pos : Pos} {e : Expr} {es : List Expr} {t : TA} {dvs : List V}
/-- f(e, ..), the defaults told apart -/
theorem pe_callD (F : FnOk X.prog X.w X.K X.mg X.base CX k f fd ps sp) (hr : Room k X.A) (hg : Gl X x) (hm : X.mg x = some (.ref f)) (hk : PySem.W.keepIn X.K (.ref f) = true) (hb : ∃ ds, Vals dvs ds ∧ Binds X.K fd ps ds) (hx : Passes CX X E)
    (ha : PA X (e :: es) t) (hdb : (x == ("__debug__" : Str)) = false := by decide) (he : starEach (e :: es) X.env = (false, eval e X.env) :: starEach es X.env := by rfl) (hpl : (backTo pos (starEach es X.env)).any (·.1) = false := by rfl) :
    PE X (.Call (.Name x p) (e :: es) [] pos) (tCall sp dvs E t) := by
  obtain ⟨ds, hd, hb⟩ := hb
  exact pe_call F hr hg hm hk hb hd hx ha hdb he hpl
end
/-- a module's name by what it is worth -/
theorem pe_gc {X : Cx} {x : Str} {v : V} {pos : Pos} (hg : Gl X x) (h : ∃ u, X.mg x = some u ∧ RelV v u) (hd : (x == ("__debug__" : Str)) = false := by decide) : PE X (.Name x pos) (tC v) := by
  obtain ⟨u, h1, h2⟩ := h
  exact pe_glob hg h1 h2 hd
/-- what a callee raises leaves the def, too -/
theorem passE {P : Program} {w : World} {K : PySem.W.Frag} {mg : Str → Option Value} {base : Heap} {N : List Str} {qual : Str} {scope : Scope} {f : Addr} {cdv : Value} {A : Around} {outer : List Env} {s : Shared} {H : Hp} {E : XK} :
    Passes (L2.CX P w) (cxOf (L2.CX P w) P w K mg base N qual scope f cdv A outer s H E) E :=
  passes_call (takes_of rfl rfl rfl rfl) (fun _ _ _ _ z => z)
/-! #### values of many kinds -/
def isStrV : V → Bool
  | .str _ => true
  | _ => false
def isBlV : V → Bool
  | .bl _ => true
  | _ => false
def isIntV : V → Bool
  | .int _ => true
  | .bl _ => true
  | _ => false
/-- a value whose kind is known; an object is no str, no int -/
structure AnyV (K : PySem.W.Frag) (H : Hp) (v : V) : Prop where
  ty : ∃ t, TyX K H v t ∧ PySem.W.kitOne K t (.type "str") = some (isStrV v) ∧ PySem.W.kitOne K t (.type "int") = some (isIntV v) ∧ PySem.W.kitOne K t (.type "bool") = some (isBlV v)
section
variable {K : PySem.W.Frag} {H : Hp}
theorem AnyV.non : AnyV K H .non := ⟨_, .base .non, kit_ty (by decide +kernel), kit_ty (by decide +kernel), kit_ty (by decide +kernel)⟩
theorem AnyV.bl {b : Bool} : AnyV K H (.bl b) := ⟨_, .base (.bl b), kit_ty (show kitB "bool" "str" = some false by decide +kernel), kit_ty (show kitB "bool" "int" = some true by decide +kernel), kit_ty (show kitB "bool" "bool" = some true by decide +kernel)⟩
theorem AnyV.int {i : Int} : AnyV K H (.int i) := ⟨_, .base (.int i), kit_ty (show kitB "int" "str" = some false by decide +kernel), kit_ty (show kitB "int" "int" = some true by decide +kernel), kit_ty (show kitB "int" "bool" = some false by decide +kernel)⟩
theorem AnyV.str {z : Str} : AnyV K H (.str z) := ⟨_, .base (.str z), kit_ty (show kitB "str" "str" = some true by decide +kernel), kit_ty (show kitB "str" "int" = some false by decide +kernel), kit_ty (show kitB "str" "bool" = some false by decide +kernel)⟩
theorem AnyV.lst {a : Addr} {xs : List V} (h : H a = some (.lst xs)) : AnyV K H (.ref a) := ⟨_, .base (.lst h), kit_ty (show kitB "list" "str" = some false by decide +kernel), kit_ty (show kitB "list" "int" = some false by decide +kernel), kit_ty (show kitB "list" "bool" = some false by decide +kernel)⟩
theorem AnyV.tup {a : Addr} {xs : List V} (h : H a = some (.tup xs)) : AnyV K H (.ref a) := ⟨_, .base (.tup h), kit_ty (show kitB "tuple" "str" = some false by decide +kernel), kit_ty (show kitB "tuple" "int" = some false by decide +kernel), kit_ty (show kitB "tuple" "bool" = some false by decide +kernel)⟩
theorem AnyV.dK {a : Addr} {xs : List (Key × V)} (h : H a = some (.dK xs)) : AnyV K H (.ref a) := ⟨_, .base (.dK h), kit_ty (show kitB "dict" "str" = some false by decide +kernel), kit_ty (show kitB "dict" "int" = some false by decide +kernel), kit_ty (show kitB "dict" "bool" = some false by decide +kernel)⟩
theorem isi_str {v : V} {Q : VK} (a : AnyV K H v) (q : Q (.bl (isStrV v)) H) : rIsi K [v, .ty "str"] H Q := by
  obtain ⟨t, h1, h2, _⟩ := a.ty
  exact ⟨v, _, t, _, _, rfl, .ty _, h1, h2, q⟩
theorem isi_int {v : V} {Q : VK} (a : AnyV K H v) (q : Q (.bl (isIntV v)) H) : rIsi K [v, .ty "int"] H Q := by
  obtain ⟨t, h1, _, h2, _⟩ := a.ty
  exact ⟨v, _, t, _, _, rfl, .ty _, h1, h2, q⟩
theorem isi_bool {v : V} {Q : VK} (a : AnyV K H v) (q : Q (.bl (isBlV v)) H) : rIsi K [v, .ty "bool"] H Q := by
  obtain ⟨t, h1, _, _, h2⟩ := a.ty
  exact ⟨v, _, t, _, _, rfl, .ty _, h1, h2, q⟩
end
/-! #### heaps -/
theorem Same.upd {H : Hp} {p : Addr} {o : HO} (h : H p = none) : Same H (L2.upd H p o) := fun b u q => by
  rw [upd_ne (ne_of_none q h)]; exact q
theorem Same.upd2 {H H' : Hp} {p : Addr} {o : HO} (s : Same H H') (h : H p = none) : Same H (L2.upd H' p o) := fun b u q => by
  rw [upd_ne (ne_of_none q h)]; exact s _ _ q
theorem Same.upd3 {H H' : Hp} {p : Addr} {o : HO} (s : Same H H') (h : H' p = none) : Same H (L2.upd H' p o) := Same.trans s (Same.upd h)
theorem kp {H : Hp} {a p : Addr} {o u : HO} (h : H a = some o) (n : H p = none) : L2.upd H p u a = some o := by rw [upd_ne (ne_of_none h n)]; exact h
theorem Same.tupQ {K : PySem.W.Frag} {H H' : Hp} {a : Addr} {xs : List V} (e : Same H H') (h : SqT K H a xs) : SqT K H' a xs := by
  rcases h with (h | ⟨o, h⟩) | h
  · exact .inl (.inl (e _ _ h))
  · exact .inl (.inr ⟨o, e _ _ h⟩)
  · exact .inr h
theorem bool_cases {c : Bool} {A B : Prop} (h1 : c = true → A) (h2 : c = false → B) : if c = true then A else B := by
  cases c with
  | true => exact iteT (h1 rfl)
  | false => exact iteF (h2 rfl)
theorem TyOf.mono {K : PySem.W.Frag} {H H' : Hp} {v : V} {t : Value} (s : Same H H') (h : TyOf K H v t) : TyOf K H' v t := by
  cases h with
  | non => exact .non
  | bl x => exact .bl x
  | int i => exact .int i
  | str x => exact .str x
  | flt x => exact .flt x
  | lst e => exact .lst (s _ _ e)
  | frz e => exact .frz (s _ _ e)
  | tup e => exact .tup (s _ _ e)
  | dK e => exact .dK (s _ _ e)
  | dT e => exact .dT (s _ _ e)
  | ins e cl ha hn htk hm => exact .ins (s _ _ e) cl ha hn htk hm
theorem TyX.mono {K : PySem.W.Frag} {H H' : Hp} {v : V} {t : Value} (s : Same H H') (h : TyX K H v t) : TyX K H' v t := by
  cases h with
  | base b => exact .base (TyOf.mono s b)
  | byt b => exact .byt b
  | set e => exact .set (s _ _ e)
  | kList e c => exact .kList e c
  | kTuple e c => exact .kTuple e c
  | kDict e c => exact .kDict e c
  | fTuple e => exact .fTuple (s _ _ e)
  | fDict e => exact .fDict (s _ _ e)
theorem AnyV.mono {K : PySem.W.Frag} {H H' : Hp} {v : V} (s : Same H H') (h : AnyV K H v) : AnyV K H' v := by
  obtain ⟨t, h1, h2⟩ := h.ty
  exact ⟨t, TyX.mono s h1, h2⟩
theorem scal_ii (i j : Int) : scal (.int i) (.int j) = true := rfl
theorem scal_ss (i j : Str) : scal (.str i) (.str j) = true := rfl
theorem scal_bb (i j : Bool) : scal (.bl i) (.bl j) = true := rfl
/-! #### loops and comprehensions, folded -/
def LoopOk (J : It) (g : TG) (tb : TS) (D : Ends) (σ : St) (H1 : Hp) : Prop := ∃ W : Nat → Nat → St → Hp → Prop, (∃ m, W 0 m σ H1) ∧ ∀ i m σ H, W i m σ H →
  (J.stop i H ∧ D.nx σ H) ∨ (J.go i H ∧ ∃ N : St → Hp → Prop, (∀ σ' H', N σ' H' → ∃ m', m' < m ∧ W (i + 1) m' σ' H') ∧ ∀ x H', J.yld i H x H' → g x σ H' fun σ2 H2 => tb { D with nx := N, ct := N, bk := D.nx } σ2 H2)
theorem tFor_eq (wi : TI) (g : TG) (tb : TS) (D : Ends) (σ : St) (H : Hp) : tFor wi g tb D σ H = wi σ H fun J H1 => LoopOk J g tb D σ H1 := rfl
theorem LoopOk.walk {J : It} {n : Nat} {G : Hp → Prop} {Y : Nat → Hp → V → Hp → Prop} {g : TG} {tb : TS} {D : Ends} {σ : St} {H : Hp} (w : Walk J n G Y) (Pv : Nat → St → Hp → Prop) (h0 : Pv 0 σ H) (hG : ∀ i σ H, i ≤ n → Pv i σ H → G H)
    (hs : ∀ i x σ H H', i < n → Pv i σ H → Y i H x H' → g x σ H' fun σ2 H2 => tb { D with nx := Pv (i + 1), ct := Pv (i + 1), bk := D.nx } σ2 H2) (hd : ∀ σ H, Pv n σ H → D.nx σ H) : LoopOk J g tb D σ H :=
  for_it w Pv h0 hG hs hd
def LcOk (J : It) (g : TG) (tt : TT) (te : TE) (vs : List Nat) (σ : St) (H1 : Hp) (D : Addr) (Q : VK) : Prop := ∃ W : Nat → Nat → Hp → Prop, (∃ m, W 0 m (upd H1 D (.lst []))) ∧ ∀ i m H, W i m H →
  (J.stop i H ∧ Q (.ref D) H) ∨ (J.go i H ∧ ∃ Nx : Hp → Prop, (∀ H', Nx H' → ∃ m', m' < m ∧ W (i + 1) m' H') ∧ ∀ x H', J.yld i H x H' → g x (wipe σ vs) H' fun σ2 H2 => wipe σ2 vs = wipe σ vs ∧ tt σ2 H2 fun b H3 =>
    if b = true then te σ2 H3 fun y H4 => ∃ acc, H4 D = some (.lst acc) ∧ acc.length < sizeLine ∧ Nx (upd H4 D (.lst (acc ++ [y]))) else Nx H3)
theorem tLc_eq (wi : TI) (g : TG) (tt : TT) (te : TE) (vs : List Nat) (σ : St) (H : Hp) (Q : VK) : tLc wi g tt te vs σ H Q = wi σ H fun J H1 => ∀ D, H1 D = none → LcOk J g tt te vs σ H1 D Q := rfl
/-- a comprehension, any body: Pv by the turn and the heap -/
theorem LcOk.walk {J : It} {n : Nat} {G : Hp → Prop} {Y : Nat → Hp → V → Hp → Prop} {g : TG} {tt : TT} {te : TE} {vs : List Nat} {σ : St} {H1 : Hp} {D : Addr} {Q : VK} (w : Walk J n G Y) (Pv : Nat → Hp → Prop) (h0 : Pv 0 (upd H1 D (.lst []))) (hG : ∀ i H, i ≤ n → Pv i H → G H)
    (hs : ∀ i x H H', i < n → Pv i H → Y i H x H' → g x (wipe σ vs) H' fun σ2 H2 => wipe σ2 vs = wipe σ vs ∧ tt σ2 H2 fun b H3 =>
      if b = true then te σ2 H3 fun y H4 => ∃ acc, H4 D = some (.lst acc) ∧ acc.length < sizeLine ∧ Pv (i + 1) (upd H4 D (.lst (acc ++ [y]))) else Pv (i + 1) H3) (hd : ∀ H, Pv n H → Q (.ref D) H) : LcOk J g tt te vs σ H1 D Q :=
  lc_it w Pv h0 hG hs hd
theorem Paired.snoc {α β : Type} {F : α → β → Prop} {a : α} {b : β} : ∀ {l : List α} {m : List β}, Paired F l m → F a b → Paired F (l ++ [a]) (m ++ [b])
  | _, _, .nil, h => .cons h .nil
  | _, _, .cons r t, h => .cons r (Paired.snoc t h)
/-- [e for x in ..] without a test: the items' data are ds, told by Rp, which stays as the heap grows -/
theorem LcOk.rep {δ : Type} {J : It} {n : Nat} {G : Hp → Prop} {Y : Nat → Hp → V → Hp → Prop} {g : TG} {te : TE} {vs : List Nat} {σ : St} {H1 : Hp} {D : Addr} {Q : VK} (w : Walk J n G Y) (hD : H1 D = none) (ds : List δ) (Rp : Hp → V → δ → Prop) (hn : ds.length = n) (hsz : n ≤ sizeLine)
    (mono : ∀ H H' v d, (∃ acc, H D = some (.lst acc)) → (∀ b o, H b = some o → b ≠ D → H' b = some o) → Rp H v d → Rp H' v d) (hG : ∀ H, Same H1 H → G H)
    (hs : ∀ i d x H H' (Nx : VK), ds[i]? = some d → Same H1 H → (∃ acc, H D = some (.lst acc)) → Y i H x H' → (∀ y H4, Same H H4 → Rp H4 y d → Nx y H4) → g x (wipe σ vs) H' fun σ2 H2 => wipe σ2 vs = wipe σ vs ∧ tYes σ2 H2 fun b H3 => if b = true then te σ2 H3 Nx else Nx .non H3)
    (gx : ∀ (x : V) (σ2 : St) (H2 : Hp) (Q1 Q2 : St → Hp → Prop), (∀ σ H, Q1 σ H → Q2 σ H) → g x σ2 H2 Q1 → g x σ2 H2 Q2)
    (hd : ∀ H ys, Same H1 H → H D = some (.lst ys) → Paired (Rp H) ys ds → Q (.ref D) H) : LcOk J g tYes te vs σ H1 D Q := by
  refine LcOk.walk w (fun i H => Same H1 H ∧ ∃ ys, H D = some (.lst ys) ∧ ys.length = i ∧ Paired (Rp H) ys (ds.take i)) ⟨Same.upd hD, [], upd_same, rfl, .nil⟩ (fun i H _ h => hG H h.1) ?_ ?_
  · intro i x H H' hi ⟨s1, ys, hy, hl, hp⟩ y
    have hdi : ds[i]? = some ds[i] := List.getElem?_eq_getElem (by omega)
    refine gx _ _ _ _ _ (fun σ2 H2 h => ⟨h.1, h.2⟩) (hs i ds[i] x H H' (fun v H4 => ∃ acc, H4 D = some (.lst acc) ∧ acc.length < sizeLine ∧ (Same H1 (upd H4 D (.lst (acc ++ [v]))) ∧ ∃ ys, upd H4 D (.lst (acc ++ [v])) D = some (.lst ys) ∧ ys.length = i + 1 ∧ Paired (Rp (upd H4 D (.lst (acc ++ [v])))) ys (ds.take (i + 1)))) hdi s1 ⟨ys, hy⟩ y fun v H4 s4 r => ?_)
    have e4 : H4 D = some (.lst ys) := s4 _ _ hy
    have s5 : Same H1 (upd H4 D (.lst (ys ++ [v]))) := fun b u z => by
      rw [upd_ne (ne_of_none z hD)]; exact s4 _ _ (s1 _ _ z)
    have kp : ∀ b o, H4 b = some o → b ≠ D → upd H4 D (.lst (ys ++ [v])) b = some o := fun b o z ne => by rw [upd_ne ne]; exact z
    refine ⟨ys, e4, by omega, s5, ys ++ [v], upd_same, by simp [hl], ?_⟩
    have et : ds.take (i + 1) = ds.take i ++ [ds[i]] := by rw [List.take_succ, hdi]; rfl
    rw [et]
    exact Paired.snoc (Paired.mapP hp fun a b z => mono _ _ _ _ ⟨ys, hy⟩ (fun b o z ne => kp b o (s4 _ _ z) ne) z) (mono _ _ _ _ ⟨ys, e4⟩ kp r)
  · intro H ⟨s1, ys, hy, hl, hp⟩
    rw [List.take_of_length_le (by omega)] at hp
    exact hd H ys s1 hy hp
/-- the items are plain values -/
theorem LcOk.val {J : It} {n : Nat} {G : Hp → Prop} {Y : Nat → Hp → V → Hp → Prop} {i0 : Nat} {te : TE} {vs : List Nat} {σ : St} {H1 : Hp} {D : Addr} {Q : VK} (w : Walk J n G Y) (hD : H1 D = none) (ds : List V) (hn : ds.length = n) (hsz : n ≤ sizeLine) (hG : ∀ H, Same H1 H → G H)
    (hs : ∀ i d x H H' (Nx : VK), ds[i]? = some d → Same H1 H → (∃ acc, H D = some (.lst acc)) → Y i H x H' → (∀ H4, Same H H4 → Nx d H4) → wipe ((wipe σ vs).set i0 (some x)) vs = wipe σ vs ∧ te ((wipe σ vs).set i0 (some x)) H' Nx)
    (hd : ∀ H, Same H1 H → H D = some (.lst ds) → Q (.ref D) H) : LcOk J (gName i0) tYes te vs σ H1 D Q := by
  refine LcOk.rep w hD ds (fun _ v d => v = d) hn hsz (fun _ _ _ _ _ _ h => h) hG (fun i d x H H' Nx h1 h2 h3 h4 h5 => ?_) (fun x σ2 H2 Q1 Q2 h => h _ _) (fun H ys h1 h2 h3 => hd H h1 ?_)
  · have q := hs i d x H H' Nx h1 h2 h3 h4 (fun H4 s4 => h5 d H4 s4 rfl)
    exact ⟨q.1, by simp only [tYes, if_true]; exact q.2⟩
  · have e : ys = ds := by
      clear h2 h1 hs hd hn
      induction h3 with
      | nil => rfl
      | cons r t ih => rw [r, ih]
    rw [← e]; exact h2
/-! #### isinstance of values of many kinds, simply told -/
def tyIs (T : String) (v : V) : Bool := if T = "str" then isStrV v else if T = "int" then isIntV v else isBlV v
def rIsiA (K : PySem.W.Frag) : List V → Hp → VK → Prop := fun xs H Q => ∃ (v : V) (T : String), xs = [v, .ty T] ∧ (T = "str" ∨ T = "int" ∨ T = "bool") ∧ AnyV K H v ∧ Q (.bl (tyIs T v)) H
theorem call_isiA {X : Cx} : CallR X (.builtin "isinstance") (rIsiA X.K) := by
  intro pins s σ H xs us Q I r h
  refine call_isi pins s σ H xs us Q I r ?_
  obtain ⟨v, T, rfl, hT, a, q⟩ := h
  rcases hT with rfl | rfl | rfl
  · exact isi_str a q
  · exact isi_int a q
  · exact isi_bool a q
theorem tyIs_str (v : V) : tyIs "str" v = isStrV v := rfl
theorem tyIs_int (v : V) : tyIs "int" v = isIntV v := rfl
theorem tyIs_bool (v : V) : tyIs "bool" v = isBlV v := rfl
/-! #### a tracked list by its place; len of a list; int of a bool -/
def rIxM : R2 := fun x y H Q => ∃ p xs i v, x = .ref p ∧ y = .int i ∧ H p = some (.lst xs) ∧ atI xs i = some v ∧ Q v H
theorem ix_listM {X : Cx} : IxR X rIxM := by
  intro value slice pins s σ H x y v u Q I rx ry h hs
  obtain ⟨p, xs, i, z, h1, h2, h3, h4, h5⟩ := h
  exact ix_list value slice pins s σ H x y v u Q I rx ry ⟨p, xs, i, z, h1, h2, SqL.of h3, h4, h5⟩ hs
theorem call_lenL {X : Cx} : CallR X (.builtin "len") (fun xs H Q => ∃ p ys, xs = [.ref p] ∧ SqL X.K H p ys ∧ Q (.int ys.length) H) := by
  intro pins s σ H xs us Q I r h
  obtain ⟨p, ys, h1, h2, h3⟩ := h
  exact call_len_seq pins s σ H xs us Q I r ⟨p, ys, h1, .inl h2, h3⟩
theorem call_lenT {X : Cx} : CallR X (.builtin "len") (fun xs H Q => ∃ p ys, xs = [.ref p] ∧ SqT X.K H p ys ∧ Q (.int ys.length) H) := by
  intro pins s σ H xs us Q I r h
  obtain ⟨p, ys, h1, h2, h3⟩ := h
  exact call_len_seq pins s σ H xs us Q I r ⟨p, ys, h1, .inr h2, h3⟩
theorem call_intB {X : Cx} : CallR X (.type "int") (fun xs H Q => ∃ k, xs = [.bl k] ∧ Q (.int (if k = true then 1 else 0)) H) := by
  intro pins s σ H xs us Q I r h
  obtain ⟨k, h1, h2⟩ := h
  exact call_int1 pins s σ H xs us Q I r (.inr ⟨k, h1, h2⟩)
theorem ixN_nat {n j : Nat} (h : j < n) : ixN n (j : Int) = some j := by
  unfold ixN
  rw [if_pos (by omega), if_pos (by omega)]
  simp
theorem atI_zero {α : Type} {x : α} {xs : List α} : atI (x :: xs) 0 = some x := by
  unfold atI
  rw [show ixN (x :: xs).length 0 = some 0 from ixN_nat (j := 0) (by simp)]
  rfl
theorem atI_one {α : Type} {x y : α} {xs : List α} : atI (x :: y :: xs) 1 = some y := by
  unfold atI
  rw [show ixN (x :: y :: xs).length 1 = some 1 from ixN_nat (j := 1) (by simp)]
  rfl
theorem ixN_20 : ixN 2 0 = some 0 := by decide
theorem ixN_21 : ixN 2 1 = some 1 := by decide
theorem shaped_ints (ns : List Int) : SeqAt.shaped (.list (ns.map PyData.int)) = true := PySem.W.ke_shaped_ints ns
theorem dpAll_ints {K : PySem.W.Frag} {H : Hp} : ∀ ns : List Int, DpAll K H (ns.map V.int) (ns.map PyData.int)
  | [] => .nil
  | n :: ns => .cons (.int n) (dpAll_ints ns)
/-! #### lists of bools compared -/
theorem dpAll_bools {K : PySem.W.Frag} {H : Hp} : ∀ ns : List Bool, DpAll K H (ns.map V.bl) (ns.map PyData.bool)
  | [] => .nil
  | n :: ns => .cons (.bl n) (dpAll_bools ns)
theorem canLay_bools : ∀ ns : List Bool, PyData.canLayAll0 (ns.map PyData.bool) = true
  | [] => rfl
  | _ :: r => by simp [PyData.canLayAll0, PyData.canLay0, canLay_bools r]
theorem depth_bools : ∀ ns : List Bool, PyData.depthAll (ns.map PyData.bool) = 0
  | [] => rfl
  | _ :: r => by simp [PyData.depthAll, PyData.depth, depth_bools r]
theorem shaped_bools (ns : List Bool) : SeqAt.shaped (.list (ns.map PyData.bool)) = true := by
  simp [SeqAt.shaped, PyData.canLay0, PyData.depth, canLay_bools, depth_bools]
theorem eqvAll_bools : ∀ ns ms : List Bool, PyData.eqvAll (ns.map PyData.bool) (ms.map PyData.bool) = decide (ns = ms)
  | [], [] => by simp [PyData.eqvAll]
  | [], _ :: _ => by simp [PyData.eqvAll]
  | _ :: _, [] => by simp [PyData.eqvAll]
  | a :: r, b :: t => by
    simp only [List.map_cons, PyData.eqvAll, PyData.eqv, eqvAll_bools r t]
    by_cases h : a = b <;> by_cases h' : r = t <;> simp [h, h']
/-- two lists of bools: != -/
theorem ne_bools {K : PySem.W.Frag} {H : Hp} {a b : Addr} {ns ms : List Bool} {Q : VK} (h1 : SqL K H a (ns.map V.bl)) (h2 : SqL K H b (ms.map V.bl)) (q : Q (.bl (!decide (ns = ms))) H) : rNeD K (.ref a) (.ref b) H Q := by
  refine ⟨.list (ns.map PyData.bool), .list (ms.map PyData.bool), .lst h1 (dpAll_bools ns), .lst h2 (dpAll_bools ms), shaped_bools ns, shaped_bools ms, ?_⟩
  rw [show PyData.eqv (.list (ns.map PyData.bool)) (.list (ms.map PyData.bool)) = decide (ns = ms) from eqvAll_bools ns ms]
  exact q
/-! #### all but one object stay -/
def SameX (d : Addr) (H H' : Hp) : Prop := ∀ b o, H b = some o → b ≠ d → H' b = some o
theorem SameX.refl {d : Addr} {H : Hp} : SameX d H H := fun _ _ h _ => h
theorem SameX.trans {d : Addr} {H H1 H2 : Hp} (a : SameX d H H1) (b : SameX d H1 H2) : SameX d H H2 := fun c o h n => b c o (a c o h n) n
theorem SameX.of {d : Addr} {H H' : Hp} (s : Same H H') : SameX d H H' := fun b o h _ => s b o h
theorem SameX.upd {d : Addr} {H : Hp} {o : HO} : SameX d H (L2.upd H d o) := fun b u h n => by rw [upd_ne n]; exact h
theorem SameX.seq {K : PySem.W.Frag} {d : Addr} {H H' : Hp} {a : Addr} {xs : List V} (e : SameX d H H') (n : a ≠ d) (h : SqL K H a xs) : SqL K H' a xs := by
  rcases h with (h | ⟨o, h⟩) | h
  · exact .inl (.inl (e _ _ h n))
  · exact .inl (.inr ⟨o, e _ _ h n⟩)
  · exact .inr h
theorem SameX.seqF {K : PySem.W.Frag} {d : Addr} {H H' : Hp} {a : Addr} {xs : List V} (e : SameX d H H') (n : H d = none) (h : SqL K H a xs) : SqL K H' a xs := by
  rcases h with (h | ⟨o, h⟩) | h
  · exact .inl (.inl (e _ _ h (ne_of_none h n)))
  · exact .inl (.inr ⟨o, e _ _ h (ne_of_none h n)⟩)
  · exact .inr h
theorem SameX.at {d : Addr} {H H' : Hp} {a : Addr} {o : HO} (e : SameX d H H') (n : H d = none) (h : H a = some o) : H' a = some o := e _ _ h (ne_of_none h n)
section
variable {X : Cx} {CX : CXT} {k : Nat} {f : Addr} {fd : FuncData} {ps : List Str} {sp : Sp} {E : St → XK} {x : Str} {p pos : Pos} {e : Expr} {es : List Expr} {t : TA} {dvs : List V}
/-- f(e, ..) within a try -/
theorem pe_callW (F : FnOk X.prog X.w X.K X.mg X.base CX k f fd ps sp) (hr : Room k X.A) (hg : Gl X x) (hm : X.mg x = some (.ref f)) (hk : PySem.W.keepIn X.K (.ref f) = true) (hb : ∃ ds, Vals dvs ds ∧ Binds X.K fd ps ds) (hx : ∀ σ, PassesAt CX X σ (E σ))
    (ha : PA X (e :: es) t) (hdb : (x == ("__debug__" : Str)) = false := by decide) (he : starEach (e :: es) X.env = (false, eval e X.env) :: starEach es X.env := by rfl) (hpl : (backTo pos (starEach es X.env)).any (·.1) = false := by rfl) :
    PE X (.Call (.Name x p) (e :: es) [] pos) (tCallSD sp dvs E t) := by
  obtain ⟨ds, hd, hb⟩ := hb
  exact pe_callSD F hr hg hm hk hb hd hx ha hdb he hpl
end
theorem max1 {n : Nat} (h : n ≤ 63) : ∃ m : Nat, (if (n : Int) > 1 then (n : Int) else 1) = (m : Int) ∧ m ≤ 63 := by
  by_cases c : (n : Int) > 1
  · exact ⟨n, if_pos c, h⟩
  · exact ⟨1, by rw [if_neg c]; rfl, by omega⟩
theorem cpow_18 : CPow 10 18 ↔ True := ⟨fun _ => trivial, fun _ => ⟨by decide, by decide, by decide⟩⟩
theorem cpow_30 : CPow 10 30 ↔ True := ⟨fun _ => trivial, fun _ => ⟨by decide, by decide, by decide⟩⟩
theorem cpow_20 : CPow 10 20 ↔ True := ⟨fun _ => trivial, fun _ => ⟨by decide, by decide, by decide⟩⟩
theorem cpow_9 : CPow 10 9 ↔ True := ⟨fun _ => trivial, fun _ => ⟨by decide, by decide, by decide⟩⟩
theorem cpow_29 : CPow 10 29 ↔ True := ⟨fun _ => trivial, fun _ => ⟨by decide, by decide, by decide⟩⟩
/-! #### texts as lists of code points -/
/-- the text of these code points -/
def S (l : List Nat) : Str := ⟨l.toArray⟩
theorem S_cps (l : List Nat) : (S l).cps.toList = l := rfl
theorem S_length (l : List Nat) : (S l).length = l.length := by simp [S, Str.length]
theorem S_of (x : Str) : x = S x.cps.toList := by
  obtain ⟨c⟩ := x
  simp [S]
theorem S_ex (x : Str) : ∃ l, x = S l := ⟨_, S_of x⟩
theorem S_inj {l m : List Nat} : S l = S m ↔ l = m := ⟨fun h => by have := congrArg (fun z : Str => z.cps.toList) h; exact this, fun h => by rw [h]⟩
theorem S_append (l m : List Nat) : S l ++ S m = S (l ++ m) := by
  show Str.append (S l) (S m) = S (l ++ m)
  simp [Str.append, S]
theorem S_one (c : Nat) : (⟨#[c]⟩ : Str) = S [c] := rfl
theorem tl_S (l : List Nat) : TL.tl (S l) = l := by
  simp [TL.tl, S]
theorem joinL_nil : ∀ ls : List (List Nat), TL.joinL [] ls = ls.flatten
  | [] => rfl
  | [p] => by simp [TL.joinL]
  | p :: q :: r => by simp [TL.joinL, joinL_nil (q :: r)]
theorem join_empty (ls : List (List Nat)) : Txt.join (S []) (ls.map S) = S ls.flatten := by
  rw [TL.join_eq, S_of (Str.join (S []) (ls.map S)), S_inj]
  have h := TL.tl_join (S []) (ls.map S)
  have e : (ls.map S).map TL.tl = ls := by
    rw [List.map_map]
    conv => rhs; rw [← List.map_id ls]
    exact List.map_congr_left fun l _ => tl_S l
  rw [e, tl_S, joinL_nil] at h
  exact h
theorem cut_to {l : List Nat} {k : Nat} (h : k ≤ l.length) : cutS (S l) none (some (k : Int)) = S (l.take k) := by
  unfold cutS
  rw [HT.sIx_none, HT.sIx_nat, S_cps, S_length, Nat.min_eq_left h]
  simp [S]
theorem cut_from {l : List Nat} {k : Nat} (h : k ≤ l.length) : cutS (S l) (some (k : Int)) none = S (l.drop k) := by
  unfold cutS
  rw [HT.sIx_none, HT.sIx_nat, S_cps, S_length, Nat.min_eq_left h]
  simp only [S]
  congr 2
  rw [List.take_of_length_le (by rw [List.length_drop]; omega)]
theorem cut_within {l : List Nat} {i j : Nat} (h : i ≤ j) (h2 : j ≤ l.length) : cutS (S l) (some (i : Int)) (some (j : Int)) = S ((l.drop i).take (j - i)) := by
  unfold cutS
  rw [HT.sIx_nat, HT.sIx_nat, S_cps, S_length, Nat.min_eq_left h2, Nat.min_eq_left (by omega)]
  rfl
/-! #### while, folded -/
def WhileOk (c : TT) (tb : TS) (D : Ends) (σ : St) (H : Hp) : Prop := ∃ W : Nat → St → Hp → Prop, (∃ m, W m σ H) ∧ ∀ m σ H, W m σ H →
  c σ H fun b H1 => if b = true then ∃ N : St → Hp → Prop, (∀ σ' H', N σ' H' → ∃ m', m' < m ∧ W m' σ' H') ∧ tb { D with nx := N, ct := N, bk := D.nx } σ H1 else D.nx σ H1
theorem tWhile_eq (c : TT) (tb : TS) (D : Ends) (σ : St) (H : Hp) : tWhile c tb D σ H = WhileOk c tb D σ H := rfl
/-- a while by an invariant and a measure; cm: what the test gives may be widened (by simp over the test's reading) -/
theorem WhileOk.by {c : TT} {tb : TS} {D : Ends} {σ : St} {H : Hp} (Pv : St → Hp → Prop) (μ : St → Hp → Nat) (h0 : Pv σ H)
    (hs : ∀ (σ : St) (H : Hp) (m : Nat) (W : Nat → St → Hp → Prop), Pv σ H → m = μ σ H → (∀ σ' H', Pv σ' H' → μ σ' H' < m → ∃ m', m' < m ∧ W m' σ' H') → c σ H fun b H1 => if b = true then ∃ N : St → Hp → Prop, (∀ σ' H', N σ' H' → ∃ m', m' < m ∧ W m' σ' H') ∧ tb { D with nx := N, ct := N, bk := D.nx } σ H1 else D.nx σ H1) : WhileOk c tb D σ H :=
  ⟨fun m σ H => m = μ σ H ∧ Pv σ H, ⟨_, rfl, h0⟩, fun m σ H ⟨e, p⟩ => hs σ H m _ p e fun σ' H' p' l => ⟨_, l, rfl, p'⟩⟩
/-- the next turn's wish, from the invariant -/
theorem nxt {Pv : St → Hp → Prop} {μ : St → Hp → Nat} {m : Nat} {W : Nat → St → Hp → Prop} (k : ∀ σ' H', Pv σ' H' → μ σ' H' < m → ∃ m', m' < m ∧ W m' σ' H') : ∀ σ' H', (Pv σ' H' ∧ μ σ' H' < m) → ∃ m', m' < m ∧ W m' σ' H' := fun σ' H' h => k σ' H' h.1 h.2
/-! #### text * number -/
def mulS (z : Str) (n : Int) : Str := S (List.replicate n.toNat z.cps.toList).flatten
theorem foldl_app {α : Type} : ∀ (ls : List (Array α)) (a : Array α), (ls.foldl (· ++ ·) a).toList = a.toList ++ (ls.map Array.toList).flatten
  | [], a => by simp
  | b :: ls, a => by simp [foldl_app ls (a ++ b)]
theorem txt_mul (z : Str) (n : Int) : Txt.mul z n = mulS z n := by
  unfold Txt.mul mulS
  by_cases h1 : n < 1
  · rw [if_pos h1, show n.toNat = 0 by omega]; rfl
  · rw [if_neg h1]
    by_cases h2 : (n == 1 || z.length == 0) = true
    · rw [if_pos h2]
      rw [Bool.or_eq_true, beq_iff_eq, beq_iff_eq] at h2
      rw [S_of z, S_inj, S_cps]
      rcases h2 with h2 | h2
      · rw [h2]; simp
      · have : z.cps.toList = [] := by
          have h3 : z.cps.size = 0 := h2
          apply List.eq_nil_of_length_eq_zero
          rw [Array.length_toList]; exact h3
        rw [this]; simp
    · rw [if_neg h2]
      have e := foldl_app (List.replicate n.toNat z.cps) #[]
      rw [List.map_replicate, List.nil_append] at e
      rw [← e, ← S_of]
theorem op_mul_str {X : Cx} : OpR X (binaryOp .Mult) (fun x y H Q => ∃ z n, x = .str z ∧ y = .int n ∧ -9223372036854775808 ≤ n ∧ n < 9223372036854775808 ∧ z.length * n.toNat ≤ 16777216 ∧ Q (.str (mulS z n)) H) := by
  intro pins s σ H x y v u Q I rx ry h
  obtain ⟨z, n, rfl, rfl, h1, h2, h3, q⟩ := h
  obtain ⟨t, rfl⟩ := rx
  obtain ⟨t', rfl⟩ := ry
  refine SB.mul ⟨?_, ?_, ?_⟩ fun t k => ⟨.str (mulS z n), H, I.tok _, ⟨t, by rw [txt_mul]⟩, q⟩
  · have a1 : ¬ n < -(2 ^ 63 : Int) := by omega
    have a2 : ¬ n ≥ 2 ^ 63 := by omega
    rw [decide_eq_false a1, decide_eq_false a2]; rfl
  · intro a1 a2 a3
    have b1 : 0 < z.length := by
      rw [Bool.or_eq_false_iff] at a2
      have := a2.2
      simp at this
      omega
    have b4 : n.toNat ≤ z.length * n.toNat := Nat.le_mul_of_pos_left _ b1
    have b5 : z.length ≤ z.length * n.toNat := Nat.le_mul_of_pos_right _ (by omega)
    have b6 : (16777217 : Int) ≤ (2 ^ 63 - 1) / n := by
      rw [Int.le_ediv_iff_mul_le (by omega)]
      have : (16777217 : Int) * n ≤ 16777217 * 16777216 := by omega
      omega
    omega
  · intro a1 a2
    show decide (_ > sizeLine) = false
    rw [sizeLine_eq]
    exact decide_eq_false (by omega)
theorem Paired.mapP_mem {α β : Type} {F G : α → β → Prop} : ∀ {l : List α} {m : List β}, Paired F l m → (∀ a b, a ∈ l → F a b → G a b) → Paired G l m
  | _, _, .nil, _ => .nil
  | _, _, .cons r t, f => .cons (f _ _ List.mem_cons_self r) (Paired.mapP_mem t fun a b h => f a b (List.mem_cons_of_mem _ h))
theorem Paired.left {α β : Type} {F : α → β → Prop} {a : α} : ∀ {l : List α} {m : List β}, Paired F l m → a ∈ l → ∃ b, F a b
  | _, _, .cons r t, h => by
    rcases List.mem_cons.mp h with e | h
    · subst e; exact ⟨_, r⟩
    · exact Paired.left t h
  | _, _, .nil, h => by cases h
theorem call_lenM {X : Cx} : CallR X (.builtin "len") (fun xs H Q => ∃ p ys, xs = [.ref p] ∧ H p = some (.lst ys) ∧ Q (.int ys.length) H) := by
  intro pins s σ H xs us Q I r h
  obtain ⟨p, ys, h1, h2, h3⟩ := h
  exact call_len_seq pins s σ H xs us Q I r ⟨p, ys, h1, .inl (SqL.of h2), h3⟩
/-! #### one sign -/
theorem one_eq {c m : Nat} {z : Str} (h : z.cps.toList = [m]) : ((⟨#[c]⟩ : Str) = z) = (c = m) := by
  apply propext
  constructor
  · intro e
    rw [← e] at h
    exact (List.cons.inj h).1
  · intro e
    rw [S_of z, h, e]; rfl
theorem atI_last {α : Type} {xs : List α} {y : α} : atI (xs ++ [y]) (-1) = some y := by
  unfold atI ixN
  rw [if_neg (by decide), if_pos (by simp; omega)]
  have e : (-1 + (((xs ++ [y]).length : Nat) : Int)).toNat = xs.length := by simp; omega
  rw [Option.bind_some, e]
  simp
theorem tw_take {α : Type} (p : α → Bool) (l : List α) : l.take (l.takeWhile p).length = l.takeWhile p := (List.prefix_iff_eq_take.mp (List.takeWhile_prefix p)).symm
theorem tw_drop {α : Type} (p : α → Bool) : ∀ l : List α, l.drop (l.takeWhile p).length = l.dropWhile p
  | [] => rfl
  | a :: l => by
    by_cases h : p a = true
    · rw [List.takeWhile_cons_of_pos h, List.dropWhile_cons_of_pos h, List.length_cons, List.drop_succ_cons]
      exact tw_drop p l
    · rw [List.takeWhile_cons_of_neg h, List.dropWhile_cons_of_neg h]
      rfl
theorem tyV_lst {K : PySem.W.Frag} {H : Hp} {l : Addr} {xs : List V} (h : H l = some (.lst xs)) : tyV K "list" (.ref l) H := Or.inl ⟨rfl, _, SqL.of h⟩
/-- a text is not too long -/
def Short (v : V) : Prop := ∀ x, v = .str x → x.length ≤ 100000
theorem Short.le {x : Str} (h : Short (.str x)) : x.length ≤ 16777216 := by
  have := h x rfl
  omega
theorem short_of {v : V} {z : Str} (h : v = .str z) (l : z.length ≤ 100000) : Short v := fun x e => by
  rw [h] at e; cases e; exact l
theorem short_no {v : V} (h : isStrV v = false) : Short v := fun x e => by
  rw [e] at h; cases h
abbrev lettersZ : Str := "abcdefghijklmnopqrstuvwxyz"
/-- the codes of letters -/
abbrev ltr : List Nat := lettersZ.cps.toList
theorem ne_data {K : PySem.W.Frag} {H : Hp} {x y : V} {d : PyData} {Q : VK} (h1 : Dp K H x d) (h2 : Dp K H y d) (hs : SeqAt.shaped d = true) (he : PyData.eqv d d = true) (q : Q (.bl false) H) : rNeD K x y H Q := by
  refine ⟨d, d, h1, h2, hs, hs, ?_⟩
  rw [he]; exact q
theorem ne_strs {K : PySem.W.Frag} {H : Hp} {x : Str} {Q : VK} (h : PyData.strOk x = true) (q : Q (.bl false) H) : rNeD K (.str x) (.str x) H Q := ne_data (.str x) (.str x) (by simp [SeqAt.shaped, PyData.canLay0, PyData.depth, h]) (by simp [PyData.eqv]) q
theorem dp_lim {K : PySem.W.Frag} {H : Hp} {a : Addr} {z : Str} {n : Int} (h : H a = some (.lst [.str z, .int n])) : Dp K H (.ref a) (.list [.str z, .int n]) := .lst (SqL.of h) (.cons (.str _) (.cons (.int _) .nil))
theorem ne_lims {K : PySem.W.Frag} {H : Hp} {a b : Addr} {n : Int} {Q : VK} (h1 : H a = some (.lst [.str "limit", .int n])) (h2 : H b = some (.lst [.str "limit", .int n])) (q : Q (.bl false) H) : rNeD K (.ref a) (.ref b) H Q :=
  ne_data (dp_lim h1) (dp_lim h2) (by simp [SeqAt.shaped, PyData.canLay0, PyData.canLayAll0, PyData.depth, PyData.depthAll]; decide +kernel) (by simp [PyData.eqv, PyData.eqvAll]) q
theorem max1m (c : Int) {n : Nat} (hc : 1 < c) : ∃ m : Nat, (if (1 : Int) < (if (n : Int) < c then (n : Int) else c) then (if (n : Int) < c then (n : Int) else c) else 1) = m ∧ (m : Int) ≤ c := by
  by_cases d : (n : Int) < c
  · rw [if_pos d]
    by_cases e : (1 : Int) < n
    · rw [if_pos e]; exact ⟨n, rfl, by omega⟩
    · rw [if_neg e]; exact ⟨1, rfl, by omega⟩
  · rw [if_neg d, if_pos hc]; exact ⟨c.toNat, by omega, by omega⟩
theorem log2_small {n : Nat} (h : n ≤ 10 ^ 30) : ((n : Nat) : Int).natAbs.log2 < 1920 := by
  rw [Int.natAbs_natCast]
  by_cases c : n = 0
  · subst c; decide
  · exact (Nat.log2_lt c).mpr (Nat.lt_of_le_of_lt h (by decide +kernel))
end Q
/-! ### max of three ints -/
namespace Q
open PySem PySem.Spec PyProof.Rows L2
theorem call_max3I {X : Cx} (hc : X.calm = true) : CallR X (.builtin "max") (fun xs H Q => ∃ i j k, xs = [.int i, .int j, .int k] ∧ Q (.int (if (if i < j then j else i) < k then k else (if i < j then j else i))) H) := by
  intro pins s σ H xs us Q I r h
  obtain ⟨i, j, k, rfl, q⟩ := h
  refine call_max3Nu hc pins s σ H _ us Q I r ⟨_, _, _, _, rfl, ?_, q⟩
  have e : ∀ a b : Int, nuMax2 (.int a) (.int b) = some (.int (if a < b then b else a)) := fun a b => by
    by_cases h : a < b
    · rw [if_pos h]
      simp only [nuMax2, nuLt, nuCB, decide_eq_true h, Option.map_some, if_true]
    · rw [if_neg h]
      simp only [nuMax2, nuLt, nuCB, decide_eq_false h, Option.map_some, Bool.false_eq_true, if_false]
  rw [nuMax3, e, Option.bind_some, e]
end Q
/-! ### several except clauses, with and without a name -/
namespace L2
open PySem PySem.Spec PyProof.Rows
/-- the ends inside a clause that keeps its exception in slot i: the name goes when it ends -/
def Ends.gone (D : Ends) (i : Nat) : Ends := { nx := fun σ H => D.nx (σ.set i none) H, rt := D.rt, bk := fun σ H => D.bk (σ.set i none) H, ct := fun σ H => D.ct (σ.set i none) H }
def wX (K : PySem.W.Frag) (Wout : WX) (D : Ends) : List (Value × Option Nat × (Addr → Value → Option Addr → TS)) → WX
  | [] => Wout
  | (c, none, ts) :: r => fun cls d σ H => ∃ b, PySem.W.exmOne K cls c = some b ∧ (b = true → ∀ a, H a = none → ts a cls d D σ H) ∧ (b = false → wX K Wout D r cls d σ H)
  | (c, some i, ts) :: r => fun cls d σ H => ∃ b, PySem.W.exmOne K cls c = some b ∧ (b = true → ∀ a, H a = none → ts a cls d (D.gone i) (σ.set i (some (.ref a))) H) ∧ (b = false → wX K Wout D r cls d σ H)
inductive HdX (X : Cx) : List ExceptHandler → List (Value × Option Nat × (Addr → Value → Option Addr → TS)) → Prop
  | nil : HdX X [] []
  | plain {x : Str} {c : Value} {ts : Addr → Value → Option Addr → TS} {b₀ : Stmt} {suite : List Stmt} {np pos' : Pos} {hds : List ExceptHandler} {l : List (Value × Option Nat × (Addr → Value → Option Addr → TS))} (hc : Names X x c)
      (hsu : ∀ (a : Addr) (oe : Obj) (cls : Value) (d : Option Addr) (pn : List (Addr × Obj)), Zc cls d oe → (∃ vs, oe.data = .fields vs) → PSs (X.suite a ((a, oe) :: pn)) (b₀ :: suite) (ts a cls d)) (r : HdX X hds l) :
      HdX X (.ExceptHandler (some (.Name x np)) none (b₀ :: suite) pos' :: hds) ((c, none, ts) :: l)
  | named {x n : Str} {i : Nat} {c : Value} {ts : Addr → Value → Option Addr → TS} {b₀ : Stmt} {suite : List Stmt} {np pos' : Pos} {hds : List ExceptHandler} {l : List (Value × Option Nat × (Addr → Value → Option Addr → TS))} (hi : X.N[i]? = some n) (hln : X.env.kindOf n = some .local) (hc : Names X x c)
      (hsu : ∀ (a : Addr) (oe : Obj) (cls : Value) (d : Option Addr) (pn : List (Addr × Obj)), Zc cls d oe → (∃ vs, oe.data = .fields vs) → PSs (X.suite a ((a, oe) :: pn)) (b₀ :: suite) (ts a cls d)) (r : HdX X hds l) :
      HdX X (.ExceptHandler (some (.Name x np)) (some n) (b₀ :: suite) pos' :: hds) ((c, some i, ts) :: l)
section
variable {X : Cx} {body orelse : List Stmt} {h₀ : ExceptHandler} {hds : List ExceptHandler} {l : List (Value × Option Nat × (Addr → Value → Option Addr → TS))} {pos : Pos} {tb : WX → TS} {u : TS} {Wout : WX}
theorem ps_tryX (hs : X.stack = X.env :: X.outer) (hf : X.env.frame = some X.env.locals) (hN : X.N.Nodup) (tk : Takes X Wout)
    (hb : ∀ (W : WX) (pn : List (Addr × Obj)) (xe : Value → Shared → Prop), Takes (X.tr pn xe) W → PassesOwn (model X.prog X.w) X.A X.env xe → PSs (X.tr pn xe) body (tb W))
    (hh : HdX X (h₀ :: hds) l) (ho : PSs X orelse u) : PS X (.Try body (h₀ :: hds) orelse [] pos) (fun D σ H => tb (wX X.K Wout D l) { D with nx := u D } σ H) := by
  refine ⟨fun pins s σ H D I h => ?_⟩
  have ok := I.ok
  have hfr : X.A.frames = some (X.env :: X.outer) := by rw [ok.frames, hs]
  refine wpAny_Try_except ?_
  refine wpAny_mono ((hb (wX X.K Wout D l) (X.pn ++ pins) (fun e s₁ => wpAny (model X.prog X.w) X.A (noteFrame e X.env) (fun _ s₂ => wpAny (model X.prog X.w) X.A (setFlight e none) (fun _ s₃ =>
    wpAny (model X.prog X.w) X.A (handleBy e X.env (h₀ :: hds)) (SP X pins D) X.xe s₃) X.xe s₂) X.xe s₁) (fun v s' xx => ?_) PassesOwn.looking).run [] s σ H { D with nx := u D } (I.toTry _) h) (fun f s1 hsp => ?_) (fun e s1 he => he)
  · obtain ⟨a, B, sI, pins', σ', H', cls, d, rfl, J', nb, up, sky, na, os, ag, w⟩ := xx
    have J : Inv X pins σ' H' sI := J'.ofTry ok
    have sky' : Sky B (X.env :: X.outer) a (Zc cls d) X.env.locals s'.heap := by rw [← hs]; exact sky
    show wpAny (model X.prog X.w) X.A (noteFrame (.ref a) X.env) _ _ _
    refine Sky.land Zc.steady hfr hf sky' fun h3 fl3 up3 => ?_
    have J3 : Inv X pins σ' H' { s' with heap := h3 } := J.landed nb fl3.1 (up.trans up3) os ag
    obtain ⟨oe3, vs3, he3, hz3, hd3⟩ := fl3.there
    have nfr : a ∉ frs (X.env :: X.outer) := fun hm => by
      obtain ⟨_, o', e', hnf⟩ := fl3.2.2.1.mem hm
      rw [he3] at e'; cases e'
      exact hnf _ hd3
    have nL : a ≠ X.env.locals := fun z => nfr (List.mem_filterMap.mpr ⟨X.env, List.mem_cons_self, by rw [hf, z]⟩)
    have nF : a ∉ X.fs := fun hm => by
      obtain ⟨e, he, q⟩ := List.mem_filterMap.mp hm
      exact nfr (List.mem_filterMap.mpr ⟨e, List.mem_cons_of_mem _ he, q⟩)
    have S3 := J3.suite he3 hd3 na nL nF
    have LT : PySem.W.Looks (model X.prog X.w) h3 (typeOf (.ref a)) cls := fun A Q E s k q => wpAny_typeOf_ref (k _ _ he3) (by rw [hz3.1]; exact q)
    have test : ∀ {x : Str} {c : Value} {np : Pos} {Q : Value → Shared → Prop} {E : Value → Shared → Prop}, Names X x c → Q c { s' with heap := h3 } → wpAny (model X.prog X.w) (X.A.mark (some (.ref a))) (eval (.Name x np) X.env) Q E { s' with heap := h3 } := fun {x c np Q E} hc q => by
      obtain ⟨hg, hdbg, hm | ⟨hm, hv, hnn⟩⟩ := hc
      · exact ld_glob (X := X.suite a ((a, oe3) :: (X.pn ++ pins))) S3 hg hm q hdbg
      · exact ld_blt (X := X.suite a ((a, oe3) :: (X.pn ++ pins))) S3 hg hm hv q hnn hdbg
    clear h
    generalize h₀ :: hds = hl at hh
    revert w
    induction hh with
    | nil =>
      intro w
      refine wpAny_handleBy_nil ?_
      obtain ⟨k1, k2, k3, oe, vs, T, oT, ts', he, hz, hd, h1, hr⟩ := id fl3
      unfold PySem.passOn
      refine wpAny_bind (wpAny_field he hd h1 ?_)
      rw [if_neg (show ¬ ((Value.ref T == Value.none) = true) from by simp)]
      have fin : wpAny (model X.prog X.w) X.A (setFlight (.ref a) X.env.frame) (fun _ s4 => wpAny (model X.prog X.w) X.A (throw (.ref a) : Sem Flow) (SP X pins D) X.xe s4) X.xe { s' with heap := h3 } := by
        rw [hf]
        refine HandSPX.setFlight_upZ fl3 fun h4 hh4 up4 => wpAny_throw (tk _ _ ?_)
        exact ⟨a, B, sI, pins, σ', H', cls, d, rfl, J, nb, (up.trans up3).trans up4, .inr (.inr (by rw [hs]; exact hh4)), na, os, ag, w⟩
      first
        | exact wpAny_bind (wpAny_pure (wpAny_bind fin))
        | exact wpAny_bind fin
    | @plain x c ts b₀ suite np pos' hds2 l2 hc hsu r ih =>
      rintro ⟨b, hb1, hyes, hno⟩
      refine wpAny_handleBy_cons (codeAny_handlers_test ?_) (by intro q; cases q)
      refine test hc ((PySem.W.exm_one (M := model X.prog X.w) J3.kIn LT hb1).here ?_)
      cases b with
      | true =>
        refine codeAny_handlers_suite ?_
        refine HandSPX.lands_againZ fl3 fun h4 fl4 up4 => ?_
        have J4 : Inv X pins σ' H' { s' with heap := h4 } := J.landed nb fl4.1 ((up.trans up3).trans up4) os ag
        obtain ⟨oe4, vs4, he4, hz4, hd4⟩ := fl4.there
        refine wpAny_mono ((hsu a oe4 cls d (X.pn ++ pins) hz4 ⟨_, hd4⟩).run [] _ _ H' _ (J4.suite he4 hd4 na nL nF) (hyes rfl a na)) (fun f s6 hsp => ?_) (fun _ _ z => False.elim z)
        cases f with
        | ret u =>
          obtain ⟨v6, σ6, H6, S6, r6, q6⟩ := hsp
          exact ⟨_, _, _, S6.unsuite ok, r6, q6⟩
        | _ =>
          obtain ⟨σ6, H6, S6, q6⟩ := hsp
          exact ⟨_, _, S6.unsuite ok, q6⟩
      | false => exact ih (hno rfl)
    | @named x n i c ts b₀ suite np pos' hds2 l2 hi hln hc hsu r ih =>
      rintro ⟨b, hb1, hyes, hno⟩
      refine wpAny_handleBy_cons (codeAny_handlers_test ?_) (by intro q; cases q)
      refine test hc ((PySem.W.exm_one (M := model X.prog X.w) J3.kIn LT hb1).here ?_)
      cases b with
      | true =>
        refine codeAny_handlers_suite_as ?_
        refine HandSPX.lands_againZ fl3 fun h4 fl4 up4 => ?_
        have J4 : Inv X pins σ' H' { s' with heap := h4 } := J.landed nb fl4.1 ((up.trans up3).trans up4) os ag
        obtain ⟨oe4, vs4, he4, hz4, hd4⟩ := fl4.there
        refine store_ok (X := X.suite a ((a, oe4) :: (X.pn ++ pins))) (v := .ref a) (J4.suite he4 hd4 na nL nF) hN hi (.inl hln) rfl (fun s5 S5 => ?_) (.inr hln)
        refine wpAny_mono ((hsu a oe4 cls d (X.pn ++ pins) hz4 ⟨_, hd4⟩).run [] s5 _ H' _ S5 (hyes rfl a na)) (fun f s6 hsp => ?_) (fun _ _ z => False.elim z)
        have end_ : ∀ {σ6 : St} {H6 : Hp} {Q : Shared → Prop}, Inv (X.suite a ((a, oe4) :: (X.pn ++ pins))) [] σ6 H6 s6 → (∀ s7, Inv X pins (σ6.set i none) H6 s7 → Q s7) →
            wpAny (model X.prog X.w) X.A (do bindName X.env n .none; unbindBehindTheSuite X.env n pos') (fun _ s7 => Q s7) X.xe s6 := fun {σ6 H6 Q} S6 hq => gone_ok (S6.unsuite ok) hN hi hln hq
        cases f with
        | ret u =>
          obtain ⟨v6, σ6, H6, S6, r6, q6⟩ := hsp
          exact end_ S6 fun s7 J7 => ⟨_, _, _, J7, r6, q6⟩
        | _ =>
          obtain ⟨σ6, H6, S6, q6⟩ := hsp
          exact end_ S6 fun s7 J7 => ⟨_, _, J7, q6⟩
      | false => exact ih (hno rfl)
  · cases f with
    | next =>
      obtain ⟨σ', H', J', q⟩ := hsp
      exact ho.run pins s1 σ' H' D (J'.ofTry ok) q
    | ret u =>
      obtain ⟨v, σ', H', J', r, q⟩ := hsp
      exact ⟨v, σ', H', J'.ofTry ok, r, q⟩
    | _ =>
      obtain ⟨σ', H', J', q⟩ := hsp
      exact ⟨σ', H', J'.ofTry ok, q⟩
end
end L2

namespace Q
open PySem PySem.Spec PyProof.Rows L2
/-! ### programs and what they stand for -/
abbrev stepsZ : Str := "abcdefghijklmnopqrstuvwxyz-"
abbrev stp : List Nat := stepsZ.cps.toList
def isStp (c : Nat) : Bool := decide (c ∈ stp)
abbrev digsZ : Str := "0123456789"
def isDig (c : Nat) : Bool := decide (c ∈ digsZ.cps.toList)
theorem isDig_iff (c : Nat) : isDig c = true ↔ 48 ≤ c ∧ c ≤ 57 := by
  have e : digsZ.cps.toList = [48, 49, 50, 51, 52, 53, 54, 55, 56, 57] := by decide +kernel
  unfold isDig
  rw [e, decide_eq_true_eq]
  simp only [List.mem_cons, List.not_mem_nil, or_false]
  omega
abbrev dval (ds : List Nat) : Nat := NumText.digitsVal ds
def okCount (ds : List Nat) : Bool := decide (ds ≠ []) && (decide (ds.length ≤ 31) && (!(decide (ds.head? = some 48) && decide (ds ≠ [48])) && decide (dval ds ≤ 10 ^ 30)))
/-- the items of a program -/
inductive Pg where
  | nil
  | seq (l : List Nat) (r : Pg)
  | rep (b : Pg) (n : Nat) (r : Pg)
def Pg.wr : Pg → List Nat
  | .nil => []
  | .seq l r => l ++ r.wr
  | .rep b n r => (List.replicate n b.wr).flatten ++ r.wr
def Pg.app : Pg → Pg → Pg
  | .nil, q => q
  | .seq l r, q => .seq l (r.app q)
  | .rep b n r, q => .rep b n (r.app q)
theorem Pg.wr_app (p q : Pg) : (p.app q).wr = p.wr ++ q.wr := by
  induction p with
  | nil => rfl
  | seq l r ih => simp [Pg.app, Pg.wr, ih]
  | rep b n r _ ih => simp [Pg.app, Pg.wr, ih]
def Pg.ok : Pg → Prop
  | .nil => True
  | .seq l r => (∀ c ∈ l, c ∈ stp) ∧ r.ok
  | .rep b n r => b.ok ∧ n ≤ 10 ^ 30 ∧ r.ok
theorem Pg.ok_app {p q : Pg} (hp : p.ok) (hq : q.ok) : (p.app q).ok := by
  induction p with
  | nil => exact hq
  | seq l r ih => exact ⟨hp.1, ih hp.2⟩
  | rep b n r _ ih => exact ⟨hp.1, hp.2.1, ih hp.2.2⟩
def Pg.depth : Pg → Nat
  | .nil => 0
  | .seq _ r => r.depth
  | .rep b _ r => max (b.depth + 1) r.depth
theorem Pg.depth_app (p q : Pg) : (p.app q).depth = max p.depth q.depth := by
  induction p with
  | nil => simp [Pg.app, Pg.depth]
  | seq l r ih => simp [Pg.app, Pg.depth, ih]
  | rep b n r _ ih => simp [Pg.app, Pg.depth, ih, Nat.max_assoc]
/-- the signs and the repetitions, counted once -/
def Pg.size : Pg → Nat
  | .nil => 0
  | .seq l r => l.length + 1 + r.size
  | .rep b _ r => b.size + 1 + r.size
theorem Pg.size_app (p q : Pg) : (p.app q).size = p.size + q.size := by
  induction p with
  | nil => simp [Pg.app, Pg.size]
  | seq l r ih => simp [Pg.app, Pg.size, ih]; omega
  | rep b n r _ ih => simp [Pg.app, Pg.size, ih]; omega
theorem Pg.wr_stp {p : Pg} (h : p.ok) : ∀ c ∈ p.wr, c ∈ stp := by
  induction p with
  | nil => intro c hc; cases hc
  | seq l r ih =>
    intro c hc
    rcases List.mem_append.mp hc with z | z
    · exact h.1 c z
    · exact ih h.2 c z
  | rep b n r ihb ih =>
    intro c hc
    rcases List.mem_append.mp hc with z | z
    · obtain ⟨l, hl, hc⟩ := List.mem_flatten.mp z
      rw [(List.mem_replicate.mp hl).2] at hc
      exact ihb h.1 c hc
    · exact ih h.2.2 c z
theorem flat_rep_length (n : Nat) (l : List Nat) : (List.replicate n l).flatten.length = n * l.length := by
  rw [List.length_flatten, List.map_replicate, List.sum_replicate_nat]
theorem Pg.wr_len {p : Pg} (h : p.ok) : p.wr.length ≤ p.size * (10 ^ 30) ^ p.depth := by
  induction p with
  | nil => simp [Pg.wr]
  | seq l r ih =>
    have := ih h.2
    simp only [Pg.wr, List.length_append, Pg.size, Pg.depth]
    have one : 1 ≤ (10 ^ 30) ^ r.depth := Nat.one_le_pow _ _ (by decide)
    have : l.length ≤ l.length * (10 ^ 30) ^ r.depth := Nat.le_mul_of_pos_right _ one
    rw [Nat.add_mul, Nat.add_mul]; omega
  | rep b n r ihb ih =>
    have hb := ihb h.1
    have hr := ih h.2.2
    simp only [Pg.wr, List.length_append, Pg.size, Pg.depth, flat_rep_length]
    have m1 : (10 ^ 30) ^ (b.depth + 1) ≤ (10 ^ 30) ^ (max (b.depth + 1) r.depth) := Nat.pow_le_pow_right (by decide) (Nat.le_max_left _ _)
    have m2 : (10 ^ 30) ^ r.depth ≤ (10 ^ 30) ^ (max (b.depth + 1) r.depth) := Nat.pow_le_pow_right (by decide) (Nat.le_max_right _ _)
    have h1 : n * b.wr.length ≤ b.size * (10 ^ 30) ^ (max (b.depth + 1) r.depth) := by
      calc n * b.wr.length ≤ 10 ^ 30 * (b.size * (10 ^ 30) ^ b.depth) := Nat.mul_le_mul h.2.1 hb
        _ = b.size * (10 ^ 30) ^ (b.depth + 1) := (fun M : Nat => by rw [Nat.pow_succ, Nat.mul_left_comm, Nat.mul_comm M] : ∀ M : Nat, M * (b.size * M ^ b.depth) = b.size * M ^ (b.depth + 1)) _
        _ ≤ _ := Nat.mul_le_mul_left _ m1
    have h2 : r.wr.length ≤ r.size * (10 ^ 30) ^ (max (b.depth + 1) r.depth) := Nat.le_trans hr (Nat.mul_le_mul_left _ m2)
    rw [Nat.add_mul, Nat.add_mul]; omega
/-- the length's bits -/
theorem Pg.wr_bits {p : Pg} (h : p.ok) (hd : p.depth ≤ 20) (hs : p.size ≤ 1000000) : p.wr.length < 2 ^ 2020 := by
  have h1 := p.wr_len h
  have h2 : (10 ^ 30) ^ p.depth ≤ (10 ^ 30) ^ 20 := Nat.pow_le_pow_right (by decide) hd
  have h3 : p.size * (10 ^ 30) ^ p.depth ≤ 1000000 * (10 ^ 30) ^ 20 := Nat.mul_le_mul hs h2
  have h4 : 1000000 * (10 ^ 30) ^ 20 < 2 ^ 2020 := by decide +kernel
  omega
/-! ### the reading of a program's text: the sequence it stands for -/
def goF (t : List Nat) (st : List (List Nat)) : Option (List Nat) := match t, st with
  | [], [f] => some f
  | [], _ => none
  | _ :: _, [] => none
  | c :: t, f :: fs => if isStp c = true then goF t ((f ++ [c]) :: fs) else
    if c = 40 then (if fs.length < 20 then goF t ([] :: f :: fs) else none) else
    if c = 41 then (match fs with
      | [] => none
      | g :: gs => if okCount (t.takeWhile isDig) = true then goF (t.dropWhile isDig) ((g ++ (List.replicate (dval (t.takeWhile isDig)) f).flatten) :: gs) else none) else none
  termination_by t.length
  decreasing_by
    all_goals simp_wf
    have := (List.dropWhile_suffix (l := t) isDig).length_le
    omega
/-- the sequence of a program's text -/
def progF (l : List Nat) : Option (List Nat) := goF l [[]]
theorem goF_step {c : Nat} {t : List Nat} {f : List Nat} {fs : List (List Nat)} (h : isStp c = true) : goF (c :: t) (f :: fs) = goF t ((f ++ [c]) :: fs) := by
  rw [goF.eq_def]
  simp only [h, if_true]
theorem goF_steps : ∀ {s t : List Nat} {f : List Nat} {fs : List (List Nat)}, (∀ c ∈ s, isStp c = true) → goF (s ++ t) (f :: fs) = goF t ((f ++ s) :: fs)
  | [], t, f, fs, _ => by simp
  | c :: s, t, f, fs, h => by
    rw [List.cons_append, goF_step (h c List.mem_cons_self), goF_steps fun d hd => h d (List.mem_cons_of_mem _ hd)]
    simp
theorem stp_40 : isStp 40 = false := by decide +kernel
theorem stp_41 : isStp 41 = false := by decide +kernel
theorem goF_open {t : List Nat} {f : List Nat} {fs : List (List Nat)} : goF (40 :: t) (f :: fs) = if fs.length < 20 then goF t ([] :: f :: fs) else none := by
  rw [goF.eq_def]
  simp only [stp_40, Bool.false_eq_true, if_false, if_true]
theorem goF_close {t : List Nat} {f g : List Nat} {gs : List (List Nat)} : goF (41 :: t) (f :: g :: gs) = if okCount (t.takeWhile isDig) = true then goF (t.dropWhile isDig) ((g ++ (List.replicate (dval (t.takeWhile isDig)) f).flatten) :: gs) else none := by
  rw [goF.eq_def]
  simp only [stp_41, Bool.false_eq_true, if_false, if_true, show ¬ ((41 : Nat) = 40) by decide]
theorem goF_close0 {t : List Nat} {f : List Nat} : goF (41 :: t) [f] = none := by
  rw [goF.eq_def]
  simp only [stp_41, Bool.false_eq_true, if_false, if_true, show ¬ ((41 : Nat) = 40) by decide]
theorem goF_other {c : Nat} {t : List Nat} {f : List Nat} {fs : List (List Nat)} (h : isStp c = false) (h1 : c ≠ 40) (h2 : c ≠ 41) : goF (c :: t) (f :: fs) = none := by
  rw [goF.eq_def]
  simp only [h, Bool.false_eq_true, if_false, h1, h2]
/-! ### the items in the heap: X are the addresses that may still change -/
def RepL (X : Addr → Prop) (H : Hp) : List V → Pg → Prop
  | vs, .nil => vs = []
  | vs, .seq l r => ∃ ws, vs = .str (S l) :: ws ∧ RepL X H ws r
  | vs, .rep b n r => ∃ (t a : Addr) (us ws : List V), vs = .ref t :: ws ∧ H t = some (.tup [.ref a, .int (n : Int)]) ∧ ¬ X t ∧ ¬ X a ∧ H a = some (.lst us) ∧ RepL X H us b ∧ RepL X H ws r
theorem RepL.mono {X X' : Addr → Prop} {H H' : Hp} (hx : ∀ a, X' a → X a) (h : ∀ b o, H b = some o → ¬ X b → H' b = some o) : ∀ {p : Pg} {vs : List V}, RepL X H vs p → RepL X' H' vs p
  | .nil, _, r => r
  | .seq l q, _, ⟨ws, e, r⟩ => ⟨ws, e, RepL.mono hx h r⟩
  | .rep b n q, _, ⟨t, a, us, ws, e, e1, n1, n2, e2, r1, r2⟩ => ⟨t, a, us, ws, e, h _ _ e1 n1, fun z => n1 (hx _ z), fun z => n2 (hx _ z), h _ _ e2 n2, RepL.mono hx h r1, RepL.mono hx h r2⟩
theorem RepL.app {X : Addr → Prop} {H : Hp} : ∀ {p q : Pg} {vs ws : List V}, RepL X H vs p → RepL X H ws q → RepL X H (vs ++ ws) (p.app q)
  | .nil, _, _, _, e, r => by
    have e' : _ = [] := e
    rw [e']; exact r
  | .seq l q, _, _, _, ⟨us, e, r⟩, s => ⟨_, by rw [e]; rfl, RepL.app r s⟩
  | .rep b n q, _, _, _, ⟨t, a, us, us2, e, e1, n1, n2, e2, r1, r2⟩, s => ⟨t, a, us, _, by rw [e]; rfl, e1, n1, n2, e2, r1, RepL.app r2 s⟩
/-- a list of items that stands still -/
abbrev NoX : Addr → Prop := fun _ => False
def ItemsAt (H : Hp) (a : Addr) (p : Pg) : Prop := ∃ us, H a = some (.lst us) ∧ RepL NoX H us p
theorem ItemsAt.mono {H H' : Hp} {a : Addr} {p : Pg} (s : Same H H') (h : ItemsAt H a p) : ItemsAt H' a p := by
  obtain ⟨us, e, r⟩ := h
  exact ⟨us, s _ _ e, r.mono (fun _ z => z) fun b o z _ => s b o z⟩
/-- what a good program is -/
structure PgOk (p : Pg) : Prop where
  ok : p.ok
  depth : p.depth ≤ 20
  size : p.size ≤ 1000000
/-! ### the stack of open lists -/
theorem RepL.fresh {X X' : Addr → Prop} {H : Hp} {n : Addr} (hn : H n = none) (hx : ∀ a, X' a → X a ∨ a = n) : ∀ {p : Pg} {vs : List V}, RepL X H vs p → RepL X' H vs p
  | .nil, _, r => r
  | .seq l q, _, ⟨ws, e, r⟩ => ⟨ws, e, RepL.fresh hn hx r⟩
  | .rep b k q, _, ⟨t, a, us, ws, e, e1, n1, n2, e2, r1, r2⟩ => ⟨t, a, us, ws, e, e1, fun z => (hx _ z).elim n1 (ne_of_none e1 hn), fun z => (hx _ z).elim n2 (ne_of_none e2 hn), e2, RepL.fresh hn hx r1, RepL.fresh hn hx r2⟩
theorem Paired.snoc_inv {α β : Type} {F : α → β → Prop} : ∀ {l : List α} {a : α} {m : List β}, Paired F (l ++ [a]) m → ∃ m' b, m = m' ++ [b] ∧ Paired F l m' ∧ F a b
  | [], a, _, .cons r .nil => ⟨[], _, rfl, .nil, r⟩
  | x :: l, a, _, .cons r t => by
    obtain ⟨m', b, e, h1, h2⟩ := Paired.snoc_inv t
    exact ⟨_ :: m', b, by rw [e]; rfl, .cons r h1, h2⟩
structure PSt (H0 H : Hp) (o : Addr) (as : List Addr) (ps : List Pg) : Prop where
  same : Same H0 H
  fo : H0 o = none
  fas : ∀ a ∈ as, H0 a = none
  lo : H o = some (.lst (as.map V.ref))
  nd : (o :: as).Nodup
  rep : Paired (fun a p => ∃ us, H a = some (.lst us) ∧ RepL (· ∈ o :: as) H us p) as ps
  ok : ∀ p ∈ ps, p.ok
  dep : ∀ (i : Nat) p, ps[i]? = some p → p.depth + i ≤ 20
theorem PSt.len {H0 H : Hp} {o : Addr} {as : List Addr} {ps : List Pg} (h : PSt H0 H o as ps) : as.length = ps.length := Paired.length h.rep
/-- a stretch of steps goes to the last list -/
theorem PSt.seq {H0 H : Hp} {o t : Addr} {as : List Addr} {ps : List Pg} {l : List Nat} (h : PSt H0 H o (as ++ [t]) ps) (hl : ∀ c ∈ l, c ∈ stp) :
    ∃ qs p us, ps = qs ++ [p] ∧ H t = some (.lst us) ∧ PSt H0 (upd H t (.lst (us ++ [.str (S l)]))) o (as ++ [t]) (qs ++ [p.app (.seq l .nil)]) := by
  obtain ⟨qs, p, rfl, h1, us, h2, h3⟩ := Paired.snoc_inv h.rep
  have hnt : H0 t = none := h.fas t (by simp)
  have hto : t ≠ o := by have := h.nd; simp at this; exact fun e => this.1.2 e.symm
  have keep : ∀ b u, H b = some u → ¬ b ∈ o :: (as ++ [t]) → upd H t (.lst (us ++ [.str (S l)])) b = some u := fun b u e n => by
    rw [upd_ne (fun z => n (by simp [z]))]; exact e
  refine ⟨qs, p, us, rfl, h2, ⟨fun b u e => ?_, h.fo, h.fas, ?_, h.nd, Paired.snoc (Paired.mapP_mem h1 ?_) ?_, ?_, ?_⟩⟩
  · rw [upd_ne (ne_of_none e hnt)]; exact h.same b u e
  · rw [upd_ne hto.symm]; exact h.lo
  · rintro a q ha ⟨ws, e, r⟩
    have nat : a ≠ t := by
      have := h.nd
      simp only [List.nodup_cons, List.nodup_append] at this
      exact this.2.2.2 a ha t (by simp)
    exact ⟨ws, by rw [upd_ne nat]; exact e, r.mono (fun _ z => z) keep⟩
  · exact ⟨_, upd_same, RepL.app (h3.mono (fun _ z => z) keep) ⟨[], rfl, rfl⟩⟩
  · intro q hq
    rcases List.mem_append.mp hq with z | z
    · exact h.ok q (List.mem_append_left _ z)
    · rw [List.mem_singleton.mp z]
      exact Pg.ok_app (h.ok p (by simp)) ⟨hl, trivial⟩
  · intro i q hq
    by_cases c : i < qs.length
    · rw [List.getElem?_append_left c] at hq
      exact h.dep i q (by rw [List.getElem?_append_left c]; exact hq)
    · rw [List.getElem?_append_right (by omega)] at hq
      have e0 : i - qs.length = 0 := by
        cases z : i - qs.length with
        | zero => rfl
        | succ k => rw [z] at hq; simp at hq
      rw [e0] at hq
      have e1 : p.app (.seq l .nil) = q := Option.some.inj hq
      have := h.dep i p (by rw [List.getElem?_append_right (by omega), e0]; rfl)
      rw [← e1, Pg.depth_app]
      simp only [Pg.depth]
      omega
/-- a new list is opened -/
theorem PSt.push {H0 H : Hp} {o n : Addr} {as : List Addr} {ps : List Pg} (h : PSt H0 H o as ps) (hn : H n = none) (hd : as.length ≤ 20) :
    PSt H0 (upd (upd H n (.lst [])) o (.lst ((as ++ [n]).map V.ref))) o (as ++ [n]) (ps ++ [.nil]) := by
  have h0n : H0 n = none := h.same.free hn
  have hno : n ≠ o := fun e => by rw [e, h.lo] at hn; cases hn
  have hna : ∀ a ∈ as, a ≠ n := fun a ha e => by
    obtain ⟨p, us, z, _⟩ := Paired.left h.rep ha
    rw [e, hn] at z; cases z
  have keep : ∀ b u, H b = some u → ¬ b ∈ o :: as → upd (upd H n (.lst [])) o (.lst ((as ++ [n]).map V.ref)) b = some u := fun b u e m => by
    rw [upd_ne (fun z => m (by simp [z])), upd_ne (ne_of_none e hn)]; exact e
  have conv : ∀ (q : Pg) (ws : List V), RepL (· ∈ o :: as) H ws q → RepL (· ∈ o :: (as ++ [n])) (upd (upd H n (.lst [])) o (.lst ((as ++ [n]).map V.ref))) ws q := fun q ws r =>
    (r.fresh (X' := (· ∈ o :: (as ++ [n]))) hn (fun a z => by simpa [or_assoc] using z)).mono (fun _ z => z) fun b u e m => keep b u e fun z => m (by
      rcases List.mem_cons.mp z with z | z
      · simp [z]
      · simp [z])
  refine ⟨fun b u e => ?_, h.fo, ?_, upd_same, ?_, Paired.snoc (Paired.mapP_mem h.rep ?_) ⟨[], by rw [upd_ne hno, upd_same], rfl⟩, ?_, ?_⟩
  · rw [upd_ne (ne_of_none e h.fo), upd_ne (ne_of_none e h0n)]; exact h.same b u e
  · intro a ha
    rcases List.mem_append.mp ha with z | z
    · exact h.fas a z
    · rw [List.mem_singleton.mp z]; exact h0n
  · have := h.nd
    simp only [List.nodup_cons, List.nodup_append, List.mem_append, List.mem_singleton] at this ⊢
    refine ⟨fun z => z.elim this.1 (fun e => hno e.symm), this.2, by simp, ?_⟩
    intro a ha b hb
    rw [hb]
    exact hna a ha
  · rintro a q ha ⟨ws, e, r⟩
    have nao : a ≠ o := by
      have := h.nd
      simp only [List.nodup_cons] at this
      exact fun z => this.1 (z ▸ ha)
    exact ⟨ws, by rw [upd_ne nao, upd_ne (hna a ha)]; exact e, conv q ws r⟩
  · intro q hq
    rcases List.mem_append.mp hq with z | z
    · exact h.ok q z
    · rw [List.mem_singleton.mp z]; trivial
  · intro i q hq
    have hl := h.len
    by_cases c : i < ps.length
    · rw [List.getElem?_append_left c] at hq
      exact h.dep i q hq
    · rw [List.getElem?_append_right (by omega)] at hq
      cases z : i - ps.length with
      | zero =>
        rw [z] at hq
        have e1 : Pg.nil = q := Option.some.inj hq
        rw [← e1]
        show 0 + i ≤ 20
        omega
      | succ k => rw [z] at hq; simp at hq
/-- the last list is closed and goes, with its count, to the one ahead -/
theorem PSt.pop {H0 H : Hp} {o t u n : Addr} {as : List Addr} {ps : List Pg} {k : Nat} (h : PSt H0 H o (as ++ [u, t]) ps) (hk : k ≤ 10 ^ 30) (hn : H n = none) :
    ∃ qs p r us, ps = qs ++ [r, p] ∧ H u = some (.lst us) ∧
      PSt H0 (upd (upd (upd H o (.lst ((as ++ [u]).map V.ref))) n (.tup [.ref t, .int (k : Int)])) u (.lst (us ++ [.ref n]))) o (as ++ [u]) (qs ++ [r.app (.rep p k .nil)]) := by
  have e0 : as ++ [u, t] = (as ++ [u]) ++ [t] := by simp
  have h' : Paired (fun a p => ∃ us, H a = some (.lst us) ∧ RepL (· ∈ o :: (as ++ [u, t])) H us p) ((as ++ [u]) ++ [t]) ps := by rw [← e0]; exact h.rep
  obtain ⟨qs', p, e1, h1, ts, ht, rt⟩ := Paired.snoc_inv h'
  obtain ⟨qs, r, e2, h2, us, hu, ru⟩ := Paired.snoc_inv h1
  have ep : ps = qs ++ [r, p] := by rw [e1, e2]; simp
  have nd := h.nd
  simp only [List.nodup_cons, List.nodup_append, List.mem_append, List.mem_cons, List.not_mem_nil, or_false] at nd
  have hou : o ≠ u := fun e => nd.1 (.inr (.inl e))
  have hot : o ≠ t := fun e => nd.1 (.inr (.inr e))
  have hut : u ≠ t := nd.2.2.1.1
  have hno : n ≠ o := fun e => by rw [e, h.lo] at hn; cases hn
  have hnu : n ≠ u := fun e => by rw [e, hu] at hn; cases hn
  have hnt : n ≠ t := fun e => by rw [e, ht] at hn; cases hn
  have h0n : H0 n = none := h.same.free hn
  have keep : ∀ b v, H b = some v → ¬ b ∈ o :: (as ++ [u, t]) → upd (upd (upd H o (.lst ((as ++ [u]).map V.ref))) n (.tup [.ref t, .int (k : Int)])) u (.lst (us ++ [.ref n])) b = some v := fun b v e m => by
    rw [upd_ne (fun z => m (by simp [z])), upd_ne (ne_of_none e hn), upd_ne (fun z => m (by simp [z]))]; exact e
  have conv : ∀ (q : Pg) (ws : List V), RepL (· ∈ o :: (as ++ [u, t])) H ws q → RepL (· ∈ o :: (as ++ [u])) (upd (upd (upd H o (.lst ((as ++ [u]).map V.ref))) n (.tup [.ref t, .int (k : Int)])) u (.lst (us ++ [.ref n]))) ws q := fun q ws z =>
    z.mono (fun a m => by
      rcases List.mem_cons.mp m with m | m
      · simp [m]
      · rcases List.mem_append.mp m with m | m
        · simp [m]
        · simp [List.mem_singleton.mp m]) keep
  refine ⟨qs, p, r, us, ep, hu, ⟨fun b v e => ?_, h.fo, ?_, ?_, ?_, Paired.snoc (Paired.mapP_mem h2 ?_) ?_, ?_, ?_⟩⟩
  · have m1 := ne_of_none e (h.fas u (by simp))
    rw [upd_ne m1, upd_ne (ne_of_none e h0n), upd_ne (ne_of_none e h.fo)]; exact h.same b v e
  · intro a ha
    exact h.fas a (by
      rcases List.mem_append.mp ha with z | z
      · simp [z]
      · simp [List.mem_singleton.mp z])
  · rw [upd_ne hou, upd_ne hno.symm, upd_same]
  · simp only [List.nodup_cons, List.nodup_append, List.mem_append, List.mem_cons, List.not_mem_nil, or_false]
    refine ⟨fun z => z.elim (fun z => nd.1 (.inl z)) (fun z => hou z), nd.2.1, by simp, ?_⟩
    intro a ha b hb
    exact nd.2.2.2 a ha b (.inl hb)
  · rintro a q ha ⟨ws, e, z⟩
    have nao : a ≠ o := fun e => nd.1 (.inl (e ▸ ha))
    have nau : a ≠ u := nd.2.2.2 a ha u (.inl rfl)
    have nan : a ≠ n := fun c => by rw [c, hn] at e; cases e
    exact ⟨ws, by rw [upd_ne nau, upd_ne nan, upd_ne nao]; exact e, conv q ws z⟩
  · refine ⟨_, upd_same, RepL.app (conv r us ru) ⟨n, t, ts, [], rfl, ?_, ?_, ?_, ?_, conv p ts rt, rfl⟩⟩
    · rw [upd_ne hnu, upd_same]
    · intro m
      rcases List.mem_cons.mp m with m | m
      · exact hno m
      · rcases List.mem_append.mp m with m | m
        · obtain ⟨q, ws, z, _⟩ := Paired.left h2 m
          rw [hn] at z; cases z
        · exact hnu (List.mem_singleton.mp m)
    · intro m
      rcases List.mem_cons.mp m with m | m
      · exact hot m.symm
      · rcases List.mem_append.mp m with m | m
        · exact nd.2.2.2 t m t (.inr rfl) rfl
        · exact hut (List.mem_singleton.mp m).symm
    · rw [upd_ne hut.symm, upd_ne hnt.symm, upd_ne hot.symm]; exact ht
  · intro q hq
    rcases List.mem_append.mp hq with z | z
    · exact h.ok q (by rw [ep]; simp [z])
    · rw [List.mem_singleton.mp z]
      exact Pg.ok_app (h.ok r (by rw [ep]; simp)) ⟨h.ok p (by rw [ep]; simp), hk, trivial⟩
  · intro i q hq
    by_cases c : i < qs.length
    · rw [List.getElem?_append_left c] at hq
      exact h.dep i q (by rw [ep, List.getElem?_append_left c]; exact hq)
    · rw [List.getElem?_append_right (by omega)] at hq
      have e3 : i - qs.length = 0 := by
        cases z : i - qs.length with
        | zero => rfl
        | succ k => rw [z] at hq; simp at hq
      rw [e3] at hq
      have e4 : r.app (.rep p k .nil) = q := Option.some.inj hq
      have d1 := h.dep i r (by rw [ep, List.getElem?_append_right (by omega), e3]; rfl)
      have d2 := h.dep (i + 1) p (by rw [ep, List.getElem?_append_right (by omega), show i + 1 - qs.length = 1 by omega]; rfl)
      rw [← e4, Pg.depth_app]
      simp only [Pg.depth]
      omega
theorem RepL.len {X : Addr → Prop} {H : Hp} : ∀ {p : Pg} {vs : List V}, RepL X H vs p → vs.length ≤ p.size
  | .nil, _, e => by
    have e' : _ = [] := e
    rw [e']; exact Nat.zero_le _
  | .seq l q, _, ⟨ws, e, r⟩ => by
    have := r.len
    rw [e, List.length_cons]
    simp only [Pg.size]; omega
  | .rep b k q, _, ⟨t, a, us, ws, e, e1, n1, n2, e2, r1, r2⟩ => by
    have := r2.len
    rw [e, List.length_cons]
    simp only [Pg.size]; omega
theorem span_cut {x : Str} {k : Nat} {cs : List Nat} (h : k ≤ x.cps.toList.length) : cutS x (some (k : Int)) (some ((k + ((x.cps.toList.drop k).takeWhile fun c => decide (c ∈ cs)).length : Nat) : Int)) = S ((x.cps.toList.drop k).takeWhile fun c => decide (c ∈ cs)) := by
  obtain ⟨l, rfl⟩ := S_ex x
  rw [S_cps] at h ⊢
  have hl := (List.takeWhile_prefix (l := l.drop k) fun c => decide (c ∈ cs)).length_le
  rw [List.length_drop] at hl
  rw [cut_within (by omega) (by omega), S_inj, Nat.add_sub_cancel_left]
  exact tw_take _ _
/-! ### texts that the laws write, and the sequences that they stand for -/
def NoDig (l : List Nat) : Prop := ∀ c ∈ l.head?, isDig c = false
/-- the depth of open brackets and the deepest one so far -/
def dstep (s : Int × Int) (c : Nat) : Int × Int :=
  let d := if c = 40 then s.1 + 1 else if c = 41 then s.1 - 1 else s.1
  (d, if s.2 < d then d else s.2)
def DepIn (n : Nat) (tx : List Nat) : Prop := ∀ d m : Int, d ≤ m → ∃ m', tx.foldl dstep (d, m) = (d, m') ∧ m ≤ m' ∧ (m' ≤ m ∨ m' ≤ d + n)
theorem DepIn.flat {l : List Nat} (n : Nat) (h : ∀ c ∈ l, c ≠ 40 ∧ c ≠ 41) : DepIn n l := by
  induction l with
  | nil => exact fun d m h => ⟨m, rfl, by omega, by omega⟩
  | cons c l ih =>
    intro d m hd
    obtain ⟨h1, h2⟩ := h c List.mem_cons_self
    have e : dstep (d, m) c = (d, m) := by
      simp only [dstep, if_neg h1, if_neg h2]
      rw [if_neg (by omega)]
    rw [List.foldl_cons, e]
    exact ih (fun c hc => h c (List.mem_cons_of_mem _ hc)) d m hd
theorem DepIn.app {n : Nat} {a b : List Nat} (ha : DepIn n a) (hb : DepIn n b) : DepIn n (a ++ b) := by
  intro d m hd
  obtain ⟨m1, e1, l1, u1⟩ := ha d m hd
  obtain ⟨m2, e2, l2, u2⟩ := hb d m1 (by omega)
  exact ⟨m2, by rw [List.foldl_append, e1, e2], by omega, by omega⟩
theorem DepIn.rep {n : Nat} {a b : List Nat} (ha : DepIn n a) (hb : ∀ c ∈ b, c ≠ 40 ∧ c ≠ 41) : DepIn (n + 1) (40 :: (a ++ 41 :: b)) := by
  intro d m hd
  have e0 : dstep (d, m) 40 = (d + 1, if m < d + 1 then d + 1 else m) := rfl
  have e1 : ∀ z : Int, dstep (d + 1, z) 41 = (d, if z < d then d else z) := fun z => by
    have : (d + 1 - 1 : Int) = d := by omega
    simp only [dstep, if_neg (show ¬ ((41 : Nat) = 40) by decide), if_true, this]
  obtain ⟨m1, f1, l1, u1⟩ := ha (d + 1) (if m < d + 1 then d + 1 else m) (by split <;> omega)
  obtain ⟨m2, f2, l2, u2⟩ := DepIn.flat 0 hb d (if m1 < d then d else m1) (by split <;> omega)
  refine ⟨m2, by rw [List.foldl_cons, e0, List.foldl_append, f1, List.foldl_cons, e1, f2], ?_, ?_⟩
  · split at l1 <;> split at l2 <;> omega
  · split at l1 <;> split at u2 <;> split at u1 <;> omega
theorem DepIn.mono {m n : Nat} {a : List Nat} (h : DepIn m a) (hm : m ≤ n) : DepIn n a := fun d z hd => by
  obtain ⟨m', e, l, u⟩ := h d z hd
  exact ⟨m', e, l, by omega⟩
theorem stp_asc {c : Nat} (h : c ∈ stp) : c < 128 := by
  have e : stp.all (fun c => decide (c < 128)) = true := by decide +kernel
  exact of_decide_eq_true (List.all_eq_true.mp e c h)
theorem stp_flat {c : Nat} (h : c ∈ stp) : c ≠ 40 ∧ c ≠ 41 := by
  have e : stp.all (fun c => decide (c ≠ 40 ∧ c ≠ 41)) = true := by decide +kernel
  exact of_decide_eq_true (List.all_eq_true.mp e c h)
/-- the text tx stands for fl, and nests at most n deep -/
structure Spells (n : Nat) (tx fl : List Nat) : Prop where
  go : ∀ rest f fs, fs.length + n ≤ 20 → NoDig rest → goF (tx ++ rest) (f :: fs) = goF rest ((f ++ fl) :: fs)
  nd : ∀ rest, NoDig rest → NoDig (tx ++ rest)
  ok : ∀ c ∈ fl, c ∈ stp
  dep : DepIn n tx
  asc : ∀ c ∈ tx, c < 128
theorem NoDig.nil : NoDig [] := fun c h => by cases h
theorem Spells.nil {n : Nat} : Spells n [] [] := ⟨fun rest f fs _ _ => by simp, fun rest h => h, fun c h => (List.not_mem_nil h).elim, DepIn.flat n fun c h => (List.not_mem_nil h).elim, fun c h => (List.not_mem_nil h).elim⟩
theorem Spells.mono {m n : Nat} {tx fl : List Nat} (h : Spells m tx fl) (hm : m ≤ n) : Spells n tx fl := ⟨fun rest f fs hl hd => h.go rest f fs (by omega) hd, h.nd, h.ok, h.dep.mono hm, h.asc⟩
theorem Spells.app {n : Nat} {t1 f1 t2 f2 : List Nat} (h1 : Spells n t1 f1) (h2 : Spells n t2 f2) : Spells n (t1 ++ t2) (f1 ++ f2) :=
  ⟨fun rest f fs hl hd => by rw [List.append_assoc, h1.go _ _ _ hl (h2.nd _ hd), h2.go _ _ _ hl hd, List.append_assoc],
   fun rest hd => by rw [List.append_assoc]; exact h1.nd _ (h2.nd _ hd),
   fun c hc => (List.mem_append.mp hc).elim (h1.ok c) (h2.ok c), h1.dep.app h2.dep, fun c hc => (List.mem_append.mp hc).elim (h1.asc c) (h2.asc c)⟩
theorem stp_dig {c : Nat} (h : c ∈ stp) : isDig c = false := by
  have e : stp.all (fun c => !isDig c) = true := by decide +kernel
  have := List.all_eq_true.mp e c h
  simpa using this
theorem Spells.steps {n : Nat} {l : List Nat} (h : ∀ c ∈ l, c ∈ stp) : Spells n l l :=
  ⟨fun rest f fs _ _ => goF_steps fun c hc => decide_eq_true (h c hc),
   fun rest hd => by
    cases l with
    | nil => exact hd
    | cons a l => intro c hc; cases hc; exact stp_dig (h _ List.mem_cons_self), h, DepIn.flat n fun c hc => stp_flat (h c hc), fun c hc => stp_asc (h c hc)⟩
theorem numL_zero : ∀ {k : Nat}, (TL.numL k).head? = some 48 → TL.numL k = [48] := by
  intro k
  induction k using Nat.strongRecOn with
  | _ k ih =>
    intro h
    by_cases c : k < 10
    · rw [TL.numL_lt c] at h ⊢
      simp at h
      subst h
      rfl
    · rw [TL.numL_step (by omega)] at h
      have h2 : (TL.numL (k / 10)).head? = some 48 := by
        cases e : TL.numL (k / 10) with
        | nil => exact absurd e (TL.numL_ne _)
        | cons a l => rw [e] at h; simpa using h
      have h3 := ih (k / 10) (by omega) h2
      have h4 := TL.numL_val (k / 10)
      rw [h3] at h4
      have h5 : NumText.digitsVal [48] = 0 := by decide +kernel
      omega
theorem okCount_num {k : Nat} (h : k ≤ 10 ^ 30) : okCount (TL.numL k) = true := by
  have h1 : (TL.numL k).length ≤ 31 := TL.numL_len (by decide) (Nat.lt_of_le_of_lt h (by decide))
  have h2 : dval (TL.numL k) = k := TL.numL_val k
  have h3 : (decide ((TL.numL k).head? = some 48) && decide (TL.numL k ≠ [48])) = false := by
    by_cases c : (TL.numL k).head? = some 48
    · have : TL.numL k = [48] := numL_zero c
      simp [this]
    · simp [c]
  unfold okCount
  rw [h3, h2]
  simp [TL.numL_ne, h1, h]
theorem tw_num (k : Nat) {rest : List Nat} (h : NoDig rest) : (TL.numL k ++ rest).takeWhile isDig = TL.numL k ∧ (TL.numL k ++ rest).dropWhile isDig = rest := by
  have hd : ∀ c ∈ TL.numL k, isDig c = true := fun c hc => (isDig_iff c).mpr (TL.numL_digits k c hc)
  have hr : rest.takeWhile isDig = [] ∧ rest.dropWhile isDig = rest := by
    cases rest with
    | nil => exact ⟨rfl, rfl⟩
    | cons a l =>
      have := h a rfl
      simp [this]
  constructor
  · rw [List.takeWhile_append_of_pos hd, hr.1, List.append_nil]
  · rw [List.dropWhile_append_of_pos hd, hr.2]
theorem Spells.rep {n : Nat} {tx fl : List Nat} (h : Spells n tx fl) {k : Nat} (hk : k ≤ 10 ^ 30) : Spells (n + 1) (40 :: (tx ++ 41 :: TL.numL k)) (List.replicate k fl).flatten := by
  refine ⟨fun rest f fs hl hd => ?_, fun rest hd c hc => ?_, fun c hc => ?_, h.dep.rep fun c hc => ?_, fun c hc => ?_⟩
  · obtain ⟨e1, e2⟩ := tw_num k hd
    rw [List.cons_append, List.append_assoc, List.cons_append, goF_open, if_pos (by omega), h.go _ _ _ (by simp; omega) (fun c hc => by cases hc; decide +kernel), goF_close, e1, e2, if_pos (okCount_num hk), show dval (TL.numL k) = k from TL.numL_val k]
    simp
  · cases hc
    decide +kernel
  · obtain ⟨l, hl, hc⟩ := List.mem_flatten.mp hc
    rw [(List.mem_replicate.mp hl).2] at hc
    exact h.ok c hc
  · have := TL.numL_digits k c hc
    omega
  · rcases List.mem_cons.mp hc with z | z
    · omega
    · rcases List.mem_append.mp z with z | z
      · exact h.asc c z
      · rcases List.mem_cons.mp z with z | z
        · omega
        · have := TL.numL_digits k c z
          omega
theorem Spells.prog {n : Nat} {tx fl : List Nat} (h : Spells n tx fl) (hn : n ≤ 20) : progF tx = some fl := by
  have := h.go [] [] [] (by simpa using hn) NoDig.nil
  rw [List.append_nil] at this
  rw [progF, this, List.nil_append, goF.eq_def]
theorem num_txt (k : Nat) : Str.ofString (toString ((k : Nat) : Int)) = S (TL.numL k) := by
  rw [S_of (Str.ofString (toString ((k : Nat) : Int))), S_inj]
  exact TL.tl_num k
/-- the value v is no program, or stands for a sequence -/
def progV (v : V) : Option (List Nat) := match v with
  | .str x => progF x.cps.toList
  | _ => none
theorem progV_S (l : List Nat) : progV (.str (S l)) = progF l := by rw [progV, S_cps]
theorem strOk_asc {l : List Nat} (h : ∀ c ∈ l, c < 128) : PyData.strOk (S l) = true := by
  show l.toArray.all _ = true
  rw [List.all_toArray, List.all_eq_true]
  exact fun c hc => decide_eq_true (by have := h c hc; omega)
theorem strOk_S {l : List Nat} (h : ∀ c ∈ l, c ∈ stp) : PyData.strOk (S l) = true := strOk_asc fun c hc => stp_asc (h c hc)
end Q

/-! ### an exception of the program whose __init__ keeps one field: any base -/
namespace PySem
namespace QX
open PySem.W PySem.Calls PyProof.Rows PySem.HandSPX
open Builtin Builtin.ObjectAttr
section
variable {prog : Program} {w : World} {A : Around} {E : Value → Shared → Prop} {R : Result → Shared → Prop} {hp : Heap} {g : Array GenState} {d : Drawn} {t : Nat} {os : OsState}
/-- self.name = v on an exception that has no dict yet, by any base -/
theorem osaG {K : W.Frag} {B : String} {bmB : List Value} {name : Str} {tk : Tok} {v : Value} {x C : Addr} {fv : Array Value} (SF : StoreFacts B bmB "object.__setattr__" "object")
    (X : K.In hp) (hx : hp.get? x = some { cls := .ref C, data := .fields fv }) (ho : excOver K C bmB = true) (hh : hasDictIn K C = true) (ht : takerIn K C name = some none)
    (hq : ∀ h' tk' dx, (∀ b o, b ≠ x → hp.get? b = some o → h'.get? b = some o) → hp.objs.size ≤ dx → dx ≠ x → h'.get? x = some { cls := .ref C, dict := some dx, data := .fields fv } →
      h'.Ns1 dx (fun y => if y = name then some v else none) → R (.ok (.ret .none)) ⟨h', g, d, tk', os⟩) :
    codeAny (model prog w) A (.call (.builtin "object.__setattr__") ⟨[.ref x, .str name tk, v], []⟩) R ⟨hp, g, d, t, os⟩ := by
  have hxs : x ≠ hp.objs.size := Nat.ne_of_lt (Heap.lt_size hx)
  have I0 : W.InstAt hp x { cls := .ref C, data := .fields fv } C none := ⟨hx, rfl, rfl, trivial⟩
  obtain ⟨cd, hc, hd⟩ := any_some (show (clsIn K C).any (·.hasDict) = true from hh)
  have Lc : W.Looks (model prog w) hp (classData C) cd := W.looks_clsIn X hc
  refine osa_openX SF X I0 ho ht fun b => ?_
  obtain ⟨nm, bs, mro, ns, qn, hd', sn, sb, ab, col, del⟩ := cd
  have hd2 : hd' = true := hd
  subst hd2
  unfold storeInOwnDict ownDictForStores
  repeat (first | with_reducible refine store_in_new ?_ ?_ | with_reducible refine wpAny_loadPart_at hx ?_ | with_reducible refine Lc.at ?_ | wp_step)
  · exact ⟨_, #[], _, (Heap.get?_update_ne _ _ _ _ hxs.symm).trans (Heap.get?_push_at rfl rfl), rfl, fun e he => absurd he (by simp), fun _ => rfl⟩
  · intro h' tk' hn' hs
    have hx1 : (hp.push { cls := .type "dict", data := .dict #[] }).get? x = some { cls := .ref C, data := .fields fv } := Heap.get?_push_of_some _ hx
    refine hq h' tk' hp.objs.size (fun c o hb hc => ?_) (Nat.le_refl _) hxs.symm ?_ hn'
    · exact (hs.2 c (Nat.ne_of_lt (Heap.lt_size hc))).trans ((Heap.get?_update_ne _ _ _ _ hb).trans (Heap.get?_push_of_some _ hc))
    · exact (hs.2 x hxs).trans (Heap.get?_update_self _ hx1 rfl)
end
/-- what the written part says of such a class at C (its __init__ at fI) -/
structure XTxt (K : Frag) (C fI : Addr) (fld : Str) (bmB : List Value) (newId : String) : Prop where
  ini : excInitIn K C bmB newId = true
  ovr : excOver K C bmB = true
  tkr : takerIn K C fld = some none
  hd : hasDictIn K C = true
  sa : findIn K (.ref C) "__setattr__" = some (some (.builtin "object.__setattr__"))
  ga : findIn K (.ref C) "__getattribute__" = some (some (.builtin "BaseException.__getattribute__"))
  gg : findIn K (.ref C) "__getattr__" = some none
  no : findIn K (.ref C) fld = some none
  iC : findIn K (.ref C) "__init__" = some (some (.ref fI))
  tI : typeIn K (.ref fI) = some (.type "function")
  kC : keepIn K (.ref C) = true
  exC : subIn K (.ref C) (.type "BaseException") = some true
  tyC : typeIn K (.ref C) = some (.type "type")
  fnI : isFn K (.ref fI) = true
/-- what __init__ leaves of a fresh exception at x -/
structure InitEnd (fld : Str) (h h' : Heap) (x C dx t1 : Addr) (v : Value) : Prop where
  keep : ∀ b o, b ≠ x → h.get? b = some o → h'.get? b = some o
  obj : h'.get? x = some { cls := .ref C, dict := some dx, data := .fields #[.ref t1, .none, .none, .none, .bool false, .none] }
  dbig : h.objs.size ≤ dx
  dne : dx ≠ x
  ns : h'.Ns1 dx (fun y => if y = fld then some v else none)
/-- a made one -/
structure Made1 (fld : Str) (h h' : Heap) (e C d : Addr) (v : Value) : Prop where
  keep : ∀ b o, h.get? b = some o → h'.get? b = some o
  new : h.objs.size ≤ e
  obj : ∃ oe vs, h'.get? e = some oe ∧ oe.cls = .ref C ∧ oe.dict = some d ∧ oe.data = .fields vs ∧ vs[1]? = some .none
  dbig : h.objs.size ≤ d
  dne : d ≠ e
  ns : h'.Ns1 d (fun y => if y = fld then some v else none)
theorem ldQ {M : Model} {s : Shared} {name : Str} {scope : Scope} {L a : Addr} {cd : Value} {m : Str → Option Value} {x : Str} {pos : Pos} {v : Value} {Q : Value → Shared → Prop} {A : Around} {E : Value → Shared → Prop} (hn : s.heap.Ns L m) (hv : m x = some v) (h : Q v s)
    (hk : scope.kind = .function := by rfl) (hl : (envOfC name scope L a cd).kindOf x = some .local := by rfl) (hd : (x == ("__debug__" : Str)) = false := by decide) :
    wpAny M A (eval (.Name x pos) (envOfC name scope L a cd)) Q E s := wpAny_Name (wpAny_loadName_local hk hl hn hv h) hd
/-- __init__, told by its end -/
def InitRuns (prog : Program) (w : World) (K : Frag) (C fI : Addr) (fld : Str) : Prop := ∀ (A : Around) (R : Result → Shared → Prop) (s : Shared) (x t0 : Addr) (v : Value), K.In s.heap → s.heap.NoLimit → s.heap.get? x = some (excO C t0) → K.lookup x = none → A.depth < recursionLimit →
  (∀ h' tk dx, InitEnd fld s.heap h' x C dx t0 v → R (.ok (.ret .none)) { s with heap := h', toks := tk }) → codeAny (model prog w) A (.call (.ref fI) ⟨[.ref x, v], []⟩) R s
section
variable {prog : Program} {w : World} {A : Around} {E : Value → Shared → Prop} {R : Result → Shared → Prop} {s : Shared} {K : Frag} {C fI : Addr} {fld : Str} {bmB : List Value} {newId initId B : String}
theorem made1 (FB : ExcBaseFacts B newId initId bmB) (T : XTxt K C fI fld bmB newId) (hI : InitRuns prog w K C fI fld) {v : Value} (X : K.In s.heap) (hlim : s.heap.NoLimit) (hroom : A.depth + 1 < recursionLimit)
    (hq : ∀ h' tk e d, Made1 fld s.heap h' e C d v → R (.ok (.ret (.ref e))) { s with heap := h', toks := tk }) :
    codeAny (model prog w) A (.call (.ref C) ⟨[v], []⟩) R s := by
  obtain ⟨nm, N, q, bs, bm, hdct, sn, sub, ab, col, dd, k0, k1, k2, k3, k5, hC, hT⟩ := excInit_of X T.ini
  obtain ⟨hp, g, dr, tk, os⟩ := s
  have k : ∀ b o, hp.get? b = some o → ((hp.push (kdv_tup [v])).push (excO C hp.objs.size)).get? b = some o := fun b o e => Heap.get?_push_of_some _ (Heap.get?_push_of_some _ e)
  have hget : ((hp.push (kdv_tup [v])).push (excO C hp.objs.size)).get? (hp.objs.size + 1) = some (excO C hp.objs.size) := by heap_get
  have hnx : K.lookup (hp.objs.size + 1) = none := by
    cases e : K.lookup (hp.objs.size + 1) with
    | none => rfl
    | some o =>
      have z : hp.get? (hp.objs.size + 1) = some o := X _ _ e
      exact absurd (Nat.lt_of_succ_lt (Heap.lt_size z)) (Nat.lt_irrefl _)
  have one : [v].length ≤ sizeLine := by rw [sizeLine_eq]; exact (by decide : 1 ≤ 16777216)
  refine call_own FB hT hC (looks_findIn X T.iC) (fun self => bind_fn X self T.tI) one ?_
  refine hI _ _ ⟨(hp.push (kdv_tup [v])).push (excO C hp.objs.size), g, dr, tk, os⟩ (hp.objs.size + 1) hp.objs.size v (X.keeps k) (hlim.keeps k) hget hnx ?_ fun h' tk' dx ⟨k', hx, dn, dne, hns⟩ => ?_
  · show A.depth + 1 < recursionLimit
    exact hroom
  · have old : ∀ b o, hp.get? b = some o → h'.get? b = some o := fun b o e => k' b o (Nat.ne_of_lt (Nat.lt_succ_of_lt (Heap.lt_size e))) (k b o e)
    have z : hp.objs.size + 1 + 1 ≤ dx := by
      first
        | (simpa only [Heap.size_push] using dn)
        | exact dn
        | (have q := dn; rw [Heap.size_push, Heap.size_push] at q; exact q)
    exact ⟨rfl, hq h' tk' (hp.objs.size + 1) dx ⟨old, Nat.le_succ _, ⟨_, _, hx, rfl, rfl, rfl, rfl⟩, Nat.le_trans (Nat.le_trans (Nat.le_succ _) (Nat.le_succ _)) z, dne, hns⟩⟩
end
end QX
end PySem
namespace Q
open PySem PySem.Spec PyProof.Rows L2
theorem relO_one {fld : Str} {v : V} {v' : Value} (r : RelV v v') (f : Str) : RelO (List.lookup f [(fld, v)]) (if f = fld then some v' else none) := by
  by_cases hw : f = fld
  · subst hw
    rw [if_pos rfl]
    have q : List.lookup f [(f, v)] = some v := by simp [List.lookup]
    rw [q]
    exact r
  · rw [if_neg hw]
    have qw : (f == fld) = false := by simpa using hw
    have q2 : List.lookup f [(fld, v)] = none := by simp [List.lookup, qw]
    rw [q2]
    trivial
section
variable {X : Cx} {C fI : Addr} {cn fld : Str} {bmB : List Value} {newId initId B : String}
/-- C(e) -/
def tMk1 (C : Addr) (fld : Str) (ta : TA) : St → Hp → XK → Prop := fun σ H Q => ta σ H fun vs H1 => ∃ v, vs = [v] ∧ ∀ d, H1 d = none → Q (.ref C) (some d) (upd H1 d (.xd [(fld, v)]))
theorem pmk_1 {a : Expr} {ta : TA} {p pos : Pos} {k : Nat} (FB : ExcBaseFacts B newId initId bmB) (T : PySem.QX.XTxt X.K C fI fld bmB newId) (hI : PySem.QX.InitRuns X.prog X.w X.K C fI fld) (gC : X.mg cn = some (.ref C)) (hr : Room k X.A) (hg : Gl X cn) (ha : PA X [a] ta)
    (hdb : (cn == ("__debug__" : Str)) = false := by decide) (he : starEach (a :: []) X.env = (false, eval a X.env) :: starEach [] X.env := by rfl) (hpl : (backTo pos (starEach [] X.env)).any (·.1) = false := by rfl) :
    PMk X (.Call (.Name cn p) [a] [] pos) (tMk1 C fld ta) := by
  intro pins s σ H Q I h
  refine wpAny_Call_Name_kw (ld_glob I hg gC ?_ hdb)
  refine PySem.W.callWith_K (h₀ := X.base) I.ok.mod.kin T.kC (thn (ha.run pos pins s σ H _ I h) fun us s1 hh => ?_) he hpl
  obtain ⟨vs, H1, I1, r1, v, ev, q1⟩ := hh
  subst ev
  refine ⟨I1.kIn, ?_⟩
  cases r1 with
  | cons rv rn =>
    rename_i v' us'
    cases rn
    show wpAny _ _ (call (.ref C) [v']) _ _ _
    have hlim := I1.nolimit
    obtain ⟨hp, g, dr, tk, os⟩ := s1
    refine wpAny_call (PySem.QX.made1 FB T hI I1.kIn hlim (by have := hr.dp; omega) fun h' tk' e d M => ?_)
    show MkP X pins σ Q (.ref e) ⟨h', g, dr, tk', os⟩
    obtain ⟨oe, fv, hoe, hc, hd, hdat, h1⟩ := M.obj
    have hns := M.ns
    obtain ⟨G', g1, g2⟩ := restrict h' fun b => decide (b ≠ e)
    have gk : ∀ b, b ≠ e → G'.get? b = h'.get? b := fun b hb => g1 b (decide_eq_true hb)
    have ge : G'.get? e = none := g2 e (by simp)
    have old : ∀ b o, hp.get? b = some o → G'.get? b = some o := fun b o q => (gk b (Nat.ne_of_lt (Nat.lt_of_lt_of_le (Heap.lt_size q) M.new))).trans (M.keep b o q)
    have ob : ObjOk X.prog X.w (upd H1 d (.xd [(fld, v)])) G' d (.xd [(fld, v)]) := ⟨_, hns.at (fun o q => (gk d M.dne).trans q), fun f => relO_one rv f⟩
    have J : Inv X pins σ (upd H1 d (.xd [(fld, v)])) ⟨G', g, dr, tk', os⟩ := I1.laid (t' := tk') old M.dbig ob
    refine ⟨e, oe, fv, ⟨G', g, dr, tk', os⟩, _, .ref C, some d, rfl, J, fun b o q => ?_, ge, hoe, ⟨hc, hd⟩, hdat, h1, ?_, rfl, I1.bare, raises_own T.exC T.tyC, q1 d (I1.hok.fresh M.dbig)⟩
    · by_cases hb : b = e
      · have q' : G'.get? b = some o := q
        rw [hb, ge] at q'; cases q'
      · exact (gk b hb).symm.trans q
    · rw [upd_ne (Ne.symm M.dne)]
      exact I1.hok.fresh M.new
/-- e.f, e the exception that the suite holds -/
def tBy1 (C : Addr) (fld : Str) (a : Addr) (cls : Value) (d : Option Addr) (te : TE) : TE := fun σ H Q => te σ H fun x H1 => x = .ref a ∧ cls = .ref C ∧ ∃ (dd : Addr) (v : V), d = some dd ∧ H1 dd = some (.xd [(fld, v)]) ∧ Q v H1
theorem pe_by1 {a : Addr} {oe : Obj} {cls : Value} {d : Option Addr} {pn : List (Addr × Obj)} {e : Expr} {te : TE} {pos : Pos} (T : PySem.QX.XTxt X.K C fI fld bmB newId) (hz : Zc cls d oe) (hf : ∃ vs, oe.data = .fields vs) (he : PE (X.suite a ((a, oe) :: pn)) e te)
    (hb : attributeBase e fld X.env (eval e X.env) = eval e X.env := by rfl) :
    PE (X.suite a ((a, oe) :: pn)) (.Attribute e fld pos) (tBy1 C fld a cls d te) := by
  refine ⟨fun pins s σ H Q I h => ?_⟩
  refine attr_of hb (thn (he.run pins s σ H _ I h) fun u s1 hh => ?_)
  obtain ⟨x, H1, I1, rx, ex, ec, dd, v, ed, ea, q⟩ := hh
  subst ex
  obtain rfl : u = Value.ref a := rx
  subst ec
  subst ed
  obtain ⟨ha, _⟩ := I1.pin (a, oe) (List.mem_append_left _ List.mem_cons_self)
  obtain ⟨vs, hd⟩ := hf
  have hx : ObjOk X.prog X.w H1 s1.heap dd (.xd [(fld, v)]) := I1.hok dd _ ea
  obtain ⟨mA, hns, hr⟩ := hx
  obtain ⟨od, ho, hl⟩ := lookIn_ns hns
  have l : List.lookup fld [(fld, v)] = some v := by simp [List.lookup]
  obtain ⟨u, hu, ru⟩ := RelO.some_of (v := v) (o := mA fld) (by rw [← l]; exact hr fld)
  have J : PySem.W.InstAt s1.heap a oe C (some od) := ⟨ha, hz.1, by unfold PySem.W.notCls; rw [hd] <;> rfl, by rw [hz.2]; exact ho⟩
  exact HandSPX.exc_get I1.kIn J T.ga T.gg T.exC (PySem.W.findObj_own T.hd T.no rfl (by rw [hl, hu])) (handed_of ru) ⟨v, H1, I1.tok _, ru, q⟩
end
/-- the facts of such a class as one Bool -/
def x1B (cn fld : Str) (bmB : List Value) (newId : String) (K : PySem.W.Frag) : Bool :=
  PySem.W.excInitIn K (He.ga K cn) bmB newId && (PySem.W.excOver K (He.ga K cn) bmB && (decide (PySem.W.takerIn K (He.ga K cn) fld = some none) && (PySem.W.hasDictIn K (He.ga K cn) && (He.eqO (PySem.W.findIn K (.ref (He.ga K cn)) "__setattr__") (some (some (.builtin "object.__setattr__"))) &&
  (He.eqO (PySem.W.findIn K (.ref (He.ga K cn)) "__getattribute__") (some (some (.builtin "BaseException.__getattribute__"))) && (He.eqO (PySem.W.findIn K (.ref (He.ga K cn)) "__getattr__") (some none) && (He.eqO (PySem.W.findIn K (.ref (He.ga K cn)) fld) (some none) &&
  (He.eqO (PySem.W.findIn K (.ref (He.ga K cn)) "__init__") (some (some (.ref (He.ma K (He.ga K cn) "__init__")))) && (decide (PySem.W.typeIn K (.ref (He.ma K (He.ga K cn) "__init__")) = some (.type "function")) && (PySem.W.keepIn K (.ref (He.ga K cn)) &&
  (decide (PySem.W.subIn K (.ref (He.ga K cn)) (.type "BaseException") = some true) && (decide (PySem.W.typeIn K (.ref (He.ga K cn)) = some (.type "type")) && PySem.W.isFn K (.ref (He.ma K (He.ga K cn) "__init__"))))))))))))))
theorem x1B_ok {K : PySem.W.Frag} {cn fld : Str} {bmB : List Value} {newId : String} (h : x1B cn fld bmB newId K = true) : PySem.QX.XTxt K (He.ga K cn) (He.ma K (He.ga K cn) "__init__") fld bmB newId := by
  obtain ⟨c1, h⟩ := He.ba h
  obtain ⟨c2, h⟩ := He.ba h
  obtain ⟨c3, h⟩ := He.ba h
  obtain ⟨c4, h⟩ := He.ba h
  obtain ⟨c5, h⟩ := He.ba h
  obtain ⟨c6, h⟩ := He.ba h
  obtain ⟨c7, h⟩ := He.ba h
  obtain ⟨c8, h⟩ := He.ba h
  obtain ⟨c9, h⟩ := He.ba h
  obtain ⟨c10, h⟩ := He.ba h
  obtain ⟨c11, h⟩ := He.ba h
  obtain ⟨c12, h⟩ := He.ba h
  obtain ⟨c13, c14⟩ := He.ba h
  exact ⟨c1, c2, of_decide_eq_true c3, c4, He.eqO_ok c5, He.eqO_ok c6, He.eqO_ok c7, He.eqO_ok c8, He.eqO_ok c9, of_decide_eq_true c10, c11, of_decide_eq_true c12, of_decide_eq_true c13, c14⟩
end Q

namespace Q
open PySem PySem.Spec PyProof.Rows L2
/-! ### profiles: puts, takes, the lowest and the highest offset, the deepest fall -/
structure Five where
  p : Int
  t : Int
  l : Int
  h : Int
  f : Int
deriving DecidableEq
def Five.vs (F : Five) : List V := [.int F.p, .int F.t, .int F.l, .int F.h, .int F.f]
def mx (a b : Int) : Int := if a < b then b else a
def mn (a b : Int) : Int := if b < a then b else a
def Five.join (F G : Five) : Five := ⟨F.p + G.p, F.t + G.t, mn F.l (F.p - F.t + G.l), mx F.h (F.p - F.t + G.h), mx (mx F.f G.f) (F.h - (F.p - F.t) - G.l)⟩
def Five.none : Five := ⟨0, 0, 0, 0, 0⟩
structure Five.Good (F : Five) : Prop where
  l : F.l ≤ 0
  h : 0 ≤ F.h
  f : 0 ≤ F.f
  f1 : -F.l ≤ F.f
  f2 : F.h - (F.p - F.t) ≤ F.f
  lo : F.l ≤ F.p - F.t
  ho : F.p - F.t ≤ F.h
  p0 : 0 ≤ F.p
  t0 : 0 ≤ F.t
theorem Five.ext' {F G : Five} (h1 : F.p = G.p) (h2 : F.t = G.t) (h3 : F.l = G.l) (h4 : F.h = G.h) (h5 : F.f = G.f) : F = G := by
  cases F; cases G; simp_all
theorem mx_def (a b : Int) : (a ≤ mx a b ∧ b ≤ mx a b) ∧ (mx a b = a ∨ mx a b = b) := by unfold mx; split <;> omega
theorem mn_def (a b : Int) : (mn a b ≤ a ∧ mn a b ≤ b) ∧ (mn a b = a ∨ mn a b = b) := by unfold mn; split <;> omega
theorem Five.assoc (F G K : Five) : (F.join G).join K = F.join (G.join K) := by
  refine Five.ext' ?_ ?_ ?_ ?_ ?_
  · simp only [Five.join]; omega
  · simp only [Five.join]; omega
  · simp only [Five.join, mn]; (repeat' split) <;> omega
  · simp only [Five.join, mx]; (repeat' split) <;> omega
  · simp only [Five.join]
    have a1 := mx_def F.f G.f
    have a2 := mx_def (mx F.f G.f) (F.h - (F.p - F.t) - G.l)
    have a3 := mx_def (mx (mx F.f G.f) (F.h - (F.p - F.t) - G.l)) K.f
    have a4 := mx_def F.h (F.p - F.t + G.h)
    have b1 := mx_def G.f K.f
    have b2 := mx_def (mx G.f K.f) (G.h - (G.p - G.t) - K.l)
    have b3 := mx_def F.f (mx (mx G.f K.f) (G.h - (G.p - G.t) - K.l))
    have b4 := mn_def G.l (G.p - G.t + K.l)
    have c1 := mx_def (mx (mx (mx F.f G.f) (F.h - (F.p - F.t) - G.l)) K.f) (mx F.h (F.p - F.t + G.h) - (F.p + G.p - (F.t + G.t)) - K.l)
    have c2 := mx_def (mx F.f (mx (mx G.f K.f) (G.h - (G.p - G.t) - K.l))) (F.h - (F.p - F.t) - mn G.l (G.p - G.t + K.l))
    generalize mx (mx (mx (mx F.f G.f) (F.h - (F.p - F.t) - G.l)) K.f) (mx F.h (F.p - F.t + G.h) - (F.p + G.p - (F.t + G.t)) - K.l) = u at *
    generalize mx (mx F.f (mx (mx G.f K.f) (G.h - (G.p - G.t) - K.l))) (F.h - (F.p - F.t) - mn G.l (G.p - G.t + K.l)) = v at *
    omega
theorem Five.none_join {F : Five} (g : F.Good) : Five.none.join F = F := by
  obtain ⟨g1, g2, g3, g4, g5, g6, g7, _, _⟩ := g
  refine Five.ext' ?_ ?_ ?_ ?_ ?_ <;> simp only [Five.join, Five.none, mn, mx] <;> (repeat' split) <;> omega
theorem Five.join_none {F : Five} (g : F.Good) : F.join Five.none = F := by
  obtain ⟨g1, g2, g3, g4, g5, g6, g7, _, _⟩ := g
  refine Five.ext' ?_ ?_ ?_ ?_ ?_ <;> simp only [Five.join, Five.none, mn, mx] <;> (repeat' split) <;> omega
theorem Five.none_good : Five.none.Good := by constructor <;> decide
theorem Five.join_good {F G : Five} (a : F.Good) (b : G.Good) : (F.join G).Good := by
  obtain ⟨a1, a2, a3, a4, a5, a6, a7, a8, a9⟩ := a
  obtain ⟨b1, b2, b3, b4, b5, b6, b7, b8, b9⟩ := b
  constructor <;> simp only [Five.join] <;> (
    have x1 := mx_def F.f G.f
    have x2 := mx_def (mx F.f G.f) (F.h - (F.p - F.t) - G.l)
    have x3 := mx_def F.h (F.p - F.t + G.h)
    have x4 := mn_def F.l (F.p - F.t + G.l)
    omega)
def Five.pow (F : Five) : Nat → Five
  | 0 => Five.none
  | n + 1 => F.join (F.pow n)
theorem Five.pow_good {F : Five} (g : F.Good) : ∀ n, (F.pow n).Good
  | 0 => Five.none_good
  | n + 1 => Five.join_good g (Five.pow_good g n)
theorem Five.pow_add {F : Five} (g : F.Good) (m n : Nat) : F.pow (m + n) = (F.pow m).join (F.pow n) := by
  induction m with
  | zero => rw [Nat.zero_add, Five.pow, Five.none_join (Five.pow_good g n)]
  | succ m ih => rw [Nat.succ_add, Five.pow, ih, Five.pow, Five.assoc]
theorem Five.pow_two {F : Five} (g : F.Good) (n : Nat) : (F.join F).pow n = F.pow (2 * n) := by
  induction n with
  | zero => rfl
  | succ n ih =>
    rw [Five.pow, ih, Five.assoc, show 2 * (n + 1) = 2 * n + 1 + 1 by omega, Five.pow, Five.pow]
/-- one step -/
def stepF (c : Nat) : Five := if c = 45 then ⟨0, 1, -1, 0, 1⟩ else ⟨1, 0, 0, 1, 0⟩
theorem stepF_good (c : Nat) : (stepF c).Good := by
  unfold stepF; split <;> (constructor <;> decide)
def fiveF : List Nat → Five
  | [] => Five.none
  | c :: l => (stepF c).join (fiveF l)
theorem fiveF_good : ∀ l, (fiveF l).Good
  | [] => Five.none_good
  | c :: l => Five.join_good (stepF_good c) (fiveF_good l)
theorem fiveF_app (a b : List Nat) : fiveF (a ++ b) = (fiveF a).join (fiveF b) := by
  induction a with
  | nil => rw [List.nil_append, fiveF, Five.none_join (fiveF_good b)]
  | cons c a ih => rw [List.cons_append, fiveF, ih, fiveF, Five.assoc]
theorem fiveF_rep (l : List Nat) : ∀ n : Nat, fiveF (List.replicate n l).flatten = (fiveF l).pow n
  | 0 => rfl
  | n + 1 => by rw [List.replicate_succ, List.flatten_cons, fiveF_app, fiveF_rep l n, Five.pow]
theorem fiveF_one (c : Nat) : fiveF [c] = stepF c := by rw [fiveF, fiveF, Five.join_none (stepF_good c)]
end Q

namespace Q
open PySem PySem.Spec PyProof.Rows L2
/-! ### the text by places -/
def top (i : Nat) : Stmt := PySem.Challenge.pw_fullqueue_k10_whole_lengths_of_large_pro.main.body.getD i (.Pass ⟨0, 0, 0, 0⟩)
abbrev s_LimitExceeded_init : Stmt := inClass (top 6) 0
abbrev s_is_integer : Stmt := top 11
abbrev s_check_integer : Stmt := top 12
abbrev s_is_capacity : Stmt := top 13
abbrev s_check_capacity : Stmt := top 14
abbrev s_is_mode : Stmt := top 15
abbrev s_check_mode : Stmt := top 16
abbrev s_span_of : Stmt := top 23
abbrev s_is_count : Stmt := top 24
abbrev s_parse : Stmt := top 25
abbrev s_items_of : Stmt := top 26
abbrev s_depth_of : Stmt := top 27
abbrev s_repeat : Stmt := top 28
abbrev s_joined : Stmt := top 31
abbrev s_repeated : Stmt := top 32
abbrev s_five_of : Stmt := top 33
abbrev s_start_range : Stmt := top 35
abbrev s_start_lengths : Stmt := top 36
abbrev s_checked : Stmt := top 37
abbrev s_end_length : Stmt := top 38
abbrev s_lost_letters : Stmt := top 39
abbrev s_law_draws : Stmt := top 41
abbrev s_law_draw : Stmt := top 42
abbrev s_law_letter : Stmt := top 43
abbrev s_law_sequence : Stmt := top 44
abbrev s_law_program : Stmt := top 45
abbrev s_law : Stmt := top 46
theorem sc_LimitExceeded_init : FnScope ["self", "size"] ["self", "size"] (defScope s_LimitExceeded_init) := ⟨rfl, rfl, rfl, by decide +kernel, rfl, by decide +kernel, by decide +kernel⟩
theorem sc_is_integer : FnScope ["value", "least"] ["value", "least"] (defScope s_is_integer) := ⟨rfl, rfl, rfl, by decide +kernel, rfl, by decide +kernel, by decide +kernel⟩
theorem sc_check_integer : FnScope ["value", "least", "greatest"] ["value", "least", "greatest"] (defScope s_check_integer) := ⟨rfl, rfl, rfl, by decide +kernel, rfl, by decide +kernel, by decide +kernel⟩
theorem sc_is_capacity : FnScope ["value"] ["value"] (defScope s_is_capacity) := ⟨rfl, rfl, rfl, by decide +kernel, rfl, by decide +kernel, by decide +kernel⟩
theorem sc_check_capacity : FnScope ["value"] ["value"] (defScope s_check_capacity) := ⟨rfl, rfl, rfl, by decide +kernel, rfl, by decide +kernel, by decide +kernel⟩
theorem sc_is_mode : FnScope ["value"] ["value"] (defScope s_is_mode) := ⟨rfl, rfl, rfl, by decide +kernel, rfl, by decide +kernel, by decide +kernel⟩
theorem sc_check_mode : FnScope ["value"] ["value"] (defScope s_check_mode) := ⟨rfl, rfl, rfl, by decide +kernel, rfl, by decide +kernel, by decide +kernel⟩
theorem sc_span_of : FnScope ["text", "start", "characters", "end"] ["text", "start", "characters"] (defScope s_span_of) := ⟨rfl, rfl, rfl, by decide +kernel, rfl, by decide +kernel, by decide +kernel⟩
theorem sc_is_count : FnScope ["digits"] ["digits"] (defScope s_is_count) := ⟨rfl, rfl, rfl, by decide +kernel, rfl, by decide +kernel, by decide +kernel⟩
theorem sc_parse : FnScope ["text", "open_lists", "at", "end", "items"] ["text"] (defScope s_parse) := ⟨rfl, rfl, rfl, by decide +kernel, rfl, by decide +kernel, by decide +kernel⟩
theorem sc_items_of : FnScope ["program", "items"] ["program"] (defScope s_items_of) := ⟨rfl, rfl, rfl, by decide +kernel, rfl, by decide +kernel, by decide +kernel⟩
theorem sc_depth_of : FnScope ["program", "depth", "deepest", "character"] ["program"] (defScope s_depth_of) := ⟨rfl, rfl, rfl, by decide +kernel, rfl, by decide +kernel, by decide +kernel⟩
theorem sc_repeat : FnScope ["program", "count", "found"] ["program", "count"] (defScope s_repeat) := ⟨rfl, rfl, rfl, by decide +kernel, rfl, by decide +kernel, by decide +kernel⟩
theorem sc_joined : FnScope ["first", "second", "offset", "low", "high", "fall"] ["first", "second"] (defScope s_joined) := ⟨rfl, rfl, rfl, by decide +kernel, rfl, by decide +kernel, by decide +kernel⟩
theorem sc_repeated : FnScope ["five", "count", "found", "factor", "left"] ["five", "count"] (defScope s_repeated) := ⟨rfl, rfl, rfl, by decide +kernel, rfl, by decide +kernel, by decide +kernel⟩
theorem sc_five_of : FnScope ["items", "found", "item", "step"] ["items"] (defScope s_five_of) := ⟨rfl, rfl, rfl, by decide +kernel, rfl, by decide +kernel, by decide +kernel⟩
theorem sc_start_range : FnScope ["five", "capacity", "mode", "puts", "takes", "low", "high", "fall"] ["five", "capacity", "mode"] (defScope s_start_range) := ⟨rfl, rfl, rfl, by decide +kernel, rfl, by decide +kernel, by decide +kernel⟩
theorem sc_start_lengths : FnScope ["program", "capacity", "mode", "five"] ["program", "capacity", "mode"] (defScope s_start_lengths) := ⟨rfl, rfl, rfl, by decide +kernel, rfl, by decide +kernel, by decide +kernel⟩
theorem sc_checked : FnScope ["program", "capacity", "mode", "length", "five", "limits"] ["program", "capacity", "mode", "length"] (defScope s_checked) := ⟨rfl, rfl, rfl, by decide +kernel, rfl, by decide +kernel, by decide +kernel⟩
theorem sc_end_length : FnScope ["program", "capacity", "mode", "length", "five", "succeeds", "offset"] ["program", "capacity", "mode", "length"] (defScope s_end_length) := ⟨rfl, rfl, rfl, by decide +kernel, rfl, by decide +kernel, by decide +kernel⟩
theorem sc_lost_letters : FnScope ["program", "capacity", "mode", "length", "five", "succeeds"] ["program", "capacity", "mode", "length"] (defScope s_lost_letters) := ⟨rfl, rfl, rfl, by decide +kernel, rfl, by decide +kernel, by decide +kernel⟩
theorem sc_law_draws : FnScope ["_law_script", "_law_k", "_law_cell", "_law_seed"] ["_law_script", "_law_k"] (defScope s_law_draws) := ⟨rfl, rfl, rfl, by decide +kernel, rfl, by decide +kernel, by decide +kernel⟩
theorem sc_law_draw : FnScope ["_law_draws_here", "_law_upto", "_law_digit"] ["_law_draws_here", "_law_upto"] (defScope s_law_draw) := ⟨rfl, rfl, rfl, by decide +kernel, rfl, by decide +kernel, by decide +kernel⟩
theorem sc_law_letter : FnScope ["_law_draws_here"] ["_law_draws_here"] (defScope s_law_letter) := ⟨rfl, rfl, rfl, by decide +kernel, rfl, by decide +kernel, by decide +kernel⟩
theorem sc_law_sequence : FnScope ["_law_draws_here", "_law_most", "_law_some", "_law_way", "_law_turn"] ["_law_draws_here", "_law_most"] (defScope s_law_sequence) := ⟨rfl, rfl, rfl, by decide +kernel, rfl, by decide +kernel, by decide +kernel⟩
theorem sc_law_program : FnScope ["_law_draws_here", "_law_depth", "_law_text", "_law_full", "_law_turn", "_law_stretch", "_law_inner", "_law_spelled", "_law_count"] ["_law_draws_here", "_law_depth"] (defScope s_law_program) := ⟨rfl, rfl, rfl, by decide +kernel, rfl, by decide +kernel, by decide +kernel⟩
theorem sc_law : FnScope ["_law_script", "_law_k", "_law_draws_here", "_law_count", "_law_one", "_law_two", "_law_capacity", "_law_mode", "_law_good", "_law_length", "_law_middle", "_law_expected", "_law_lost"] ["_law_script"] (defScope s_law) := ⟨rfl, rfl, rfl, by decide +kernel, rfl, by decide +kernel, by decide +kernel⟩
/-! ### what the top leaves -/
structure Txt (K : PySem.W.Frag) (mg : Str → Option Value) : Prop where
  b_ValueError : mg "ValueError" = none
  b_OverflowError : mg "OverflowError" = none
  b_min : mg "min" = none
  b_max : mg "max" = none
  b_range : mg "range" = none
  b_isinstance : mg "isinstance" = none
  b_int : mg "int" = none
  b_str : mg "str" = none
  b_len : mg "len" = none
  b_bool : mg "bool" = none
  c_LETTERS : ∃ u, mg "LETTERS" = some u ∧ RelV (.str "abcdefghijklmnopqrstuvwxyz") u
  c_MOST : ∃ u, mg "MOST" = some u ∧ RelV (.int 100) u
  g_MODES : mg "MODES" = some (.ref (He.ga K "MODES"))
  q_MODES : ∀ H, SqT K H (He.ga K "MODES") ([(.str "oldest"), (.str "newest"), (.str "strict")] : List V)
  c_TAKE : ∃ u, mg "TAKE" = some u ∧ RelV (.str "-") u
  c_STEPS : ∃ u, mg "STEPS" = some u ∧ RelV (.str "abcdefghijklmnopqrstuvwxyz-") u
  c_DIGITS : ∃ u, mg "DIGITS" = some u ∧ RelV (.str "0123456789") u
  c_MOST_COUNT : ∃ u, mg "MOST_COUNT" = some u ∧ RelV (.int 1000000000000000000000000000000) u
  c_MOST_DEPTH : ∃ u, mg "MOST_DEPTH" = some u ∧ RelV (.int 20) u
  g_NOTHING : mg "NOTHING" = some (.ref (He.ga K "NOTHING"))
  q_NOTHING : ∀ H, SqT K H (He.ga K "NOTHING") ([(.int 0), (.int 0), (.int 0), (.int 0), (.int 0)] : List V)
  g_QueueError : mg "QueueError" = some (.ref (He.ga K "QueueError"))
  x_QueueError : ExcF K (He.ga K "QueueError") [.type "ValueError", .type "Exception", .type "BaseException", .type "object"] "ValueError.__new__"
  g_InvalidInteger : mg "InvalidInteger" = some (.ref (He.ga K "InvalidInteger"))
  x_InvalidInteger : ExcF K (He.ga K "InvalidInteger") [.type "ValueError", .type "Exception", .type "BaseException", .type "object"] "ValueError.__new__"
  g_InvalidCapacity : mg "InvalidCapacity" = some (.ref (He.ga K "InvalidCapacity"))
  x_InvalidCapacity : ExcF K (He.ga K "InvalidCapacity") [.type "ValueError", .type "Exception", .type "BaseException", .type "object"] "ValueError.__new__"
  g_InvalidMode : mg "InvalidMode" = some (.ref (He.ga K "InvalidMode"))
  x_InvalidMode : ExcF K (He.ga K "InvalidMode") [.type "ValueError", .type "Exception", .type "BaseException", .type "object"] "ValueError.__new__"
  g_InvalidProgram : mg "InvalidProgram" = some (.ref (He.ga K "InvalidProgram"))
  x_InvalidProgram : ExcF K (He.ga K "InvalidProgram") [.type "ValueError", .type "Exception", .type "BaseException", .type "object"] "ValueError.__new__"
  g_LimitExceeded : mg "LimitExceeded" = some (.ref (He.ga K "LimitExceeded"))
  x_LimitExceeded : PySem.QX.XTxt K (He.ga K "LimitExceeded") (He.ma K (He.ga K "LimitExceeded") "__init__") "size" [.type "OverflowError", .type "ArithmeticError", .type "Exception", .type "BaseException", .type "object"] "OverflowError.__new__"
  F_LimitExceeded_init : FunD K "__init__" "LimitExceeded.__init__" (defArgs s_LimitExceeded_init) (defBody s_LimitExceeded_init) (defScope s_LimitExceeded_init) [] [] (He.ma K (He.ga K "LimitExceeded") "__init__") (fdA K (He.ma K (He.ga K "LimitExceeded") "__init__"))
  g_is_integer : mg "is_integer" = some (.ref (He.ga K "is_integer"))
  F_is_integer : FunD K "is_integer" "is_integer" (defArgs s_is_integer) (defBody s_is_integer) (defScope s_is_integer) [(.int 0)] [] (He.ga K "is_integer") (fdA K (He.ga K "is_integer"))
  g_check_integer : mg "check_integer" = some (.ref (He.ga K "check_integer"))
  F_check_integer : FunD K "check_integer" "check_integer" (defArgs s_check_integer) (defBody s_check_integer) (defScope s_check_integer) [(.int 0), .non] [] (He.ga K "check_integer") (fdA K (He.ga K "check_integer"))
  g_is_capacity : mg "is_capacity" = some (.ref (He.ga K "is_capacity"))
  F_is_capacity : FunD K "is_capacity" "is_capacity" (defArgs s_is_capacity) (defBody s_is_capacity) (defScope s_is_capacity) [] [] (He.ga K "is_capacity") (fdA K (He.ga K "is_capacity"))
  g_check_capacity : mg "check_capacity" = some (.ref (He.ga K "check_capacity"))
  F_check_capacity : FunD K "check_capacity" "check_capacity" (defArgs s_check_capacity) (defBody s_check_capacity) (defScope s_check_capacity) [] [] (He.ga K "check_capacity") (fdA K (He.ga K "check_capacity"))
  g_is_mode : mg "is_mode" = some (.ref (He.ga K "is_mode"))
  F_is_mode : FunD K "is_mode" "is_mode" (defArgs s_is_mode) (defBody s_is_mode) (defScope s_is_mode) [] [] (He.ga K "is_mode") (fdA K (He.ga K "is_mode"))
  g_check_mode : mg "check_mode" = some (.ref (He.ga K "check_mode"))
  F_check_mode : FunD K "check_mode" "check_mode" (defArgs s_check_mode) (defBody s_check_mode) (defScope s_check_mode) [] [] (He.ga K "check_mode") (fdA K (He.ga K "check_mode"))
  g_span_of : mg "span_of" = some (.ref (He.ga K "span_of"))
  F_span_of : FunD K "span_of" "span_of" (defArgs s_span_of) (defBody s_span_of) (defScope s_span_of) [] [] (He.ga K "span_of") (fdA K (He.ga K "span_of"))
  g_is_count : mg "is_count" = some (.ref (He.ga K "is_count"))
  F_is_count : FunD K "is_count" "is_count" (defArgs s_is_count) (defBody s_is_count) (defScope s_is_count) [] [] (He.ga K "is_count") (fdA K (He.ga K "is_count"))
  g_parse : mg "parse" = some (.ref (He.ga K "parse"))
  F_parse : FunD K "parse" "parse" (defArgs s_parse) (defBody s_parse) (defScope s_parse) [] [] (He.ga K "parse") (fdA K (He.ga K "parse"))
  g_items_of : mg "items_of" = some (.ref (He.ga K "items_of"))
  F_items_of : FunD K "items_of" "items_of" (defArgs s_items_of) (defBody s_items_of) (defScope s_items_of) [] [] (He.ga K "items_of") (fdA K (He.ga K "items_of"))
  g_depth_of : mg "depth_of" = some (.ref (He.ga K "depth_of"))
  F_depth_of : FunD K "depth_of" "depth_of" (defArgs s_depth_of) (defBody s_depth_of) (defScope s_depth_of) [] [] (He.ga K "depth_of") (fdA K (He.ga K "depth_of"))
  g_repeat : mg "repeat" = some (.ref (He.ga K "repeat"))
  F_repeat : FunD K "repeat" "repeat" (defArgs s_repeat) (defBody s_repeat) (defScope s_repeat) [] [] (He.ga K "repeat") (fdA K (He.ga K "repeat"))
  g_joined : mg "joined" = some (.ref (He.ga K "joined"))
  F_joined : FunD K "joined" "joined" (defArgs s_joined) (defBody s_joined) (defScope s_joined) [] [] (He.ga K "joined") (fdA K (He.ga K "joined"))
  g_repeated : mg "repeated" = some (.ref (He.ga K "repeated"))
  F_repeated : FunD K "repeated" "repeated" (defArgs s_repeated) (defBody s_repeated) (defScope s_repeated) [] [] (He.ga K "repeated") (fdA K (He.ga K "repeated"))
  g_five_of : mg "five_of" = some (.ref (He.ga K "five_of"))
  F_five_of : FunD K "five_of" "five_of" (defArgs s_five_of) (defBody s_five_of) (defScope s_five_of) [] [] (He.ga K "five_of") (fdA K (He.ga K "five_of"))
  g_start_range : mg "start_range" = some (.ref (He.ga K "start_range"))
  F_start_range : FunD K "start_range" "start_range" (defArgs s_start_range) (defBody s_start_range) (defScope s_start_range) [] [] (He.ga K "start_range") (fdA K (He.ga K "start_range"))
  g_start_lengths : mg "start_lengths" = some (.ref (He.ga K "start_lengths"))
  F_start_lengths : FunD K "start_lengths" "start_lengths" (defArgs s_start_lengths) (defBody s_start_lengths) (defScope s_start_lengths) [] [] (He.ga K "start_lengths") (fdA K (He.ga K "start_lengths"))
  g_checked : mg "checked" = some (.ref (He.ga K "checked"))
  F_checked : FunD K "checked" "checked" (defArgs s_checked) (defBody s_checked) (defScope s_checked) [] [] (He.ga K "checked") (fdA K (He.ga K "checked"))
  g_end_length : mg "end_length" = some (.ref (He.ga K "end_length"))
  F_end_length : FunD K "end_length" "end_length" (defArgs s_end_length) (defBody s_end_length) (defScope s_end_length) [] [] (He.ga K "end_length") (fdA K (He.ga K "end_length"))
  g_lost_letters : mg "lost_letters" = some (.ref (He.ga K "lost_letters"))
  F_lost_letters : FunD K "lost_letters" "lost_letters" (defArgs s_lost_letters) (defBody s_lost_letters) (defScope s_lost_letters) [] [] (He.ga K "lost_letters") (fdA K (He.ga K "lost_letters"))
  g_law_draws : mg "_law_draws" = some (.ref (He.ga K "_law_draws"))
  F_law_draws : FunD K "_law_draws" "_law_draws" (defArgs s_law_draws) (defBody s_law_draws) (defScope s_law_draws) [] [] (He.ga K "_law_draws") (fdA K (He.ga K "_law_draws"))
  g_law_draw : mg "_law_draw" = some (.ref (He.ga K "_law_draw"))
  F_law_draw : FunD K "_law_draw" "_law_draw" (defArgs s_law_draw) (defBody s_law_draw) (defScope s_law_draw) [] [] (He.ga K "_law_draw") (fdA K (He.ga K "_law_draw"))
  g_law_letter : mg "_law_letter" = some (.ref (He.ga K "_law_letter"))
  F_law_letter : FunD K "_law_letter" "_law_letter" (defArgs s_law_letter) (defBody s_law_letter) (defScope s_law_letter) [] [] (He.ga K "_law_letter") (fdA K (He.ga K "_law_letter"))
  g_law_sequence : mg "_law_sequence" = some (.ref (He.ga K "_law_sequence"))
  F_law_sequence : FunD K "_law_sequence" "_law_sequence" (defArgs s_law_sequence) (defBody s_law_sequence) (defScope s_law_sequence) [] [] (He.ga K "_law_sequence") (fdA K (He.ga K "_law_sequence"))
  g_law_program : mg "_law_program" = some (.ref (He.ga K "_law_program"))
  F_law_program : FunD K "_law_program" "_law_program" (defArgs s_law_program) (defBody s_law_program) (defScope s_law_program) [] [] (He.ga K "_law_program") (fdA K (He.ga K "_law_program"))
  g_law : mg "law" = some (.ref (He.ga K "law"))
  F_law : FunD K "law" "law" (defArgs s_law) (defBody s_law) (defScope s_law) [] [] (He.ga K "law") (fdA K (He.ga K "law"))
def exs : List (PySem.W.Frag → Bool) := [(He.Fa.free "ValueError").ok,
  (He.Fa.free "OverflowError").ok,
  (He.Fa.free "min").ok,
  (He.Fa.free "max").ok,
  (He.Fa.free "range").ok,
  (He.Fa.free "isinstance").ok,
  (He.Fa.free "int").ok,
  (He.Fa.free "str").ok,
  (He.Fa.free "len").ok,
  (He.Fa.free "bool").ok,
  (He.Fa.str "LETTERS" "abcdefghijklmnopqrstuvwxyz").ok,
  (He.Fa.int "MOST" 100).ok,
  (He.Fa.glo "MODES").ok,
  fun K => He.tupB K "MODES" [(.str "oldest"), (.str "newest"), (.str "strict")],
  (He.Fa.str "TAKE" "-").ok,
  (He.Fa.str "STEPS" "abcdefghijklmnopqrstuvwxyz-").ok,
  (He.Fa.str "DIGITS" "0123456789").ok,
  (He.Fa.int "MOST_COUNT" 1000000000000000000000000000000).ok,
  (He.Fa.int "MOST_DEPTH" 20).ok,
  (He.Fa.glo "NOTHING").ok,
  fun K => He.tupB K "NOTHING" [(.int 0), (.int 0), (.int 0), (.int 0), (.int 0)],
  (He.Fa.glo "QueueError").ok,
  excB "QueueError" [.type "ValueError", .type "Exception", .type "BaseException", .type "object"] "ValueError.__new__",
  (He.Fa.glo "InvalidInteger").ok,
  excB "InvalidInteger" [.type "ValueError", .type "Exception", .type "BaseException", .type "object"] "ValueError.__new__",
  (He.Fa.glo "InvalidCapacity").ok,
  excB "InvalidCapacity" [.type "ValueError", .type "Exception", .type "BaseException", .type "object"] "ValueError.__new__",
  (He.Fa.glo "InvalidMode").ok,
  excB "InvalidMode" [.type "ValueError", .type "Exception", .type "BaseException", .type "object"] "ValueError.__new__",
  (He.Fa.glo "InvalidProgram").ok,
  excB "InvalidProgram" [.type "ValueError", .type "Exception", .type "BaseException", .type "object"] "ValueError.__new__",
  (He.Fa.glo "LimitExceeded").ok,
  x1B "LimitExceeded" "size" [.type "OverflowError", .type "ArithmeticError", .type "Exception", .type "BaseException", .type "object"] "OverflowError.__new__",
  (He.Fa.glo "is_integer").ok,
  (He.Fa.glo "check_integer").ok,
  (He.Fa.glo "is_capacity").ok,
  (He.Fa.glo "check_capacity").ok,
  (He.Fa.glo "is_mode").ok,
  (He.Fa.glo "check_mode").ok,
  (He.Fa.glo "span_of").ok,
  (He.Fa.glo "is_count").ok,
  (He.Fa.glo "parse").ok,
  (He.Fa.glo "items_of").ok,
  (He.Fa.glo "depth_of").ok,
  (He.Fa.glo "repeat").ok,
  (He.Fa.glo "joined").ok,
  (He.Fa.glo "repeated").ok,
  (He.Fa.glo "five_of").ok,
  (He.Fa.glo "start_range").ok,
  (He.Fa.glo "start_lengths").ok,
  (He.Fa.glo "checked").ok,
  (He.Fa.glo "end_length").ok,
  (He.Fa.glo "lost_letters").ok,
  (He.Fa.glo "_law_draws").ok,
  (He.Fa.glo "_law_draw").ok,
  (He.Fa.glo "_law_letter").ok,
  (He.Fa.glo "_law_sequence").ok,
  (He.Fa.glo "_law_program").ok,
  (He.Fa.glo "law").ok]
def fns : List He5.DefA := [{ at_ := fun K => He.ma K (He.ga K "LimitExceeded") "__init__", name := "__init__", qual := "LimitExceeded.__init__", params := defArgs s_LimitExceeded_init, body := defBody s_LimitExceeded_init, scope := defScope s_LimitExceeded_init, dfl := [], kwd := [] },
  { at_ := fun K => He.ga K "is_integer", name := "is_integer", qual := "is_integer", params := defArgs s_is_integer, body := defBody s_is_integer, scope := defScope s_is_integer, dfl := [(.int 0)], kwd := [] },
  { at_ := fun K => He.ga K "check_integer", name := "check_integer", qual := "check_integer", params := defArgs s_check_integer, body := defBody s_check_integer, scope := defScope s_check_integer, dfl := [(.int 0), .non], kwd := [] },
  { at_ := fun K => He.ga K "is_capacity", name := "is_capacity", qual := "is_capacity", params := defArgs s_is_capacity, body := defBody s_is_capacity, scope := defScope s_is_capacity, dfl := [], kwd := [] },
  { at_ := fun K => He.ga K "check_capacity", name := "check_capacity", qual := "check_capacity", params := defArgs s_check_capacity, body := defBody s_check_capacity, scope := defScope s_check_capacity, dfl := [], kwd := [] },
  { at_ := fun K => He.ga K "is_mode", name := "is_mode", qual := "is_mode", params := defArgs s_is_mode, body := defBody s_is_mode, scope := defScope s_is_mode, dfl := [], kwd := [] },
  { at_ := fun K => He.ga K "check_mode", name := "check_mode", qual := "check_mode", params := defArgs s_check_mode, body := defBody s_check_mode, scope := defScope s_check_mode, dfl := [], kwd := [] },
  { at_ := fun K => He.ga K "span_of", name := "span_of", qual := "span_of", params := defArgs s_span_of, body := defBody s_span_of, scope := defScope s_span_of, dfl := [], kwd := [] },
  { at_ := fun K => He.ga K "is_count", name := "is_count", qual := "is_count", params := defArgs s_is_count, body := defBody s_is_count, scope := defScope s_is_count, dfl := [], kwd := [] },
  { at_ := fun K => He.ga K "parse", name := "parse", qual := "parse", params := defArgs s_parse, body := defBody s_parse, scope := defScope s_parse, dfl := [], kwd := [] },
  { at_ := fun K => He.ga K "items_of", name := "items_of", qual := "items_of", params := defArgs s_items_of, body := defBody s_items_of, scope := defScope s_items_of, dfl := [], kwd := [] },
  { at_ := fun K => He.ga K "depth_of", name := "depth_of", qual := "depth_of", params := defArgs s_depth_of, body := defBody s_depth_of, scope := defScope s_depth_of, dfl := [], kwd := [] },
  { at_ := fun K => He.ga K "repeat", name := "repeat", qual := "repeat", params := defArgs s_repeat, body := defBody s_repeat, scope := defScope s_repeat, dfl := [], kwd := [] },
  { at_ := fun K => He.ga K "joined", name := "joined", qual := "joined", params := defArgs s_joined, body := defBody s_joined, scope := defScope s_joined, dfl := [], kwd := [] },
  { at_ := fun K => He.ga K "repeated", name := "repeated", qual := "repeated", params := defArgs s_repeated, body := defBody s_repeated, scope := defScope s_repeated, dfl := [], kwd := [] },
  { at_ := fun K => He.ga K "five_of", name := "five_of", qual := "five_of", params := defArgs s_five_of, body := defBody s_five_of, scope := defScope s_five_of, dfl := [], kwd := [] },
  { at_ := fun K => He.ga K "start_range", name := "start_range", qual := "start_range", params := defArgs s_start_range, body := defBody s_start_range, scope := defScope s_start_range, dfl := [], kwd := [] },
  { at_ := fun K => He.ga K "start_lengths", name := "start_lengths", qual := "start_lengths", params := defArgs s_start_lengths, body := defBody s_start_lengths, scope := defScope s_start_lengths, dfl := [], kwd := [] },
  { at_ := fun K => He.ga K "checked", name := "checked", qual := "checked", params := defArgs s_checked, body := defBody s_checked, scope := defScope s_checked, dfl := [], kwd := [] },
  { at_ := fun K => He.ga K "end_length", name := "end_length", qual := "end_length", params := defArgs s_end_length, body := defBody s_end_length, scope := defScope s_end_length, dfl := [], kwd := [] },
  { at_ := fun K => He.ga K "lost_letters", name := "lost_letters", qual := "lost_letters", params := defArgs s_lost_letters, body := defBody s_lost_letters, scope := defScope s_lost_letters, dfl := [], kwd := [] },
  { at_ := fun K => He.ga K "_law_draws", name := "_law_draws", qual := "_law_draws", params := defArgs s_law_draws, body := defBody s_law_draws, scope := defScope s_law_draws, dfl := [], kwd := [] },
  { at_ := fun K => He.ga K "_law_draw", name := "_law_draw", qual := "_law_draw", params := defArgs s_law_draw, body := defBody s_law_draw, scope := defScope s_law_draw, dfl := [], kwd := [] },
  { at_ := fun K => He.ga K "_law_letter", name := "_law_letter", qual := "_law_letter", params := defArgs s_law_letter, body := defBody s_law_letter, scope := defScope s_law_letter, dfl := [], kwd := [] },
  { at_ := fun K => He.ga K "_law_sequence", name := "_law_sequence", qual := "_law_sequence", params := defArgs s_law_sequence, body := defBody s_law_sequence, scope := defScope s_law_sequence, dfl := [], kwd := [] },
  { at_ := fun K => He.ga K "_law_program", name := "_law_program", qual := "_law_program", params := defArgs s_law_program, body := defBody s_law_program, scope := defScope s_law_program, dfl := [], kwd := [] },
  { at_ := fun K => He.ga K "law", name := "law", qual := "law", params := defArgs s_law, body := defBody s_law, scope := defScope s_law, dfl := [], kwd := [] }]
theorem txt_of {K : PySem.W.Frag} {h : Heap} {mg : Str → Option Value} (X : K.In h) (G : h.Ns mainGlobals mg) (c : SaysM exs fns K) : Txt K mg :=
  ⟨He.free_ok X G (c.fact 0 rfl),
   He.free_ok X G (c.fact 1 rfl),
   He.free_ok X G (c.fact 2 rfl),
   He.free_ok X G (c.fact 3 rfl),
   He.free_ok X G (c.fact 4 rfl),
   He.free_ok X G (c.fact 5 rfl),
   He.free_ok X G (c.fact 6 rfl),
   He.free_ok X G (c.fact 7 rfl),
   He.free_ok X G (c.fact 8 rfl),
   He.free_ok X G (c.fact 9 rfl),
   (by obtain ⟨t, e⟩ := He.str_ok X G (c.fact 10 rfl); exact ⟨_, e, t, rfl⟩),
   (by obtain ⟨t, e⟩ := He.int_ok X G (c.fact 11 rfl); exact ⟨_, e, t, rfl⟩),
   He.glo_ok X G (c.fact 12 rfl),
   fun H => He.tupB_ok (c.fact 13 rfl) H,
   (by obtain ⟨t, e⟩ := He.str_ok X G (c.fact 14 rfl); exact ⟨_, e, t, rfl⟩),
   (by obtain ⟨t, e⟩ := He.str_ok X G (c.fact 15 rfl); exact ⟨_, e, t, rfl⟩),
   (by obtain ⟨t, e⟩ := He.str_ok X G (c.fact 16 rfl); exact ⟨_, e, t, rfl⟩),
   (by obtain ⟨t, e⟩ := He.int_ok X G (c.fact 17 rfl); exact ⟨_, e, t, rfl⟩),
   (by obtain ⟨t, e⟩ := He.int_ok X G (c.fact 18 rfl); exact ⟨_, e, t, rfl⟩),
   He.glo_ok X G (c.fact 19 rfl),
   fun H => He.tupB_ok (c.fact 20 rfl) H,
   He.glo_ok X G (c.fact 21 rfl),
   excB_ok (c.fact 22 rfl),
   He.glo_ok X G (c.fact 23 rfl),
   excB_ok (c.fact 24 rfl),
   He.glo_ok X G (c.fact 25 rfl),
   excB_ok (c.fact 26 rfl),
   He.glo_ok X G (c.fact 27 rfl),
   excB_ok (c.fact 28 rfl),
   He.glo_ok X G (c.fact 29 rfl),
   excB_ok (c.fact 30 rfl),
   He.glo_ok X G (c.fact 31 rfl),
   x1B_ok (c.fact 32 rfl),
   c.def_ 0 rfl,
   He.glo_ok X G (c.fact 33 rfl),
   c.def_ 1 rfl,
   He.glo_ok X G (c.fact 34 rfl),
   c.def_ 2 rfl,
   He.glo_ok X G (c.fact 35 rfl),
   c.def_ 3 rfl,
   He.glo_ok X G (c.fact 36 rfl),
   c.def_ 4 rfl,
   He.glo_ok X G (c.fact 37 rfl),
   c.def_ 5 rfl,
   He.glo_ok X G (c.fact 38 rfl),
   c.def_ 6 rfl,
   He.glo_ok X G (c.fact 39 rfl),
   c.def_ 7 rfl,
   He.glo_ok X G (c.fact 40 rfl),
   c.def_ 8 rfl,
   He.glo_ok X G (c.fact 41 rfl),
   c.def_ 9 rfl,
   He.glo_ok X G (c.fact 42 rfl),
   c.def_ 10 rfl,
   He.glo_ok X G (c.fact 43 rfl),
   c.def_ 11 rfl,
   He.glo_ok X G (c.fact 44 rfl),
   c.def_ 12 rfl,
   He.glo_ok X G (c.fact 45 rfl),
   c.def_ 13 rfl,
   He.glo_ok X G (c.fact 46 rfl),
   c.def_ 14 rfl,
   He.glo_ok X G (c.fact 47 rfl),
   c.def_ 15 rfl,
   He.glo_ok X G (c.fact 48 rfl),
   c.def_ 16 rfl,
   He.glo_ok X G (c.fact 49 rfl),
   c.def_ 17 rfl,
   He.glo_ok X G (c.fact 50 rfl),
   c.def_ 18 rfl,
   He.glo_ok X G (c.fact 51 rfl),
   c.def_ 19 rfl,
   He.glo_ok X G (c.fact 52 rfl),
   c.def_ 20 rfl,
   He.glo_ok X G (c.fact 53 rfl),
   c.def_ 21 rfl,
   He.glo_ok X G (c.fact 54 rfl),
   c.def_ 22 rfl,
   He.glo_ok X G (c.fact 55 rfl),
   c.def_ 23 rfl,
   He.glo_ok X G (c.fact 56 rfl),
   c.def_ 24 rfl,
   He.glo_ok X G (c.fact 57 rfl),
   c.def_ 25 rfl,
   He.glo_ok X G (c.fact 58 rfl),
   c.def_ 26 rfl⟩
variable {P : Program} {w : World} {K : PySem.W.Frag} {mg : Str → Option Value} {base : Heap}
theorem init_LimitExceeded (T : Txt K mg) : PySem.QX.InitRuns P w K (He.ga K "LimitExceeded") (He.ma K (He.ga K "LimitExceeded") "__init__") "size" := by
  intro A R s x t0 v X hlim hx hnx hroom hq
  obtain ⟨oc, od, dV, kV, doc, pm, an, cdv, ct, osl, e, ho, hcd, hD, _⟩ := T.F_LimitExceeded_init.ex
  rcases hD with ⟨_, rfl⟩ | ⟨z, _⟩
  · rw [e] at ho
    refine Att.call_fn (binds := [("self", .ref x), ("size", v)]) X hlim ho hcd hroom (BindsTo.of_eq (by first | rfl | with_unfolding_all rfl)) (by first | rfl | decide | with_unfolding_all rfl) (fun s1 IC => ?_) rfl rfl rfl
    obtain ⟨h1, tk1, rfl⟩ := IC.toInCall.same
    have k : ∀ b o, s.heap.get? b = some o → h1.get? b = some o := IC.toInCall.keep
    have hn := IC.toInCall.ns
    have X1 : K.In h1 := X.keeps k
    have hx1 := k _ _ hx
    show wpAny _ _ (execs _ _) _ _ _
    refine wpAny_execs_cons (plainObj_wpAny_Assign_Attribute ?_)
    refine PySem.QX.ldQ (v := v) hn (by first | rfl | with_unfolding_all rfl | kernel_rfl) (PySem.QX.ldQ (v := .ref x) hn (by first | rfl | with_unfolding_all rfl | kernel_rfl) ?_)
    refine PySem.W.set_plain X1 (ox := PySem.HandSPX.excO (He.ga K "LimitExceeded") t0) (od := none) ⟨hx1, rfl, rfl, trivial⟩ T.x_LimitExceeded.sa ?_
    refine PySem.QX.osaG PySem.F.store_OverflowError X1 hx1 T.x_LimitExceeded.ovr T.x_LimitExceeded.hd T.x_LimitExceeded.tkr (fun h3 tk3 dx k3 dn dne hx3 hn3 => ?_)
    show wpAny _ _ (execs _ _) _ _ _
    have z : s.heap.objs.size < h1.objs.size := hn.lt
    exact wpAny_execs_nil (hq h3 tk3 dx ⟨fun b o hb e => k3 b o hb (k b o e), hx3, Nat.le_of_lt (Nat.lt_of_lt_of_le z dn), dne, hn3⟩)
  · exact absurd rfl z
theorem bd_LimitExceeded_init (T : Txt K mg) : ∃ ds, Vals [] ds ∧ Binds K (fdA K (He.ma K (He.ga K "LimitExceeded") "__init__")) ["self", "size"] ds := ⟨[], .nil, T.F_LimitExceeded_init.bindsN fun _ _ _ _ _ _ us hl => match us, hl with | [_, _], _ => rfl⟩
theorem bd_is_integer (T : Txt K mg) : ∃ ds, Vals ([] : List V) ds ∧ Binds K (fdA K (He.ga K "is_integer")) ["value", "least"] ds := T.F_is_integer.binds1 2 1 (by simp) rfl (fun _ _ _ _ _ _ _ us its hu hi => match us, its, hu, hi with | [_, _], [_], _, _ => ⟨_, rfl, rfl⟩)
theorem bd_check_integer (T : Txt K mg) : ∃ ds, Vals ([] : List V) ds ∧ Binds K (fdA K (He.ga K "check_integer")) ["value", "least", "greatest"] ds := T.F_check_integer.binds1 3 2 (by simp) rfl (fun _ _ _ _ _ _ _ us its hu hi => match us, its, hu, hi with | [_, _, _], [_, _], _, _ => ⟨_, rfl, rfl⟩)
theorem bd_is_capacity (T : Txt K mg) : ∃ ds, Vals [] ds ∧ Binds K (fdA K (He.ga K "is_capacity")) ["value"] ds := ⟨[], .nil, T.F_is_capacity.bindsN fun _ _ _ _ _ _ us hl => match us, hl with | [_], _ => rfl⟩
theorem bd_check_capacity (T : Txt K mg) : ∃ ds, Vals [] ds ∧ Binds K (fdA K (He.ga K "check_capacity")) ["value"] ds := ⟨[], .nil, T.F_check_capacity.bindsN fun _ _ _ _ _ _ us hl => match us, hl with | [_], _ => rfl⟩
theorem bd_is_mode (T : Txt K mg) : ∃ ds, Vals [] ds ∧ Binds K (fdA K (He.ga K "is_mode")) ["value"] ds := ⟨[], .nil, T.F_is_mode.bindsN fun _ _ _ _ _ _ us hl => match us, hl with | [_], _ => rfl⟩
theorem bd_check_mode (T : Txt K mg) : ∃ ds, Vals [] ds ∧ Binds K (fdA K (He.ga K "check_mode")) ["value"] ds := ⟨[], .nil, T.F_check_mode.bindsN fun _ _ _ _ _ _ us hl => match us, hl with | [_], _ => rfl⟩
theorem bd_span_of (T : Txt K mg) : ∃ ds, Vals [] ds ∧ Binds K (fdA K (He.ga K "span_of")) ["text", "start", "characters"] ds := ⟨[], .nil, T.F_span_of.bindsN fun _ _ _ _ _ _ us hl => match us, hl with | [_, _, _], _ => rfl⟩
theorem bd_is_count (T : Txt K mg) : ∃ ds, Vals [] ds ∧ Binds K (fdA K (He.ga K "is_count")) ["digits"] ds := ⟨[], .nil, T.F_is_count.bindsN fun _ _ _ _ _ _ us hl => match us, hl with | [_], _ => rfl⟩
theorem bd_parse (T : Txt K mg) : ∃ ds, Vals [] ds ∧ Binds K (fdA K (He.ga K "parse")) ["text"] ds := ⟨[], .nil, T.F_parse.bindsN fun _ _ _ _ _ _ us hl => match us, hl with | [_], _ => rfl⟩
theorem bd_items_of (T : Txt K mg) : ∃ ds, Vals [] ds ∧ Binds K (fdA K (He.ga K "items_of")) ["program"] ds := ⟨[], .nil, T.F_items_of.bindsN fun _ _ _ _ _ _ us hl => match us, hl with | [_], _ => rfl⟩
theorem bd_depth_of (T : Txt K mg) : ∃ ds, Vals [] ds ∧ Binds K (fdA K (He.ga K "depth_of")) ["program"] ds := ⟨[], .nil, T.F_depth_of.bindsN fun _ _ _ _ _ _ us hl => match us, hl with | [_], _ => rfl⟩
theorem bd_repeat (T : Txt K mg) : ∃ ds, Vals [] ds ∧ Binds K (fdA K (He.ga K "repeat")) ["program", "count"] ds := ⟨[], .nil, T.F_repeat.bindsN fun _ _ _ _ _ _ us hl => match us, hl with | [_, _], _ => rfl⟩
theorem bd_joined (T : Txt K mg) : ∃ ds, Vals [] ds ∧ Binds K (fdA K (He.ga K "joined")) ["first", "second"] ds := ⟨[], .nil, T.F_joined.bindsN fun _ _ _ _ _ _ us hl => match us, hl with | [_, _], _ => rfl⟩
theorem bd_repeated (T : Txt K mg) : ∃ ds, Vals [] ds ∧ Binds K (fdA K (He.ga K "repeated")) ["five", "count"] ds := ⟨[], .nil, T.F_repeated.bindsN fun _ _ _ _ _ _ us hl => match us, hl with | [_, _], _ => rfl⟩
theorem bd_five_of (T : Txt K mg) : ∃ ds, Vals [] ds ∧ Binds K (fdA K (He.ga K "five_of")) ["items"] ds := ⟨[], .nil, T.F_five_of.bindsN fun _ _ _ _ _ _ us hl => match us, hl with | [_], _ => rfl⟩
theorem bd_start_range (T : Txt K mg) : ∃ ds, Vals [] ds ∧ Binds K (fdA K (He.ga K "start_range")) ["five", "capacity", "mode"] ds := ⟨[], .nil, T.F_start_range.bindsN fun _ _ _ _ _ _ us hl => match us, hl with | [_, _, _], _ => rfl⟩
theorem bd_start_lengths (T : Txt K mg) : ∃ ds, Vals [] ds ∧ Binds K (fdA K (He.ga K "start_lengths")) ["program", "capacity", "mode"] ds := ⟨[], .nil, T.F_start_lengths.bindsN fun _ _ _ _ _ _ us hl => match us, hl with | [_, _, _], _ => rfl⟩
theorem bd_checked (T : Txt K mg) : ∃ ds, Vals [] ds ∧ Binds K (fdA K (He.ga K "checked")) ["program", "capacity", "mode", "length"] ds := ⟨[], .nil, T.F_checked.bindsN fun _ _ _ _ _ _ us hl => match us, hl with | [_, _, _, _], _ => rfl⟩
theorem bd_end_length (T : Txt K mg) : ∃ ds, Vals [] ds ∧ Binds K (fdA K (He.ga K "end_length")) ["program", "capacity", "mode", "length"] ds := ⟨[], .nil, T.F_end_length.bindsN fun _ _ _ _ _ _ us hl => match us, hl with | [_, _, _, _], _ => rfl⟩
theorem bd_lost_letters (T : Txt K mg) : ∃ ds, Vals [] ds ∧ Binds K (fdA K (He.ga K "lost_letters")) ["program", "capacity", "mode", "length"] ds := ⟨[], .nil, T.F_lost_letters.bindsN fun _ _ _ _ _ _ us hl => match us, hl with | [_, _, _, _], _ => rfl⟩
theorem bd_law_draws (T : Txt K mg) : ∃ ds, Vals [] ds ∧ Binds K (fdA K (He.ga K "_law_draws")) ["_law_script", "_law_k"] ds := ⟨[], .nil, T.F_law_draws.bindsN fun _ _ _ _ _ _ us hl => match us, hl with | [_, _], _ => rfl⟩
theorem bd_law_draw (T : Txt K mg) : ∃ ds, Vals [] ds ∧ Binds K (fdA K (He.ga K "_law_draw")) ["_law_draws_here", "_law_upto"] ds := ⟨[], .nil, T.F_law_draw.bindsN fun _ _ _ _ _ _ us hl => match us, hl with | [_, _], _ => rfl⟩
theorem bd_law_letter (T : Txt K mg) : ∃ ds, Vals [] ds ∧ Binds K (fdA K (He.ga K "_law_letter")) ["_law_draws_here"] ds := ⟨[], .nil, T.F_law_letter.bindsN fun _ _ _ _ _ _ us hl => match us, hl with | [_], _ => rfl⟩
theorem bd_law_sequence (T : Txt K mg) : ∃ ds, Vals [] ds ∧ Binds K (fdA K (He.ga K "_law_sequence")) ["_law_draws_here", "_law_most"] ds := ⟨[], .nil, T.F_law_sequence.bindsN fun _ _ _ _ _ _ us hl => match us, hl with | [_, _], _ => rfl⟩
theorem bd_law_program (T : Txt K mg) : ∃ ds, Vals [] ds ∧ Binds K (fdA K (He.ga K "_law_program")) ["_law_draws_here", "_law_depth"] ds := ⟨[], .nil, T.F_law_program.bindsN fun _ _ _ _ _ _ us hl => match us, hl with | [_, _], _ => rfl⟩
theorem bd_law (T : Txt K mg) : ∃ ds, Vals [] ds ∧ Binds K (fdA K (He.ga K "law")) ["_law_script"] ds := ⟨[], .nil, T.F_law.bindsN fun _ _ _ _ _ _ us hl => match us, hl with | [_], _ => rfl⟩
local macro_rules | `(tactic| walk_at "rd") => `(tactic| simp only [tRet, tRetN, tSeq, tNext, tAsg, gName, gTup, gCons, gNil, gSub, tDrop, tIfS, tIf, tB, tTest, tAnd, tOr, tNot, tAndV, tOrV, tNotV, tVar, tC, tOp, tUn, rI, rI0, rU, tCons, tNil, tCB, tTup, tLst, tCall, tCallS, tCallSD, wOnly, WE, tPar, tPar3, tAug, ipI, tSl, tPart, tNoPart, tChain, tBM, tBM0, tM0, tM1, tYes, Q.tFor_eq, Q.tLc_eq, iRng1, iRng2, iList, iTup, iStr, rEq, rNe, rIxS, rIxL, rIxT, rSlL, rAll, rAny, rSum, wAs, wX, Ends.gone, tJs, tFmt, reduceCtorEq, false_and, exists_false, Q.tBy1, Q.tMk1, Q.tWhile_eq, tIfW, wCmp, wNm, wE, rAppend, rPop, CDiv, Q.cpow_9, Q.cpow_18, Q.cpow_20, Q.cpow_29, Q.cpow_30, sizeLine_eq, Nat.reduceLeDiff, Nat.reduceLT, Nat.zero_le, rRep, rCat, tDNewK, rSlS, Int.reduceNeg, Int.reduceToNat, Nat.reduceMul, Int.reducePow, List.flatten_cons, List.flatten_nil, ge_iff_le, gt_iff_lt, Int.reduceLE, Int.reduceLT, Q.rIxM, rSetL, Q.atI_zero, Q.atI_one, Q.ixN_20, Q.ixN_21, upd_same, upd_upd, HO.lst.injEq, HO.tup.injEq, Q.scal_ii, Q.scal_ss, Q.scal_bb, Q.rIsiA, Q.tyIs_str, Q.tyIs_int, Q.tyIs_bool, cxOf, L2.start, wipe, List.map_cons, List.map_nil, List.length_cons, List.length_nil, List.getElem?_cons_zero, List.getElem?_cons_succ, List.cons_append, List.nil_append, List.append_nil, List.set_cons_zero, List.set_cons_succ, Nat.reduceAdd, Nat.reduceSub, List.reduceReplicate, Option.some.injEq, List.cons.injEq, V.bl.injEq, V.int.injEq, V.str.injEq, V.ref.injEq, V.ty.injEq, and_assoc, and_true, true_and, exists_eq_left, exists_eq_left', exists_eq_right, exists_eq_right', exists_and_left, exists_eq, ite_true, ite_false, if_true, if_false, Bool.not_true, Bool.not_false, decide_eq_true_eq, Bool.not_eq_true', or_true, true_or, String.reduceEq, or_false, false_or, Bool.true_eq_false, Bool.false_eq_true])
-- no fragment for LimitExceeded_init
/-! ### is_integer -/
def isInteger (v : V) (least : Int) : Bool := match v with
  | .int i => decide (least ≤ i)
  | _ => false
def sp_is_integer (K : PySem.W.Frag) : Sp := fun vs H Q _ => ∃ (v : V) (l : Int), vs = [v, .int l] ∧ AnyV K H v ∧ Q (.bl (isInteger v l)) H
theorem ok_is_integer (T : Txt K mg) : FnOk P w K mg base (L2.CX P w) 1 (He.ga K "is_integer") (fdA K (He.ga K "is_integer")) ["value", "least"] (sp_is_integer K) := by
  refine T.F_is_integer.ok sc_is_integer (fun vs H Q E h => ?_) (fun cdv A outer s H vs Q E hr h => ⟨_, (pss_one (ps_ret (pe_and (pe_callB call_isiA rfl T.b_isinstance (by decide +kernel) (pa_cons (pv 0) (pa_cons (pe_bltn (v := .ty "int") rfl T.b_int (by decide +kernel) rfl) pa_nil))) (pe_and (pe_not (pe_callB call_isiA rfl T.b_isinstance (by decide +kernel) (pa_cons (pv 0) (pa_cons (pe_bltn (v := .ty "bool") rfl T.b_bool (by decide +kernel) rfl) pa_nil)))) (pe_one (pe_cmpR op_ge (pv 0) (pv 1) (nomark _))))))), ?_⟩)
  · obtain ⟨v, l, rfl, _⟩ := h
    rfl
  · obtain ⟨v, l, rfl, a, q⟩ := h
    walk_at "rd"
    refine ⟨a, ?_⟩
    cases v <;> simp_all [isIntV, isBlV, isInteger]

/-! ### check_integer -/
def inRange (v : V) (l : Int) (g : V) : Bool := isInteger v l && (match g, v with
  | .int G, .int i => decide (i ≤ G)
  | _, _ => true)
def sp_check_integer (K : PySem.W.Frag) : Sp := fun vs H Q E => ∃ (v : V) (l : Int) (g : V), vs = [v, .int l, g] ∧ AnyV K H v ∧ (g = .non ∨ ∃ G, g = .int G) ∧ (inRange v l g = true → Q .non H) ∧ (inRange v l g = false → E (.ref (He.ga K "InvalidInteger")) none H)
theorem ok_check_integer (T : Txt K mg) : FnOk P w K mg base (L2.CX P w) 2 (He.ga K "check_integer") (fdA K (He.ga K "check_integer")) ["value", "least", "greatest"] (sp_check_integer K) := by
  refine T.F_check_integer.ok sc_check_integer (fun vs H Q E h => ?_) (fun cdv A outer s H vs Q E hr h => ⟨_, (pss_one (ps_if (PW.pt (pw_or (pt_not (pt_val (pe_callD (ok_is_integer T) (hr.mono (by omega)) rfl T.g_is_integer T.F_is_integer.kp (bd_is_integer T) passE (pa_cons (pv 0) (pa_cons (pv 1) pa_nil))))) (pw_or1 (PW.pt (pw_and (pt_cmpR op_notN (pv 2) pe_non (nomark _)) (pw_and1 (pt_cmpR op_gt (pv 0) (pv 2) (nomark _))))))))
      (pss_one (ps_raise rfl (takes_of rfl rfl rfl rfl) (pmk_own PySem.F.excBase_ValueError T.x_InvalidInteger.x T.g_InvalidInteger T.x_InvalidInteger.k (raises_own T.x_InvalidInteger.b T.x_InvalidInteger.t) rfl)))
      pss_nil)), ?_⟩)
  · obtain ⟨v, l, g, rfl, _⟩ := h
    rfl
  · obtain ⟨v, l, g, rfl, a, hg, q, e⟩ := h
    walk_at "rd"
    refine ⟨v, l, rfl, a, _, rfl, ?_⟩
    cases c : isInteger v l with
    | false => exact e (by simp [inRange, c])
    | true =>
      rw [if_neg (by decide)]
      rcases hg with rfl | ⟨G, rfl⟩
      · rw [if_neg (by simp)]
        exact q (by simp [inRange, c])
      · rw [if_pos (by simp)]
        cases v with
        | int i =>
          refine ⟨_, rfl, _, rfl, ?_⟩
          split
          · exact e (by simp [inRange, c]; omega)
          · exact q (by simp [inRange, c]; omega)
        | _ => cases c

/-! ### is_capacity -/
def isCap (v : V) : Bool := match v with
  | .int i => decide (1 ≤ i) && decide (i ≤ 100)
  | _ => false
theorem isCap_int {v : V} (h : isCap v = true) : ∃ i : Int, v = .int i ∧ 1 ≤ i ∧ i ≤ 100 := by
  cases v with
  | int i => exact ⟨i, rfl, by simpa [isCap] using h⟩
  | _ => cases h
def sp_is_capacity (K : PySem.W.Frag) : Sp := fun vs H Q _ => ∃ (v : V), vs = [v] ∧ AnyV K H v ∧ Q (.bl (isCap v)) H
theorem ok_is_capacity (T : Txt K mg) : FnOk P w K mg base (L2.CX P w) 2 (He.ga K "is_capacity") (fdA K (He.ga K "is_capacity")) ["value"] (sp_is_capacity K) := by
  refine T.F_is_capacity.ok sc_is_capacity (fun vs H Q E h => ?_) (fun cdv A outer s H vs Q E hr h => ⟨_, (pss_one (ps_ret (pe_and (pe_callD (ok_is_integer T) (hr.mono (by omega)) rfl T.g_is_integer T.F_is_integer.kp (bd_is_integer T) passE (pa_cons (pv 0) (pa_cons pe_int pa_nil))) (pe_one (pe_cmpR op_le (pv 0) (pe_gc rfl T.c_MOST) (nomark _)))))), ?_⟩)
  · obtain ⟨v, rfl, _⟩ := h
    rfl
  · obtain ⟨v, rfl, a, q⟩ := h
    walk_at "rd"
    refine ⟨v, 1, rfl, a, _, rfl, ?_⟩
    cases v with
    | int i =>
      refine bool_cases (fun c => ⟨_, rfl, ?_⟩) (fun c => ?_)
      · simp only [isInteger] at c
        simp only [isCap, c, Bool.true_and] at q
        exact q
      · simp only [isInteger] at c
        simp only [isCap, c, Bool.false_and] at q
        exact q
    | _ => exact iteF q

/-! ### check_capacity -/
def sp_check_capacity (K : PySem.W.Frag) : Sp := fun vs H Q E => ∃ (v : V), vs = [v] ∧ AnyV K H v ∧ (isCap v = true → Q .non H) ∧ (isCap v = false → E (.ref (He.ga K "InvalidCapacity")) none H)
theorem ok_check_capacity (T : Txt K mg) : FnOk P w K mg base (L2.CX P w) 3 (He.ga K "check_capacity") (fdA K (He.ga K "check_capacity")) ["value"] (sp_check_capacity K) := by
  refine T.F_check_capacity.ok sc_check_capacity (fun vs H Q E h => ?_) (fun cdv A outer s H vs Q E hr h => ⟨_, (pss_one (ps_if (pt_not (pt_val (pe_callD (ok_is_capacity T) (hr.mono (by omega)) rfl T.g_is_capacity T.F_is_capacity.kp (bd_is_capacity T) passE (pa_cons (pv 0) pa_nil))))
      (pss_one (ps_raise rfl (takes_of rfl rfl rfl rfl) (pmk_own PySem.F.excBase_ValueError T.x_InvalidCapacity.x T.g_InvalidCapacity T.x_InvalidCapacity.k (raises_own T.x_InvalidCapacity.b T.x_InvalidCapacity.t) rfl)))
      pss_nil)), ?_⟩)
  · obtain ⟨v, rfl, _⟩ := h
    rfl
  · obtain ⟨v, rfl, a, q, e⟩ := h
    walk_at "rd"
    refine ⟨v, rfl, a, _, rfl, ?_⟩
    cases c : isCap v with
    | true => exact q c
    | false => exact e c

/-! ### is_mode -/
def isMode (v : V) : Bool := match v with
  | .str x => decide (x ∈ (["oldest", "newest", "strict"] : List Str))
  | _ => false
theorem inV_modes (x : Str) : inV (.str x) [.str "oldest", .str "newest", .str "strict"] = isMode (.str x) := by
  simp only [inV, isMode, List.any_cons, List.any_nil, eqV, List.mem_cons, List.not_mem_nil, or_false, Bool.or_false]
  have sy : ∀ a : Str, (a = x) = (x = a) := fun a => propext ⟨Eq.symm, Eq.symm⟩
  rw [Bool.eq_iff_iff]
  simp only [Bool.or_eq_true, beq_iff_eq, decide_eq_true_eq, sy]
def sp_is_mode (K : PySem.W.Frag) : Sp := fun vs H Q _ => ∃ (v : V), vs = [v] ∧ AnyV K H v ∧ Q (.bl (isMode v)) H
theorem ok_is_mode (T : Txt K mg) : FnOk P w K mg base (L2.CX P w) 1 (He.ga K "is_mode") (fdA K (He.ga K "is_mode")) ["value"] (sp_is_mode K) := by
  refine T.F_is_mode.ok sc_is_mode (fun vs H Q E h => ?_) (fun cdv A outer s H vs Q E hr h => ⟨_, (pss_one (ps_ret (pe_and (pe_callB call_isiA rfl T.b_isinstance (by decide +kernel) (pa_cons (pv 0) (pa_cons (pe_bltn (v := .ty "str") rfl T.b_str (by decide +kernel) rfl) pa_nil))) (pe_one (pe_cmpR op_in_seq (pv 0) (pe_gc (v := .ref _) rfl ⟨_, T.g_MODES, rfl⟩) (by with_unfolding_all rfl)))))), ?_⟩)
  · obtain ⟨v, rfl, _⟩ := h
    rfl
  · obtain ⟨v, rfl, a, q⟩ := h
    walk_at "rd"
    refine ⟨a, bool_cases (fun hv => ?_) (fun hv => ?_)⟩
    · cases v with
      | str x =>
        refine ⟨_, _, rfl, .inr (T.q_MODES H), rfl, rfl, ?_⟩
        rw [← inV_modes] at q
        exact q
      | _ => cases hv
    · cases v <;> first | exact q | cases hv

/-! ### check_mode -/
def sp_check_mode (K : PySem.W.Frag) : Sp := fun vs H Q E => ∃ (v : V), vs = [v] ∧ AnyV K H v ∧ (isMode v = true → ∀ H', Same H H' → Q .non H') ∧ (isMode v = false → ∀ H', Same H H' → E (.ref (He.ga K "InvalidMode")) none H')
theorem ok_check_mode (T : Txt K mg) : FnOk P w K mg base (L2.CX P w) 2 (He.ga K "check_mode") (fdA K (He.ga K "check_mode")) ["value"] (sp_check_mode K) := by
  refine T.F_check_mode.ok sc_check_mode (fun vs H Q E h => ?_) (fun cdv A outer s H vs Q E hr h => ⟨_, (pss_one (ps_if (pt_not (pt_val (pe_callD (ok_is_mode T) (hr.mono (by omega)) rfl T.g_is_mode T.F_is_mode.kp (bd_is_mode T) passE (pa_cons (pv 0) pa_nil))))
      (pss_one (ps_raise rfl (takes_of rfl rfl rfl rfl) (pmk_own PySem.F.excBase_ValueError T.x_InvalidMode.x T.g_InvalidMode T.x_InvalidMode.k (raises_own T.x_InvalidMode.b T.x_InvalidMode.t) rfl)))
      pss_nil)), ?_⟩)
  · obtain ⟨v, rfl, _⟩ := h
    rfl
  · obtain ⟨v, rfl, a, q, e⟩ := h
    walk_at "rd"
    refine ⟨v, rfl, a, _, rfl, ?_⟩
    cases c : isMode v with
    | true => exact q c _ (Same.refl _)
    | false => exact e c _ (Same.refl _)

/-! ### span_of -/
def spanN (l : List Nat) (i : Nat) (cs : List Nat) : Nat := i + ((l.drop i).takeWhile fun c => decide (c ∈ cs)).length
theorem spanN_le {l cs : List Nat} {i : Nat} (h : i ≤ l.length) : spanN l i cs ≤ l.length := by
  unfold spanN
  have := (List.takeWhile_prefix (l := l.drop i) fun c => decide (c ∈ cs)).length_le
  rw [List.length_drop] at this
  omega
theorem spanN_step {l cs : List Nat} {k : Nat} (h : k < l.length) (hc : l[k] ∈ cs) : spanN l (k + 1) cs = spanN l k cs := by
  unfold spanN
  rw [List.drop_eq_getElem_cons h, List.takeWhile_cons_of_pos (by simpa using hc), List.length_cons]
  omega
theorem spanN_stop {l cs : List Nat} {k : Nat} (h : k < l.length) (hc : ¬ l[k] ∈ cs) : spanN l k cs = k := by
  unfold spanN
  rw [List.drop_eq_getElem_cons h, List.takeWhile_cons_of_neg (by simpa using hc)]
  rfl
theorem spanN_end {l cs : List Nat} {k : Nat} (h : l.length ≤ k) : spanN l k cs = k := by
  unfold spanN
  rw [List.drop_of_length_le h]
  rfl
theorem atI_str {x : Str} {k : Nat} (h : k < x.cps.toList.length) : atI x.cps.toList (k : Int) = some x.cps.toList[k] := by
  unfold atI
  rw [ixN_nat h]
  simp
def sp_span_of (K : PySem.W.Frag) : Sp := fun vs H Q _ => ∃ (x z : Str) (i : Nat), vs = [.str x, .int i, .str z] ∧ i ≤ x.length ∧ x.length ≤ 100000 ∧ Q (.int (spanN x.cps.toList i z.cps.toList : Nat)) H
theorem ok_span_of (T : Txt K mg) : FnOk P w K mg base (L2.CX P w) 1 (He.ga K "span_of") (fdA K (He.ga K "span_of")) ["text", "start", "characters"] (sp_span_of K) := by
  refine T.F_span_of.ok sc_span_of (fun vs H Q E h => ?_) (fun cdv A outer s H vs Q E hr h => ⟨_, (pss_cons (ps_set (i := 3) sc_span_of.nd rfl (by first | exact Or.inl rfl | exact Or.inr rfl) (pv 1))
      (pss_cons (ps_while (passes_of rfl) (PW.pt (pw_and (pt_cmpR op_lt (pv 3) (pe_callB call_len_str rfl T.b_len (by decide +kernel) (pa_cons (pv 0) pa_nil)) (nomark _)) (pw_and1 (pt_cmpR op_in_sign (pe_ix ix_str (pv 0) (pv 3) (fun _ _ => rfl)) (pv 2) rfl))))
      (pss_one (ps_aug (i := 3) sc_span_of.nd rfl (by first | exact Or.inl rfl | exact Or.inr rfl) pe_int ip_add)))
      (pss_one (ps_ret (pv 3))))), ?_⟩)
  · obtain ⟨x, z, i, rfl, _⟩ := h
    rfl
  · obtain ⟨x, z, i, rfl, hi, hl, q⟩ := h
    have el : x.length = x.cps.toList.length := Array.length_toList.symm
    walk_at "rd"
    refine WhileOk.by (fun σ H1 => ∃ k : Nat, σ = [some (.str x), some (.int i), some (.str z), some (.int k)] ∧ H1 = H ∧ k ≤ x.length ∧ spanN x.cps.toList k z.cps.toList = spanN x.cps.toList i z.cps.toList) (fun σ _ => match σ with
      | [_, _, _, some (.int k)] => x.length - k.toNat
      | _ => 0) ⟨i, rfl, rfl, hi, rfl⟩ ?_
    rintro σ H1 m W ⟨k, rfl, rfl, hk, e⟩ rfl nx
    walk_at "rd"
    refine ⟨by omega, ?_⟩
    by_cases c : (k : Int) < (x.length : Int)
    · rw [if_pos c]
      have hk' : k < x.cps.toList.length := by omega
      refine ⟨by omega, x.cps.toList[k], atI_str hk', _, rfl, ?_⟩
      by_cases d : x.cps.toList[k] ∈ z.cps.toList
      · rw [if_pos d]
        refine ⟨_, nxt nx, ⟨k + 1, rfl, rfl, by omega, by rw [spanN_step hk' d]; exact e⟩, ?_⟩
        show x.length - ((k : Int) + 1).toNat < x.length - (k : Int).toNat
        omega
      · rw [if_neg d]
        rw [← e, spanN_stop hk' d] at q
        exact q
    · rw [if_neg c]
      rw [← e, spanN_end (by omega)] at q
      exact q

/-! ### is_count -/
theorem S_eq_ofString {l m : List Nat} {z : Str} (h : z.cps.toList = m) : (S l = z) = (l = m) := by
  subst h
  apply propext
  constructor
  · intro e; rw [← e]; rfl
  · intro e; rw [e, ← S_of]
theorem allDigits_of {l : List Nat} (h : ∀ c ∈ l, isDig c = true) : NumText.AllDigits l := fun c hc => (isDig_iff c).mp (h c hc)
def sp_is_count (K : PySem.W.Frag) : Sp := fun vs H Q _ => ∃ (x : Str), vs = [.str x] ∧ x.length ≤ 100000 ∧ (∀ c ∈ x.cps.toList, isDig c = true) ∧ Q (.bl (okCount x.cps.toList)) H
theorem ok_is_count (T : Txt K mg) : FnOk P w K mg base (L2.CX P w) 1 (He.ga K "is_count") (fdA K (He.ga K "is_count")) ["digits"] (sp_is_count K) := by
  refine T.F_is_count.ok sc_is_count (fun vs H Q E h => ?_) (fun cdv A outer s H vs Q E hr h => ⟨_, (pss_cons (ps_if (PW.pt (pw_or (pt_cmpR op_eq (pv 0) pe_str (nomark _)) (pw_or (pt_cmpR op_gt (pe_callB call_len_str rfl T.b_len (by decide +kernel) (pa_cons (pv 0) pa_nil)) pe_int (nomark _)) (pw_or1 (PW.pt (pw_and (pt_cmpR op_eq (pe_ix ix_str (pv 0) pe_int (fun _ _ => rfl)) pe_str (nomark _)) (pw_and1 (pt_cmpR op_ne (pv 0) pe_str (nomark _)))))))))
      (pss_one (ps_ret pe_bl))
      pss_nil)
      (pss_one (ps_ret (pe_cmpR op_le (pe_callTy call_int_str rfl T.b_int (by decide +kernel) (pa_cons (pv 0) pa_nil)) (pe_gc rfl T.c_MOST_COUNT) (nomark _))))), ?_⟩)
  · obtain ⟨x, rfl, _⟩ := h
    rfl
  · obtain ⟨x, rfl, hl, hd, q⟩ := h
    obtain ⟨l, rfl⟩ := S_ex x
    rw [S_cps] at hd q
    rw [S_length] at hl
    walk_at "rd"
    simp only [S_eq_ofString (z := "") (m := []) (by decide +kernel), S_eq_ofString (z := "0") (m := [48]) (by decide +kernel), S_one, S_length]
    cases l with
    | nil => rw [if_pos rfl]; exact q
    | cons c r =>
      rw [if_neg (by simp)]
      refine ⟨by omega, ?_⟩
      by_cases h31 : (31 : Int) < ((c :: r).length : Int)
      · rw [if_pos h31]
        have e : okCount (c :: r) = false := by
          have : decide ((c :: r).length ≤ 31) = false := decide_eq_false (by omega)
          simp only [okCount, this, Bool.false_and, Bool.and_false]
        rw [e] at q; exact q
      · rw [if_neg h31]
        have hlen : (c :: r).length ≤ 31 := by omega
        have hv : intText? (S (c :: r)) = some ((dval (c :: r) : Nat) : Int) := intText_digits (allDigits_of hd) (by simp [S_cps]) (by rw [S_length]; omega)
        refine ⟨by omega, c, atI_zero, ?_⟩
        have eb : decide (((dval (c :: r) : Nat) : Int) ≤ 1000000000000000000000000000000) = decide (dval (c :: r) ≤ 10 ^ 30) := by
          apply decide_eq_decide.mpr
          constructor <;> intro h <;> omega
        have eq : okCount (c :: r) = (!(decide (c = 48) && decide (c :: r ≠ [48])) && decide (dval (c :: r) ≤ 10 ^ 30)) := by
          simp only [okCount, ne_eq, reduceCtorEq, not_false_eq_true, decide_true, Bool.true_and, hlen, List.head?_cons, Option.some.injEq]
        rw [eq] at q
        by_cases c0 : c = 48
        · subst c0
          rw [if_pos rfl]
          by_cases c1 : 48 :: r = [48]
          · rw [if_neg (by simp only [c1, decide_true, Bool.true_eq_false, not_false_eq_true])]
            refine ⟨_, hv, by omega, ?_⟩
            rw [eb]
            simp only [c1, ne_eq, not_true_eq_false, decide_false, Bool.and_false, Bool.not_false, Bool.true_and] at q ⊢
            exact q
          · rw [if_pos (by simp only [c1, decide_false])]
            simp only [c1, ne_eq, not_false_eq_true, decide_true, Bool.and_self, Bool.not_true, Bool.false_and] at q
            exact q
        · rw [if_neg (by simp [c0])]
          refine ⟨_, hv, by omega, ?_⟩
          rw [eb]
          simp only [c0, decide_false, Bool.false_and, Bool.not_false, Bool.true_and] at q
          exact q

/-! ### parse -/
def sp_parse (K : PySem.W.Frag) : Sp := fun vs H Q _ => ∃ (x : Str), vs = [.str x] ∧ x.length ≤ 100000 ∧ (progF x.cps.toList = none → ∀ H', Same H H' → Q .non H') ∧
  ∀ f, progF x.cps.toList = some f → ∀ H' a p, Same H H' → H a = none → ItemsAt H' a p → PgOk p → p.wr = f → Q (.ref a) H'
theorem ok_parse (T : Txt K mg) : FnOk P w K mg base (L2.CX P w) 2 (He.ga K "parse") (fdA K (He.ga K "parse")) ["text"] (sp_parse K) := by
  refine T.F_parse.ok sc_parse (fun vs H Q E h => ?_) (fun cdv A outer s H vs Q E hr h => ⟨_, (pss_cons (ps_set (i := 1) sc_parse.nd rfl (by first | exact Or.inl rfl | exact Or.inr rfl) (pe_lst (pa_cons (pe_lst pa_nil) pa_nil)))
      (pss_cons (ps_set (i := 2) sc_parse.nd rfl (by first | exact Or.inl rfl | exact Or.inr rfl) pe_int)
      (pss_cons (ps_while (passes_of rfl) (pt_cmpR op_lt (pv 2) (pe_callB call_len_str rfl T.b_len (by decide +kernel) (pa_cons (pv 0) pa_nil)) (nomark _))
      (pss_one (ps_ifW (ptw_cmp op_gt (pew_named (i := 3) sc_parse.nd rfl (by first | exact Or.inl rfl | exact Or.inr rfl) (pew_of (pe_callD (ok_span_of T) (hr.mono (by omega)) rfl T.g_span_of T.F_span_of.kp (bd_span_of T) passE (pa_cons (pv 0) (pa_cons (pv 2) (pa_cons (pe_gc rfl T.c_STEPS) pa_nil)))))) (pv 2) (nomark _))
      (pss_cons (ps_expr (pe_bm PySem.F.plainAttrs_list PySem.F.slot_list_append PySem.F.type_list_append mt_append (pe_ix ix_listM (pv 1) (pe_un un_neg pe_int) (fun _ _ => rfl)) (pa_cons (pe_slice sl_str (pv 0) (po_some (pv 2)) (po_some (pv 3))) pa_nil)))
      (pss_one (ps_set (i := 2) sc_parse.nd rfl (by first | exact Or.inl rfl | exact Or.inr rfl) (pv 3))))
      (pss_one (ps_if (PW.pt (pw_and (pt_cmpR op_eq (pe_ix ix_str (pv 0) (pv 2) (fun _ _ => rfl)) pe_str (nomark _)) (pw_and1 (pt_cmpR op_le (pe_callB call_lenM rfl T.b_len (by decide +kernel) (pa_cons (pv 1) pa_nil)) (pe_gc rfl T.c_MOST_DEPTH) (nomark _)))))
      (pss_cons (ps_expr (pe_bm PySem.F.plainAttrs_list PySem.F.slot_list_append PySem.F.type_list_append mt_append (pv 1) (pa_cons (pe_lst pa_nil) pa_nil)))
      (pss_one (ps_aug (i := 2) sc_parse.nd rfl (by first | exact Or.inl rfl | exact Or.inr rfl) pe_int ip_add)))
      (pss_one (ps_if (PW.pt (pw_and (pt_cmpR op_eq (pe_ix ix_str (pv 0) (pv 2) (fun _ _ => rfl)) pe_str (nomark _)) (pw_and1 (pt_cmpR op_gt (pe_callB call_lenM rfl T.b_len (by decide +kernel) (pa_cons (pv 1) pa_nil)) pe_int (nomark _)))))
      (pss_cons (ps_set (i := 3) sc_parse.nd rfl (by first | exact Or.inl rfl | exact Or.inr rfl) (pe_callD (ok_span_of T) (hr.mono (by omega)) rfl T.g_span_of T.F_span_of.kp (bd_span_of T) passE (pa_cons (pv 0) (pa_cons (pe_op op_add (pv 2) pe_int) (pa_cons (pe_gc rfl T.c_DIGITS) pa_nil)))))
      (pss_cons (ps_if (pt_not (pt_val (pe_callD (ok_is_count T) (hr.mono (by omega)) rfl T.g_is_count T.F_is_count.kp (bd_is_count T) passE (pa_cons (pe_slice sl_str (pv 0) (po_some (pe_op op_add (pv 2) pe_int)) (po_some (pv 3))) pa_nil))))
      (pss_one (ps_ret pe_non))
      pss_nil)
      (pss_cons (ps_set (i := 4) sc_parse.nd rfl (by first | exact Or.inl rfl | exact Or.inr rfl) (pe_bm0 PySem.F.plainAttrs_list PySem.F.slot_list_pop PySem.F.type_list_pop mt_pop (pv 1)))
      (pss_cons (ps_expr (pe_bm PySem.F.plainAttrs_list PySem.F.slot_list_append PySem.F.type_list_append mt_append (pe_ix ix_listM (pv 1) (pe_un un_neg pe_int) (fun _ _ => rfl)) (pa_cons (pe_tup (pa_cons (pv 4) (pa_cons (pe_callTy call_int_str rfl T.b_int (by decide +kernel) (pa_cons (pe_slice sl_str (pv 0) (po_some (pe_op op_add (pv 2) pe_int)) (po_some (pv 3))) pa_nil)) pa_nil))) pa_nil)))
      (pss_one (ps_set (i := 2) sc_parse.nd rfl (by first | exact Or.inl rfl | exact Or.inr rfl) (pv 3)))))))
      (pss_one (ps_ret pe_non)))))))))
      (pss_one (ps_ret (pe_ifExp (pt_cmpR op_eq (pe_callB call_lenM rfl T.b_len (by decide +kernel) (pa_cons (pv 1) pa_nil)) pe_int (nomark _)) (pe_ix ix_listM (pv 1) pe_int (fun _ _ => rfl)) pe_non)))))), ?_⟩)
  · obtain ⟨x, rfl, _⟩ := h
    rfl
  · obtain ⟨x, rfl, hl, qn, qs⟩ := h
    have el : x.length = x.cps.toList.length := Array.length_toList.symm
    walk_at "rd"
    intro p1 h_p1 p2 h_p2
    refine WhileOk.by (fun σ H1 => ∃ (k : Nat) (as : List Addr) (ps : List Pg) (v3 v4 : Option V), σ = [some (.str x), some (.ref p2), some (.int k), v3, v4] ∧ k ≤ x.cps.toList.length ∧ as ≠ [] ∧ PSt H H1 p2 as ps ∧ (ps.map Pg.size).sum ≤ 2 * k ∧ goF (x.cps.toList.drop k) (ps.map Pg.wr).reverse = progF x.cps.toList) (fun σ _ => match σ with
      | [_, _, some (.int k), _, _] => x.length - k.toNat
      | _ => 0) ?_ ?_
    · refine ⟨0, [p1], [.nil], none, none, rfl, by omega, by simp, ?_, by simp [Pg.size], rfl⟩
      have h2 : p2 ≠ p1 := fun e => by rw [e, upd_same] at h_p2; cases h_p2
      have h3 : H p2 = none := (Same.upd h_p1).free h_p2
      refine ⟨Same.upd3 (Same.upd h_p1) h_p2, h3, by simp [h_p1], upd_same, by simp [h2], .cons ⟨[], by rw [upd_ne h2.symm, upd_same], rfl⟩ .nil, by simp [Pg.ok], ?_⟩
      intro i p hp
      cases i with
      | zero =>
        have e : Pg.nil = p := Option.some.inj hp
        rw [← e]; decide
      | succ i => simp at hp
    · rintro σ H1 m W ⟨k, as, ps, v3, v4, rfl, hk, hne, st, hsz, hgo⟩ rfl nx
      walk_at "rd"
      have hlen := st.len
      have h21 : as.length ≤ 21 := by
        rcases Nat.lt_or_ge 21 as.length with c | c
        · obtain ⟨p, hp⟩ : ∃ p, ps[21]? = some p := ⟨ps[21]'(by omega), List.getElem?_eq_getElem (by omega)⟩
          have := st.dep 21 p hp
          omega
        · exact c
      simp only [one_eq (z := "(") (m := 40) (by decide +kernel), one_eq (z := ")") (m := 41) (by decide +kernel)]
      refine ⟨by omega, ?_⟩
      by_cases hlt : (k : Int) < (x.length : Int)
      · rw [if_pos hlt]
        have hk' : k < x.cps.toList.length := by omega
        have hdrop : x.cps.toList.drop k = x.cps.toList[k] :: x.cps.toList.drop (k + 1) := List.drop_eq_getElem_cons hk'
        obtain ⟨bs, t, rfl⟩ : ∃ bs t, as = bs ++ [t] := ⟨as.dropLast, as.getLast hne, (List.dropLast_concat_getLast hne).symm⟩
        refine ⟨_, nxt nx, x, _, k, rfl, by omega, hl, _, rfl, ?_⟩
        rw [show (Str.ofString "abcdefghijklmnopqrstuvwxyz-").cps.toList = stp from rfl]
        by_cases hsp : (k : Int) < (spanN x.cps.toList k stp : Nat)
        · -- a stretch of steps
          rw [if_pos hsp]
          have hcs : ∀ c ∈ (x.cps.toList.drop k).takeWhile (fun c => decide (c ∈ stp)), c ∈ stp := fun c hc => of_decide_eq_true (List.all_eq_true.mp List.all_takeWhile c hc)
          obtain ⟨qs, p, us, rfl, hus, st'⟩ := st.seq hcs
          have hus2 : us.length < 16777216 := by
            obtain ⟨_, _, e, _, us', e1, e2⟩ := Paired.snoc_inv st.rep
            obtain ⟨e3, e4⟩ := List.append_inj' e rfl
            have e5 : p = _ := (List.cons.inj e4).1
            rw [hus] at e1
            have e6 : us = us' := by injection (Option.some.inj e1)
            have := e2.len
            rw [← e6, ← e5] at this
            simp only [List.map_append, List.map_cons, List.map_nil, List.sum_append, List.sum_cons, List.sum_nil] at hsz
            omega
          refine ⟨_, st.lo, V.ref t, by rw [List.map_append]; exact atI_last, tyV_lst hus, _, rfl, by omega, t, rfl, us, hus, hus2, ?_⟩
          have hle := spanN_le (l := x.cps.toList) (cs := stp) hk
          unfold spanN at hsp hle ⊢
          rw [span_cut hk]
          have hpos : 0 < ((x.cps.toList.drop k).takeWhile fun c => decide (c ∈ stp)).length := by omega
          refine ⟨⟨_, bs ++ [t], _, _, _, rfl, hle, by simp, st', ?_, ?_⟩, ?_⟩
          · simp only [List.map_append, List.map_cons, List.map_nil, List.sum_append, List.sum_cons, List.sum_nil, Pg.size_app, Pg.size] at hsz ⊢
            omega
          · rw [← hgo]
            have e1 : x.cps.toList.drop k = (x.cps.toList.drop k).takeWhile (fun c => decide (c ∈ stp)) ++ x.cps.toList.drop (k + ((x.cps.toList.drop k).takeWhile fun c => decide (c ∈ stp)).length) := by
              conv => lhs; rw [← List.takeWhile_append_dropWhile (p := fun c => decide (c ∈ stp)) (l := x.cps.toList.drop k)]
              congr 1
              rw [← tw_drop, List.drop_drop]
            conv => rhs; rw [e1]
            rw [List.map_append, List.reverse_append, List.map_append, List.reverse_append]
            show goF _ ((p.app _).wr :: _) = goF _ (p.wr :: _)
            rw [goF_steps (fun c hc => decide_eq_true (hcs c hc)), Pg.wr_app]
            simp [Pg.wr]
          · show x.length - ((k + _ : Nat) : Int).toNat < x.length - (k : Int).toNat
            omega
        · rw [if_neg hsp]
          have hns : isStp x.cps.toList[k] = false := by
            cases e : isStp x.cps.toList[k] with
            | false => rfl
            | true =>
              have : x.cps.toList[k] ∈ stp := of_decide_eq_true e
              have h2 := spanN_step hk' this
              have h3 : k + 1 ≤ spanN x.cps.toList (k + 1) stp := by unfold spanN; omega
              have h4 : ¬ k < spanN x.cps.toList k stp := fun z => hsp (by exact_mod_cast z)
              omega
          refine ⟨by omega, x.cps.toList[k], atI_str hk', ?_⟩
          rw [hdrop] at hgo
          have closeCase : x.cps.toList[k] ≠ 40 → x.length ≤ 16777216 ∧ True := fun _ => ⟨by omega, trivial⟩
          by_cases h40 : x.cps.toList[k] = 40
          · rw [if_pos h40]
            refine ⟨_, st.lo, ?_⟩
            rw [List.length_map]
            by_cases h20 : (((bs ++ [t]).length : Nat) : Int) ≤ 20
            · rw [if_pos h20]
              refine ⟨tyV_lst st.lo, fun n hn => ?_⟩
              have hnp : p2 ≠ n := fun e => by rw [← e, st.lo] at hn; cases hn
              refine ⟨_, by rw [upd_ne hnp]; exact st.lo, by rw [List.length_map]; omega, ⟨⟨k + 1, (bs ++ [t]) ++ [n], ps ++ [.nil], _, _, rfl, by omega, by simp, ?_, ?_, ?_⟩, ?_⟩⟩
              · have := st.push hn (by omega)
                rw [List.map_append] at this
                exact this
              · simp only [List.map_append, List.map_cons, List.map_nil, List.sum_append, List.sum_cons, List.sum_nil, Pg.size]
                omega
              · rw [← hgo, h40]
                obtain ⟨qs, p, rfl⟩ : ∃ qs p, ps = qs ++ [p] := by
                  obtain ⟨qs, p, e, _⟩ := Paired.snoc_inv st.rep
                  exact ⟨qs, p, e⟩
                have : (bs ++ [t]).length = (qs ++ [p]).length := hlen
                rw [List.map_append (l₂ := [Pg.nil]), List.reverse_append, List.map_append, List.reverse_append]
                show goF _ ([] :: p.wr :: (qs.map Pg.wr).reverse) = goF _ (p.wr :: (qs.map Pg.wr).reverse)
                rw [goF_open, if_pos (by simp only [List.length_reverse, List.length_map, List.length_append, List.length_cons, List.length_nil] at *; omega)]
              · show x.length - ((k : Int) + 1).toNat < x.length - (k : Int).toNat
                omega
            · rw [if_neg h20]
              refine ⟨by omega, x.cps.toList[k], atI_str hk', ?_⟩
              rw [if_neg (by omega)]
              refine qn ?_ _ st.same
              rw [← hgo, h40]
              obtain ⟨qs, p, e, _⟩ := Paired.snoc_inv st.rep
              have h1 : (bs ++ [t]).length = ps.length := hlen
              rw [e] at h1 ⊢
              rw [List.map_append, List.reverse_append]
              show goF _ (p.wr :: (qs.map Pg.wr).reverse) = none
              rw [goF_open, if_neg (by simp only [List.length_reverse, List.length_map, List.length_append, List.length_cons, List.length_nil] at *; omega)]
          · rw [if_neg h40]
            refine ⟨by omega, x.cps.toList[k], atI_str hk', ?_⟩
            by_cases h41 : x.cps.toList[k] = 41
            · rw [if_pos h41]
              refine ⟨_, st.lo, ?_⟩
              rw [List.length_map]
              by_cases h1 : (1 : Int) < (((bs ++ [t]).length : Nat) : Int)
              · rw [if_pos h1]
                obtain ⟨cs, u, rfl⟩ : ∃ cs u, bs = cs ++ [u] := by
                  have hb : bs ≠ [] := fun e => by rw [e] at h1; simp at h1
                  exact ⟨bs.dropLast, bs.getLast hb, (List.dropLast_concat_getLast hb).symm⟩
                have e2 : cs ++ [u] ++ [t] = cs ++ [u, t] := by simp
                rw [e2] at st h21
                refine ⟨x, _, k + 1, rfl, by omega, hl, _, rfl, by omega, ?_⟩
                rw [show (Str.ofString "0123456789").cps.toList = digsZ.cps.toList from rfl]
                have hle := spanN_le (l := x.cps.toList) (cs := digsZ.cps.toList) (i := k + 1) (by omega)
                unfold spanN at hle ⊢
                have ecut : cutS x (some ((k : Int) + 1)) (some ((k + 1 + ((x.cps.toList.drop (k + 1)).takeWhile fun c => decide (c ∈ digsZ.cps.toList)).length : Nat) : Int)) = S ((x.cps.toList.drop (k + 1)).takeWhile isDig) := span_cut (k := k + 1) (by omega)
                rw [ecut]
                have edig : ∀ c ∈ (x.cps.toList.drop (k + 1)).takeWhile isDig, isDig c = true := fun c hc => List.all_eq_true.mp List.all_takeWhile c hc
                refine ⟨_, rfl, by rw [S_length]; have := (List.takeWhile_prefix (l := x.cps.toList.drop (k + 1)) isDig).length_le; rw [List.length_drop] at this; omega, by rw [S_cps]; exact edig, _, rfl, ?_⟩
                rw [S_cps]
                -- the stack
                obtain ⟨qs', p, ep, hq1, ts, hts, rts⟩ := Paired.snoc_inv (l := cs ++ [u]) (a := t) (by rw [e2]; exact st.rep)
                obtain ⟨qs, r, er, hq2, us, hus, rus⟩ := Paired.snoc_inv hq1
                have egs : (ps.map Pg.wr).reverse = p.wr :: r.wr :: (qs.map Pg.wr).reverse := by rw [ep, er]; simp
                rw [egs, h41, goF_close] at hgo
                cases hc : okCount ((x.cps.toList.drop (k + 1)).takeWhile isDig) with
                | false =>
                  rw [if_pos rfl]
                  rw [hc, if_neg (by simp)] at hgo
                  exact qn hgo.symm _ st.same
                | true =>
                  rw [if_neg (by simp)]
                  rw [hc, if_pos rfl] at hgo
                  have hok := hc
                  simp only [okCount, Bool.and_eq_true, decide_eq_true_eq] at hok
                  obtain ⟨hne2, hlen2, _, hval⟩ := hok
                  have hint : intText? (S ((x.cps.toList.drop (k + 1)).takeWhile isDig)) = some ((dval ((x.cps.toList.drop (k + 1)).takeWhile isDig) : Nat) : Int) := intText_digits (by rw [S_cps]; exact allDigits_of edig) (by rw [S_cps]; exact hne2) (by rw [S_length]; omega)
                  have edl : ((cs ++ [u, t]).map V.ref).dropLast = (cs ++ [u]).map V.ref := by simp
                  have nd := st.nd
                  simp only [List.nodup_cons, List.nodup_append, List.mem_append, List.mem_cons, List.not_mem_nil, or_false] at nd
                  have hup : u ≠ p2 := fun e => nd.1 (.inr (.inl e.symm))
                  refine ⟨tyV_lst st.lo, _, st.lo, V.ref t, by simp, ?_⟩
                  rw [edl]
                  have hus3 : us.length < 16777216 := by
                    have := rus.len
                    rw [ep, er] at hsz
                    simp only [List.map_append, List.map_cons, List.map_nil, List.sum_append, List.sum_cons, List.sum_nil] at hsz
                    omega
                  refine ⟨V.ref u, by rw [List.map_append]; exact atI_last, tyV_lst (by rw [upd_ne hup]; exact hus), _, rfl, by omega, _, by rw [ecut]; exact hint, by rw [ecut, S_length]; omega, fun n hn => ?_⟩
                  have hnp : n ≠ p2 := fun e => by rw [e, upd_same] at hn; cases hn
                  have hn1 : H1 n = none := by rw [upd_ne hnp] at hn; exact hn
                  have hun : u ≠ n := ne_of_none hus hn1
                  refine ⟨u, rfl, us, by rw [upd_ne hun, upd_ne hup]; exact hus, hus3, ?_⟩
                  obtain ⟨qs2, p', r', us', ep', hus', st'⟩ := st.pop (k := dval ((x.cps.toList.drop (k + 1)).takeWhile isDig)) (n := n) hval hn1
                  have eu : us' = us := by
                    rw [hus] at hus'
                    injection (Option.some.inj hus') with h
                    exact h.symm
                  subst eu
                  have ep2 : ps = qs ++ [r, p] := by rw [ep, er]; simp
                  rw [ep2] at ep'
                  obtain ⟨eq1, eq2⟩ := List.append_inj' ep' rfl
                  obtain ⟨eq3, eq4⟩ := List.cons.inj eq2
                  obtain ⟨eq5, _⟩ := List.cons.inj eq4
                  subst eq1 eq3 eq5
                  refine ⟨⟨_, cs ++ [u], _, _, _, rfl, hle, by simp, st', ?_, ?_⟩, ?_⟩
                  · rw [ep2] at hsz
                    simp only [List.map_append, List.map_cons, List.map_nil, List.sum_append, List.sum_cons, List.sum_nil, Pg.size_app, Pg.size] at hsz ⊢
                    omega
                  · rw [← hgo, List.map_append, List.reverse_append]
                    show goF _ ((r.app _).wr :: (qs.map Pg.wr).reverse) = _
                    rw [Pg.wr_app, ← tw_drop, List.drop_drop]
                    simp only [Pg.wr, List.append_nil]
                    rfl
                  · show x.length - ((k + 1 + _ : Nat) : Int).toNat < x.length - (k : Int).toNat
                    omega
              · rw [if_neg h1]
                refine qn ?_ _ st.same
                rw [← hgo, h41]
                obtain ⟨qs, p, e, _⟩ := Paired.snoc_inv st.rep
                have h2 : (bs ++ [t]).length = ps.length := hlen
                have h3 : qs = [] := by
                  rw [e] at h2
                  simp only [List.length_append, List.length_cons, List.length_nil] at h2 h1
                  exact List.eq_nil_of_length_eq_zero (by omega)
                rw [e, h3]
                exact goF_close0
            · rw [if_neg h41]
              refine qn ?_ _ st.same
              rw [← hgo]
              obtain ⟨qs, p, e, _⟩ := Paired.snoc_inv st.rep
              rw [e, List.map_append, List.reverse_append]
              exact goF_other hns h40 h41
      · rw [if_neg hlt]
        have ek : k = x.cps.toList.length := by omega
        refine ⟨_, st.lo, ?_⟩
        rw [ek, List.drop_length] at hgo
        rw [List.length_map]
        by_cases h1 : ((as.length : Nat) : Int) = 1
        · rw [if_pos h1]
          obtain ⟨t, rfl⟩ : ∃ t, as = [t] := by
            cases as with
            | nil => exact absurd rfl hne
            | cons t r =>
              cases r with
              | nil => exact ⟨t, rfl⟩
              | cons _ _ => simp at h1; omega
          obtain ⟨qs, p, e, hq, us, hus, hrep⟩ := Paired.snoc_inv (l := []) (a := t) st.rep
          have eq0 : qs = [] := by cases hq; rfl
          subst eq0
          subst e
          refine ⟨_, st.lo, V.ref t, atI_zero, ?_⟩
          have hres : progF x.cps.toList = some p.wr := by
            rw [← hgo]
            show goF [] [p.wr] = _
            rw [goF.eq_def]
          refine qs _ hres _ t p st.same (st.fas t (by simp)) ⟨us, hus, hrep.mono (fun _ z => z.elim) (fun b o z _ => z)⟩ ⟨st.ok p (by simp), by have := st.dep 0 p rfl; omega, ?_⟩ rfl
          simp at hsz
          omega
        · rw [if_neg h1]
          refine qn ?_ _ st.same
          rw [← hgo]
          have : ps.length ≠ 1 := by omega
          match hps : ps with
          | [] => simp [goF.eq_def]
          | [p] => exact absurd rfl this
          | p :: r :: qs =>
            rw [goF.eq_def]
            cases e : ((p :: r :: qs).map Pg.wr).reverse with
            | nil => rfl
            | cons a l =>
              cases l with
              | nil =>
                have := congrArg List.length e
                simp at this
              | cons _ _ => rfl

/-! ### items_of -/
def sp_items_of (K : PySem.W.Frag) : Sp := fun vs H Q E => ∃ (v : V), vs = [v] ∧ AnyV K H v ∧ Short v ∧
  (∀ f, progV v = some f → ∀ H' a p, Same H H' → H a = none → ItemsAt H' a p → PgOk p → p.wr = f → Q (.ref a) H') ∧ (progV v = none → ∀ H', Same H H' → E (.ref (He.ga K "InvalidProgram")) none H')
theorem ok_items_of (T : Txt K mg) : FnOk P w K mg base (L2.CX P w) 3 (He.ga K "items_of") (fdA K (He.ga K "items_of")) ["program"] (sp_items_of K) := by
  refine T.F_items_of.ok sc_items_of (fun vs H Q E h => ?_) (fun cdv A outer s H vs Q E hr h => ⟨_, (pss_cons (ps_set (i := 1) sc_items_of.nd rfl (by first | exact Or.inl rfl | exact Or.inr rfl) (pe_ifExp (pt_val (pe_callB call_isiA rfl T.b_isinstance (by decide +kernel) (pa_cons (pv 0) (pa_cons (pe_bltn (v := .ty "str") rfl T.b_str (by decide +kernel) rfl) pa_nil)))) (pe_callD (ok_parse T) (hr.mono (by omega)) rfl T.g_parse T.F_parse.kp (bd_parse T) passE (pa_cons (pv 0) pa_nil)) pe_non))
      (pss_cons (ps_if (pt_cmpR op_isN (pv 1) pe_non (nomark _))
      (pss_one (ps_raise rfl (takes_of rfl rfl rfl rfl) (pmk_own PySem.F.excBase_ValueError T.x_InvalidProgram.x T.g_InvalidProgram T.x_InvalidProgram.k (raises_own T.x_InvalidProgram.b T.x_InvalidProgram.t) rfl)))
      pss_nil)
      (pss_one (ps_ret (pv 1))))), ?_⟩)
  · obtain ⟨v, rfl, _⟩ := h
    rfl
  · obtain ⟨v, rfl, a, hl, q, e⟩ := h
    walk_at "rd"
    refine ⟨a, bool_cases (fun hv => ?_) (fun hv => ?_)⟩
    · cases v with
      | str x =>
        refine ⟨x, rfl, hl x rfl, fun hn H1 s1 => ?_, fun f hf H1 b p s1 hb hi hp hw => ?_⟩
        · exact e hn _ s1
        · exact q f hf _ b p s1 hb hi hp hw
      | _ => cases hv
    · cases v <;> first | exact e rfl _ (Same.refl _) | cases hv

/-! ### depth_of -/
def sp_depth_of (K : PySem.W.Frag) : Sp := fun vs H Q _ => ∃ (l : List Nat), vs = [.str (S l)] ∧ ∀ H', Same H H' → Q (.int (l.foldl dstep (0, 0)).2) H'
def DpInv (H : Hp) (l : List Nat) (i : Nat) (σ : St) (H1 : Hp) : Prop :=
  ∃ (s : Int × Int) (v : Option V), σ = [some (.str (S l)), some (.int s.1), some (.int s.2), v] ∧ (l.take i).foldl dstep (0, 0) = s ∧ Same H H1
theorem ok_depth_of (T : Txt K mg) : FnOk P w K mg base (L2.CX P w) 1 (He.ga K "depth_of") (fdA K (He.ga K "depth_of")) ["program"] (sp_depth_of K) := by
  refine T.F_depth_of.ok sc_depth_of (fun vs H Q E h => ?_) (fun cdv A outer s H vs Q E hr h => ⟨_, (pss_cons (ps_asg (pe_tup (pa_cons pe_int (pa_cons pe_int pa_nil))) (pg_tup rfl (pgs_cons (pg_name (i := 1) sc_depth_of.nd rfl (by first | exact Or.inl rfl | exact Or.inr rfl)) (pgs_cons (pg_name (i := 2) sc_depth_of.nd rfl (by first | exact Or.inl rfl | exact Or.inr rfl)) pgs_nil))))
      (pss_cons (ps_for (passes_of rfl) rfl (pi_str (pv 0)) (pg_name (i := 3) sc_depth_of.nd rfl (by first | exact Or.inl rfl | exact Or.inr rfl))
      (pss_cons (ps_if (pt_cmpR op_eq (pv 3) pe_str (nomark _))
      (pss_one (ps_aug (i := 1) sc_depth_of.nd rfl (by first | exact Or.inl rfl | exact Or.inr rfl) pe_int ip_add))
      (pss_one (ps_if (pt_cmpR op_eq (pv 3) pe_str (nomark _))
      (pss_one (ps_aug (i := 1) sc_depth_of.nd rfl (by first | exact Or.inl rfl | exact Or.inr rfl) pe_int ip_sub))
      pss_nil)))
      (pss_one (ps_set (i := 2) sc_depth_of.nd rfl (by first | exact Or.inl rfl | exact Or.inr rfl) (pe_callB (call_max2 rfl) rfl T.b_max (by decide +kernel) (pa_cons (pv 2) (pa_cons (pv 1) pa_nil)))))))
      (pss_one (ps_ret (pv 2))))), ?_⟩)
  · obtain ⟨l, rfl, _⟩ := h
    rfl
  · obtain ⟨l, rfl, q⟩ := h
    walk_at "rd"
    intro p hp
    refine ⟨_, SqT.of upd_same, rfl, _, _, rfl, _, _, rfl, rfl, ?_⟩
    refine LoopOk.walk walk_str (DpInv H l) ⟨(0, 0), none, rfl, rfl, Same.upd hp⟩ (fun _ _ _ _ _ => trivial) ?_ ?_
    · rintro i y σ H1 H2 hi ⟨s, v, rfl, hs, s1⟩ ⟨rfl, c, hc, rfl⟩
      walk_at "rd"
      have hc' : l[i]? = some c := by
        have := hc
        rw [← Array.getElem?_toList] at this
        exact this
      have hs' : (l.take (i + 1)).foldl dstep (0, 0) = dstep s c := by
        rw [List.take_succ, hc', List.foldl_append, hs]; rfl
      have e40 : (({ cps := #[c] } : Str) = Str.ofString "(") ↔ c = 40 := Iff.of_eq (one_eq (by decide +kernel))
      have e41 : (({ cps := #[c] } : Str) = Str.ofString ")") ↔ c = 41 := Iff.of_eq (one_eq (by decide +kernel))
      simp only [e40, e41]
      by_cases h1 : c = 40
      · rw [if_pos h1]
        exact ⟨_, some (.str ⟨#[c]⟩), by simp only [dstep, if_pos h1], hs', s1⟩
      · rw [if_neg h1]
        by_cases h2 : c = 41
        · rw [if_pos h2]
          exact ⟨_, some (.str ⟨#[c]⟩), by simp only [dstep, if_neg h1, if_pos h2], hs', s1⟩
        · rw [if_neg h2]
          exact ⟨_, some (.str ⟨#[c]⟩), by simp only [dstep, if_neg h1, if_neg h2], hs', s1⟩
    · rintro σ H1 ⟨s, v, rfl, hs, s1⟩
      walk_at "rd"
      rw [List.take_of_length_le (by simp [S])] at hs
      rw [← hs] at *
      exact q _ s1

/-! ### repeat -/
def sp_repeat (K : PySem.W.Frag) : Sp := fun vs H Q E => ∃ (v c : V), vs = [v, c] ∧ AnyV K H v ∧ Short v ∧ AnyV K H c ∧
  (progV v = none → ∀ H', Same H H' → E (.ref (He.ga K "InvalidProgram")) none H') ∧
  (progV v ≠ none → inRange c 0 (.int 1000000000000000000000000000000) = false → ∀ H', Same H H' → E (.ref (He.ga K "InvalidInteger")) none H') ∧
  (∀ l k, v = .str (S l) → c = .int (k : Nat) → k ≤ 10 ^ 30 → (([40] ++ l ++ [41] ++ TL.numL k).foldl dstep (0, 0)).2 ≤ 20 → ∀ H', Same H H' → Q (.str (S ([40] ++ l ++ [41] ++ TL.numL k))) H') ∧
  (∀ l k, v = .str (S l) → c = .int (k : Nat) → k ≤ 10 ^ 30 → 20 < (([40] ++ l ++ [41] ++ TL.numL k).foldl dstep (0, 0)).2 → ∀ H' d, Same H H' → H d = none → H' d = some (.xd [("size", .int (([40] ++ l ++ [41] ++ TL.numL k).foldl dstep (0, 0)).2)]) → E (.ref (He.ga K "LimitExceeded")) (some d) H')
theorem ok_repeat (T : Txt K mg) : FnOk P w K mg base (L2.CX P w) 4 (He.ga K "repeat") (fdA K (He.ga K "repeat")) ["program", "count"] (sp_repeat K) := by
  refine T.F_repeat.ok sc_repeat (fun vs H Q E h => ?_) (fun cdv A outer s H vs Q E hr h => ⟨_, (pss_cons (ps_expr (pe_callD (ok_items_of T) (hr.mono (by omega)) rfl T.g_items_of T.F_items_of.kp (bd_items_of T) passE (pa_cons (pv 0) pa_nil)))
      (pss_cons (ps_expr (pe_callD (ok_check_integer T) (hr.mono (by omega)) rfl T.g_check_integer T.F_check_integer.kp (bd_check_integer T) passE (pa_cons (pv 1) (pa_cons pe_int (pa_cons (pe_gc rfl T.c_MOST_COUNT) pa_nil)))))
      (pss_cons (ps_set (i := 2) sc_repeat.nd rfl (by first | exact Or.inl rfl | exact Or.inr rfl) (pe_joined (PJ.cons pe_str (PJ.cons (pe_fmt (pv 0)) (PJ.cons pe_str (PJ.cons (pe_fmt (pv 1)) PJ.nil))))))
      (pss_cons (ps_if (pt_cmpR op_gt (pe_callD (ok_depth_of T) (hr.mono (by omega)) rfl T.g_depth_of T.F_depth_of.kp (bd_depth_of T) passE (pa_cons (pv 2) pa_nil)) (pe_gc rfl T.c_MOST_DEPTH) (nomark _))
      (pss_one (ps_raise rfl (takes_of rfl rfl rfl rfl) (pmk_1 PySem.F.excBase_OverflowError T.x_LimitExceeded (init_LimitExceeded T) T.g_LimitExceeded hr rfl (pa_cons (pe_callD (ok_depth_of T) (hr.mono (by omega)) rfl T.g_depth_of T.F_depth_of.kp (bd_depth_of T) passE (pa_cons (pv 2) pa_nil)) pa_nil))))
      pss_nil)
      (pss_one (ps_ret (pv 2))))))), ?_⟩)
  · obtain ⟨v, c, rfl, _⟩ := h
    rfl
  · obtain ⟨v, c, rfl, av, sv, ac, e1, e2, q, e3⟩ := h
    walk_at "rd"
    refine ⟨v, rfl, av, sv, fun f hf H1 b p s1 hb hi hp hw => ?_, fun hn H1 s1 => e1 hn _ s1⟩
    have hne : progV v ≠ none := by rw [hf]; simp
    refine ⟨c, 0, _, rfl, ac.mono s1, .inr ⟨_, rfl⟩, fun hin => ?_, fun hout => e2 hne hout _ s1⟩
    cases v with
    | str x =>
      obtain ⟨l, rfl⟩ := S_ex x
      have hl : l.length ≤ 100000 := by have := sv _ rfl; rwa [S_length] at this
      cases c with
      | int i =>
        simp only [inRange, isInteger, Bool.and_eq_true, decide_eq_true_eq] at hin
        obtain ⟨k, rfl⟩ : ∃ k : Nat, i = k := ⟨i.toNat, by omega⟩
        have hk : k ≤ 10 ^ 30 := by omega
        have z1 : (TL.numL k).length ≤ 31 := TL.numL_len (by decide) (Nat.lt_of_le_of_lt hk (by decide))
        simp only [num_txt, show Str.empty = S [] from rfl, show Str.ofString "(" = S [40] from rfl, show Str.ofString ")" = S [41] from rfl, S_append, List.nil_append]
        refine ⟨by rw [S_length]; decide, .inl ⟨_, rfl, by rw [S_length]; omega, ?_⟩⟩
        simp only [S_append]
        refine ⟨by simp only [S_length, List.length_append, List.length_cons, List.length_nil]; omega, by simp only [S_length, List.length_append, List.length_cons, List.length_nil]; omega, .inr ⟨_, rfl, log2_small hk, ?_⟩⟩
        simp only [num_txt, S_append]
        refine ⟨by simp only [S_length, List.length_append, List.length_cons, List.length_nil]; omega, ?_⟩
        refine ⟨_, rfl, fun H2 s2 => ⟨_, rfl, ?_⟩⟩
        split
        · rename_i hd
          refine ⟨_, rfl, fun H3 s3 d hdn => ?_⟩
          have s4 := (s1.trans s2).trans s3
          exact e3 l k rfl rfl hk hd _ d (Same.upd2 s4 (s4.free hdn)) (s4.free hdn) upd_same
        · rename_i hd
          exact q l k rfl rfl hk (by omega) _ (s1.trans s2)
      | _ => simp [inRange, isInteger] at hin
    | _ => cases hf
theorem rng_ok {k : Nat} (h : k ≤ 10 ^ 30) : inRange (.int (k : Nat)) 0 (.int 1000000000000000000000000000000) = true := by
  simp only [inRange, isInteger, Bool.and_eq_true, decide_eq_true_eq]; omega
abbrev repL (l : List Nat) (k : Nat) : List Nat := [40] ++ l ++ [41] ++ TL.numL k
abbrev depF (l : List Nat) : Int := (l.foldl dstep (0, 0)).2
theorem rep_good {K : PySem.W.Frag} {H : Hp} {Q : VK} {E : XK} {l f : List Nat} {k : Nat} (hf : progF l = some f) (hl : l.length ≤ 100000) (hk : k ≤ 10 ^ 30) (hd : depF (repL l k) ≤ 20) (q : ∀ H', Same H H' → Q (.str (S (repL l k))) H') : sp_repeat K [.str (S l), .int (k : Nat)] H Q E := by
  refine ⟨_, _, rfl, .str, short_of rfl (by rw [S_length]; exact hl), .int, fun c => ?_, fun _ c => ?_, fun l' k' e1 e2 _ _ H' s => ?_, fun l' k' e1 e2 _ h => ?_⟩
  · rw [progV_S, hf] at c; cases c
  · rw [rng_ok hk] at c; cases c
  · have e3 : l = l' := S_inj.mp (V.str.inj e1)
    have e4 : k = k' := by have := V.int.inj e2; omega
    subst e3 e4
    exact q _ s
  · have e3 : l = l' := S_inj.mp (V.str.inj e1)
    have e4 : k = k' := by have := V.int.inj e2; omega
    subst e3 e4
    have hd' : (List.foldl dstep (0, 0) ([40] ++ l ++ [41] ++ TL.numL k)).2 ≤ 20 := hd
    omega
theorem repL_eq (l : List Nat) (k : Nat) : repL l k = 40 :: (l ++ 41 :: TL.numL k) := by simp [repL]
theorem Spells.repL {n : Nat} {tx fl : List Nat} (h : Spells n tx fl) {k : Nat} (hk : k ≤ 10 ^ 30) : Spells (n + 1) (Q.repL tx k) (List.replicate k fl).flatten := by
  rw [repL_eq]; exact h.rep hk
theorem Spells.depF {n : Nat} {tx fl : List Nat} (h : Spells n tx fl) (hn : n ≤ 20) : Q.depF tx ≤ 20 := by
  obtain ⟨m', e, _, u⟩ := h.dep 0 0 (by omega)
  rw [Q.depF, e]
  show m' ≤ 20
  omega
theorem repL_len {l : List Nat} {k : Nat} (hk : k ≤ 10 ^ 30) : (repL l k).length ≤ l.length + 33 := by
  have z1 : (TL.numL k).length ≤ 31 := TL.numL_len (by decide) (Nat.lt_of_le_of_lt hk (by decide))
  simp only [repL, List.length_append, List.length_cons, List.length_nil]; omega

/-! ### joined -/
def sp_joined (K : PySem.W.Frag) : Sp := fun vs H Q _ => ∃ (a b : Addr) (F G : Five), vs = [.ref a, .ref b] ∧ SqT K H a F.vs ∧ SqT K H b G.vs ∧ ∀ H' r, Same H H' → H r = none → H' r = some (.tup (F.join G).vs) → Q (.ref r) H'
theorem ok_joined (T : Txt K mg) : FnOk P w K mg base (L2.CX P w) 1 (He.ga K "joined") (fdA K (He.ga K "joined")) ["first", "second"] (sp_joined K) := by
  refine T.F_joined.ok sc_joined (fun vs H Q E h => ?_) (fun cdv A outer s H vs Q E hr h => ⟨_, (pss_cons (ps_set (i := 2) sc_joined.nd rfl (by first | exact Or.inl rfl | exact Or.inr rfl) (pe_op op_sub (pe_ix ix_tup (pv 0) pe_int (fun _ _ => rfl)) (pe_ix ix_tup (pv 0) pe_int (fun _ _ => rfl))))
      (pss_cons (ps_set (i := 3) sc_joined.nd rfl (by first | exact Or.inl rfl | exact Or.inr rfl) (pe_callB (call_min2 rfl) rfl T.b_min (by decide +kernel) (pa_cons (pe_ix ix_tup (pv 0) pe_int (fun _ _ => rfl)) (pa_cons (pe_op op_add (pv 2) (pe_ix ix_tup (pv 1) pe_int (fun _ _ => rfl))) pa_nil))))
      (pss_cons (ps_set (i := 4) sc_joined.nd rfl (by first | exact Or.inl rfl | exact Or.inr rfl) (pe_callB (call_max2 rfl) rfl T.b_max (by decide +kernel) (pa_cons (pe_ix ix_tup (pv 0) pe_int (fun _ _ => rfl)) (pa_cons (pe_op op_add (pv 2) (pe_ix ix_tup (pv 1) pe_int (fun _ _ => rfl))) pa_nil))))
      (pss_cons (ps_set (i := 5) sc_joined.nd rfl (by first | exact Or.inl rfl | exact Or.inr rfl) (pe_callB (call_max3I rfl) rfl T.b_max (by decide +kernel) (pa_cons (pe_ix ix_tup (pv 0) pe_int (fun _ _ => rfl)) (pa_cons (pe_ix ix_tup (pv 1) pe_int (fun _ _ => rfl)) (pa_cons (pe_op op_sub (pe_op op_sub (pe_ix ix_tup (pv 0) pe_int (fun _ _ => rfl)) (pv 2)) (pe_ix ix_tup (pv 1) pe_int (fun _ _ => rfl))) pa_nil)))))
      (pss_one (ps_ret (pe_tup (pa_cons (pe_op op_add (pe_ix ix_tup (pv 0) pe_int (fun _ _ => rfl)) (pe_ix ix_tup (pv 1) pe_int (fun _ _ => rfl))) (pa_cons (pe_op op_add (pe_ix ix_tup (pv 0) pe_int (fun _ _ => rfl)) (pe_ix ix_tup (pv 1) pe_int (fun _ _ => rfl))) (pa_cons (pv 3) (pa_cons (pv 4) (pa_cons (pv 5) pa_nil)))))))))))), ?_⟩)
  · obtain ⟨a, b, F, G, rfl, _⟩ := h
    rfl
  · obtain ⟨a, b, F, G, rfl, hF, hG, q⟩ := h
    walk_at "rd"
    repeat first | refine ⟨_, hF, _, rfl, ?_⟩ | refine ⟨_, hG, _, rfl, ?_⟩ | refine ⟨_, rfl, ?_⟩
    intro r hr1
    exact q _ r (Same.upd hr1) hr1 upd_same

/-! ### repeated -/
def sp_repeated (K : PySem.W.Frag) : Sp := fun vs H Q _ => ∃ (a : Addr) (F : Five) (k : Nat), vs = [.ref a, .int (k : Nat)] ∧ SqT K H a F.vs ∧ F.Good ∧ ∀ H' r, Same H H' → SqT K H' r (F.pow k).vs → Q (.ref r) H'
def RpInv (K : PySem.W.Frag) (H : Hp) (F : Five) (k : Nat) (a : Addr) (σ : St) (H1 : Hp) (m : Nat) : Prop :=
  ∃ (b c : Addr) (X Y : Five), σ = [some (.ref a), some (.int (k : Nat)), some (.ref b), some (.ref c), some (.int (m : Nat))] ∧ SqT K H1 b X.vs ∧ SqT K H1 c Y.vs ∧ X.Good ∧ Y.Good ∧ X.join (Y.pow m) = F.pow k ∧ Same H H1
theorem ok_repeated (T : Txt K mg) : FnOk P w K mg base (L2.CX P w) 2 (He.ga K "repeated") (fdA K (He.ga K "repeated")) ["five", "count"] (sp_repeated K) := by
  refine T.F_repeated.ok sc_repeated (fun vs H Q E h => ?_) (fun cdv A outer s H vs Q E hr h => ⟨_, (pss_cons (ps_par3 (i := 2) (j := 3) (l := 4) (by rfl) sc_repeated.nd rfl rfl rfl (by decide) (by decide) (by decide) rfl rfl rfl (pa_cons (pe_gc (v := .ref _) rfl ⟨_, T.g_NOTHING, rfl⟩) (pa_cons (pv 0) (pa_cons (pv 1) pa_nil))) (by rfl))
      (pss_cons (ps_while (passes_of rfl) (pt_cmpR op_gt (pv 4) pe_int (nomark _))
      (pss_cons (ps_if (pt_cmpR op_eq (pe_op op_mod (pv 4) pe_int) pe_int (nomark _))
      (pss_one (ps_set (i := 2) sc_repeated.nd rfl (by first | exact Or.inl rfl | exact Or.inr rfl) (pe_callD (ok_joined T) (hr.mono (by omega)) rfl T.g_joined T.F_joined.kp (bd_joined T) passE (pa_cons (pv 2) (pa_cons (pv 3) pa_nil)))))
      pss_nil)
      (pss_cons (ps_set (i := 3) sc_repeated.nd rfl (by first | exact Or.inl rfl | exact Or.inr rfl) (pe_callD (ok_joined T) (hr.mono (by omega)) rfl T.g_joined T.F_joined.kp (bd_joined T) passE (pa_cons (pv 3) (pa_cons (pv 3) pa_nil))))
      (pss_one (ps_set (i := 4) sc_repeated.nd rfl (by first | exact Or.inl rfl | exact Or.inr rfl) (pe_op op_fdiv (pv 4) pe_int))))))
      (pss_one (ps_ret (pv 2))))), ?_⟩)
  · obtain ⟨a, F, k, rfl, _⟩ := h
    rfl
  · obtain ⟨a, F, k, rfl, hF, gF, q⟩ := h
    walk_at "rd"
    refine WhileOk.by (fun σ H1 => ∃ m, RpInv K H F k a σ H1 m) (fun σ _ => match σ with
      | [_, _, _, _, some (.int m)] => m.toNat
      | _ => 0) ⟨k, He.ga K "NOTHING", a, Five.none, F, rfl, T.q_NOTHING H, hF, Five.none_good, gF, Five.none_join (Five.pow_good gF k), Same.refl _⟩ ?_
    rintro σ H1 m W ⟨m2, b, c, X, Y, rfl, hX, hY, gX, gY, hj, s1⟩ em nx
    have em : m = m2 := em
    subst em
    walk_at "rd"
    by_cases hm : (0 : Int) < (m : Int)
    · rw [if_pos hm]
      refine ⟨_, nxt nx, ?_⟩
      have e2 : (m : Int) / 2 = ((m / 2 : Nat) : Int) := by omega
      rw [e2]
      have lt : ((m / 2 : Nat) : Int).toNat < (m : Int).toNat := by omega
      split
      · rename_i h1
        have em : m = 1 + 2 * (m / 2) := by omega
        refine ⟨b, c, X, Y, rfl, hX, hY, fun H2 r2 s2 _ g2 => ?_⟩
        refine ⟨c, c, Y, Y, rfl, Same.tupQ s2 hY, Same.tupQ s2 hY, fun H3 r3 s3 _ g3 => ?_⟩
        refine ⟨⟨m / 2, r2, r3, X.join Y, Y.join Y, rfl, SqT.of (s3 _ _ g2), SqT.of g3, Five.join_good gX gY, Five.join_good gY gY, ?_, s1.trans (s2.trans s3)⟩, lt⟩
        rw [Five.pow_two gY, Five.assoc, ← hj]
        conv => rhs; rw [em]
        rw [Nat.add_comm 1, Five.pow]
      · rename_i h1
        have em : m = 2 * (m / 2) := by omega
        refine ⟨c, c, Y, Y, rfl, hY, hY, fun H3 r3 s3 _ g3 => ?_⟩
        refine ⟨⟨m / 2, b, r3, X, Y.join Y, rfl, Same.tupQ s3 hX, SqT.of g3, gX, Five.join_good gY gY, ?_, s1.trans s3⟩, lt⟩
        rw [Five.pow_two gY, ← hj, ← em]
    · rw [if_neg hm]
      have : m = 0 := by omega
      subst this
      rw [show Y.pow 0 = Five.none from rfl, Five.join_none gX] at hj
      rw [hj] at hX
      exact q _ b s1 hX

/-! ### five_of -/
def spn_five_of (K : PySem.W.Frag) (n : Nat) : Sp := fun vs H Q _ => ∃ (a : Addr) (p : Pg), vs = [.ref a] ∧ ItemsAt H a p ∧ PgOk p ∧ p.depth < n ∧ ∀ H' r, Same H H' → SqT K H' r (fiveF p.wr).vs → Q (.ref r) H'
def FvInv (K : PySem.W.Frag) (H : Hp) (a : Addr) (us : List V) (p : Pg) (n : Nat) (i : Nat) (σ : St) (H1 : Hp) : Prop :=
  ∃ (r : Pg) (b : Addr) (X : Five) (v3 v4 : Option V), σ = [some (.ref a), some (.ref b), v3, v4] ∧ SqT K H1 b X.vs ∧ X.Good ∧ RepL NoX H (us.drop i) r ∧ PgOk r ∧ r.depth < n + 1 ∧ X.join (fiveF r.wr) = fiveF p.wr ∧ Same H H1
def FwInv (K : PySem.W.Frag) (H : Hp) (a : Addr) (X : Five) (l : List Nat) (i : Nat) (σ : St) (H1 : Hp) : Prop :=
  ∃ (b : Addr) (v4 : Option V), σ = [some (.ref a), some (.ref b), some (.str (S l)), v4] ∧ SqT K H1 b (X.join (fiveF (l.take i))).vs ∧ Same H H1
abbrev sp_five_of (K : PySem.W.Frag) : Sp := spn_five_of K 21
theorem okn_five_of (T : Txt K mg) (n : Nat) : FnOk P w K mg base (L2.CX P w) (n + 3) (He.ga K "five_of") (fdA K (He.ga K "five_of")) ["items"] (spn_five_of K n) := by
  induction n with
  | zero => exact T.F_five_of.ok sc_five_of (fun vs H Q E h => by obtain ⟨_, _, _, _, _, h, _⟩ := h; cases h) (fun cdv A outer s H vs Q E hr h => by obtain ⟨_, _, _, _, _, h, _⟩ := h; cases h)
  | succ n ih =>
    refine T.F_five_of.ok sc_five_of (fun vs H Q E h => ?_) (fun cdv A outer s H vs Q E hr h => ⟨_, (pss_cons (ps_set (i := 1) sc_five_of.nd rfl (by first | exact Or.inl rfl | exact Or.inr rfl) (pe_gc (v := .ref _) rfl ⟨_, T.g_NOTHING, rfl⟩))
      (pss_cons (ps_for (passes_of rfl) rfl (pi_list (pv 0)) (pg_name (i := 2) sc_five_of.nd rfl (by first | exact Or.inl rfl | exact Or.inr rfl))
      (pss_one (ps_if (pt_val (pe_callB call_isiA rfl T.b_isinstance (by decide +kernel) (pa_cons (pv 2) (pa_cons (pe_bltn (v := .ty "str") rfl T.b_str (by decide +kernel) rfl) pa_nil))))
      (pss_one (ps_for (passes_of rfl) rfl (pi_str (pv 2)) (pg_name (i := 3) sc_five_of.nd rfl (by first | exact Or.inl rfl | exact Or.inr rfl))
      (pss_one (ps_set (i := 1) sc_five_of.nd rfl (by first | exact Or.inl rfl | exact Or.inr rfl) (pe_callD (ok_joined T) (hr.mono (by omega)) rfl T.g_joined T.F_joined.kp (bd_joined T) passE (pa_cons (pv 1) (pa_cons (pe_ifExp (pt_cmpR op_eq (pv 3) (pe_gc rfl T.c_TAKE) (nomark _)) (pe_tup (pa_cons pe_int (pa_cons pe_int (pa_cons (pe_un un_neg pe_int) (pa_cons pe_int (pa_cons pe_int pa_nil)))))) (pe_tup (pa_cons pe_int (pa_cons pe_int (pa_cons pe_int (pa_cons pe_int (pa_cons pe_int pa_nil))))))) pa_nil)))))))
      (pss_one (ps_set (i := 1) sc_five_of.nd rfl (by first | exact Or.inl rfl | exact Or.inr rfl) (pe_callD (ok_joined T) (hr.mono (by omega)) rfl T.g_joined T.F_joined.kp (bd_joined T) passE (pa_cons (pv 1) (pa_cons (pe_callD (ok_repeated T) (hr.mono (by omega)) rfl T.g_repeated T.F_repeated.kp (bd_repeated T) passE (pa_cons (pe_callD ih hr rfl T.g_five_of T.F_five_of.kp (bd_five_of T) passE (pa_cons (pe_ix ix_tup (pv 2) pe_int (fun _ _ => rfl)) pa_nil)) (pa_cons (pe_ix ix_tup (pv 2) pe_int (fun _ _ => rfl)) pa_nil))) pa_nil))))))))
      (pss_one (ps_ret (pv 1))))), ?_⟩)
    · obtain ⟨a, p, rfl, _⟩ := h
      rfl
    · obtain ⟨a, p, rfl, hI, hp, hd, q⟩ := h
      walk_at "rd"
      obtain ⟨us, hus, hrep⟩ := hI
      refine ⟨⟨_, SqL.of hus⟩, LoopOk.walk (walk_list (xs := us)) (FvInv K H a us p n) ⟨p, _, Five.none, _, _, rfl, T.q_NOTHING H, Five.none_good, hrep, hp, hd, Five.none_join (fiveF_good _), Same.refl _⟩ (fun i σ H1 _ ⟨_, _, _, _, _, _, _, _, _, _, _, _, s1⟩ => s1.seq (SqL.of hus)) ?_ ?_⟩
      · rintro i y σ H1 H2 hi ⟨r, b, X, v3, v4, rfl, hX, gX, hr1, hok, hdp, hj, s1⟩ ⟨rfl, hy⟩
        walk_at "rd"
        have hdr : us.drop i = y :: us.drop (i + 1) := by
          rw [List.drop_eq_getElem_cons hi]
          congr 1
          rw [List.getElem?_eq_getElem hi] at hy
          exact Option.some.inj hy
        rw [hdr] at hr1
        cases r with
        | nil => cases hr1
        | seq l r =>
          obtain ⟨ws, e, hr2⟩ := hr1
          obtain ⟨e1, e2⟩ := List.cons.inj e
          subst e1 e2
          have hok' : PgOk r := ⟨hok.ok.2, hok.depth, by have := hok.size; simp only [Pg.size] at this; omega⟩
          refine ⟨.str, iteT ?_⟩
          refine ⟨_, rfl, LoopOk.walk walk_str (FwInv K H2 a X l) ⟨b, v4, rfl, by rw [List.take_zero, fiveF, Five.join_none gX]; exact hX, Same.refl _⟩ (fun _ _ _ _ _ => trivial) ?_ ?_⟩
          · rintro j y σ Hj Hj' hj' ⟨b', v4', rfl, hb', sj⟩ ⟨rfl, c, hc, rfl⟩
            walk_at "rd"
            have hc' : l[j]? = some c := by
              have := hc
              rw [← Array.getElem?_toList] at this
              exact this
            have ej : X.join (fiveF (l.take (j + 1))) = (X.join (fiveF (l.take j))).join (stepF c) := by
              rw [List.take_succ, hc', fiveF_app, Option.toList_some, fiveF_one, Five.assoc]
            have e45 : (({ cps := #[c] } : Str) = Str.ofString "-") ↔ c = 45 := Iff.of_eq (one_eq (by decide +kernel))
            simp only [e45]
            split
            · rename_i h45
              intro t ht
              refine ⟨b', t, _, ⟨0, 1, -1, 0, 1⟩, rfl, Same.tupQ (Same.upd ht) hb', SqT.of upd_same, fun H5 r5 s5 _ g5 => ⟨r5, _, rfl, ?_, sj.trans ((Same.upd ht).trans s5)⟩⟩
              rw [ej, stepF, if_pos h45]
              exact SqT.of g5
            · rename_i h45
              intro t ht
              refine ⟨b', t, _, ⟨1, 0, 0, 1, 0⟩, rfl, Same.tupQ (Same.upd ht) hb', SqT.of upd_same, fun H5 r5 s5 _ g5 => ⟨r5, _, rfl, ?_, sj.trans ((Same.upd ht).trans s5)⟩⟩
              rw [ej, stepF, if_neg h45]
              exact SqT.of g5
          · rintro σ Hj ⟨b', v4', rfl, hb', sj⟩
            rw [List.take_of_length_le (by simp [S])] at hb'
            refine ⟨r, b', _, _, _, rfl, hb', Five.join_good gX (fiveF_good l), hr2, hok', hdp, ?_, s1.trans sj⟩
            rw [← hj, Pg.wr, fiveF_app, Five.assoc]
        | rep bb k r =>
          obtain ⟨t, c, us2, ws, e, ht, _, _, hc, hr2, hr3⟩ := hr1
          obtain ⟨e1, e2⟩ := List.cons.inj e
          subst e1 e2
          have ht' := s1 _ _ ht
          have hbok : PgOk bb := ⟨hok.ok.1, by have := hok.depth; simp only [Pg.depth] at this; omega, by have := hok.size; simp only [Pg.size] at this; omega⟩
          have hrok : PgOk r := ⟨hok.ok.2.2, by have := hok.depth; simp only [Pg.depth] at this; omega, by have := hok.size; simp only [Pg.size] at this; omega⟩
          refine ⟨.tup ht', iteF ⟨_, rfl, _, SqT.of ht', .ref c, atI_zero, ⟨c, bb, rfl, ItemsAt.mono s1 ⟨us2, hc, hr2⟩, hbok, by simp only [Pg.depth] at hdp; omega, fun H3 r3 s3 h3 => ?_⟩⟩⟩
          refine ⟨_, rfl, _, SqT.of (s3 _ _ ht'), _, atI_one, ⟨r3, _, k, rfl, h3, fiveF_good _, fun H4 r4 s4 h4 => ?_⟩⟩
          refine ⟨b, r4, X, _, rfl, Same.tupQ (s3.trans s4) hX, h4, fun H5 r5 s5 _ g5 => ?_⟩
          refine ⟨r, r5, _, _, _, rfl, SqT.of g5, Five.join_good gX (Five.pow_good (fiveF_good _) k), hr3, hrok, by simp only [Pg.depth] at hdp; omega, ?_, s1.trans (s3.trans (s4.trans s5))⟩
          rw [← hj, Pg.wr, fiveF_app, fiveF_rep, Five.assoc]
      · rintro σ H1 ⟨r, b, X, v3, v4, rfl, hX, gX, hr1, hok, hdp, hj, s1⟩
        walk_at "rd"
        rw [List.drop_length] at hr1
        have er : r.wr = [] := by
          cases r with
          | nil => rfl
          | seq l r => obtain ⟨_, e, _⟩ := hr1; cases e
          | rep b k r => obtain ⟨_, _, _, _, e, _⟩ := hr1; cases e
        rw [er, fiveF, Five.join_none gX] at hj
        rw [hj] at hX
        exact q _ b s1 hX
theorem ok_five_of (T : Txt K mg) : FnOk P w K mg base (L2.CX P w) 24 (He.ga K "five_of") (fdA K (He.ga K "five_of")) ["items"] (sp_five_of K) := okn_five_of T 21

/-! ### start_range -/
/-- the lengths that a program's run may start from -/
def rangeF (F : Five) (c : Int) (strict : Bool) : Option (Int × Int) :=
  if strict = true then (if F.h - F.l ≤ c then some (-F.l, c - F.h) else none) else (if F.f ≤ c then some (-F.l, c) else none)
def isStrict (z : Str) : Bool := decide (z = "strict")
def sp_start_range (K : PySem.W.Frag) : Sp := fun vs H Q _ => ∃ (a : Addr) (F : Five) (c : Int) (z : Str), vs = [.ref a, .int c, .str z] ∧ SqT K H a F.vs ∧ (rangeF F c (isStrict z) = none → Q .non H) ∧
  (∀ x y, rangeF F c (isStrict z) = some (x, y) → ∀ H' r, Same H H' → H r = none → H' r = some (.tup [.int x, .int y]) → Q (.ref r) H')
theorem ok_start_range (T : Txt K mg) : FnOk P w K mg base (L2.CX P w) 1 (He.ga K "start_range") (fdA K (He.ga K "start_range")) ["five", "capacity", "mode"] (sp_start_range K) := by
  refine T.F_start_range.ok sc_start_range (fun vs H Q E h => ?_) (fun cdv A outer s H vs Q E hr h => ⟨_, (pss_cons (ps_asg (pv 0) (pg_tup rfl (pgs_cons (pg_name (i := 3) sc_start_range.nd rfl (by first | exact Or.inl rfl | exact Or.inr rfl)) (pgs_cons (pg_name (i := 4) sc_start_range.nd rfl (by first | exact Or.inl rfl | exact Or.inr rfl)) (pgs_cons (pg_name (i := 5) sc_start_range.nd rfl (by first | exact Or.inl rfl | exact Or.inr rfl)) (pgs_cons (pg_name (i := 6) sc_start_range.nd rfl (by first | exact Or.inl rfl | exact Or.inr rfl)) (pgs_cons (pg_name (i := 7) sc_start_range.nd rfl (by first | exact Or.inl rfl | exact Or.inr rfl)) pgs_nil)))))))
      (pss_cons (ps_if (pt_cmpR op_eq (pv 2) pe_str (nomark _))
      (pss_one (ps_ret (pe_ifExp (pt_cmpR op_le (pe_op op_sub (pv 6) (pv 5)) (pv 1) (nomark _)) (pe_tup (pa_cons (pe_un un_neg (pv 5)) (pa_cons (pe_op op_sub (pv 1) (pv 6)) pa_nil))) pe_non)))
      pss_nil)
      (pss_one (ps_ret (pe_ifExp (pt_cmpR op_le (pv 7) (pv 1) (nomark _)) (pe_tup (pa_cons (pe_un un_neg (pv 5)) (pa_cons (pv 1) pa_nil))) pe_non))))), ?_⟩)
  · obtain ⟨a, F, c, z, rfl, _⟩ := h
    rfl
  · obtain ⟨a, F, c, z, rfl, hF, q1, q2⟩ := h
    walk_at "rd"
    refine ⟨_, hF, rfl, _, _, rfl, _, _, rfl, _, _, rfl, _, _, rfl, _, _, rfl, rfl, ?_⟩
    by_cases hz : z = Str.ofString "strict"
    · rw [if_pos hz]
      have es : isStrict z = true := decide_eq_true hz
      rw [es] at q1 q2
      refine ⟨_, rfl, _, rfl, ?_⟩
      split
      · rename_i h1
        refine ⟨_, rfl, _, rfl, fun p hp => q2 _ _ ?_ _ p (Same.upd hp) hp upd_same⟩
        rw [rangeF, if_pos rfl, if_pos h1]
      · rename_i h1
        exact q1 (by rw [rangeF, if_pos rfl, if_neg h1])
    · rw [if_neg hz]
      have es : isStrict z = false := decide_eq_false hz
      rw [es] at q1 q2
      refine ⟨_, rfl, ?_⟩
      split
      · rename_i h1
        refine ⟨_, rfl, fun p hp => q2 _ _ ?_ _ p (Same.upd hp) hp upd_same⟩
        rw [rangeF, if_neg (by decide), if_pos h1]
      · rename_i h1
        exact q1 (by rw [rangeF, if_neg (by decide), if_neg h1])

/-! ### start_lengths -/
/-- the checks of a program, a capacity and a mode, in this order -/
def modeZ (v : V) : Bool := match v with
  | .str z => isStrict z
  | _ => false
def sp_start_lengths (K : PySem.W.Frag) : Sp := fun vs H Q E => ∃ (v c m : V), vs = [v, c, m] ∧ AnyV K H v ∧ Short v ∧ AnyV K H c ∧ AnyV K H m ∧
  (progV v = none → ∀ H', Same H H' → E (.ref (He.ga K "InvalidProgram")) none H') ∧
  (progV v ≠ none → isCap c = false → ∀ H', Same H H' → E (.ref (He.ga K "InvalidCapacity")) none H') ∧
  (progV v ≠ none → isCap c = true → isMode m = false → ∀ H', Same H H' → E (.ref (He.ga K "InvalidMode")) none H') ∧
  (∀ f i, progV v = some f → c = .int i → isCap c = true → isMode m = true → (rangeF (fiveF f) i (modeZ m) = none → ∀ H', Same H H' → Q .non H') ∧
    (∀ x y, rangeF (fiveF f) i (modeZ m) = some (x, y) → ∀ H' r, Same H H' → H' r = some (.tup [.int x, .int y]) → Q (.ref r) H'))
theorem ok_start_lengths (T : Txt K mg) : FnOk P w K mg base (L2.CX P w) 25 (He.ga K "start_lengths") (fdA K (He.ga K "start_lengths")) ["program", "capacity", "mode"] (sp_start_lengths K) := by
  refine T.F_start_lengths.ok sc_start_lengths (fun vs H Q E h => ?_) (fun cdv A outer s H vs Q E hr h => ⟨_, (pss_cons (ps_set (i := 3) sc_start_lengths.nd rfl (by first | exact Or.inl rfl | exact Or.inr rfl) (pe_callD (ok_five_of T) (hr.mono (by omega)) rfl T.g_five_of T.F_five_of.kp (bd_five_of T) passE (pa_cons (pe_callD (ok_items_of T) (hr.mono (by omega)) rfl T.g_items_of T.F_items_of.kp (bd_items_of T) passE (pa_cons (pv 0) pa_nil)) pa_nil)))
      (pss_cons (ps_expr (pe_callD (ok_check_capacity T) (hr.mono (by omega)) rfl T.g_check_capacity T.F_check_capacity.kp (bd_check_capacity T) passE (pa_cons (pv 1) pa_nil)))
      (pss_cons (ps_expr (pe_callD (ok_check_mode T) (hr.mono (by omega)) rfl T.g_check_mode T.F_check_mode.kp (bd_check_mode T) passE (pa_cons (pv 2) pa_nil)))
      (pss_one (ps_ret (pe_callD (ok_start_range T) (hr.mono (by omega)) rfl T.g_start_range T.F_start_range.kp (bd_start_range T) passE (pa_cons (pv 3) (pa_cons (pv 1) (pa_cons (pv 2) pa_nil))))))))), ?_⟩)
  · obtain ⟨v, c, m, rfl, _⟩ := h
    rfl
  · obtain ⟨v, c, m, rfl, av, sv, ac, am, e1, e2, e3, q⟩ := h
    walk_at "rd"
    refine ⟨v, rfl, av, sv, fun f hf H1 b p s1 hb hi hp hw => ?_, fun hn H1 s1 => e1 hn _ s1⟩
    have hne : progV v ≠ none := by rw [hf]; simp
    refine ⟨b, p, rfl, hi, hp, Nat.lt_succ_of_le hp.depth, fun H2 r2 s2 h2 => ?_⟩
    rw [hw] at h2
    have s12 := s1.trans s2
    refine ⟨c, rfl, ac.mono s12, fun hc => ?_, fun hc => e2 hne hc _ s12⟩
    refine ⟨m, rfl, am.mono s12, fun hm H3 s3 => ?_, fun hm H3 s3 => e3 hne hc hm _ (s12.trans s3)⟩
    cases c with
    | int i =>
      cases m with
      | str z =>
        obtain ⟨q1, q2⟩ := q f i hf rfl hc hm
        exact ⟨r2, _, i, z, rfl, Same.tupQ s3 h2, fun hn => q1 hn _ (s12.trans s3), fun x y hx H4 r4 s4 _ g4 => q2 x y hx _ r4 (s12.trans (s3.trans s4)) g4⟩
      | _ => cases hm
    | _ => cases hc

/-! ### checked -/
/-- whether a run from length n succeeds -/
def runs (F : Five) (c : Int) (strict : Bool) (n : Int) : Bool := match rangeF F c strict with
  | none => false
  | some (x, y) => decide (x ≤ n) && decide (n ≤ y)
def sp_checked (K : PySem.W.Frag) : Sp := fun vs H Q E => ∃ (v c m n : V), vs = [v, c, m, n] ∧ AnyV K H v ∧ Short v ∧ AnyV K H c ∧ AnyV K H m ∧ AnyV K H n ∧
  (progV v = none → ∀ H', Same H H' → E (.ref (He.ga K "InvalidProgram")) none H') ∧
  (progV v ≠ none → isCap c = false → ∀ H', Same H H' → E (.ref (He.ga K "InvalidCapacity")) none H') ∧
  (progV v ≠ none → isCap c = true → isMode m = false → ∀ H', Same H H' → E (.ref (He.ga K "InvalidMode")) none H') ∧
  (progV v ≠ none → isCap c = true → isMode m = true → inRange n 0 c = false → ∀ H', Same H H' → E (.ref (He.ga K "InvalidInteger")) none H') ∧
  (∀ f i j, progV v = some f → c = .int i → n = .int j → isCap c = true → isMode m = true → inRange n 0 c = true → ∀ H' r a, Same H H' → H' r = some (.tup [.ref a, .bl (runs (fiveF f) i (modeZ m) j)]) → SqT K H' a (fiveF f).vs → Q (.ref r) H')
theorem ok_checked (T : Txt K mg) : FnOk P w K mg base (L2.CX P w) 25 (He.ga K "checked") (fdA K (He.ga K "checked")) ["program", "capacity", "mode", "length"] (sp_checked K) := by
  refine T.F_checked.ok sc_checked (fun vs H Q E h => ?_) (fun cdv A outer s H vs Q E hr h => ⟨_, (pss_cons (ps_set (i := 4) sc_checked.nd rfl (by first | exact Or.inl rfl | exact Or.inr rfl) (pe_callD (ok_five_of T) (hr.mono (by omega)) rfl T.g_five_of T.F_five_of.kp (bd_five_of T) passE (pa_cons (pe_callD (ok_items_of T) (hr.mono (by omega)) rfl T.g_items_of T.F_items_of.kp (bd_items_of T) passE (pa_cons (pv 0) pa_nil)) pa_nil)))
      (pss_cons (ps_expr (pe_callD (ok_check_capacity T) (hr.mono (by omega)) rfl T.g_check_capacity T.F_check_capacity.kp (bd_check_capacity T) passE (pa_cons (pv 1) pa_nil)))
      (pss_cons (ps_expr (pe_callD (ok_check_mode T) (hr.mono (by omega)) rfl T.g_check_mode T.F_check_mode.kp (bd_check_mode T) passE (pa_cons (pv 2) pa_nil)))
      (pss_cons (ps_expr (pe_callD (ok_check_integer T) (hr.mono (by omega)) rfl T.g_check_integer T.F_check_integer.kp (bd_check_integer T) passE (pa_cons (pv 3) (pa_cons pe_int (pa_cons (pv 1) pa_nil)))))
      (pss_cons (ps_set (i := 5) sc_checked.nd rfl (by first | exact Or.inl rfl | exact Or.inr rfl) (pe_callD (ok_start_range T) (hr.mono (by omega)) rfl T.g_start_range T.F_start_range.kp (bd_start_range T) passE (pa_cons (pv 4) (pa_cons (pv 1) (pa_cons (pv 2) pa_nil)))))
      (pss_one (ps_ret (pe_tup (pa_cons (pv 4) (pa_cons (pe_and (pe_cmpR op_notN (pv 5) pe_non (nomark _)) (pe_one (pe_chain op_le op_le (pe_ix ix_tup (pv 5) pe_int (fun _ _ => rfl)) (pv 3) (pe_ix ix_tup (pv 5) pe_int (fun _ _ => rfl))))) pa_nil)))))))))), ?_⟩)
  · obtain ⟨v, c, m, n, rfl, _⟩ := h
    rfl
  · obtain ⟨v, c, m, n, rfl, av, sv, ac, am, an, e1, e2, e3, e4, q⟩ := h
    walk_at "rd"
    refine ⟨v, rfl, av, sv, fun f hf H1 b p s1 hb hi hp hw => ?_, fun hn H1 s1 => e1 hn _ s1⟩
    have hne : progV v ≠ none := by rw [hf]; simp
    refine ⟨b, p, rfl, hi, hp, Nat.lt_succ_of_le hp.depth, fun H2 r2 s2 h2 => ?_⟩
    rw [hw] at h2
    have s12 := s1.trans s2
    refine ⟨c, rfl, ac.mono s12, fun hc => ?_, fun hc => e2 hne hc _ s12⟩
    refine ⟨m, rfl, am.mono s12, fun hm H3 s3 => ?_, fun hm H3 s3 => e3 hne hc hm _ (s12.trans s3)⟩
    have s13 := s12.trans s3
    cases c with
    | int i =>
      cases m with
      | str z =>
        refine ⟨n, 0, .int i, rfl, an.mono s13, .inr ⟨_, rfl⟩, fun hin => ?_, fun hin => e4 hne hc hm hin _ s13⟩
        cases n with
        | int j =>
          have h3 := Same.tupQ s3 h2
          cases hrg : rangeF (fiveF f) i (isStrict z) with
          | none =>
            refine ⟨r2, _, i, z, rfl, h3, fun _ => ?_, fun x y hx => by rw [hrg] at hx; cases hx⟩
            try dsimp only
            rw [if_neg (by simp)]
            intro p hp
            refine q f i j hf rfl rfl hc hm hin _ p r2 (Same.upd3 s13 hp) ?_ (Same.tupQ (Same.upd hp) h3)
            rw [upd_same, runs, modeZ, hrg]
          | some w =>
            obtain ⟨x, y⟩ := w
            refine ⟨r2, _, i, z, rfl, h3, (fun hx => by rw [hrg] at hx; cases hx), fun x' y' hx H4 r4 s4 _ g4 => ?_⟩
            rw [hrg] at hx
            cases hx
            try dsimp only
            rw [if_pos (by simp)]
            refine ⟨_, rfl, _, SqT.of g4, _, atI_zero, _, rfl, _, rfl, ?_⟩
            split
            · rename_i hx
              refine ⟨_, rfl, _, SqT.of g4, _, atI_one, _, rfl, _, rfl, fun p hp => ?_⟩
              refine q f i j hf rfl rfl hc hm hin _ p r2 (Same.upd3 (s13.trans s4) hp) ?_ (Same.tupQ (Same.upd hp) (Same.tupQ s4 h3))
              rw [upd_same, runs, modeZ, hrg]
              simp [hx]
            · rename_i hx
              intro p hp
              refine q f i j hf rfl rfl hc hm hin _ p r2 (Same.upd3 (s13.trans s4) hp) ?_ (Same.tupQ (Same.upd hp) (Same.tupQ s4 h3))
              rw [upd_same, runs, modeZ, hrg]
              simp [hx]
        | _ => simp [inRange, isInteger] at hin
      | _ => cases hm
    | _ => cases hc

/-! ### end_length -/
def endF (F : Five) (c n : Int) : Int := if c + (F.p - F.t) - F.h < n + (F.p - F.t) then c + (F.p - F.t) - F.h else n + (F.p - F.t)
def sp_end_length (K : PySem.W.Frag) : Sp := fun vs H Q E => ∃ (v c m n : V), vs = [v, c, m, n] ∧ AnyV K H v ∧ Short v ∧ AnyV K H c ∧ AnyV K H m ∧ AnyV K H n ∧
  (progV v = none → ∀ H', Same H H' → E (.ref (He.ga K "InvalidProgram")) none H') ∧
  (progV v ≠ none → isCap c = false → ∀ H', Same H H' → E (.ref (He.ga K "InvalidCapacity")) none H') ∧
  (progV v ≠ none → isCap c = true → isMode m = false → ∀ H', Same H H' → E (.ref (He.ga K "InvalidMode")) none H') ∧
  (progV v ≠ none → isCap c = true → isMode m = true → inRange n 0 c = false → ∀ H', Same H H' → E (.ref (He.ga K "InvalidInteger")) none H') ∧
  (∀ f i j, progV v = some f → c = .int i → n = .int j → isCap c = true → isMode m = true → inRange n 0 c = true → ∀ H', Same H H' → Q (if runs (fiveF f) i (modeZ m) j = true then .int (endF (fiveF f) i j) else .non) H')
theorem ok_end_length (T : Txt K mg) : FnOk P w K mg base (L2.CX P w) 26 (He.ga K "end_length") (fdA K (He.ga K "end_length")) ["program", "capacity", "mode", "length"] (sp_end_length K) := by
  refine T.F_end_length.ok sc_end_length (fun vs H Q E h => ?_) (fun cdv A outer s H vs Q E hr h => ⟨_, (pss_cons (ps_asg (pe_callD (ok_checked T) (hr.mono (by omega)) rfl T.g_checked T.F_checked.kp (bd_checked T) passE (pa_cons (pv 0) (pa_cons (pv 1) (pa_cons (pv 2) (pa_cons (pv 3) pa_nil))))) (pg_tup rfl (pgs_cons (pg_name (i := 4) sc_end_length.nd rfl (by first | exact Or.inl rfl | exact Or.inr rfl)) (pgs_cons (pg_name (i := 5) sc_end_length.nd rfl (by first | exact Or.inl rfl | exact Or.inr rfl)) pgs_nil))))
      (pss_cons (ps_if (pt_not (pt_val (pv 5)))
      (pss_one (ps_ret pe_non))
      pss_nil)
      (pss_cons (ps_set (i := 6) sc_end_length.nd rfl (by first | exact Or.inl rfl | exact Or.inr rfl) (pe_op op_sub (pe_ix ix_tup (pv 4) pe_int (fun _ _ => rfl)) (pe_ix ix_tup (pv 4) pe_int (fun _ _ => rfl))))
      (pss_one (ps_ret (pe_callB (call_min2 rfl) rfl T.b_min (by decide +kernel) (pa_cons (pe_op op_add (pv 3) (pv 6)) (pa_cons (pe_op op_sub (pe_op op_add (pv 1) (pv 6)) (pe_ix ix_tup (pv 4) pe_int (fun _ _ => rfl))) pa_nil)))))))), ?_⟩)
  · obtain ⟨v, c, m, n, rfl, _⟩ := h
    rfl
  · obtain ⟨v, c, m, n, rfl, av, sv, ac, am, an, e1, e2, e3, e4, q⟩ := h
    walk_at "rd"
    refine ⟨v, c, m, n, rfl, av, sv, ac, am, an, e1, e2, e3, e4, fun f i j hf ec en hc hm hn H1 r1 a1 s1 g1 h1 => ?_⟩
    have q' := q f i j hf ec en hc hm hn
    subst ec en
    refine ⟨_, rfl, _, SqT.of g1, rfl, _, _, rfl, _, _, rfl, rfl, _, rfl, ?_⟩
    have q2 := q' _ s1
    cases hr : runs (fiveF f) i (modeZ m) j with
    | false =>
      rw [hr, if_neg (by decide)] at q2
      rw [if_pos rfl]
      exact q2
    | true =>
      rw [hr, if_pos rfl] at q2
      rw [if_neg (by decide)]
      exact ⟨_, rfl, _, h1, _, rfl, _, rfl, _, h1, _, rfl, _, rfl, _, rfl, _, rfl, _, rfl, _, rfl, _, h1, _, rfl, _, rfl, q2⟩

/-! ### lost_letters -/
def lostF (F : Five) (c n : Int) : Int := if 0 < n + F.h - c then n + F.h - c else 0
def sp_lost_letters (K : PySem.W.Frag) : Sp := fun vs H Q E => ∃ (v c m n : V), vs = [v, c, m, n] ∧ AnyV K H v ∧ Short v ∧ AnyV K H c ∧ AnyV K H m ∧ AnyV K H n ∧
  (progV v = none → ∀ H', Same H H' → E (.ref (He.ga K "InvalidProgram")) none H') ∧
  (progV v ≠ none → isCap c = false → ∀ H', Same H H' → E (.ref (He.ga K "InvalidCapacity")) none H') ∧
  (progV v ≠ none → isCap c = true → isMode m = false → ∀ H', Same H H' → E (.ref (He.ga K "InvalidMode")) none H') ∧
  (progV v ≠ none → isCap c = true → isMode m = true → inRange n 0 c = false → ∀ H', Same H H' → E (.ref (He.ga K "InvalidInteger")) none H') ∧
  (∀ f i j, progV v = some f → c = .int i → n = .int j → isCap c = true → isMode m = true → inRange n 0 c = true → ∀ H', Same H H' → Q (if runs (fiveF f) i (modeZ m) j = true then .int (lostF (fiveF f) i j) else .non) H')
theorem ok_lost_letters (T : Txt K mg) : FnOk P w K mg base (L2.CX P w) 26 (He.ga K "lost_letters") (fdA K (He.ga K "lost_letters")) ["program", "capacity", "mode", "length"] (sp_lost_letters K) := by
  refine T.F_lost_letters.ok sc_lost_letters (fun vs H Q E h => ?_) (fun cdv A outer s H vs Q E hr h => ⟨_, (pss_cons (ps_asg (pe_callD (ok_checked T) (hr.mono (by omega)) rfl T.g_checked T.F_checked.kp (bd_checked T) passE (pa_cons (pv 0) (pa_cons (pv 1) (pa_cons (pv 2) (pa_cons (pv 3) pa_nil))))) (pg_tup rfl (pgs_cons (pg_name (i := 4) sc_lost_letters.nd rfl (by first | exact Or.inl rfl | exact Or.inr rfl)) (pgs_cons (pg_name (i := 5) sc_lost_letters.nd rfl (by first | exact Or.inl rfl | exact Or.inr rfl)) pgs_nil))))
      (pss_one (ps_ret (pe_ifExp (pt_val (pv 5)) (pe_callB (call_max2 rfl) rfl T.b_max (by decide +kernel) (pa_cons pe_int (pa_cons (pe_op op_sub (pe_op op_add (pv 3) (pe_ix ix_tup (pv 4) pe_int (fun _ _ => rfl))) (pv 1)) pa_nil))) pe_non)))), ?_⟩)
  · obtain ⟨v, c, m, n, rfl, _⟩ := h
    rfl
  · obtain ⟨v, c, m, n, rfl, av, sv, ac, am, an, e1, e2, e3, e4, q⟩ := h
    walk_at "rd"
    refine ⟨v, c, m, n, rfl, av, sv, ac, am, an, e1, e2, e3, e4, fun f i j hf ec en hc hm hn H1 r1 a1 s1 g1 h1 => ?_⟩
    have q' := q f i j hf ec en hc hm hn
    subst ec en
    refine ⟨_, rfl, _, SqT.of g1, rfl, _, _, rfl, _, _, rfl, rfl, _, rfl, ?_⟩
    have q2 := q' _ s1
    cases hr : runs (fiveF f) i (modeZ m) j with
    | false =>
      rw [hr, if_neg (by decide)] at q2
      exact iteF q2
    | true =>
      rw [hr, if_pos rfl] at q2
      exact iteT ⟨_, rfl, _, h1, _, rfl, _, rfl, _, rfl, _, rfl, q2⟩
theorem cap_ok {c : Int} (h1 : 1 ≤ c) (h2 : c ≤ 100) : isCap (.int c) = true := by
  simp [isCap, h1, h2]
theorem len_ok {n c : Int} (h1 : 0 ≤ n) (h2 : n ≤ c) : inRange (.int n) 0 (.int c) = true := by
  simp [inRange, isInteger, h1, h2]
theorem el_good {K : PySem.W.Frag} {H : Hp} {Q : VK} {E : XK} {t f : List Nat} {z : Str} {c n : Int} (hf : progF t = some f) (hl : t.length ≤ 100000) (h1 : 1 ≤ c) (h2 : c ≤ 100) (hm : isMode (.str z) = true) (h3 : 0 ≤ n) (h4 : n ≤ c)
    (q : ∀ H', Same H H' → Q (if runs (fiveF f) c (isStrict z) n = true then .int (endF (fiveF f) c n) else .non) H') : sp_end_length K [.str (S t), .int c, .str z, .int n] H Q E := by
  refine ⟨_, _, _, _, rfl, .str, short_of rfl (by rw [S_length]; exact hl), .int, .str, .int, fun e => ?_, fun _ e => ?_, fun _ _ e => ?_, fun _ _ _ e => ?_, fun f' i j e1 e2 e3 _ _ _ H' s => ?_⟩
  · rw [progV_S, hf] at e; cases e
  · rw [cap_ok h1 h2] at e; cases e
  · rw [hm] at e; cases e
  · rw [len_ok h3 h4] at e; cases e
  · rw [progV_S, hf] at e1
    cases e1; cases e2; cases e3
    exact q _ s
theorem ll_good {K : PySem.W.Frag} {H : Hp} {Q : VK} {E : XK} {t f : List Nat} {z : Str} {c n : Int} (hf : progF t = some f) (hl : t.length ≤ 100000) (h1 : 1 ≤ c) (h2 : c ≤ 100) (hm : isMode (.str z) = true) (h3 : 0 ≤ n) (h4 : n ≤ c)
    (q : ∀ H', Same H H' → Q (if runs (fiveF f) c (isStrict z) n = true then .int (lostF (fiveF f) c n) else .non) H') : sp_lost_letters K [.str (S t), .int c, .str z, .int n] H Q E := by
  refine ⟨_, _, _, _, rfl, .str, short_of rfl (by rw [S_length]; exact hl), .int, .str, .int, fun e => ?_, fun _ e => ?_, fun _ _ e => ?_, fun _ _ _ e => ?_, fun f' i j e1 e2 e3 _ _ _ H' s => ?_⟩
  · rw [progV_S, hf] at e; cases e
  · rw [cap_ok h1 h2] at e; cases e
  · rw [hm] at e; cases e
  · rw [len_ok h3 h4] at e; cases e
  · rw [progV_S, hf] at e1
    cases e1; cases e2; cases e3
    exact q _ s
theorem sl_good {K : PySem.W.Frag} {H : Hp} {Q : VK} {E : XK} {t f : List Nat} {z : Str} {c : Int} (hf : progF t = some f) (hl : t.length ≤ 100000) (h1 : 1 ≤ c) (h2 : c ≤ 100) (hm : isMode (.str z) = true)
    (q1 : rangeF (fiveF f) c (isStrict z) = none → ∀ H', Same H H' → Q .non H') (q2 : ∀ x y, rangeF (fiveF f) c (isStrict z) = some (x, y) → ∀ H' r, Same H H' → H' r = some (.tup [.int x, .int y]) → Q (.ref r) H') : sp_start_lengths K [.str (S t), .int c, .str z] H Q E := by
  refine ⟨_, _, _, rfl, .str, short_of rfl (by rw [S_length]; exact hl), .int, .str, fun e => ?_, fun _ e => ?_, fun _ _ e => ?_, fun f' i e1 e2 _ _ => ?_⟩
  · rw [progV_S, hf] at e; cases e
  · rw [cap_ok h1 h2] at e; cases e
  · rw [hm] at e; cases e
  · rw [progV_S, hf] at e1
    cases e1; cases e2
    exact ⟨q1, q2⟩

/-! ### law_draws -/
/-- the pool of draws of a cell: a list of two numbers -/
def PoolAt (H : Hp) (d : Addr) : Prop := ∃ a b : Int, H d = some (.lst [.int a, .int b]) ∧ 0 ≤ a ∧ 0 ≤ b ∧ b < 2147483647
def sp_law_draws (K : PySem.W.Frag) : Sp := fun vs H Q _ => ∃ (a : Addr) (ns : List Int) (k : Int), vs = [.ref a, .int k] ∧ SqL K H a (ns.map V.int) ∧ ns.length ≤ 63 ∧ 0 ≤ k ∧ k ≤ 1000 ∧ ∀ H' d, Same H H' → H d = none → PoolAt H' d → Q (.ref d) H'
theorem ok_law_draws (T : Txt K mg) : FnOk P w K mg base (L2.CX P w) 1 (He.ga K "_law_draws") (fdA K (He.ga K "_law_draws")) ["_law_script", "_law_k"] (sp_law_draws K) := by
  refine T.F_law_draws.ok sc_law_draws (fun vs H Q E h => ?_) (fun cdv A outer s H vs Q E hr h => ⟨_, (pss_cons (ps_set (i := 2) sc_law_draws.nd rfl (by first | exact Or.inl rfl | exact Or.inr rfl) pe_int)
      (pss_cons (ps_if (pt_cmpR (op_neD hr.units) (pv 0) (pe_lst pa_nil) (nomark _))
      (pss_one (ps_set (i := 2) sc_law_draws.nd rfl (by first | exact Or.inl rfl | exact Or.inr rfl) (pe_ix ix_list (pv 0) (pe_op op_mod (pv 1) (pe_callB call_lenL rfl T.b_len (by decide +kernel) (pa_cons (pv 0) pa_nil))) (fun _ _ => rfl))))
      pss_nil)
      (pss_cons (ps_if (pt_cmpR op_ge (pv 1) (pe_callB call_lenL rfl T.b_len (by decide +kernel) (pa_cons (pv 0) pa_nil)) (nomark _))
      (pss_one (ps_set (i := 2) sc_law_draws.nd rfl (by first | exact Or.inl rfl | exact Or.inr rfl) (pe_op op_mod (pv 2) pe_int)))
      pss_nil)
      (pss_cons (ps_set (i := 3) sc_law_draws.nd rfl (by first | exact Or.inl rfl | exact Or.inr rfl) (pe_op op_mod (pe_op op_mul (pe_op op_add (pe_op op_add (pe_op op_mod (pv 2) pe_int) (pe_op op_mul pe_int (pv 1))) pe_int) pe_int) pe_int))
      (pss_one (ps_ret (pe_lst (pa_cons (pe_op op_mul (pv 2) (pe_callTy call_intB rfl T.b_int (by decide +kernel) (pa_cons (pe_cmpR op_ge (pv 2) (pe_op op_pow pe_int pe_int) (nomark _)) pa_nil))) (pa_cons (pv 3) pa_nil))))))))), ?_⟩)
  · obtain ⟨a, ns, k, rfl, _⟩ := h
    rfl
  · obtain ⟨a, ns, k, rfl, hS, hl, h0, h1, q⟩ := h
    walk_at "rd"
    intro p hp
    refine ⟨.list (ns.map PyData.int), .list [], .lst ((Same.upd hp).seq hS) (dpAll_ints ns), .lst (SqL.of upd_same) .nil, shaped_ints ns, rfl, _, rfl, ?_⟩
    have fin : ∀ (c d : Int), 0 ≤ d → ∀ (z : Addr), upd H p (.lst []) z = none → Q (V.ref z) (upd (upd H p (.lst [])) z (.lst [.int d, .int ((c % 2147483629 + 104729 * k + 11) * 48271 % 2147483647)])) := by
      intro c d hd z hz
      have m1 := Int.emod_nonneg ((c % 2147483629 + 104729 * k + 11) * 48271) (show (2147483647 : Int) ≠ 0 by decide)
      have m2 := Int.emod_lt_of_pos ((c % 2147483629 + 104729 * k + 11) * 48271) (show (0 : Int) < 2147483647 by decide)
      have hz0 : H z = none := (Same.upd hp).free hz
      exact q _ z (Same.upd2 (Same.upd hp) hz0) hz0 ⟨_, _, upd_same, hd, m1, m2⟩
    have s1 : Same H (upd H p (.lst [])) := Same.upd hp
    have c1 : CMul 104729 k := .inl ⟨by decide, by decide⟩
    have c2 : ∀ x : Int, CMul x 48271 := fun x => .inr ⟨by decide, by decide⟩
    have c3 : ∀ x : Int, CMul x (if 1000000000000000000 ≤ x then 1 else 0) := fun x => .inr (by split <;> exact ⟨by decide, by decide⟩)
    have c4 : ∀ x : Int, 0 ≤ x * (if 1000000000000000000 ≤ x then 1 else 0) := fun x => by
      by_cases d : (1000000000000000000 : Int) ≤ x
      · rw [if_pos d]; omega
      · rw [if_neg d]; omega
    have c5 : CMul 0 0 := .inl ⟨by decide, by decide⟩
    refine bool_cases (fun c => ?_) (fun c => ?_)
    · have hne : 0 < ns.length := by
        cases ns with
        | nil => simp [PyData.eqv, PyData.eqvAll] at c
        | cons n ns => simp
      have hm1 := Int.emod_nonneg k (show ((ns.map V.int).length : Int) ≠ 0 by rw [List.length_map]; omega)
      have hm2 := Int.emod_lt_of_pos k (show (0 : Int) < ((ns.map V.int).length : Int) by rw [List.length_map]; omega)
      obtain ⟨j, hj⟩ : ∃ j : Nat, k % ((ns.map V.int).length : Int) = (j : Int) := ⟨(k % ((ns.map V.int).length : Int)).toNat, by omega⟩
      have hjl : j < ns.length := by rw [List.length_map] at hj hm2; omega
      refine ⟨_, s1.seq hS, by rw [List.length_map]; omega, _, s1.seq hS, .int ns[j], ?_, _, s1.seq hS, ?_⟩
      · rw [hj]
        unfold atI
        rw [ixN_nat (by rw [List.length_map]; exact hjl)]
        simp [hjl]
      · by_cases d : (((ns.map V.int).length : Nat) : Int) ≤ k
        · rw [if_pos d]
          exact ⟨_, rfl, c1, c2 _, c3 _, fin _ _ (c4 _)⟩
        · rw [if_neg d]
          exact ⟨_, rfl, c1, c2 _, _, rfl, _, rfl, c3 _, fin _ _ (c4 _)⟩
    · refine ⟨_, s1.seq hS, ?_⟩
      by_cases d : (((ns.map V.int).length : Nat) : Int) ≤ k
      · rw [if_pos d]
        exact ⟨c1, c2 _, c3 _, fin _ _ (c4 _)⟩
      · rw [if_neg d]
        exact ⟨c1, c2 _, c5, fin _ _ (by decide)⟩

/-! ### law_draw -/
def sp_law_draw (K : PySem.W.Frag) : Sp := fun vs H Q _ => ∃ (d : Addr) (n : Int), vs = [.ref d, .int n] ∧ PoolAt H d ∧ 1 ≤ n ∧ n ≤ 1000000000 ∧ ∀ (r : Int) H', 0 ≤ r → r < n → SameX d H H' → PoolAt H' d → Q (.int r) H'
theorem pool_upd {H : Hp} {d : Addr} {a b : Int} (ha : 0 ≤ a) (hb : 0 ≤ b) (hb2 : b < 2147483647) : PoolAt (upd H d (.lst [.int a, .int b])) d := ⟨a, b, upd_same, ha, hb, hb2⟩
theorem ok_law_draw (T : Txt K mg) : FnOk P w K mg base (L2.CX P w) 1 (He.ga K "_law_draw") (fdA K (He.ga K "_law_draw")) ["_law_draws_here", "_law_upto"] (sp_law_draw K) := by
  refine T.F_law_draw.ok sc_law_draw (fun vs H Q E h => ?_) (fun cdv A outer s H vs Q E hr h => ⟨_, (pss_cons (ps_if (pt_cmpR op_gt (pe_ix ix_listM (pv 0) pe_int (fun _ _ => rfl)) pe_int (nomark _))
      (pss_cons (ps_set (i := 2) sc_law_draw.nd rfl (by first | exact Or.inl rfl | exact Or.inr rfl) (pe_op op_mod (pe_ix ix_listM (pv 0) pe_int (fun _ _ => rfl)) (pv 1)))
      (pss_cons (ps_asg (pe_op op_fdiv (pe_ix ix_listM (pv 0) pe_int (fun _ _ => rfl)) (pv 1)) (pg_sub (pv 0) pe_int set_list))
      (pss_one (ps_ret (pv 2)))))
      pss_nil)
      (pss_cons (ps_asg (pe_op op_mod (pe_op op_add (pe_op op_mul (pe_ix ix_listM (pv 0) pe_int (fun _ _ => rfl)) pe_int) pe_int) pe_int) (pg_sub (pv 0) pe_int set_list))
      (pss_one (ps_ret (pe_op op_mod (pe_op op_fdiv (pe_op op_mod (pe_op op_mul (pe_ix ix_listM (pv 0) pe_int (fun _ _ => rfl)) (pe_ix ix_listM (pv 0) pe_int (fun _ _ => rfl))) pe_int) pe_int) (pv 1)))))), ?_⟩)
  · obtain ⟨a, n, rfl, _⟩ := h
    rfl
  · obtain ⟨d, n, rfl, ⟨a, b, hd, ha, hb, hb2⟩, h0, h1, q⟩ := h
    walk_at "rd"
    simp only [hd]
    walk_at "rd"
    by_cases c : 0 < a
    · rw [if_pos c]
      have e := Int.emod_nonneg a (show n ≠ 0 by omega)
      have e2 := Int.emod_lt_of_pos a (show 0 < n by omega)
      refine ⟨by omega, by omega, by omega, q _ _ e e2 SameX.upd (pool_upd (Int.ediv_nonneg ha (by omega)) hb hb2)⟩
    · rw [if_neg c]
      have m1 := Int.emod_nonneg (b * 48271 + 11) (show (2147483647 : Int) ≠ 0 by decide)
      have m2 := Int.emod_lt_of_pos (b * 48271 + 11) (show (0 : Int) < 2147483647 by decide)
      have e := Int.emod_nonneg ((b * 48271 + 11) % 2147483647 * ((b * 48271 + 11) % 2147483647) % 2147483629 / 64) (show n ≠ 0 by omega)
      have e2 := Int.emod_lt_of_pos ((b * 48271 + 11) % 2147483647 * ((b * 48271 + 11) % 2147483647) % 2147483629 / 64) (show 0 < n by omega)
      exact ⟨.inl ⟨by omega, by omega⟩, .inl ⟨by omega, by omega⟩, by omega, q _ _ e e2 SameX.upd (pool_upd ha m1 m2)⟩
theorem pool_free {H H' : Hp} {d p : Addr} (s : SameX d H H') (pl : PoolAt H' d) (h : H' p = none) : H p = none := by
  cases e : H p with
  | none => rfl
  | some o =>
    by_cases c : p = d
    · obtain ⟨_, _, h2, _⟩ := pl
      rw [c, h2] at h; cases h
    · rw [s _ _ e c] at h; cases h
theorem pool_ne {H : Hp} {d p : Addr} (pl : PoolAt H d) (h : H p = none) : p ≠ d := by
  obtain ⟨_, _, h2, _⟩ := pl
  exact fun e => by rw [e, h2] at h; cases h
theorem pool_upd_ne {H : Hp} {d p : Addr} {o : HO} (pl : PoolAt H d) (h : H p = none) : PoolAt (upd H p o) d := by
  obtain ⟨a, b, h2, r⟩ := pl
  exact ⟨a, b, by rw [upd_ne (fun e => by rw [← e, h2] at h; cases h)]; exact h2, r⟩
theorem pool_upd_ne' {H : Hp} {d p : Addr} {o : HO} (pl : PoolAt H d) (h : p ≠ d) : PoolAt (upd H p o) d := by
  obtain ⟨a, b, h2, r⟩ := pl
  exact ⟨a, b, by rw [upd_ne h.symm]; exact h2, r⟩

/-! ### law_letter -/
structure PX (d : Addr) (H H' : Hp) : Prop where
  same : SameX d H H'
  pool : PoolAt H' d
theorem PX.refl {d : Addr} {H : Hp} (h : PoolAt H d) : PX d H H := ⟨SameX.refl, h⟩
theorem PX.trans {d : Addr} {H H1 H2 : Hp} (a : PX d H H1) (b : PX d H1 H2) : PX d H H2 := ⟨a.same.trans b.same, b.pool⟩
theorem PX.draw {d : Addr} {H H1 H2 : Hp} (a : PX d H H1) (b : SameX d H1 H2) (p : PoolAt H2 d) : PX d H H2 := ⟨a.same.trans b, p⟩
theorem pool_mono {H H' : Hp} {d : Addr} (s : Same H H') (p : PoolAt H d) : PoolAt H' d := by
  obtain ⟨a, b, h, r⟩ := p
  exact ⟨a, b, s _ _ h, r⟩
theorem PX.then {d : Addr} {H H1 H2 : Hp} (a : PX d H H1) (s : Same H1 H2) : PX d H H2 := ⟨a.same.trans (SameX.of s), pool_mono s a.pool⟩
theorem PX.new {d n : Addr} {H H1 : Hp} {o : HO} (a : PX d H H1) (h : H1 n = none) : PX d H (upd H1 n o) := a.then (Same.upd h)
/-- a change at an address that was free at first -/
theorem PX.set {d n : Addr} {H H1 : Hp} {o : HO} (a : PX d H H1) (h : H n = none) (hd : n ≠ d) : PX d H (upd H1 n o) :=
  ⟨fun b u e m => by rw [upd_ne (ne_of_none e h)]; exact a.same b u e m, pool_upd_ne' a.pool hd⟩
theorem PX.free {d n : Addr} {H H1 : Hp} (a : PX d H H1) (h : H1 n = none) : H n = none := pool_free a.same a.pool h
theorem PX.ne {d n : Addr} {H H1 : Hp} (a : PX d H H1) (h : H1 n = none) : n ≠ d := pool_ne a.pool h
def sp_law_letter (K : PySem.W.Frag) : Sp := fun vs H Q _ => ∃ (d : Addr), vs = [.ref d] ∧ PoolAt H d ∧ ∀ c H', c ∈ ltr → PX d H H' → Q (.str (S [c])) H'
theorem ok_law_letter (T : Txt K mg) : FnOk P w K mg base (L2.CX P w) 2 (He.ga K "_law_letter") (fdA K (He.ga K "_law_letter")) ["_law_draws_here"] (sp_law_letter K) := by
  refine T.F_law_letter.ok sc_law_letter (fun vs H Q E h => ?_) (fun cdv A outer s H vs Q E hr h => ⟨_, (pss_one (ps_ret (pe_ix ix_str pe_str (pe_callD (ok_law_draw T) (hr.mono (by omega)) rfl T.g_law_draw T.F_law_draw.kp (bd_law_draw T) passE (pa_cons (pv 0) (pa_cons pe_int pa_nil))) (fun _ _ => rfl)))), ?_⟩)
  · obtain ⟨d, rfl, _⟩ := h
    rfl
  · obtain ⟨d, rfl, pl, q⟩ := h
    walk_at "rd"
    refine ⟨d, 6, rfl, pl, by decide, by decide, fun r H1 l1 u1 x1 pl1 => ?_⟩
    obtain ⟨j, rfl⟩ : ∃ j : Nat, r = j := ⟨r.toNat, by omega⟩
    obtain ⟨c, h1, h2⟩ : ∃ c, atI (Str.ofString "abcxyz").cps.toList (j : Int) = some c ∧ c ∈ ltr := by
      rcases (by omega : j = 0 ∨ j = 1 ∨ j = 2 ∨ j = 3 ∨ j = 4 ∨ j = 5) with rfl | rfl | rfl | rfl | rfl | rfl
      · exact ⟨97, by decide +kernel, by decide +kernel⟩
      · exact ⟨98, by decide +kernel, by decide +kernel⟩
      · exact ⟨99, by decide +kernel, by decide +kernel⟩
      · exact ⟨120, by decide +kernel, by decide +kernel⟩
      · exact ⟨121, by decide +kernel, by decide +kernel⟩
      · exact ⟨122, by decide +kernel, by decide +kernel⟩
    exact ⟨_, rfl, by decide +kernel, c, h1, q c _ h2 ⟨x1, pl1⟩⟩

/-! ### law_sequence -/
def sp_law_sequence (K : PySem.W.Frag) : Sp := fun vs H Q _ => ∃ (d : Addr) (m : Int), vs = [.ref d, .int m] ∧ PoolAt H d ∧ 0 ≤ m ∧ m ≤ 1000 ∧ ∀ l H', (∀ c ∈ l, c ∈ stp) → (l.length : Int) ≤ m → PX d H H' → Q (.str (S l)) H'
def SqInv (H : Hp) (d D : Addr) (m way : Int) (i : Nat) (σ : St) (H1 : Hp) : Prop :=
  ∃ (ls : List Nat) (v4 : Option V), σ = [some (.ref d), some (.int m), some (.ref D), some (.int way), v4] ∧ H1 D = some (.lst (ls.map fun c => V.str (S [c]))) ∧ ls.length = i ∧ (∀ c ∈ ls, c ∈ stp) ∧ PX d H H1
theorem sum_ones (ls : List Nat) : ((ls.map fun c => S [c]).map fun x => x.length).sum = ls.length := by
  have e1 : (ls.map fun c => S [c]).map (fun x => x.length) = ls.map fun _ => 1 := by
    rw [List.map_map]; exact List.map_congr_left fun c _ => by simp [S_length]
  rw [e1]
  clear e1
  induction ls with
  | nil => rfl
  | cons c l ih => simp only [List.map_cons, List.sum_cons, ih, List.length_cons]; omega
theorem join_ones (ls : List Nat) : Txt.join "" (ls.map fun c => S [c]) = S ls := by
  have := join_empty (ls.map fun c => [c])
  rw [List.map_map] at this
  have e2 : (ls.map fun c => [c]).flatten = ls := by
    clear this
    induction ls with
    | nil => rfl
    | cons c l ih => simp [ih]
  rw [e2] at this
  exact this
theorem ltr_stp {c : Nat} (h : c ∈ ltr) : c ∈ stp := by
  have e : stp = ltr ++ [45] := by decide +kernel
  rw [e]; exact List.mem_append_left _ h
theorem ok_law_sequence (T : Txt K mg) : FnOk P w K mg base (L2.CX P w) 3 (He.ga K "_law_sequence") (fdA K (He.ga K "_law_sequence")) ["_law_draws_here", "_law_most"] (sp_law_sequence K) := by
  refine T.F_law_sequence.ok sc_law_sequence (fun vs H Q E h => ?_) (fun cdv A outer s H vs Q E hr h => ⟨_, (pss_cons (ps_set (i := 2) sc_law_sequence.nd rfl (by first | exact Or.inl rfl | exact Or.inr rfl) (pe_lst pa_nil))
      (pss_cons (ps_set (i := 3) sc_law_sequence.nd rfl (by first | exact Or.inl rfl | exact Or.inr rfl) (pe_op op_add pe_int (pe_callD (ok_law_draw T) (hr.mono (by omega)) rfl T.g_law_draw T.F_law_draw.kp (bd_law_draw T) passE (pa_cons (pv 0) (pa_cons pe_int pa_nil)))))
      (pss_cons (ps_for (passes_of rfl) rfl (pi_range1 rfl T.b_range (pa_cons (pe_callD (ok_law_draw T) (hr.mono (by omega)) rfl T.g_law_draw T.F_law_draw.kp (bd_law_draw T) passE (pa_cons (pv 0) (pa_cons (pe_op op_add (pv 1) pe_int) pa_nil))) pa_nil)) (pg_name (i := 4) sc_law_sequence.nd rfl (by first | exact Or.inl rfl | exact Or.inr rfl))
      (pss_one (ps_expr (pe_bm PySem.F.plainAttrs_list PySem.F.slot_list_append PySem.F.type_list_append mt_append (pv 2) (pa_cons (pe_ix ix_listM (pe_lst (pa_cons (pe_callD (ok_law_letter T) (hr.mono (by omega)) rfl T.g_law_letter T.F_law_letter.kp (bd_law_letter T) passE (pa_cons (pv 0) pa_nil)) (pa_cons pe_str pa_nil))) (pe_callTy call_intB rfl T.b_int (by decide +kernel) (pa_cons (pe_cmpR op_lt (pe_callD (ok_law_draw T) (hr.mono (by omega)) rfl T.g_law_draw T.F_law_draw.kp (bd_law_draw T) passE (pa_cons (pv 0) (pa_cons pe_int pa_nil))) (pv 3) (nomark _)) pa_nil)) (fun _ _ => rfl)) pa_nil)))))
      (pss_one (ps_ret (pe_join pe_str (pv 2))))))), ?_⟩)
  · obtain ⟨d, m, rfl, _⟩ := h
    rfl
  · obtain ⟨d, m, rfl, pl, m0, m1, q⟩ := h
    walk_at "rd"
    intro D hD
    have hDd := pool_ne pl hD
    have px0 : PX d H (upd H D (.lst [])) := (PX.refl pl).new hD
    refine ⟨d, 4, rfl, px0.pool, by decide, by decide, fun r H1 l1 u1 x1 pl1 => ⟨_, rfl, ?_⟩⟩
    have px1 := px0.draw x1 pl1
    refine ⟨d, _, rfl, pl1, by omega, by omega, fun r2 H2 l2 u2 x2 pl2 => ?_⟩
    have px2 := px1.draw x2 pl2
    obtain ⟨j, rfl⟩ : ∃ j : Nat, r2 = j := ⟨r2.toNat, by omega⟩
    refine ⟨_, rfl, by omega, by omega, ?_⟩
    rw [Int.toNat_natCast]
    refine LoopOk.walk walk_range (SqInv H d D m (1 + r)) ⟨[], none, rfl, x2 _ _ (x1 _ _ upd_same hDd) hDd, rfl, by simp, px2⟩ (fun _ _ _ _ _ => trivial) ?_ ?_
    · rintro i y σ H3 H4 hi ⟨ls, v4, rfl, gD, hls, hlt, px⟩ ⟨rfl, rfl⟩
      walk_at "rd"
      refine ⟨tyV_lst gD, d, rfl, px.pool, fun c H5 hc px5 => ?_⟩
      intro p hp
      have hpd := px5.ne hp
      refine ⟨d, 5, rfl, (px5.new hp).pool, by decide, by decide, fun r3 H6 l3 u3 x6 pl6 => ?_⟩
      have px6 : PX d H H6 := (px.trans (px5.new hp)).draw x6 pl6
      have gD6 : H6 D = some (.lst (ls.map fun c => V.str (S [c]))) := x6 _ _ (Same.upd hp _ _ (px5.same _ _ gD hDd)) hDd
      obtain ⟨c', e', hc'⟩ : ∃ c' : Nat, atI [V.str (S [c]), V.str (Str.ofString "-")] (if r3 < 1 + r then 1 else 0) = some (.str (S [c'])) ∧ c' ∈ stp := by
        split
        · exact ⟨45, atI_one, by decide +kernel⟩
        · exact ⟨c, atI_zero, ltr_stp hc⟩
      refine ⟨_, rfl, _, x6 _ _ upd_same hpd, _, e', _, gD6, by rw [List.length_map]; omega, ⟨ls ++ [c'], _, rfl, ?_, by simp [hls], ?_, px6.set hD hDd⟩⟩
      · rw [upd_same, List.map_append]; rfl
      · intro b hb
        rcases List.mem_append.mp hb with z | z
        · exact hlt b z
        · rw [List.mem_singleton.mp z]; exact hc'
    · rintro σ H3 ⟨ls, v4, rfl, gD, hls, hlt, px⟩
      walk_at "rd"
      refine ⟨⟨_, rfl⟩, ls.map fun c => S [c], .inl (SqL.of (by rw [gD, List.map_map]; rfl)), ?_, ?_⟩
      · rw [sum_ones, List.length_map, show Str.length "" = 0 by decide +kernel]
        omega
      · rw [join_ones]
        exact q ls _ hlt (by omega) px

/-! ### law_program -/
/-- the longest text, by depth -/
def wMost : Nat → Nat
  | 0 => 9
  | n + 1 => 9 + 12 * wMost n
/-- the longest program text, by depth -/
def tMost : Nat → Nat
  | 0 => 9
  | n + 1 => 9 + 3 * (tMost n + 3)
def spn_law_program (n : Nat) : Sp := fun vs H Q _ => ∃ (d : Addr) (m : Nat), vs = [.ref d, .int m] ∧ PoolAt H d ∧ m < n ∧ m ≤ 3 ∧
  ∀ tx fl H' t, Spells m tx fl → tx.length ≤ tMost m → fl.length ≤ wMost m → PX d H H' → H t = none → H' t = some (.tup [.str (S tx), .str (S fl)]) → Q (.ref t) H'
def LpInv (H : Hp) (d : Addr) (m : Nat) (i : Nat) (σ : St) (H1 : Hp) : Prop :=
  ∃ (tx fl : List Nat) (v4 v5 v6 v7 v8 : Option V), σ = [some (.ref d), some (.int m), some (.str (S tx)), some (.str (S fl)), v4, v5, v6, v7, v8] ∧ Spells m tx fl ∧ 3 * tx.length ≤ i * tMost m ∧ 3 * fl.length ≤ i * wMost m ∧ PX d H H1
theorem most_le {m : Nat} (h : m ≤ 3) : tMost m ≤ 1000 ∧ wMost m ≤ 17000 ∧ 9 ≤ tMost m ∧ 9 ≤ wMost m := by
  rcases (by omega : m = 0 ∨ m = 1 ∨ m = 2 ∨ m = 3) with rfl | rfl | rfl | rfl <;> decide
abbrev sp_law_program (_ : PySem.W.Frag) : Sp := spn_law_program 4
theorem okn_law_program (T : Txt K mg) (n : Nat) : FnOk P w K mg base (L2.CX P w) (n + 4) (He.ga K "_law_program") (fdA K (He.ga K "_law_program")) ["_law_draws_here", "_law_depth"] (spn_law_program n) := by
  induction n with
  | zero => exact T.F_law_program.ok sc_law_program (fun vs H Q E h => by obtain ⟨_, _, _, _, h, _⟩ := h; cases h) (fun cdv A outer s H vs Q E hr h => by obtain ⟨_, _, _, _, h, _⟩ := h; cases h)
  | succ n ih =>
    refine T.F_law_program.ok sc_law_program (fun vs H Q E h => ?_) (fun cdv A outer s H vs Q E hr h => ⟨_, (pss_cons (ps_asg (pe_tup (pa_cons pe_str (pa_cons pe_str pa_nil))) (pg_tup rfl (pgs_cons (pg_name (i := 2) sc_law_program.nd rfl (by first | exact Or.inl rfl | exact Or.inr rfl)) (pgs_cons (pg_name (i := 3) sc_law_program.nd rfl (by first | exact Or.inl rfl | exact Or.inr rfl)) pgs_nil))))
      (pss_cons (ps_for (passes_of rfl) rfl (pi_range1 rfl T.b_range (pa_cons (pe_op op_add pe_int (pe_callD (ok_law_draw T) (hr.mono (by omega)) rfl T.g_law_draw T.F_law_draw.kp (bd_law_draw T) passE (pa_cons (pv 0) (pa_cons pe_int pa_nil)))) pa_nil)) (pg_name (i := 4) sc_law_program.nd rfl (by first | exact Or.inl rfl | exact Or.inr rfl))
      (pss_cons (ps_set (i := 5) sc_law_program.nd rfl (by first | exact Or.inl rfl | exact Or.inr rfl) (pe_callD (ok_law_sequence T) (hr.mono (by omega)) rfl T.g_law_sequence T.F_law_sequence.kp (bd_law_sequence T) passE (pa_cons (pv 0) (pa_cons pe_int pa_nil))))
      (pss_cons (ps_par (i := 2) (j := 3) (by rfl) sc_law_program.nd rfl rfl (by decide) rfl rfl (pa_cons (pe_op op_add_str (pv 2) (pv 5)) (pa_cons (pe_op op_add_str (pv 3) (pv 5)) pa_nil)) (by rfl))
      (pss_one (ps_if (PW.pt (pw_and (pt_cmpR op_gt (pv 1) pe_int (nomark _)) (pw_and1 (pt_cmpR op_eq (pe_callD (ok_law_draw T) (hr.mono (by omega)) rfl T.g_law_draw T.F_law_draw.kp (bd_law_draw T) passE (pa_cons (pv 0) (pa_cons pe_int pa_nil))) pe_int (nomark _)))))
      (pss_cons (ps_asg (pe_callD ih hr rfl T.g_law_program T.F_law_program.kp (bd_law_program T) passE (pa_cons (pv 0) (pa_cons (pe_op op_sub (pv 1) pe_int) pa_nil))) (pg_tup rfl (pgs_cons (pg_name (i := 6) sc_law_program.nd rfl (by first | exact Or.inl rfl | exact Or.inr rfl)) (pgs_cons (pg_name (i := 7) sc_law_program.nd rfl (by first | exact Or.inl rfl | exact Or.inr rfl)) pgs_nil))))
      (pss_cons (ps_set (i := 8) sc_law_program.nd rfl (by first | exact Or.inl rfl | exact Or.inr rfl) (pe_callD (ok_law_draw T) (hr.mono (by omega)) rfl T.g_law_draw T.F_law_draw.kp (bd_law_draw T) passE (pa_cons (pv 0) (pa_cons pe_int pa_nil))))
      (pss_cons (ps_set (i := 2) sc_law_program.nd rfl (by first | exact Or.inl rfl | exact Or.inr rfl) (pe_op op_add_str (pe_op op_add_str (pe_op op_add_str (pe_op op_add_str (pv 2) pe_str) (pv 6)) pe_str) (pe_callTy call_str_int rfl T.b_str (by decide +kernel) (pa_cons (pv 8) pa_nil))))
      (pss_one (ps_set (i := 3) sc_law_program.nd rfl (by first | exact Or.inl rfl | exact Or.inr rfl) (pe_op op_add_str (pv 3) (pe_op op_mul_str (pv 7) (pv 8))))))))
      pss_nil)))))
      (pss_one (ps_ret (pe_tup (pa_cons (pv 2) (pa_cons (pv 3) pa_nil))))))), ?_⟩)
    · obtain ⟨d, m, rfl, _⟩ := h
      rfl
    · obtain ⟨d, m, rfl, pl, hm, hm3, q⟩ := h
      walk_at "rd"
      intro p0 hp0
      have px0 : PX d H (upd H p0 (.tup [.str "", .str ""])) := (PX.refl pl).new hp0
      obtain ⟨b1, b2, b3, b4⟩ := most_le hm3
      refine ⟨_, SqT.of upd_same, rfl, _, _, rfl, _, _, rfl, rfl, d, 3, rfl, px0.pool, by decide, by decide, fun r H1 l1 u1 x1 pl1 => ⟨_, rfl, by omega, by omega, ?_⟩⟩
      have px1 := px0.draw x1 pl1
      obtain ⟨j, hj⟩ : ∃ j : Nat, 1 + r = j := ⟨(1 + r).toNat, by omega⟩
      rw [hj, Int.toNat_natCast]
      refine LoopOk.walk walk_range (LpInv H d m) ⟨[], [], _, _, _, _, _, rfl, Spells.nil, by simp, by simp, px1⟩ (fun _ _ _ _ _ => trivial) ?_ ?_
      · rintro i y σ H2 H3 hi ⟨tx, fl, v4, v5, v6, v7, v8, rfl, sp, ht, hf, px⟩ ⟨rfl, rfl⟩
        have hi3 : i ≤ 2 := by omega
        have ht' : i * tMost m ≤ 2 * tMost m := Nat.mul_le_mul_right _ hi3
        have hf' : i * wMost m ≤ 2 * wMost m := Nat.mul_le_mul_right _ hi3
        have et : (i + 1) * tMost m = i * tMost m + tMost m := by rw [Nat.add_mul, Nat.one_mul]
        have ef : (i + 1) * wMost m = i * wMost m + wMost m := by rw [Nat.add_mul, Nat.one_mul]
        walk_at "rd"
        refine ⟨d, 3, rfl, px.pool, by decide, by decide, fun l H4 hl hl3 px4 => ?_⟩
        have sp1 := sp.app (Spells.steps (n := m) hl)
        have px5 := px.trans px4
        have hl3' : l.length ≤ 3 := by omega
        walk_at "rd"
        have e40 : Str.ofString "(" = S [40] := rfl
        have e41 : Str.ofString ")" = S [41] := rfl
        rw [S_append, S_append, e40, e41]
        refine ⟨by rw [S_length, S_length]; omega, by rw [S_length, S_length]; omega, ?_⟩
        have hlt : (tx ++ l).length = tx.length + l.length := List.length_append
        have hlf : (fl ++ l).length = fl.length + l.length := List.length_append
        split
        · rename_i hm0
          refine ⟨d, 2, rfl, px5.pool, by decide, by decide, fun r2 H5 l2 u2 x5 pl5 => ?_⟩
          have px6 := px5.draw x5 pl5
          refine ⟨rfl, ?_⟩
          split
          · obtain ⟨m', rfl⟩ : ∃ m', m = m' + 1 := ⟨m - 1, by omega⟩
            have em : ((m' + 1 : Nat) : Int) - 1 = (m' : Int) := by omega
            rw [em]
            refine ⟨d, m', rfl, px6.pool, by omega, by omega, fun txi fli H7 t spi hti hfi px7 ht7 gt7 => ?_⟩
            refine ⟨_, rfl, _, SqT.of gt7, rfl, _, _, rfl, _, _, rfl, rfl, ?_⟩
            have px8 := px6.trans px7
            refine ⟨d, 5, rfl, px8.pool, by decide, by decide, fun r3 H8 l3 u3 x8 pl8 => ?_⟩
            obtain ⟨k, rfl⟩ : ∃ k : Nat, r3 = k := ⟨r3.toNat, by omega⟩
            have hk5 : k < 5 := by omega
            have hnl : (TL.numL k).length ≤ 1 := TL.numL_len (by decide) (by omega)
            have hrl : (List.replicate k fli).flatten.length ≤ 4 * fli.length := by
              rw [flat_rep_length]; exact Nat.mul_le_mul_right _ (by omega)
            simp only [tMost, wMost] at ht hf ht' hf' et ef b1 b2 b3 b4
            have emul : mulS (S fli) (k : Int) = S (List.replicate k fli).flatten := by rw [mulS, Int.toNat_natCast, S_cps]
            have hkl : fli.length * k ≤ fli.length * 4 := Nat.mul_le_mul_left _ (by omega)
            refine ⟨by simp only [S_length]; simp; omega, _, rfl, ?_⟩
            rw [S_append, S_append, S_append]
            refine ⟨by simp only [S_length]; simp; omega, by simp only [S_length]; simp; omega, _, rfl, ?_, ?_⟩
            · rw [Int.natAbs_natCast]
              exact Nat.lt_of_le_of_lt (Nat.log2_le_self k) (by omega)
            · rw [num_txt, S_append]
              refine ⟨by simp only [S_length]; simp; omega, _, rfl, _, rfl, by omega, by omega, by rw [Int.toNat_natCast, S_length]; omega, ?_⟩
              rw [emul, S_append]
              refine ⟨by simp only [S_length]; simp only [List.length_append]; omega, ?_⟩
              have spk := sp1.app (spi.rep (k := k) (Nat.le_trans (Nat.le_of_lt hk5) (by decide)))
              refine ⟨_, _, _, _, _, _, _, rfl, ?_, ?_, ?_, px8.draw x8 pl8⟩
              · have eq : tx ++ l ++ [40] ++ txi ++ [41] ++ TL.numL k = tx ++ l ++ 40 :: (txi ++ 41 :: TL.numL k) := by simp
                rw [eq]
                exact spk
              · simp only [List.length_append, List.length_cons, List.length_nil, tMost]; omega
              · simp only [List.length_append, wMost]; omega
          · exact ⟨tx ++ l, fl ++ l, _, _, _, _, _, rfl, sp1, by omega, by omega, px6⟩
        · exact ⟨tx ++ l, fl ++ l, _, _, _, _, _, rfl, sp1, by omega, by omega, px5⟩
      · rintro σ H2 ⟨tx, fl, v4, v5, v6, v7, v8, rfl, sp, ht, hf, px⟩
        walk_at "rd"
        intro t ht0
        have hj3 : j ≤ 3 := by omega
        have ht' : j * tMost m ≤ 3 * tMost m := Nat.mul_le_mul_right _ hj3
        have hf' : j * wMost m ≤ 3 * wMost m := Nat.mul_le_mul_right _ hj3
        exact q tx fl _ t sp (by omega) (by omega) (px.new ht0) (px.free ht0) upd_same
theorem ok_law_program (T : Txt K mg) : FnOk P w K mg base (L2.CX P w) 8 (He.ga K "_law_program") (fdA K (He.ga K "_law_program")) ["_law_draws_here", "_law_depth"] (sp_law_program K) := okn_law_program T 4

/-! ### law -/
def sp_law (K : PySem.W.Frag) : Sp := fun vs H Q _ => ∃ (a : Addr) (ns : List Int), vs = [.ref a] ∧ SqL K H a (ns.map V.int) ∧ ns.length ≤ 63 ∧ ∀ H', Q (.bl true) H'
def LawInv (K : PySem.W.Frag) (a : Addr) (ns : List Int) (_ : Nat) (σ : St) (H1 : Hp) : Prop :=
  ∃ v1 v2 v3 v4 v5 v6 v7 v8 v9 v10 v11 v12 : Option V, σ = [some (.ref a), v1, v2, v3, v4, v5, v6, v7, v8, v9, v10, v11, v12] ∧ SqL K H1 a (ns.map V.int)
/-! the plain law: a run of two parts -/
theorem runs_strict {F : Five} {c n : Int} : runs F c true n = true ↔ -F.l ≤ n ∧ n + F.h ≤ c := by
  unfold runs rangeF
  rw [if_pos rfl]
  split
  · rename_i h; split at h
    · cases h
    · simp; omega
  · rename_i x y h; split at h
    · cases h; simp; omega
    · cases h
theorem runs_lax {F : Five} {c n : Int} : runs F c false n = true ↔ F.f ≤ c ∧ -F.l ≤ n ∧ n ≤ c := by
  unfold runs rangeF
  rw [if_neg (by decide)]
  split
  · rename_i h; split at h
    · cases h
    · simp; omega
  · rename_i x y h; split at h
    · cases h; simp; omega
    · cases h
theorem end_in {F : Five} (g : F.Good) {c n : Int} {s : Bool} (hn : 0 ≤ n) (hc : n ≤ c) (h : runs F c s n = true) : 0 ≤ endF F c n ∧ endF F c n ≤ c := by
  obtain ⟨g1, g2, g3, g4, g5, g6, g7, _, _⟩ := g
  unfold endF
  cases s with
  | true => rw [runs_strict] at h; split <;> omega
  | false => rw [runs_lax] at h; split <;> omega
theorem runs_join {F G : Five} (a : F.Good) (b : G.Good) {c n : Int} {s : Bool} (hn : 0 ≤ n) (hc : n ≤ c) : runs (F.join G) c s n = true ↔ runs F c s n = true ∧ runs G c s (endF F c n) = true := by
  obtain ⟨a1, a2, a3, a4, a5, a6, a7, _, _⟩ := a
  obtain ⟨b1, b2, b3, b4, b5, b6, b7, _, _⟩ := b
  have x1 := mx_def F.f G.f
  have x2 := mx_def (mx F.f G.f) (F.h - (F.p - F.t) - G.l)
  have x3 := mx_def F.h (F.p - F.t + G.h)
  have x4 := mn_def F.l (F.p - F.t + G.l)
  cases s with
  | true => rw [runs_strict, runs_strict, runs_strict]; simp only [Five.join, endF]; split <;> omega
  | false => rw [runs_lax, runs_lax, runs_lax]; simp only [Five.join, endF]; split <;> omega
theorem end_join {F G : Five} (c n : Int) : endF (F.join G) c n = endF G c (endF F c n) := by
  simp only [Five.join, endF, mx]; (repeat' split) <;> omega
theorem lost_join {F G : Five} (c n : Int) : lostF (F.join G) c n = lostF F c n + lostF G c (endF F c n) := by
  simp only [Five.join, endF, lostF, mx]; (repeat' split) <;> omega
theorem range_runs {F : Five} (g : F.Good) {c : Int} {s : Bool} {x y : Int} (h : rangeF F c s = some (x, y)) : 0 ≤ x ∧ x ≤ y ∧ y ≤ c ∧ ∀ n, runs F c s n = true ↔ x ≤ n ∧ n ≤ y := by
  obtain ⟨g1, g2, g3, g4, g5, g6, g7, _, _⟩ := g
  have e : ∀ n, runs F c s n = true ↔ x ≤ n ∧ n ≤ y := fun n => by unfold runs; rw [h]; simp
  unfold rangeF at h
  cases s with
  | true =>
    rw [if_pos rfl] at h
    split at h
    · cases h; exact ⟨by omega, by omega, by omega, e⟩
    · cases h
  | false =>
    rw [if_neg (by decide)] at h
    split at h
    · cases h; exact ⟨by omega, by omega, by omega, e⟩
    · cases h
theorem range_none {F : Five} {c : Int} {s : Bool} (h : rangeF F c s = none) (n : Int) : runs F c s n = false := by unfold runs; rw [h]
/-- the good lengths so far -/
def GoodL (F : Five) (c : Int) (s : Bool) (i : Nat) (gs : List Int) : Prop :=
  (gs = [] ∧ ∀ n : Int, 0 ≤ n → n < i → runs F c s n = false) ∨
  ∃ x y, gs.head? = some x ∧ gs.getLast? = some y ∧ runs F c s x = true ∧ runs F c s y = true ∧ y < i ∧ (∀ n : Int, 0 ≤ n → n < x → runs F c s n = false) ∧ (∀ n : Int, y < n → n < i → runs F c s n = false)
theorem GoodL.nil {F : Five} {c : Int} {s : Bool} : GoodL F c s 0 [] := .inl ⟨rfl, fun n h1 h2 => by omega⟩
theorem GoodL.no {F : Five} {c : Int} {s : Bool} {i : Nat} {gs : List Int} (h : GoodL F c s i gs) (hr : runs F c s i = false) : GoodL F c s (i + 1) gs := by
  rcases h with ⟨e, h⟩ | ⟨x, y, e1, e2, r1, r2, l, h1, h2⟩
  · refine .inl ⟨e, fun n h0 hn => ?_⟩
    by_cases c : n = i
    · rw [c]; exact hr
    · exact h n h0 (by omega)
  · refine .inr ⟨x, y, e1, e2, r1, r2, by omega, h1, fun n h0 hn => ?_⟩
    by_cases c : n = i
    · rw [c]; exact hr
    · exact h2 n h0 (by omega)
theorem GoodL.yes {F : Five} {c : Int} {s : Bool} {i : Nat} {gs : List Int} (h : GoodL F c s i gs) (hr : runs F c s i = true) : GoodL F c s (i + 1) (gs ++ [(i : Int)]) := by
  rcases h with ⟨e, h⟩ | ⟨x, y, e1, e2, r1, r2, l, h1, h2⟩
  · subst e
    exact .inr ⟨i, i, rfl, rfl, hr, hr, by omega, h, fun n h0 hn => by omega⟩
  · refine .inr ⟨x, i, ?_, by simp, r1, hr, by omega, h1, fun n h0 hn => by omega⟩
    cases gs with
    | nil => cases e1
    | cons a l => simpa using e1
theorem GoodL.end {F : Five} (g : F.Good) {c : Int} {s : Bool} {i : Nat} {gs : List Int} (h : GoodL F c s i gs) (hi : (i : Int) = c + 1) :
    (gs = [] ∧ rangeF F c s = none) ∨ ∃ x y, rangeF F c s = some (x, y) ∧ gs.head? = some x ∧ gs.getLast? = some y := by
  cases e : rangeF F c s with
  | none =>
    rcases h with ⟨e1, h⟩ | ⟨x, y, e1, e2, r1, _⟩
    · exact .inl ⟨e1, rfl⟩
    · rw [range_none e] at r1; cases r1
  | some w =>
    obtain ⟨u, v⟩ := w
    obtain ⟨k1, k2, k3, k4⟩ := range_runs g e
    have ru := (k4 u).mpr ⟨by omega, by omega⟩
    have rv := (k4 v).mpr ⟨by omega, by omega⟩
    rcases h with ⟨e1, h⟩ | ⟨x, y, e1, e2, r1, r2, l, h1, h2⟩
    · rw [h u (by omega) (by omega)] at ru; cases ru
    · refine .inr ⟨u, v, rfl, ?_, ?_⟩
      · have a1 := ((k4 x).mp r1).1
        have a2 : x ≤ u := by
          by_cases cc : u < x
          · rw [h1 u (by omega) cc] at ru; cases ru
          · omega
        rw [e1, show x = u by omega]
      · have a1 := ((k4 y).mp r2).2
        have a2 : v ≤ y := by
          by_cases cc : y < v
          · rw [h2 v cc (by omega)] at rv; cases rv
          · omega
        rw [e2, show y = v by omega]
theorem ne_non {K : PySem.W.Frag} {H : Hp} {Q : VK} (q : Q (.bl false) H) : rNeD K .non .non H Q := ne_data (d := .none) .non .non (by decide) (by simp [PyData.eqv]) q
theorem ne_int {K : PySem.W.Frag} {H : Hp} {i : Int} {Q : VK} (q : Q (.bl false) H) : rNeD K (.int i) (.int i) H Q := ne_data (d := .int i) (.int i) (.int i) (by simp [SeqAt.shaped, PyData.canLay0, PyData.depth]) (by simp [PyData.eqv]) q
theorem ite_sw {c : Prop} {inst : Decidable c} {P : Str → Str → Prop} {a b : Str} (h : ∀ x y, (x = a ∧ y = b) ∨ (x = b ∧ y = a) → P x y) : @ite Prop c inst (P b a) (P a b) := by
  split
  · exact h _ _ (.inr ⟨rfl, rfl⟩)
  · exact h _ _ (.inl ⟨rfl, rfl⟩)
def InInv (H9 : Hp) (a d D : Addr) (v1 v3 : Option V) (t1 t2 : List Nat) (F : Five) (c : Int) (z : Str) (i : Nat) (σ : St) (H1 : Hp) : Prop :=
  ∃ (gs : List Int) (v9 v10 v11 v12 : Option V), σ = [some (.ref a), v1, some (.ref d), v3, some (.str (S t1)), some (.str (S t2)), some (.int c), some (.str z), some (.ref D), v9, v10, v11, v12] ∧ H1 D = some (.lst (gs.map V.int)) ∧ GoodL F c (isStrict z) i gs ∧ gs.length ≤ i ∧ PX d H9 H1
theorem ok_law (T : Txt K mg) : FnOk P w K mg base CX0 27 (He.ga K "law") (fdA K (He.ga K "law")) ["_law_script"] (sp_law K) := by
  refine T.F_law.ok sc_law (fun vs H Q E h => ?_) (fun cdv A outer s H vs Q E hr h => ⟨_, (pss_cons (ps_for (passes_of rfl) rfl (pi_range1 rfl T.b_range (pa_cons (pe_callB (call_max2 rfl) rfl T.b_max (by decide +kernel) (pa_cons pe_int (pa_cons (pe_callB (call_min2 rfl) rfl T.b_min (by decide +kernel) (pa_cons pe_int (pa_cons (pe_callB call_lenL rfl T.b_len (by decide +kernel) (pa_cons (pv 0) pa_nil)) pa_nil))) pa_nil))) pa_nil)) (pg_name (i := 1) sc_law.nd rfl (by first | exact Or.inl rfl | exact Or.inr rfl))
      (pss_cons (ps_set (i := 2) sc_law.nd rfl (by first | exact Or.inl rfl | exact Or.inr rfl) (pe_callD (ok_law_draws T) (hr.mono (by omega)) rfl T.g_law_draws T.F_law_draws.kp (bd_law_draws T) passL (pa_cons (pv 0) (pa_cons (pv 1) pa_nil))))
      (pss_cons (ps_set (i := 3) sc_law.nd rfl (by first | exact Or.inl rfl | exact Or.inr rfl) (pe_ix ix_listM (pe_lst (pa_cons (pe_callD (ok_law_draw T) (hr.mono (by omega)) rfl T.g_law_draw T.F_law_draw.kp (bd_law_draw T) passL (pa_cons (pv 2) (pa_cons pe_int pa_nil))) (pa_cons (pe_op op_mulW (pe_callD (ok_law_draw T) (hr.mono (by omega)) rfl T.g_law_draw T.F_law_draw.kp (bd_law_draw T) passL (pa_cons (pv 2) (pa_cons (pe_op op_pow pe_int pe_int) pa_nil))) (pe_op op_pow pe_int pe_int)) pa_nil))) (pe_callD (ok_law_draw T) (hr.mono (by omega)) rfl T.g_law_draw T.F_law_draw.kp (bd_law_draw T) passL (pa_cons (pv 2) (pa_cons pe_int pa_nil))) (fun _ _ => rfl)))
      (pss_cons (ps_set (i := 4) sc_law.nd rfl (by first | exact Or.inl rfl | exact Or.inr rfl) (pe_op op_add_str (pe_ix ix_tup (pe_callD (ok_law_program T) (hr.mono (by omega)) rfl T.g_law_program T.F_law_program.kp (bd_law_program T) passL (pa_cons (pv 2) (pa_cons pe_int pa_nil))) pe_int (fun _ _ => rfl)) (pe_callD (ok_repeat T) (hr.mono (by omega)) rfl T.g_repeat T.F_repeat.kp (bd_repeat T) passL (pa_cons (pe_ix ix_tup (pe_callD (ok_law_program T) (hr.mono (by omega)) rfl T.g_law_program T.F_law_program.kp (bd_law_program T) passL (pa_cons (pv 2) (pa_cons pe_int pa_nil))) pe_int (fun _ _ => rfl)) (pa_cons (pv 3) pa_nil)))))
      (pss_cons (ps_set (i := 5) sc_law.nd rfl (by first | exact Or.inl rfl | exact Or.inr rfl) (pe_ix ix_tup (pe_callD (ok_law_program T) (hr.mono (by omega)) rfl T.g_law_program T.F_law_program.kp (bd_law_program T) passL (pa_cons (pv 2) (pa_cons pe_int pa_nil))) pe_int (fun _ _ => rfl)))
      (pss_cons (ps_if (pt_cmpR op_eq (pe_callD (ok_law_draw T) (hr.mono (by omega)) rfl T.g_law_draw T.F_law_draw.kp (bd_law_draw T) passL (pa_cons (pv 2) (pa_cons pe_int pa_nil))) pe_int (nomark _))
      (pss_one (ps_par (i := 4) (j := 5) (by rfl) sc_law.nd rfl rfl (by decide) rfl rfl (pa_cons (pv 5) (pa_cons (pv 4) pa_nil)) (by rfl)))
      pss_nil)
      (pss_cons (ps_set (i := 6) sc_law.nd rfl (by first | exact Or.inl rfl | exact Or.inr rfl) (pe_ix ix_listM (pe_lst (pa_cons (pe_op op_add pe_int (pe_callD (ok_law_draw T) (hr.mono (by omega)) rfl T.g_law_draw T.F_law_draw.kp (bd_law_draw T) passL (pa_cons (pv 2) (pa_cons pe_int pa_nil)))) (pa_cons (pe_op op_add pe_int (pe_callD (ok_law_draw T) (hr.mono (by omega)) rfl T.g_law_draw T.F_law_draw.kp (bd_law_draw T) passL (pa_cons (pv 2) (pa_cons pe_int pa_nil)))) pa_nil))) (pe_callD (ok_law_draw T) (hr.mono (by omega)) rfl T.g_law_draw T.F_law_draw.kp (bd_law_draw T) passL (pa_cons (pv 2) (pa_cons pe_int pa_nil))) (fun _ _ => rfl)))
      (pss_cons (ps_set (i := 7) sc_law.nd rfl (by first | exact Or.inl rfl | exact Or.inr rfl) (pe_ix ix_listM (pe_lst (pa_cons pe_str (pa_cons pe_str (pa_cons pe_str pa_nil)))) (pe_callD (ok_law_draw T) (hr.mono (by omega)) rfl T.g_law_draw T.F_law_draw.kp (bd_law_draw T) passL (pa_cons (pv 2) (pa_cons pe_int pa_nil))) (fun _ _ => rfl)))
      (pss_cons (ps_set (i := 8) sc_law.nd rfl (by first | exact Or.inl rfl | exact Or.inr rfl) (pe_lst pa_nil))
      (pss_cons (ps_for (passes_of rfl) rfl (pi_range1 rfl T.b_range (pa_cons (pe_op op_add (pv 6) pe_int) pa_nil)) (pg_name (i := 9) sc_law.nd rfl (by first | exact Or.inl rfl | exact Or.inr rfl))
      (pss_cons (ps_set (i := 10) sc_law.nd rfl (by first | exact Or.inl rfl | exact Or.inr rfl) (pe_callD (ok_end_length T) (hr.mono (by omega)) rfl T.g_end_length T.F_end_length.kp (bd_end_length T) passL (pa_cons (pv 4) (pa_cons (pv 6) (pa_cons (pv 7) (pa_cons (pv 9) pa_nil))))))
      (pss_cons (ps_asg (pe_tup (pa_cons pe_non (pa_cons pe_non pa_nil))) (pg_tup rfl (pgs_cons (pg_name (i := 11) sc_law.nd rfl (by first | exact Or.inl rfl | exact Or.inr rfl)) (pgs_cons (pg_name (i := 12) sc_law.nd rfl (by first | exact Or.inl rfl | exact Or.inr rfl)) pgs_nil))))
      (pss_cons (ps_if (pt_cmpR op_notN (pv 10) pe_non (nomark _))
      (pss_one (ps_set (i := 11) sc_law.nd rfl (by first | exact Or.inl rfl | exact Or.inr rfl) (pe_callD (ok_end_length T) (hr.mono (by omega)) rfl T.g_end_length T.F_end_length.kp (bd_end_length T) passL (pa_cons (pv 5) (pa_cons (pv 6) (pa_cons (pv 7) (pa_cons (pv 10) pa_nil)))))))
      pss_nil)
      (pss_cons (ps_if (pt_cmpR op_notN (pv 11) pe_non (nomark _))
      (pss_cons (ps_set (i := 12) sc_law.nd rfl (by first | exact Or.inl rfl | exact Or.inr rfl) (pe_op op_add (pe_callD (ok_lost_letters T) (hr.mono (by omega)) rfl T.g_lost_letters T.F_lost_letters.kp (bd_lost_letters T) passL (pa_cons (pv 4) (pa_cons (pv 6) (pa_cons (pv 7) (pa_cons (pv 9) pa_nil))))) (pe_callD (ok_lost_letters T) (hr.mono (by omega)) rfl T.g_lost_letters T.F_lost_letters.kp (bd_lost_letters T) passL (pa_cons (pv 5) (pa_cons (pv 6) (pa_cons (pv 7) (pa_cons (pv 10) pa_nil)))))))
      (pss_one (ps_expr (pe_bm PySem.F.plainAttrs_list PySem.F.slot_list_append PySem.F.type_list_append mt_append (pv 8) (pa_cons (pv 9) pa_nil)))))
      pss_nil)
      (pss_cons (ps_if (pt_cmpR (op_neD hr.units) (pe_callD (ok_end_length T) (hr.mono (by omega)) rfl T.g_end_length T.F_end_length.kp (bd_end_length T) passL (pa_cons (pe_op op_add_str (pv 4) (pv 5)) (pa_cons (pv 6) (pa_cons (pv 7) (pa_cons (pv 9) pa_nil))))) (pv 11) (nomark _))
      (pss_one (ps_ret pe_bl))
      pss_nil)
      (pss_one (ps_if (pt_cmpR (op_neD hr.units) (pe_callD (ok_lost_letters T) (hr.mono (by omega)) rfl T.g_lost_letters T.F_lost_letters.kp (bd_lost_letters T) passL (pa_cons (pe_op op_add_str (pv 4) (pv 5)) (pa_cons (pv 6) (pa_cons (pv 7) (pa_cons (pv 9) pa_nil))))) (pv 12) (nomark _))
      (pss_one (ps_ret pe_bl))
      pss_nil))))))))
      (pss_cons (ps_set (i := 11) sc_law.nd rfl (by first | exact Or.inl rfl | exact Or.inr rfl) pe_non)
      (pss_cons (ps_if (pt_cmpR (op_neD hr.units) (pv 8) (pe_lst pa_nil) (nomark _))
      (pss_one (ps_set (i := 11) sc_law.nd rfl (by first | exact Or.inl rfl | exact Or.inr rfl) (pe_tup (pa_cons (pe_ix ix_listM (pv 8) pe_int (fun _ _ => rfl)) (pa_cons (pe_ix ix_listM (pv 8) (pe_un un_neg pe_int) (fun _ _ => rfl)) pa_nil)))))
      pss_nil)
      (pss_one (ps_if (pt_cmpR (op_neD hr.units) (pe_callD (ok_start_lengths T) (hr.mono (by omega)) rfl T.g_start_lengths T.F_start_lengths.kp (bd_start_lengths T) passL (pa_cons (pe_op op_add_str (pv 4) (pv 5)) (pa_cons (pv 6) (pa_cons (pv 7) pa_nil)))) (pv 11) (nomark _))
      (pss_one (ps_ret pe_bl))
      pss_nil))))))))))))))
      (pss_one (ps_ret pe_bl))), ?_⟩)
  · obtain ⟨a, ns, rfl, _⟩ := h
    rfl
  · obtain ⟨a, ns, rfl, hS, hl, q⟩ := h
    walk_at "rd"
    refine ⟨_, hS, ?_⟩
    obtain ⟨m, em, hm⟩ := max1m 30 (n := ns.length) (by decide)
    rw [List.length_map, em]
    refine ⟨by omega, by omega, ?_⟩
    rw [Int.toNat_natCast]
    refine LoopOk.walk walk_range (LawInv K a ns) ⟨_, _, _, _, _, _, _, _, _, _, _, _, rfl, hS⟩ (fun _ _ _ _ _ => trivial) ?_ ?_
    · rintro i y σ H7 H8 hi ⟨v1, v2, v3, v4, v5, v6, v7, v8, v9, v10, v11, v12, rfl, gS⟩ ⟨rfl, rfl⟩
      walk_at "rd"
      refine ⟨a, ns, _, rfl, gS, hl, by omega, by omega, fun H9 d s9 hd pl9 => ?_⟩
      refine ⟨d, 50, rfl, pl9, by decide, by decide, fun r1 H11 l1 u1 x11 pl11 => ?_⟩
      refine ⟨d, _, rfl, pl11, by decide, by decide, fun r2 H12 l2 u2 x12 pl12 => ⟨_, rfl, ?_, fun p hp => ?_⟩⟩
      · exact wide_mul (a := 64) (b := 100) (by omega) (by decide) (by decide) (by decide) (by decide)
      have px2 := (((PX.refl pl9).draw x11 pl11).draw x12 pl12)
      have px3 := px2.new hp (o := .lst [.int r1, .int (r2 * 100000000000000000000)])
      refine ⟨d, 2, rfl, px3.pool, by decide, by decide, fun r3 H13 l3 u3 x13 pl13 => ?_⟩
      have px4 := px3.draw x13 pl13
      have g13 := x13 _ _ (upd_same (H := H12) (a := p) (o := .lst [.int r1, .int (r2 * 100000000000000000000)])) (px2.ne hp)
      obtain ⟨k, ek, hk⟩ : ∃ k : Nat, atI [V.int r1, V.int (r2 * 100000000000000000000)] r3 = some (.int (k : Nat)) ∧ k ≤ 10 ^ 30 := by
        obtain ⟨j, rfl⟩ : ∃ j : Nat, r3 = j := ⟨r3.toNat, by omega⟩
        rcases (by omega : j = 0 ∨ j = 1) with rfl | rfl
        · exact ⟨r1.toNat, by rw [Int.toNat_of_nonneg l1]; rfl, by omega⟩
        · exact ⟨(r2 * 100000000000000000000).toNat, by rw [Int.toNat_of_nonneg (by omega)]; rfl, by omega⟩
      refine ⟨_, _, rfl, g13, _, ek, ?_⟩
      refine ⟨d, 1, rfl, px4.pool, by decide, by decide, fun t1 f1 H14 a1 sp1 ht1 _ px14 _ g14 => ?_⟩
      have px5 := px4.trans px14
      refine ⟨_, rfl, _, SqT.of g14, _, atI_zero, ?_⟩
      refine ⟨d, 1, rfl, px5.pool, by decide, by decide, fun t2 f2 H15 a2 sp2 ht2 _ px15 _ g15 => ?_⟩
      have px6 := px5.trans px15
      refine ⟨_, rfl, _, SqT.of g15, _, atI_zero, ?_⟩
      have b1 : t1.length ≤ 1000 := Nat.le_trans ht1 (most_le (by decide)).1
      have b2 : t2.length ≤ 1000 := Nat.le_trans ht2 (most_le (by decide)).1
      refine rep_good (sp2.prog (by decide)) (by omega) hk ((sp2.repL hk).depF (by decide)) fun H16 s16 => ?_
      have px7 := px6.then s16
      have b3 := repL_len (l := t2) hk
      have spA := (sp1.mono (n := 2) (by decide)).app (sp2.repL hk)
      refine ⟨_, rfl, _, rfl, by rw [S_length, S_length]; omega, ?_⟩
      rw [S_append]
      refine ⟨d, 1, rfl, px7.pool, by decide, by decide, fun t3 f3 H17 a3 sp3 ht3 _ px17 _ g17 => ?_⟩
      have px8 := px7.trans px17
      have b4 : t3.length ≤ 1000 := Nat.le_trans ht3 (most_le (by decide)).1
      refine ⟨_, rfl, _, SqT.of g17, _, atI_zero, ?_⟩
      refine ⟨d, 2, rfl, px8.pool, by decide, by decide, fun r4 H18 l4 u4 x18 pl18 => ?_⟩
      have px9 := px8.draw x18 pl18
      have lA : (t1 ++ repL t2 k).length ≤ 3000 := by rw [List.length_append]; omega
      have spB := sp3.mono (n := 2) (by decide)
      generalize t1 ++ repL t2 k = tA at spA lA ⊢
      generalize f1 ++ (List.replicate k f2).flatten = fA at spA
      dsimp only
      refine ⟨rfl, ?_⟩
      generalize eA : S tA = zA
      generalize eB : S t3 = zB
      apply ite_sw (a := zA) (b := zB)
      intro z1 z2 hz
      obtain ⟨u1, g1, u2, g2, e1, e2, sq1, sq2, c1, c2⟩ : ∃ u1 g1 u2 g2, z1 = S u1 ∧ z2 = S u2 ∧ Spells 2 u1 g1 ∧ Spells 2 u2 g2 ∧ u1.length ≤ 3000 ∧ u2.length ≤ 3000 := by
        rcases hz with ⟨rfl, rfl⟩ | ⟨rfl, rfl⟩
        · exact ⟨_, _, _, _, eA.symm, eB.symm, spA, spB, lA, by omega⟩
        · exact ⟨_, _, _, _, eB.symm, eA.symm, spB, spA, by omega, lA⟩
      subst e1 e2
      clear hz eA eB spA spB lA sp1 sp2 sp3
      refine ⟨d, 9, rfl, px9.pool, by decide, by decide, fun r5 H19 l5 u5 x19 pl19 => ⟨_, rfl, ?_⟩⟩
      have px10 := px9.draw x19 pl19
      refine ⟨d, 100, rfl, px10.pool, by decide, by decide, fun r6 H20 l6 u6 x20 pl20 => ⟨_, rfl, fun p1 hp1 => ?_⟩⟩
      have px11 := px10.draw x20 pl20
      have px12 := px11.new hp1 (o := .lst [.int (1 + r5), .int (1 + r6)])
      refine ⟨d, 2, rfl, px12.pool, by decide, by decide, fun r7 H21 l7 u7 x21 pl21 => ?_⟩
      have px13 := px12.draw x21 pl21
      have g21 := x21 _ _ (upd_same (H := H20) (a := p1) (o := .lst [.int (1 + r5), .int (1 + r6)])) (px11.ne hp1)
      obtain ⟨c, ec, hc1, hc2⟩ : ∃ c : Int, atI [V.int (1 + r5), V.int (1 + r6)] r7 = some (.int c) ∧ 1 ≤ c ∧ c ≤ 100 := by
        obtain ⟨j, rfl⟩ : ∃ j : Nat, r7 = j := ⟨r7.toNat, by omega⟩
        rcases (by omega : j = 0 ∨ j = 1) with rfl | rfl
        · exact ⟨_, rfl, by omega, by omega⟩
        · exact ⟨_, rfl, by omega, by omega⟩
      refine ⟨_, _, rfl, g21, _, ec, fun p2 hp2 => ?_⟩
      have px14 := px13.new hp2 (o := .lst [.str (Str.ofString "oldest"), .str (Str.ofString "newest"), .str (Str.ofString "strict")])
      refine ⟨d, 3, rfl, px14.pool, by decide, by decide, fun r8 H22 l8 u8 x22 pl22 => ?_⟩
      have px15 := px14.draw x22 pl22
      have g22 := x22 _ _ (upd_same (H := H21) (a := p2) (o := .lst [.str (Str.ofString "oldest"), .str (Str.ofString "newest"), .str (Str.ofString "strict")])) (px13.ne hp2)
      obtain ⟨z, ez, hz⟩ : ∃ z : Str, atI [V.str (Str.ofString "oldest"), V.str (Str.ofString "newest"), V.str (Str.ofString "strict")] r8 = some (.str z) ∧ isMode (.str z) = true := by
        obtain ⟨j, rfl⟩ : ∃ j : Nat, r8 = j := ⟨r8.toNat, by omega⟩
        rcases (by omega : j = 0 ∨ j = 1 ∨ j = 2) with rfl | rfl | rfl
        · exact ⟨_, rfl, by decide +kernel⟩
        · exact ⟨_, rfl, by decide +kernel⟩
        · exact ⟨_, rfl, by decide +kernel⟩
      refine ⟨_, _, rfl, g22, _, ez, fun D hD => ⟨_, rfl, by omega, by omega, ?_⟩⟩
      have px16 := px15.new hD (o := .lst [])
      have hD9 := px15.free hD
      have hDd := px15.ne hD
      obtain ⟨cn, ecn⟩ : ∃ cn : Nat, c + 1 = (cn : Int) := ⟨(c + 1).toNat, by omega⟩
      rw [ecn, Int.toNat_natCast]
      clear px2 px3 px4 px5 px6 px7 px8 px9 px10 px11 px12 px13 px14 px15
      have pr1 := sq1.prog (by decide)
      have pr2 := sq2.prog (by decide)
      have pr3 := (sq1.app sq2).prog (by decide)
      have gF : (fiveF g1).Good := fiveF_good _
      have gG : (fiveF g2).Good := fiveF_good _
      have eJ := fiveF_app g1 g2
      refine LoopOk.walk walk_range (InInv H9 a d D (some (.int (0 + (i : Int)))) (some (.int (k : Nat))) u1 u2 (fiveF (g1 ++ g2)) c z) ⟨[], _, _, _, _, rfl, upd_same, GoodL.nil, Nat.le_refl _, px16⟩ (fun _ _ _ _ _ => trivial) ?_ ?_
      · rintro n y σ H23 H24 hn ⟨gs, v9, v10, v11, v12, rfl, gD, hg, hgl, px⟩ ⟨rfl, rfl⟩
        walk_at "rd"
        rw [show (0 : Int) + (n : Int) = (n : Int) by omega]
        refine el_good pr1 (by omega) hc1 hc2 hz (by omega) (by omega) fun H25 s25 => ?_
        intro p hp
        refine ⟨_, SqT.of upd_same, rfl, _, _, rfl, _, _, rfl, rfl, ?_⟩
        have px26 := (px.then s25).new hp (o := .tup [.non, .non])
        have gD26 := kp (u := .tup [.non, .non]) (s25 _ _ gD) hp
        have lz : (u1 ++ u2).length ≤ 6000 := by rw [List.length_append]; omega
        have lz2 : (S u1).length + (S u2).length ≤ 16777216 := by rw [S_length, S_length]; omega
        rw [S_append]
        cases hr1 : runs (fiveF g1) c (isStrict z) (n : Int) with
        | false =>
          have hJ : runs (fiveF (g1 ++ g2)) c (isStrict z) (n : Int) = false := by
            cases h : runs (fiveF (g1 ++ g2)) c (isStrict z) (n : Int) with
            | false => rfl
            | true => rw [eJ, runs_join gF gG (by omega) (by omega), hr1] at h; cases h.1
          rw [if_neg (by simp), if_neg (by simp)]
          refine ⟨lz2, el_good pr3 (by omega) hc1 hc2 hz (by omega) (by omega) fun H27 s27 => ?_⟩
          rw [hJ, if_neg (by decide)]
          refine ne_non ⟨_, rfl, ?_⟩
          rw [if_neg (by decide)]
          refine ⟨lz2, ll_good pr3 (by omega) hc1 hc2 hz (by omega) (by omega) fun H28 s28 => ?_⟩
          rw [hJ, if_neg (by decide)]
          refine ne_non ⟨_, rfl, ?_⟩
          rw [if_neg (by decide)]
          exact ⟨gs, _, _, _, _, rfl, s28 _ _ (s27 _ _ gD26), hg.no hJ, by omega, (px26.then s27).then s28⟩
        | true =>
          obtain ⟨m0, m1⟩ := end_in gF (by omega) (by omega) hr1
          rw [if_pos (by simp)]
          rw [if_pos rfl]
          refine el_good pr2 (by omega) hc1 hc2 hz m0 m1 fun H27 s27 => ?_
          cases hr2 : runs (fiveF g2) c (isStrict z) (endF (fiveF g1) c (n : Int)) with
          | false =>
            have hJ : runs (fiveF (g1 ++ g2)) c (isStrict z) (n : Int) = false := by
              cases h : runs (fiveF (g1 ++ g2)) c (isStrict z) (n : Int) with
              | false => rfl
              | true => rw [eJ, runs_join gF gG (by omega) (by omega), hr2] at h; cases h.2
            try dsimp only
            rw [if_neg (by simp)]
            refine ⟨lz2, el_good pr3 (by omega) hc1 hc2 hz (by omega) (by omega) fun H28 s28 => ?_⟩
            rw [hJ, if_neg (by decide)]
            refine ne_non ⟨_, rfl, ?_⟩
            rw [if_neg (by decide)]
            refine ⟨lz2, ll_good pr3 (by omega) hc1 hc2 hz (by omega) (by omega) fun H29 s29 => ?_⟩
            rw [hJ, if_neg (by decide)]
            refine ne_non ⟨_, rfl, ?_⟩
            rw [if_neg (by decide)]
            exact ⟨gs, _, _, _, _, rfl, s29 _ _ (s28 _ _ (s27 _ _ gD26)), hg.no hJ, by omega, ((px26.then s27).then s28).then s29⟩
          | true =>
            have hJ : runs (fiveF (g1 ++ g2)) c (isStrict z) (n : Int) = true := by
              rw [eJ, runs_join gF gG (by omega) (by omega)]; exact ⟨hr1, hr2⟩
            have eE : endF (fiveF (g1 ++ g2)) c (n : Int) = endF (fiveF g2) c (endF (fiveF g1) c (n : Int)) := by rw [eJ, end_join]
            have eL : lostF (fiveF (g1 ++ g2)) c (n : Int) = lostF (fiveF g1) c (n : Int) + lostF (fiveF g2) c (endF (fiveF g1) c (n : Int)) := by rw [eJ, lost_join]
            try dsimp only
            rw [if_pos (by simp)]
            refine ll_good pr1 (by omega) hc1 hc2 hz (by omega) (by omega) fun H28 s28 => ?_
            rw [hr1, if_pos rfl]
            refine ll_good pr2 (by omega) hc1 hc2 hz m0 m1 fun H29 s29 => ?_
            rw [hr2, if_pos rfl]
            have gD29 := s29 _ _ (s28 _ _ (s27 _ _ gD26))
            have px29 := ((px26.then s27).then s28).then s29
            refine ⟨_, rfl, _, rfl, tyV_lst gD29, _, gD29, by rw [List.length_map]; omega, lz2, ?_⟩
            refine el_good pr3 (by omega) hc1 hc2 hz (by omega) (by omega) fun H30 s30 => ?_
            rw [hJ, if_pos rfl, eE, if_pos rfl]
            refine ne_int ⟨_, rfl, ?_⟩
            rw [if_neg (by decide)]
            refine ⟨lz2, ll_good pr3 (by omega) hc1 hc2 hz (by omega) (by omega) fun H31 s31 => ?_⟩
            rw [hJ, if_pos rfl, eL]
            refine ne_int ⟨_, rfl, ?_⟩
            rw [if_neg (by decide)]
            refine ⟨gs ++ [(n : Int)], _, _, _, _, rfl, s31 _ _ (s30 _ _ ?_), hg.yes hJ, by simp; omega, ((px29.set hD9 hDd).then s30).then s31⟩
            rw [upd_same, List.map_append]
            rfl
      · rintro σ H23 ⟨gs, v9, v10, v11, v12, rfl, gD, hg, hgl, px⟩
        walk_at "rd"
        intro p hp
        have gD' := kp (u := .lst []) gD hp
        have px2 := px.new hp (o := .lst [])
        have lz : (u1 ++ u2).length ≤ 6000 := by rw [List.length_append]; omega
        have lz2 : (S u1).length + (S u2).length ≤ 16777216 := by rw [S_length, S_length]; omega
        have hend := hg.end (fiveF_good _) (by omega)
        refine ⟨.list (gs.map PyData.int), .list [], .lst (SqL.of gD') (dpAll_ints gs), .lst (SqL.of upd_same) .nil, shaped_ints gs, rfl, _, rfl, ?_⟩
        rw [S_append]
        generalize upd H23 p (.lst []) = H24 at gD' px2 ⊢
        rcases hend with ⟨rfl, hn⟩ | ⟨x, y, hxy, h1, h2⟩
        · rw [if_neg (by simp [PyData.eqv, PyData.eqvAll])]
          refine ⟨lz2, sl_good pr3 (by omega) hc1 hc2 hz (fun _ H25 s25 => ?_) (fun x y e => by rw [hn] at e; cases e)⟩
          refine ne_non ⟨_, rfl, ?_⟩
          rw [if_neg (by decide)]
          exact ⟨_, _, _, _, _, _, _, _, _, _, _, _, rfl, ((SameX.of s9).trans (px2.then s25).same).seqF hd gS⟩
        · have hcons : ∃ b l, gs = b :: l := by
            cases gs with
            | nil => cases h1
            | cons b l => exact ⟨b, l, rfl⟩
          rw [if_pos (by obtain ⟨b, l, rfl⟩ := hcons; simp [PyData.eqv, PyData.eqvAll])]
          have a0 : atI (gs.map V.int) 0 = some (.int x) := by
            obtain ⟨b, l, rfl⟩ := hcons
            cases h1
            exact atI_zero
          have a1 : atI (gs.map V.int) (-1) = some (.int y) := by
            obtain ⟨l, rfl⟩ : ∃ l, gs = l ++ [y] := by
              have := List.getLast?_eq_some_iff.mp h2
              exact this
            rw [List.map_append]
            exact atI_last
          refine ⟨_, gD', _, a0, _, gD', _, a1, fun p3 hp3 => ⟨lz2, ?_⟩⟩
          have px3 := px2.new hp3 (o := .tup [.int x, .int y])
          refine sl_good pr3 (by omega) hc1 hc2 hz (fun e => by rw [hxy] at e; cases e) fun x' y' e H26 r26 s26 g26 => ?_
          rw [hxy] at e
          cases e
          refine ne_data (d := .tuple [.int x, .int y]) (.tup (SqT.of g26) (.cons (.int _) (.cons (.int _) .nil))) (.tup (SqT.of (s26 _ _ upd_same)) (.cons (.int _) (.cons (.int _) .nil))) (by simp [SeqAt.shaped, PyData.canLay0, PyData.canLayAll0, PyData.depth, PyData.depthAll]) (by simp [PyData.eqv, PyData.eqvAll]) ⟨_, rfl, ?_⟩
          rw [if_neg (by decide)]
          exact ⟨_, _, _, _, _, _, _, _, _, _, _, _, rfl, ((SameX.of s9).trans (px3.then s26).same).seqF hd gS⟩
    · rintro σ H7 ⟨v1, v2, v3, v4, v5, v6, v7, v8, v9, v10, v11, v12, rfl, gS⟩
      walk_at "rd"
      exact q _

end Q
namespace Q
open PySem PySem.W PySem.Calls PyProof.Rows
abbrev R : OpenRow := OpenLaw.row PySem.Challenge.rw_fullqueue_k10_whole_lengths_of_large_pro
def loose : List PySem.Str := (["DIGITS", "InvalidCapacity", "InvalidInteger", "InvalidMode", "InvalidProgram", "LETTERS", "LimitExceeded", "MODES", "MOST", "MOST_COUNT", "MOST_DEPTH", "NOTHING", "QueueError", "STEPS", "TAKE", "_law_draw", "_law_draws", "_law_letter", "_law_program", "_law_sequence", "check_capacity", "check_integer", "check_mode", "checked", "depth_of", "end_length", "five_of", "is_capacity", "is_count", "is_integer"] : List PySem.Str) ++ (["is_mode", "items_of", "joined", "lost_letters", "parse", "repeat", "repeated", "span_of", "start_lengths", "start_range"] : List PySem.Str)
abbrev hk : Hook := hookM 5 exs fns
def ob (s : SharedT) : He.AlD := obsMG 5 exs fns (HandSHeadRun.getT s)
theorem ob_eq (s : SharedT) : ob s = hk.obs s.abs := obsMG_eq (HandSHeadRun.getT_eq s)
theorem run (w : World) : HandSHeadRun.RunEq R (view R.prog [46]) hk ob 20000 loose w := by
  intro os
  kernel_rfl
end Q
open PySem PySem.W PySem.Calls PyProof.Rows
theorem PySem.Challenge.cw_fullqueue_k10_whole_lengths_of_large_pro_holds : PySem.Challenge.rw_fullqueue_k10_whole_lengths_of_large_pro.Holds := by
  w_on; o_law
  refine HandSHeadRun.head_any (r := OpenLaw.row PySem.Challenge.rw_fullqueue_k10_whole_lengths_of_large_pro) (q := view (OpenLaw.row PySem.Challenge.rw_fullqueue_k10_whole_lengths_of_large_pro).prog [46]) (H := Q.hk) (ob := Q.ob) (M := 20000) (loose := Q.loose) (d := HandSHeadRun.topDef (OpenLaw.row PySem.Challenge.rw_fullqueue_k10_whole_lengths_of_large_pro).prog 46) (kwd := []) Q.ob_eq
    (by kernel_rfl) (fun s => by kernel_rfl) Q.run (by kernel_rfl) (by kernel_rfl) (by kernel_rfl) (by rfl) (by first | assumption | decide +kernel) (by decide +kernel) ⟨rfl, rfl, rfl, rfl, rfl, by decide +kernel⟩ ?hw ?hc
  case hw => w_witness2
  case hc =>
    refine L2.walk_ofE (l := PySem.Challenge.rw_fullqueue_k10_whole_lengths_of_large_pro) (n := 63) (k := 27) (x := "_law_script") (CX := L2.CX0) rfl (by decide) (by kernel_rfl) ⟨rfl, by decide, by decide⟩ ?F (fun _ _ _ _ z => z)
    intro w mg fa h Y G hmg0
    obtain ⟨K, KX, c⟩ := Y
    have hmg : mg ("law" : PySem.Str) = some (.ref fa) := by
      have e : (HandSHeadRun.topDef (OpenLaw.row PySem.Challenge.rw_fullqueue_k10_whole_lengths_of_large_pro).prog 46).name = ("law" : PySem.Str) := by kernel_rfl
      rw [← e]
      exact hmg0
    have T : Q.Txt K mg := Q.txt_of KX G c
    have e := hmg.symm.trans T.g_law
    cases e
    exact ⟨K, _, Q.sp_law K, KX, fun s v => T.F_law.bindsA (ps := ["_law_script"]) (fun _ _ _ _ _ _ us hl => match us, hl with | [_], _ => rfl) s [v] rfl, fun H a ns hl _ hS => ⟨a, ns, rfl, hS, hl, fun _ => rfl⟩, fun base _ _ => Q.ok_law T⟩

