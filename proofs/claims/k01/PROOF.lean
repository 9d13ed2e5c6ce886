import PyProof.Rows.All
import Wide.All
import OpenK.AllK
import Wide.FinOn
import KE.KStateDown
import Lean
import HandS.ForMost
import HandS.Exc
import HandS.ExcOwn
import HandS.TryOnly
import HandS.WordsExc
import HandS.Defaults
import HandS.Codes
import HandS.CallSlots
import HandS.IsInst
import HandS.Flow
import HandS.Walk
import HandS.HeadEnd
import HandS.Head0
import HandS.Head1
import HandS.Head2
import HandS.HeadHook1
import HandS.HeadHook2
import HandS.HeadNt
import PySem.Challenge.RW_fullqueue_k01_letters_and_queues
set_option Elab.async false
set_option linter.all false
set_option maxRecDepth 100000
set_option maxHeartbeats 4000000
set_option pp.deepTerms true
set_option pp.maxSteps 200000
/-! ### row-independent words: the head's hook, calls, values of many kinds, heaps -/
namespace Q
open PySem PySem.Spec PyProof.Rows L2
abbrev St := L2.St
/-! #### functions by address -/
noncomputable def fdA (K : PySem.W.Frag) (a : Addr) : FuncData := match K.lookup a with
  | some ⟨_, _, .func fd, _⟩ => fd
  | _ => PySem.W.fnOf "" "" { posonlyargs := [], args := [], vararg := none, kwonlyargs := [], kw_defaults := [], kwarg := none, defaults := [] } [] { kind := .function, names := [], isGenerator := false, isCoroutine := false, more := [] } .none .none .none .none none .none .none
theorem funD_fdA {K : PySem.W.Frag} {x qual : Str} {params : Arguments} {body : List Stmt} {scope : Scope} {dvs : List V} {kws : List (Str × V)} {f : Addr}
    (h : ∃ fd, FunD K x qual params body scope dvs kws f fd) : FunD K x qual params body scope dvs kws f (fdA K f) := by
  obtain ⟨fd, F⟩ := h
  obtain ⟨oc, od, dV, kV, doc, pm, an, cdv, ct, osl, e, lk, r⟩ := F.ex
  have q : fdA K f = fd := by unfold fdA; rw [lk]
  rw [q]; exact F
/-! #### the hook: any Bools of the written part, and the defs -/
def obsM (ex : List (PySem.W.Frag → Bool)) (fn : List He5.DefA) (K : PySem.W.Frag) : He.AlD := ((ex.all fun f => f K) && fn.all fun d => d.ok K, fn.map fun d => He5.fnA K (d.at_ K))
def valM (fn : List He5.DefA) : He.AlD := (true, fn.map He5.DefA.val)
def SaysM (ex : List (PySem.W.Frag → Bool)) (fn : List He5.DefA) (K : PySem.W.Frag) : Prop := obsM ex fn K = valM fn
def obsMG (n : Nat) (ex : List (PySem.W.Frag → Bool)) (fn : List He5.DefA) (g : Addr → Option Obj) : He.AlD := obsM ex fn (He.frG g (He5.asA g n))
def hookM (n : Nat) (ex : List (PySem.W.Frag → Bool)) (fn : List He5.DefA) : PySem.W.Hook where
  α := He.AlD
  obs := fun s => obsMG n ex fn s.heap.get?
  val := fun _ => valM fn
  says := fun _ h => ∃ K : PySem.W.Frag, K.In h ∧ SaysM ex fn K
  of := fun _ _ e => ⟨_, He.frG_in, e⟩
  keeps := fun _ _ _ ⟨K, hK, c⟩ k => ⟨K, PySem.W.Frag.In.keeps hK k, c⟩
theorem obsMG_eq {n : Nat} {ex : List (PySem.W.Frag → Bool)} {fn : List He5.DefA} {g : Addr → Option Obj} {s : Shared} (h : ∀ a, g a = s.heap.get? a) : obsMG n ex fn g = (hookM n ex fn).obs s := by
  have e : g = s.heap.get? := funext h
  rw [e] <;> rfl
section
variable {ex : List (PySem.W.Frag → Bool)} {fn : List He5.DefA} {K : PySem.W.Frag}
theorem SaysM.fact (c : SaysM ex fn K) (i : Nat) {f : PySem.W.Frag → Bool} (h : ex[i]? = some f := by rfl) : f K = true := by
  have c1 := (He.ba (show ((ex.all fun f => f K) && fn.all fun d => d.ok K) = true from congrArg (fun z : He.AlD => z.1) c)).1
  exact List.all_eq_true.mp c1 f (List.mem_of_getElem? h)
theorem SaysM.def_ (c : SaysM ex fn K) (i : Nat) {d : He5.DefA} (h : fn[i]? = some d := by rfl) : FunD K d.name d.qual d.params d.body d.scope (d.dvs K) (d.kws K) (d.at_ K) (fdA K (d.at_ K)) := by
  have c2 := (He.ba (show ((ex.all fun f => f K) && fn.all fun d => d.ok K) = true from congrArg (fun z : He.AlD => z.1) c)).2
  have e : fn.map (fun d => He5.fnA K (d.at_ K)) = fn.map He5.DefA.val := congrArg (fun z : He.AlD => z.2) c
  have e2 : (fn.map fun d => He5.fnA K (d.at_ K))[i]? = (fn.map He5.DefA.val)[i]? := by rw [e]
  rw [List.getElem?_map, List.getElem?_map, h] at e2
  exact funD_fdA (He5.DefA.funD (Option.some.inj e2) (List.all_eq_true.mp c2 d (List.mem_of_getElem? h)))
end
/-! #### exceptions of the program without an own __init__ -/
structure ExcF (K : PySem.W.Frag) (C : Addr) (bm : List Value) (newId : String) : Prop where
  x : PySem.W.excIn K C bm newId = true
  k : PySem.W.keepIn K (.ref C) = true
  b : PySem.W.subIn K (.ref C) (.type "BaseException") = some true
  t : PySem.W.typeIn K (.ref C) = some (.type "type")
def excB (x : Str) (bm : List Value) (newId : String) (K : PySem.W.Frag) : Bool := PySem.W.excIn K (He.ga K x) bm newId && (PySem.W.keepIn K (.ref (He.ga K x)) && (decide (PySem.W.subIn K (.ref (He.ga K x)) (.type "BaseException") = some true) && decide (PySem.W.typeIn K (.ref (He.ga K x)) = some (.type "type"))))
theorem excB_ok {K : PySem.W.Frag} {x : Str} {bm : List Value} {newId : String} (h : excB x bm newId K = true) : ExcF K (He.ga K x) bm newId := by
  obtain ⟨c1, c⟩ := He.ba h
  obtain ⟨c2, c⟩ := He.ba c
  obtain ⟨c3, c4⟩ := He.ba c
  exact ⟨c1, c2, of_decide_eq_true c3, of_decide_eq_true c4⟩
/-! #### calls -/
section
variable {X : Cx} {CX : CXT} {k : Nat} {f : Addr} {fd : FuncData} {ps : List Str} {sp : Sp} {E : XK} {x : Str} {p pos : Pos} {e : Expr} {es : List Expr} {t : TA} {dvs : List V}
/-- f(e, ..), the defaults told apart -/
theorem pe_callD (F : FnOk X.prog X.w X.K X.mg X.base CX k f fd ps sp) (hr : Room k X.A) (hg : Gl X x) (hm : X.mg x = some (.ref f)) (hk : PySem.W.keepIn X.K (.ref f) = true) (hb : ∃ ds, Vals dvs ds ∧ Binds X.K fd ps ds) (hx : Passes CX X E)
    (ha : PA X (e :: es) t) (hdb : (x == ("__debug__" : Str)) = false := by decide) (he : starEach (e :: es) X.env = (false, eval e X.env) :: starEach es X.env := by rfl) (hpl : (backTo pos (starEach es X.env)).any (·.1) = false := by rfl) :
    PE X (.Call (.Name x p) (e :: es) [] pos) (tCall sp dvs E t) := by
  obtain ⟨ds, hd, hb⟩ := hb
  exact pe_call F hr hg hm hk hb hd hx ha hdb he hpl
end
/-- a module's name by what it is worth -/
theorem pe_gc {X : Cx} {x : Str} {v : V} {pos : Pos} (hg : Gl X x) (h : ∃ u, X.mg x = some u ∧ RelV v u) (hd : (x == ("__debug__" : Str)) = false := by decide) : PE X (.Name x pos) (tC v) := by
  obtain ⟨u, h1, h2⟩ := h
  exact pe_glob hg h1 h2 hd
/-- what a callee raises leaves the def, too -/
theorem passE {P : Program} {w : World} {K : PySem.W.Frag} {mg : Str → Option Value} {base : Heap} {N : List Str} {qual : Str} {scope : Scope} {f : Addr} {cdv : Value} {A : Around} {outer : List Env} {s : Shared} {H : Hp} {E : XK} :
    Passes (L2.CX P w) (cxOf (L2.CX P w) P w K mg base N qual scope f cdv A outer s H E) E :=
  passes_call (takes_of rfl rfl rfl rfl) (fun _ _ _ _ z => z)
/-! #### values of many kinds -/
def isStrV : V → Bool
  | .str _ => true
  | _ => false
def isBlV : V → Bool
  | .bl _ => true
  | _ => false
def isIntV : V → Bool
  | .int _ => true
  | .bl _ => true
  | _ => false
/-- a value whose kind is known; an object is no str, no int -/
structure AnyV (K : PySem.W.Frag) (H : Hp) (v : V) : Prop where
  ty : ∃ t, TyX K H v t ∧ PySem.W.kitOne K t (.type "str") = some (isStrV v) ∧ PySem.W.kitOne K t (.type "int") = some (isIntV v) ∧ PySem.W.kitOne K t (.type "bool") = some (isBlV v)
section
variable {K : PySem.W.Frag} {H : Hp}
theorem AnyV.non : AnyV K H .non := ⟨_, .base .non, kit_ty (by decide +kernel), kit_ty (by decide +kernel), kit_ty (by decide +kernel)⟩
theorem AnyV.bl {b : Bool} : AnyV K H (.bl b) := ⟨_, .base (.bl b), kit_ty (show kitB "bool" "str" = some false by decide +kernel), kit_ty (show kitB "bool" "int" = some true by decide +kernel), kit_ty (show kitB "bool" "bool" = some true by decide +kernel)⟩
theorem AnyV.int {i : Int} : AnyV K H (.int i) := ⟨_, .base (.int i), kit_ty (show kitB "int" "str" = some false by decide +kernel), kit_ty (show kitB "int" "int" = some true by decide +kernel), kit_ty (show kitB "int" "bool" = some false by decide +kernel)⟩
theorem AnyV.str {z : Str} : AnyV K H (.str z) := ⟨_, .base (.str z), kit_ty (show kitB "str" "str" = some true by decide +kernel), kit_ty (show kitB "str" "int" = some false by decide +kernel), kit_ty (show kitB "str" "bool" = some false by decide +kernel)⟩
theorem AnyV.lst {a : Addr} {xs : List V} (h : H a = some (.lst xs)) : AnyV K H (.ref a) := ⟨_, .base (.lst h), kit_ty (show kitB "list" "str" = some false by decide +kernel), kit_ty (show kitB "list" "int" = some false by decide +kernel), kit_ty (show kitB "list" "bool" = some false by decide +kernel)⟩
theorem AnyV.tup {a : Addr} {xs : List V} (h : H a = some (.tup xs)) : AnyV K H (.ref a) := ⟨_, .base (.tup h), kit_ty (show kitB "tuple" "str" = some false by decide +kernel), kit_ty (show kitB "tuple" "int" = some false by decide +kernel), kit_ty (show kitB "tuple" "bool" = some false by decide +kernel)⟩
theorem AnyV.dK {a : Addr} {xs : List (Key × V)} (h : H a = some (.dK xs)) : AnyV K H (.ref a) := ⟨_, .base (.dK h), kit_ty (show kitB "dict" "str" = some false by decide +kernel), kit_ty (show kitB "dict" "int" = some false by decide +kernel), kit_ty (show kitB "dict" "bool" = some false by decide +kernel)⟩
theorem isi_str {v : V} {Q : VK} (a : AnyV K H v) (q : Q (.bl (isStrV v)) H) : rIsi K [v, .ty "str"] H Q := by
  obtain ⟨t, h1, h2, _⟩ := a.ty
  exact ⟨v, _, t, _, _, rfl, .ty _, h1, h2, q⟩
theorem isi_int {v : V} {Q : VK} (a : AnyV K H v) (q : Q (.bl (isIntV v)) H) : rIsi K [v, .ty "int"] H Q := by
  obtain ⟨t, h1, _, h2, _⟩ := a.ty
  exact ⟨v, _, t, _, _, rfl, .ty _, h1, h2, q⟩
theorem isi_bool {v : V} {Q : VK} (a : AnyV K H v) (q : Q (.bl (isBlV v)) H) : rIsi K [v, .ty "bool"] H Q := by
  obtain ⟨t, h1, _, _, h2⟩ := a.ty
  exact ⟨v, _, t, _, _, rfl, .ty _, h1, h2, q⟩
end
/-! #### heaps -/
theorem Same.upd {H : Hp} {p : Addr} {o : HO} (h : H p = none) : Same H (L2.upd H p o) := fun b u q => by
  rw [upd_ne (ne_of_none q h)]; exact q
theorem Same.upd2 {H H' : Hp} {p : Addr} {o : HO} (s : Same H H') (h : H p = none) : Same H (L2.upd H' p o) := fun b u q => by
  rw [upd_ne (ne_of_none q h)]; exact s _ _ q
theorem Same.upd3 {H H' : Hp} {p : Addr} {o : HO} (s : Same H H') (h : H' p = none) : Same H (L2.upd H' p o) := Same.trans s (Same.upd h)
theorem kp {H : Hp} {a p : Addr} {o u : HO} (h : H a = some o) (n : H p = none) : L2.upd H p u a = some o := by rw [upd_ne (ne_of_none h n)]; exact h
theorem Same.tupQ {K : PySem.W.Frag} {H H' : Hp} {a : Addr} {xs : List V} (e : Same H H') (h : SqT K H a xs) : SqT K H' a xs := by
  rcases h with (h | ⟨o, h⟩) | h
  · exact .inl (.inl (e _ _ h))
  · exact .inl (.inr ⟨o, e _ _ h⟩)
  · exact .inr h
theorem bool_cases {c : Bool} {A B : Prop} (h1 : c = true → A) (h2 : c = false → B) : if c = true then A else B := by
  cases c with
  | true => exact iteT (h1 rfl)
  | false => exact iteF (h2 rfl)
theorem TyOf.mono {K : PySem.W.Frag} {H H' : Hp} {v : V} {t : Value} (s : Same H H') (h : TyOf K H v t) : TyOf K H' v t := by
  cases h with
  | non => exact .non
  | bl x => exact .bl x
  | int i => exact .int i
  | str x => exact .str x
  | flt x => exact .flt x
  | lst e => exact .lst (s _ _ e)
  | frz e => exact .frz (s _ _ e)
  | tup e => exact .tup (s _ _ e)
  | dK e => exact .dK (s _ _ e)
  | dT e => exact .dT (s _ _ e)
  | ins e cl ha hn htk hm => exact .ins (s _ _ e) cl ha hn htk hm
theorem TyX.mono {K : PySem.W.Frag} {H H' : Hp} {v : V} {t : Value} (s : Same H H') (h : TyX K H v t) : TyX K H' v t := by
  cases h with
  | base b => exact .base (TyOf.mono s b)
  | byt b => exact .byt b
  | set e => exact .set (s _ _ e)
  | kList e c => exact .kList e c
  | kTuple e c => exact .kTuple e c
  | kDict e c => exact .kDict e c
  | fTuple e => exact .fTuple (s _ _ e)
  | fDict e => exact .fDict (s _ _ e)
theorem AnyV.mono {K : PySem.W.Frag} {H H' : Hp} {v : V} (s : Same H H') (h : AnyV K H v) : AnyV K H' v := by
  obtain ⟨t, h1, h2⟩ := h.ty
  exact ⟨t, TyX.mono s h1, h2⟩
theorem scal_ii (i j : Int) : scal (.int i) (.int j) = true := rfl
theorem scal_ss (i j : Str) : scal (.str i) (.str j) = true := rfl
theorem scal_bb (i j : Bool) : scal (.bl i) (.bl j) = true := rfl
/-! #### loops and comprehensions, folded -/
def LoopOk (J : It) (g : TG) (tb : TS) (D : Ends) (σ : St) (H1 : Hp) : Prop := ∃ W : Nat → Nat → St → Hp → Prop, (∃ m, W 0 m σ H1) ∧ ∀ i m σ H, W i m σ H →
  (J.stop i H ∧ D.nx σ H) ∨ (J.go i H ∧ ∃ N : St → Hp → Prop, (∀ σ' H', N σ' H' → ∃ m', m' < m ∧ W (i + 1) m' σ' H') ∧ ∀ x H', J.yld i H x H' → g x σ H' fun σ2 H2 => tb { D with nx := N, ct := N, bk := D.nx } σ2 H2)
theorem tFor_eq (wi : TI) (g : TG) (tb : TS) (D : Ends) (σ : St) (H : Hp) : tFor wi g tb D σ H = wi σ H fun J H1 => LoopOk J g tb D σ H1 := rfl
theorem LoopOk.walk {J : It} {n : Nat} {G : Hp → Prop} {Y : Nat → Hp → V → Hp → Prop} {g : TG} {tb : TS} {D : Ends} {σ : St} {H : Hp} (w : Walk J n G Y) (Pv : Nat → St → Hp → Prop) (h0 : Pv 0 σ H) (hG : ∀ i σ H, i ≤ n → Pv i σ H → G H)
    (hs : ∀ i x σ H H', i < n → Pv i σ H → Y i H x H' → g x σ H' fun σ2 H2 => tb { D with nx := Pv (i + 1), ct := Pv (i + 1), bk := D.nx } σ2 H2) (hd : ∀ σ H, Pv n σ H → D.nx σ H) : LoopOk J g tb D σ H :=
  for_it w Pv h0 hG hs hd
def LcOk (J : It) (g : TG) (tt : TT) (te : TE) (vs : List Nat) (σ : St) (H1 : Hp) (D : Addr) (Q : VK) : Prop := ∃ W : Nat → Nat → Hp → Prop, (∃ m, W 0 m (upd H1 D (.lst []))) ∧ ∀ i m H, W i m H →
  (J.stop i H ∧ Q (.ref D) H) ∨ (J.go i H ∧ ∃ Nx : Hp → Prop, (∀ H', Nx H' → ∃ m', m' < m ∧ W (i + 1) m' H') ∧ ∀ x H', J.yld i H x H' → g x (wipe σ vs) H' fun σ2 H2 => wipe σ2 vs = wipe σ vs ∧ tt σ2 H2 fun b H3 =>
    if b = true then te σ2 H3 fun y H4 => ∃ acc, H4 D = some (.lst acc) ∧ acc.length < sizeLine ∧ Nx (upd H4 D (.lst (acc ++ [y]))) else Nx H3)
theorem tLc_eq (wi : TI) (g : TG) (tt : TT) (te : TE) (vs : List Nat) (σ : St) (H : Hp) (Q : VK) : tLc wi g tt te vs σ H Q = wi σ H fun J H1 => ∀ D, H1 D = none → LcOk J g tt te vs σ H1 D Q := rfl
/-- a comprehension, any body: Pv by the turn and the heap -/
theorem LcOk.walk {J : It} {n : Nat} {G : Hp → Prop} {Y : Nat → Hp → V → Hp → Prop} {g : TG} {tt : TT} {te : TE} {vs : List Nat} {σ : St} {H1 : Hp} {D : Addr} {Q : VK} (w : Walk J n G Y) (Pv : Nat → Hp → Prop) (h0 : Pv 0 (upd H1 D (.lst []))) (hG : ∀ i H, i ≤ n → Pv i H → G H)
    (hs : ∀ i x H H', i < n → Pv i H → Y i H x H' → g x (wipe σ vs) H' fun σ2 H2 => wipe σ2 vs = wipe σ vs ∧ tt σ2 H2 fun b H3 =>
      if b = true then te σ2 H3 fun y H4 => ∃ acc, H4 D = some (.lst acc) ∧ acc.length < sizeLine ∧ Pv (i + 1) (upd H4 D (.lst (acc ++ [y]))) else Pv (i + 1) H3) (hd : ∀ H, Pv n H → Q (.ref D) H) : LcOk J g tt te vs σ H1 D Q :=
  lc_it w Pv h0 hG hs hd
theorem Paired.snoc {α β : Type} {F : α → β → Prop} {a : α} {b : β} : ∀ {l : List α} {m : List β}, Paired F l m → F a b → Paired F (l ++ [a]) (m ++ [b])
  | _, _, .nil, h => .cons h .nil
  | _, _, .cons r t, h => .cons r (Paired.snoc t h)
/-- [e for x in ..] without a test: the items' data are ds, told by Rp, which stays as the heap grows -/
theorem LcOk.rep {δ : Type} {J : It} {n : Nat} {G : Hp → Prop} {Y : Nat → Hp → V → Hp → Prop} {g : TG} {te : TE} {vs : List Nat} {σ : St} {H1 : Hp} {D : Addr} {Q : VK} (w : Walk J n G Y) (hD : H1 D = none) (ds : List δ) (Rp : Hp → V → δ → Prop) (hn : ds.length = n) (hsz : n ≤ sizeLine)
    (mono : ∀ H H' v d, (∃ acc, H D = some (.lst acc)) → (∀ b o, H b = some o → b ≠ D → H' b = some o) → Rp H v d → Rp H' v d) (hG : ∀ H, Same H1 H → G H)
    (hs : ∀ i d x H H' (Nx : VK), ds[i]? = some d → Same H1 H → (∃ acc, H D = some (.lst acc)) → Y i H x H' → (∀ y H4, Same H H4 → Rp H4 y d → Nx y H4) → g x (wipe σ vs) H' fun σ2 H2 => wipe σ2 vs = wipe σ vs ∧ tYes σ2 H2 fun b H3 => if b = true then te σ2 H3 Nx else Nx .non H3)
    (gx : ∀ (x : V) (σ2 : St) (H2 : Hp) (Q1 Q2 : St → Hp → Prop), (∀ σ H, Q1 σ H → Q2 σ H) → g x σ2 H2 Q1 → g x σ2 H2 Q2)
    (hd : ∀ H ys, Same H1 H → H D = some (.lst ys) → Paired (Rp H) ys ds → Q (.ref D) H) : LcOk J g tYes te vs σ H1 D Q := by
  refine LcOk.walk w (fun i H => Same H1 H ∧ ∃ ys, H D = some (.lst ys) ∧ ys.length = i ∧ Paired (Rp H) ys (ds.take i)) ⟨Same.upd hD, [], upd_same, rfl, .nil⟩ (fun i H _ h => hG H h.1) ?_ ?_
  · intro i x H H' hi ⟨s1, ys, hy, hl, hp⟩ y
    have hdi : ds[i]? = some ds[i] := List.getElem?_eq_getElem (by omega)
    refine gx _ _ _ _ _ (fun σ2 H2 h => ⟨h.1, h.2⟩) (hs i ds[i] x H H' (fun v H4 => ∃ acc, H4 D = some (.lst acc) ∧ acc.length < sizeLine ∧ (Same H1 (upd H4 D (.lst (acc ++ [v]))) ∧ ∃ ys, upd H4 D (.lst (acc ++ [v])) D = some (.lst ys) ∧ ys.length = i + 1 ∧ Paired (Rp (upd H4 D (.lst (acc ++ [v])))) ys (ds.take (i + 1)))) hdi s1 ⟨ys, hy⟩ y fun v H4 s4 r => ?_)
    have e4 : H4 D = some (.lst ys) := s4 _ _ hy
    have s5 : Same H1 (upd H4 D (.lst (ys ++ [v]))) := fun b u z => by
      rw [upd_ne (ne_of_none z hD)]; exact s4 _ _ (s1 _ _ z)
    have kp : ∀ b o, H4 b = some o → b ≠ D → upd H4 D (.lst (ys ++ [v])) b = some o := fun b o z ne => by rw [upd_ne ne]; exact z
    refine ⟨ys, e4, by omega, s5, ys ++ [v], upd_same, by simp [hl], ?_⟩
    have et : ds.take (i + 1) = ds.take i ++ [ds[i]] := by rw [List.take_succ, hdi]; rfl
    rw [et]
    exact Paired.snoc (Paired.mapP hp fun a b z => mono _ _ _ _ ⟨ys, hy⟩ (fun b o z ne => kp b o (s4 _ _ z) ne) z) (mono _ _ _ _ ⟨ys, e4⟩ kp r)
  · intro H ⟨s1, ys, hy, hl, hp⟩
    rw [List.take_of_length_le (by omega)] at hp
    exact hd H ys s1 hy hp
/-- the items are plain values -/
theorem LcOk.val {J : It} {n : Nat} {G : Hp → Prop} {Y : Nat → Hp → V → Hp → Prop} {i0 : Nat} {te : TE} {vs : List Nat} {σ : St} {H1 : Hp} {D : Addr} {Q : VK} (w : Walk J n G Y) (hD : H1 D = none) (ds : List V) (hn : ds.length = n) (hsz : n ≤ sizeLine) (hG : ∀ H, Same H1 H → G H)
    (hs : ∀ i d x H H' (Nx : VK), ds[i]? = some d → Same H1 H → (∃ acc, H D = some (.lst acc)) → Y i H x H' → (∀ H4, Same H H4 → Nx d H4) → wipe ((wipe σ vs).set i0 (some x)) vs = wipe σ vs ∧ te ((wipe σ vs).set i0 (some x)) H' Nx)
    (hd : ∀ H, Same H1 H → H D = some (.lst ds) → Q (.ref D) H) : LcOk J (gName i0) tYes te vs σ H1 D Q := by
  refine LcOk.rep w hD ds (fun _ v d => v = d) hn hsz (fun _ _ _ _ _ _ h => h) hG (fun i d x H H' Nx h1 h2 h3 h4 h5 => ?_) (fun x σ2 H2 Q1 Q2 h => h _ _) (fun H ys h1 h2 h3 => hd H h1 ?_)
  · have q := hs i d x H H' Nx h1 h2 h3 h4 (fun H4 s4 => h5 d H4 s4 rfl)
    exact ⟨q.1, by simp only [tYes, if_true]; exact q.2⟩
  · have e : ys = ds := by
      clear h2 h1 hs hd hn
      induction h3 with
      | nil => rfl
      | cons r t ih => rw [r, ih]
    rw [← e]; exact h2
/-! #### isinstance of values of many kinds, simply told -/
def tyIs (T : String) (v : V) : Bool := if T = "str" then isStrV v else if T = "int" then isIntV v else isBlV v
def rIsiA (K : PySem.W.Frag) : List V → Hp → VK → Prop := fun xs H Q => ∃ (v : V) (T : String), xs = [v, .ty T] ∧ (T = "str" ∨ T = "int" ∨ T = "bool") ∧ AnyV K H v ∧ Q (.bl (tyIs T v)) H
theorem call_isiA {X : Cx} : CallR X (.builtin "isinstance") (rIsiA X.K) := by
  intro pins s σ H xs us Q I r h
  refine call_isi pins s σ H xs us Q I r ?_
  obtain ⟨v, T, rfl, hT, a, q⟩ := h
  rcases hT with rfl | rfl | rfl
  · exact isi_str a q
  · exact isi_int a q
  · exact isi_bool a q
theorem tyIs_str (v : V) : tyIs "str" v = isStrV v := rfl
theorem tyIs_int (v : V) : tyIs "int" v = isIntV v := rfl
theorem tyIs_bool (v : V) : tyIs "bool" v = isBlV v := rfl
/-! #### a tracked list by its place; len of a list; int of a bool -/
def rIxM : R2 := fun x y H Q => ∃ p xs i v, x = .ref p ∧ y = .int i ∧ H p = some (.lst xs) ∧ atI xs i = some v ∧ Q v H
theorem ix_listM {X : Cx} : IxR X rIxM := by
  intro value slice pins s σ H x y v u Q I rx ry h hs
  obtain ⟨p, xs, i, z, h1, h2, h3, h4, h5⟩ := h
  exact ix_list value slice pins s σ H x y v u Q I rx ry ⟨p, xs, i, z, h1, h2, SqL.of h3, h4, h5⟩ hs
theorem call_lenL {X : Cx} : CallR X (.builtin "len") (fun xs H Q => ∃ p ys, xs = [.ref p] ∧ SqL X.K H p ys ∧ Q (.int ys.length) H) := by
  intro pins s σ H xs us Q I r h
  obtain ⟨p, ys, h1, h2, h3⟩ := h
  exact call_len_seq pins s σ H xs us Q I r ⟨p, ys, h1, .inl h2, h3⟩
theorem call_lenT {X : Cx} : CallR X (.builtin "len") (fun xs H Q => ∃ p ys, xs = [.ref p] ∧ SqT X.K H p ys ∧ Q (.int ys.length) H) := by
  intro pins s σ H xs us Q I r h
  obtain ⟨p, ys, h1, h2, h3⟩ := h
  exact call_len_seq pins s σ H xs us Q I r ⟨p, ys, h1, .inr h2, h3⟩
theorem call_intB {X : Cx} : CallR X (.type "int") (fun xs H Q => ∃ k, xs = [.bl k] ∧ Q (.int (if k = true then 1 else 0)) H) := by
  intro pins s σ H xs us Q I r h
  obtain ⟨k, h1, h2⟩ := h
  exact call_int1 pins s σ H xs us Q I r (.inr ⟨k, h1, h2⟩)
theorem ixN_nat {n j : Nat} (h : j < n) : ixN n (j : Int) = some j := by
  unfold ixN
  rw [if_pos (by omega), if_pos (by omega)]
  simp
theorem atI_zero {α : Type} {x : α} {xs : List α} : atI (x :: xs) 0 = some x := by
  unfold atI
  rw [show ixN (x :: xs).length 0 = some 0 from ixN_nat (j := 0) (by simp)]
  rfl
theorem atI_one {α : Type} {x y : α} {xs : List α} : atI (x :: y :: xs) 1 = some y := by
  unfold atI
  rw [show ixN (x :: y :: xs).length 1 = some 1 from ixN_nat (j := 1) (by simp)]
  rfl
theorem ixN_20 : ixN 2 0 = some 0 := by decide
theorem ixN_21 : ixN 2 1 = some 1 := by decide
theorem shaped_ints (ns : List Int) : SeqAt.shaped (.list (ns.map PyData.int)) = true := PySem.W.ke_shaped_ints ns
theorem dpAll_ints {K : PySem.W.Frag} {H : Hp} : ∀ ns : List Int, DpAll K H (ns.map V.int) (ns.map PyData.int)
  | [] => .nil
  | n :: ns => .cons (.int n) (dpAll_ints ns)
/-! #### lists of bools compared -/
theorem dpAll_bools {K : PySem.W.Frag} {H : Hp} : ∀ ns : List Bool, DpAll K H (ns.map V.bl) (ns.map PyData.bool)
  | [] => .nil
  | n :: ns => .cons (.bl n) (dpAll_bools ns)
theorem canLay_bools : ∀ ns : List Bool, PyData.canLayAll0 (ns.map PyData.bool) = true
  | [] => rfl
  | _ :: r => by simp [PyData.canLayAll0, PyData.canLay0, canLay_bools r]
theorem depth_bools : ∀ ns : List Bool, PyData.depthAll (ns.map PyData.bool) = 0
  | [] => rfl
  | _ :: r => by simp [PyData.depthAll, PyData.depth, depth_bools r]
theorem shaped_bools (ns : List Bool) : SeqAt.shaped (.list (ns.map PyData.bool)) = true := by
  simp [SeqAt.shaped, PyData.canLay0, PyData.depth, canLay_bools, depth_bools]
theorem eqvAll_bools : ∀ ns ms : List Bool, PyData.eqvAll (ns.map PyData.bool) (ms.map PyData.bool) = decide (ns = ms)
  | [], [] => by simp [PyData.eqvAll]
  | [], _ :: _ => by simp [PyData.eqvAll]
  | _ :: _, [] => by simp [PyData.eqvAll]
  | a :: r, b :: t => by
    simp only [List.map_cons, PyData.eqvAll, PyData.eqv, eqvAll_bools r t]
    by_cases h : a = b <;> by_cases h' : r = t <;> simp [h, h']
/-- two lists of bools: != -/
theorem ne_bools {K : PySem.W.Frag} {H : Hp} {a b : Addr} {ns ms : List Bool} {Q : VK} (h1 : SqL K H a (ns.map V.bl)) (h2 : SqL K H b (ms.map V.bl)) (q : Q (.bl (!decide (ns = ms))) H) : rNeD K (.ref a) (.ref b) H Q := by
  refine ⟨.list (ns.map PyData.bool), .list (ms.map PyData.bool), .lst h1 (dpAll_bools ns), .lst h2 (dpAll_bools ms), shaped_bools ns, shaped_bools ms, ?_⟩
  rw [show PyData.eqv (.list (ns.map PyData.bool)) (.list (ms.map PyData.bool)) = decide (ns = ms) from eqvAll_bools ns ms]
  exact q
/-! #### all but one object stay -/
def SameX (d : Addr) (H H' : Hp) : Prop := ∀ b o, H b = some o → b ≠ d → H' b = some o
theorem SameX.refl {d : Addr} {H : Hp} : SameX d H H := fun _ _ h _ => h
theorem SameX.trans {d : Addr} {H H1 H2 : Hp} (a : SameX d H H1) (b : SameX d H1 H2) : SameX d H H2 := fun c o h n => b c o (a c o h n) n
theorem SameX.of {d : Addr} {H H' : Hp} (s : Same H H') : SameX d H H' := fun b o h _ => s b o h
theorem SameX.upd {d : Addr} {H : Hp} {o : HO} : SameX d H (L2.upd H d o) := fun b u h n => by rw [upd_ne n]; exact h
theorem SameX.seq {K : PySem.W.Frag} {d : Addr} {H H' : Hp} {a : Addr} {xs : List V} (e : SameX d H H') (n : a ≠ d) (h : SqL K H a xs) : SqL K H' a xs := by
  rcases h with (h | ⟨o, h⟩) | h
  · exact .inl (.inl (e _ _ h n))
  · exact .inl (.inr ⟨o, e _ _ h n⟩)
  · exact .inr h
theorem SameX.seqF {K : PySem.W.Frag} {d : Addr} {H H' : Hp} {a : Addr} {xs : List V} (e : SameX d H H') (n : H d = none) (h : SqL K H a xs) : SqL K H' a xs := by
  rcases h with (h | ⟨o, h⟩) | h
  · exact .inl (.inl (e _ _ h (ne_of_none h n)))
  · exact .inl (.inr ⟨o, e _ _ h (ne_of_none h n)⟩)
  · exact .inr h
theorem SameX.at {d : Addr} {H H' : Hp} {a : Addr} {o : HO} (e : SameX d H H') (n : H d = none) (h : H a = some o) : H' a = some o := e _ _ h (ne_of_none h n)
section
variable {X : Cx} {CX : CXT} {k : Nat} {f : Addr} {fd : FuncData} {ps : List Str} {sp : Sp} {E : St → XK} {x : Str} {p pos : Pos} {e : Expr} {es : List Expr} {t : TA} {dvs : List V}
/-- f(e, ..) within a try -/
theorem pe_callW (F : FnOk X.prog X.w X.K X.mg X.base CX k f fd ps sp) (hr : Room k X.A) (hg : Gl X x) (hm : X.mg x = some (.ref f)) (hk : PySem.W.keepIn X.K (.ref f) = true) (hb : ∃ ds, Vals dvs ds ∧ Binds X.K fd ps ds) (hx : ∀ σ, PassesAt CX X σ (E σ))
    (ha : PA X (e :: es) t) (hdb : (x == ("__debug__" : Str)) = false := by decide) (he : starEach (e :: es) X.env = (false, eval e X.env) :: starEach es X.env := by rfl) (hpl : (backTo pos (starEach es X.env)).any (·.1) = false := by rfl) :
    PE X (.Call (.Name x p) (e :: es) [] pos) (tCallSD sp dvs E t) := by
  obtain ⟨ds, hd, hb⟩ := hb
  exact pe_callSD F hr hg hm hk hb hd hx ha hdb he hpl
end
theorem max1 {n : Nat} (h : n ≤ 63) : ∃ m : Nat, (if (n : Int) > 1 then (n : Int) else 1) = (m : Int) ∧ m ≤ 63 := by
  by_cases c : (n : Int) > 1
  · exact ⟨n, if_pos c, h⟩
  · exact ⟨1, by rw [if_neg c]; rfl, by omega⟩
theorem cpow_18 : CPow 10 18 ↔ True := ⟨fun _ => trivial, fun _ => ⟨by decide, by decide, by decide⟩⟩
theorem cpow_30 : CPow 10 30 ↔ True := ⟨fun _ => trivial, fun _ => ⟨by decide, by decide, by decide⟩⟩
theorem cpow_20 : CPow 10 20 ↔ True := ⟨fun _ => trivial, fun _ => ⟨by decide, by decide, by decide⟩⟩
theorem cpow_9 : CPow 10 9 ↔ True := ⟨fun _ => trivial, fun _ => ⟨by decide, by decide, by decide⟩⟩
theorem cpow_29 : CPow 10 29 ↔ True := ⟨fun _ => trivial, fun _ => ⟨by decide, by decide, by decide⟩⟩
/-! #### texts as lists of code points -/
/-- the text of these code points -/
def S (l : List Nat) : Str := ⟨l.toArray⟩
theorem S_cps (l : List Nat) : (S l).cps.toList = l := rfl
theorem S_length (l : List Nat) : (S l).length = l.length := by simp [S, Str.length]
theorem S_of (x : Str) : x = S x.cps.toList := by
  obtain ⟨c⟩ := x
  simp [S]
theorem S_ex (x : Str) : ∃ l, x = S l := ⟨_, S_of x⟩
theorem S_inj {l m : List Nat} : S l = S m ↔ l = m := ⟨fun h => by have := congrArg (fun z : Str => z.cps.toList) h; exact this, fun h => by rw [h]⟩
theorem S_append (l m : List Nat) : S l ++ S m = S (l ++ m) := by
  show Str.append (S l) (S m) = S (l ++ m)
  simp [Str.append, S]
theorem S_one (c : Nat) : (⟨#[c]⟩ : Str) = S [c] := rfl
theorem tl_S (l : List Nat) : TL.tl (S l) = l := by
  simp [TL.tl, S]
theorem joinL_nil : ∀ ls : List (List Nat), TL.joinL [] ls = ls.flatten
  | [] => rfl
  | [p] => by simp [TL.joinL]
  | p :: q :: r => by simp [TL.joinL, joinL_nil (q :: r)]
theorem join_empty (ls : List (List Nat)) : Txt.join (S []) (ls.map S) = S ls.flatten := by
  rw [TL.join_eq, S_of (Str.join (S []) (ls.map S)), S_inj]
  have h := TL.tl_join (S []) (ls.map S)
  have e : (ls.map S).map TL.tl = ls := by
    rw [List.map_map]
    conv => rhs; rw [← List.map_id ls]
    exact List.map_congr_left fun l _ => tl_S l
  rw [e, tl_S, joinL_nil] at h
  exact h
theorem cut_to {l : List Nat} {k : Nat} (h : k ≤ l.length) : cutS (S l) none (some (k : Int)) = S (l.take k) := by
  unfold cutS
  rw [HT.sIx_none, HT.sIx_nat, S_cps, S_length, Nat.min_eq_left h]
  simp [S]
theorem cut_from {l : List Nat} {k : Nat} (h : k ≤ l.length) : cutS (S l) (some (k : Int)) none = S (l.drop k) := by
  unfold cutS
  rw [HT.sIx_none, HT.sIx_nat, S_cps, S_length, Nat.min_eq_left h]
  simp only [S]
  congr 2
  rw [List.take_of_length_le (by rw [List.length_drop]; omega)]
theorem cut_within {l : List Nat} {i j : Nat} (h : i ≤ j) (h2 : j ≤ l.length) : cutS (S l) (some (i : Int)) (some (j : Int)) = S ((l.drop i).take (j - i)) := by
  unfold cutS
  rw [HT.sIx_nat, HT.sIx_nat, S_cps, S_length, Nat.min_eq_left h2, Nat.min_eq_left (by omega)]
  rfl
end Q

namespace Q
open PySem PySem.Spec PyProof.Rows L2
/-! ### the text by places -/
def top (i : Nat) : Stmt := PySem.Challenge.pw_fullqueue_k01_letters_and_queues.main.body.getD i (.Pass ⟨0, 0, 0, 0⟩)
abbrev s_is_integer : Stmt := top 7
abbrev s_is_text_of : Stmt := top 8
abbrev s_is_letter : Stmt := top 9
abbrev s_is_capacity : Stmt := top 10
abbrev s_check_capacity : Stmt := top 11
abbrev s_is_mode : Stmt := top 12
abbrev s_is_user : Stmt := top 13
abbrev s_is_queue : Stmt := top 14
abbrev s_law_draws : Stmt := top 16
abbrev s_law_draw : Stmt := top 17
abbrev s_law_checks : Stmt := top 18
abbrev s_law_rejected : Stmt := top 19
abbrev s_law : Stmt := top 20
theorem sc_is_integer : FnScope ["value", "least"] ["value", "least"] (defScope s_is_integer) := ⟨rfl, rfl, rfl, by decide +kernel, rfl, by decide +kernel, by decide +kernel⟩
theorem sc_is_text_of : FnScope ["value", "letters", "letter"] ["value", "letters"] (defScope s_is_text_of) := ⟨rfl, rfl, rfl, by decide +kernel, rfl, by decide +kernel, by decide +kernel⟩
theorem sc_is_letter : FnScope ["value"] ["value"] (defScope s_is_letter) := ⟨rfl, rfl, rfl, by decide +kernel, rfl, by decide +kernel, by decide +kernel⟩
theorem sc_is_capacity : FnScope ["value"] ["value"] (defScope s_is_capacity) := ⟨rfl, rfl, rfl, by decide +kernel, rfl, by decide +kernel, by decide +kernel⟩
theorem sc_check_capacity : FnScope ["value"] ["value"] (defScope s_check_capacity) := ⟨rfl, rfl, rfl, by decide +kernel, rfl, by decide +kernel, by decide +kernel⟩
theorem sc_is_mode : FnScope ["value"] ["value"] (defScope s_is_mode) := ⟨rfl, rfl, rfl, by decide +kernel, rfl, by decide +kernel, by decide +kernel⟩
theorem sc_is_user : FnScope ["value"] ["value"] (defScope s_is_user) := ⟨rfl, rfl, rfl, by decide +kernel, rfl, by decide +kernel, by decide +kernel⟩
theorem sc_is_queue : FnScope ["value", "capacity"] ["value", "capacity"] (defScope s_is_queue) := ⟨rfl, rfl, rfl, by decide +kernel, rfl, by decide +kernel, by decide +kernel⟩
theorem sc_law_draws : FnScope ["_law_script", "_law_k", "_law_cell", "_law_seed"] ["_law_script", "_law_k"] (defScope s_law_draws) := ⟨rfl, rfl, rfl, by decide +kernel, rfl, by decide +kernel, by decide +kernel⟩
theorem sc_law_draw : FnScope ["_law_draws_here", "_law_upto", "_law_digit"] ["_law_draws_here", "_law_upto"] (defScope s_law_draw) := ⟨rfl, rfl, rfl, by decide +kernel, rfl, by decide +kernel, by decide +kernel⟩
theorem sc_law_checks : FnScope ["_law_value"] ["_law_value"] (defScope s_law_checks) := ⟨rfl, rfl, rfl, by decide +kernel, rfl, by decide +kernel, by decide +kernel⟩
theorem sc_law_rejected : FnScope ["_law_value"] ["_law_value"] (defScope s_law_rejected) := ⟨rfl, rfl, rfl, by decide +kernel, rfl, by decide +kernel, by decide +kernel⟩
theorem sc_law : FnScope ["_law_script", "_law_nothing", "_law_value", "_law_mode", "_law_k", "_law_draws_here", "_law_letters", "_law_size", "_law_text", "_law_turn", "_law_capacity", "_law_at"] ["_law_script"] (defScope s_law) := ⟨rfl, rfl, rfl, by decide +kernel, rfl, by decide +kernel, by decide +kernel⟩
/-! ### what the top leaves -/
structure Txt (K : PySem.W.Frag) (mg : Str → Option Value) : Prop where
  b_ValueError : mg "ValueError" = none
  b_range : mg "range" = none
  b_isinstance : mg "isinstance" = none
  b_int : mg "int" = none
  b_str : mg "str" = none
  b_all : mg "all" = none
  b_len : mg "len" = none
  b_max : mg "max" = none
  b_bool : mg "bool" = none
  c_LETTERS : ∃ u, mg "LETTERS" = some u ∧ RelV (.str "abcdefghijklmnopqrstuvwxyz") u
  c_MOST : ∃ u, mg "MOST" = some u ∧ RelV (.int 100) u
  g_MODES : mg "MODES" = some (.ref (He.ga K "MODES"))
  q_MODES : ∀ H, SqT K H (He.ga K "MODES") ([(.str "oldest"), (.str "newest"), (.str "strict")] : List V)
  g_QueueError : mg "QueueError" = some (.ref (He.ga K "QueueError"))
  x_QueueError : ExcF K (He.ga K "QueueError") [.type "ValueError", .type "Exception", .type "BaseException", .type "object"] "ValueError.__new__"
  g_InvalidCapacity : mg "InvalidCapacity" = some (.ref (He.ga K "InvalidCapacity"))
  x_InvalidCapacity : ExcF K (He.ga K "InvalidCapacity") [.type "ValueError", .type "Exception", .type "BaseException", .type "object"] "ValueError.__new__"
  e_InvalidCapacity_InvalidCapacity : PySem.W.exmOne K (.ref (He.ga K "InvalidCapacity")) (.ref (He.ga K "InvalidCapacity")) = some true
  g_is_integer : mg "is_integer" = some (.ref (He.ga K "is_integer"))
  F_is_integer : FunD K "is_integer" "is_integer" (defArgs s_is_integer) (defBody s_is_integer) (defScope s_is_integer) [(.int 0)] [] (He.ga K "is_integer") (fdA K (He.ga K "is_integer"))
  g_is_text_of : mg "is_text_of" = some (.ref (He.ga K "is_text_of"))
  F_is_text_of : FunD K "is_text_of" "is_text_of" (defArgs s_is_text_of) (defBody s_is_text_of) (defScope s_is_text_of) [] [] (He.ga K "is_text_of") (fdA K (He.ga K "is_text_of"))
  g_is_letter : mg "is_letter" = some (.ref (He.ga K "is_letter"))
  F_is_letter : FunD K "is_letter" "is_letter" (defArgs s_is_letter) (defBody s_is_letter) (defScope s_is_letter) [] [] (He.ga K "is_letter") (fdA K (He.ga K "is_letter"))
  g_is_capacity : mg "is_capacity" = some (.ref (He.ga K "is_capacity"))
  F_is_capacity : FunD K "is_capacity" "is_capacity" (defArgs s_is_capacity) (defBody s_is_capacity) (defScope s_is_capacity) [] [] (He.ga K "is_capacity") (fdA K (He.ga K "is_capacity"))
  g_check_capacity : mg "check_capacity" = some (.ref (He.ga K "check_capacity"))
  F_check_capacity : FunD K "check_capacity" "check_capacity" (defArgs s_check_capacity) (defBody s_check_capacity) (defScope s_check_capacity) [] [] (He.ga K "check_capacity") (fdA K (He.ga K "check_capacity"))
  g_is_mode : mg "is_mode" = some (.ref (He.ga K "is_mode"))
  F_is_mode : FunD K "is_mode" "is_mode" (defArgs s_is_mode) (defBody s_is_mode) (defScope s_is_mode) [] [] (He.ga K "is_mode") (fdA K (He.ga K "is_mode"))
  g_is_user : mg "is_user" = some (.ref (He.ga K "is_user"))
  F_is_user : FunD K "is_user" "is_user" (defArgs s_is_user) (defBody s_is_user) (defScope s_is_user) [] [] (He.ga K "is_user") (fdA K (He.ga K "is_user"))
  g_is_queue : mg "is_queue" = some (.ref (He.ga K "is_queue"))
  F_is_queue : FunD K "is_queue" "is_queue" (defArgs s_is_queue) (defBody s_is_queue) (defScope s_is_queue) [(.int 100)] [] (He.ga K "is_queue") (fdA K (He.ga K "is_queue"))
  g_law_draws : mg "_law_draws" = some (.ref (He.ga K "_law_draws"))
  F_law_draws : FunD K "_law_draws" "_law_draws" (defArgs s_law_draws) (defBody s_law_draws) (defScope s_law_draws) [] [] (He.ga K "_law_draws") (fdA K (He.ga K "_law_draws"))
  g_law_draw : mg "_law_draw" = some (.ref (He.ga K "_law_draw"))
  F_law_draw : FunD K "_law_draw" "_law_draw" (defArgs s_law_draw) (defBody s_law_draw) (defScope s_law_draw) [] [] (He.ga K "_law_draw") (fdA K (He.ga K "_law_draw"))
  g_law_checks : mg "_law_checks" = some (.ref (He.ga K "_law_checks"))
  F_law_checks : FunD K "_law_checks" "_law_checks" (defArgs s_law_checks) (defBody s_law_checks) (defScope s_law_checks) [] [] (He.ga K "_law_checks") (fdA K (He.ga K "_law_checks"))
  g_law_rejected : mg "_law_rejected" = some (.ref (He.ga K "_law_rejected"))
  F_law_rejected : FunD K "_law_rejected" "_law_rejected" (defArgs s_law_rejected) (defBody s_law_rejected) (defScope s_law_rejected) [] [] (He.ga K "_law_rejected") (fdA K (He.ga K "_law_rejected"))
  g_law : mg "law" = some (.ref (He.ga K "law"))
  F_law : FunD K "law" "law" (defArgs s_law) (defBody s_law) (defScope s_law) [] [] (He.ga K "law") (fdA K (He.ga K "law"))
def exs : List (PySem.W.Frag → Bool) := [(He.Fa.free "ValueError").ok,
  (He.Fa.free "range").ok,
  (He.Fa.free "isinstance").ok,
  (He.Fa.free "int").ok,
  (He.Fa.free "str").ok,
  (He.Fa.free "all").ok,
  (He.Fa.free "len").ok,
  (He.Fa.free "max").ok,
  (He.Fa.free "bool").ok,
  (He.Fa.str "LETTERS" "abcdefghijklmnopqrstuvwxyz").ok,
  (He.Fa.int "MOST" 100).ok,
  (He.Fa.glo "MODES").ok,
  fun K => He.tupB K "MODES" [(.str "oldest"), (.str "newest"), (.str "strict")],
  (He.Fa.glo "QueueError").ok,
  excB "QueueError" [.type "ValueError", .type "Exception", .type "BaseException", .type "object"] "ValueError.__new__",
  (He.Fa.glo "InvalidCapacity").ok,
  excB "InvalidCapacity" [.type "ValueError", .type "Exception", .type "BaseException", .type "object"] "ValueError.__new__",
  (He.Fa.exm "InvalidCapacity" "InvalidCapacity" true).ok,
  (He.Fa.glo "is_integer").ok,
  (He.Fa.glo "is_text_of").ok,
  (He.Fa.glo "is_letter").ok,
  (He.Fa.glo "is_capacity").ok,
  (He.Fa.glo "check_capacity").ok,
  (He.Fa.glo "is_mode").ok,
  (He.Fa.glo "is_user").ok,
  (He.Fa.glo "is_queue").ok,
  (He.Fa.glo "_law_draws").ok,
  (He.Fa.glo "_law_draw").ok,
  (He.Fa.glo "_law_checks").ok,
  (He.Fa.glo "_law_rejected").ok,
  (He.Fa.glo "law").ok]
def fns : List He5.DefA := [{ at_ := fun K => He.ga K "is_integer", name := "is_integer", qual := "is_integer", params := defArgs s_is_integer, body := defBody s_is_integer, scope := defScope s_is_integer, dfl := [(.int 0)], kwd := [] },
  { at_ := fun K => He.ga K "is_text_of", name := "is_text_of", qual := "is_text_of", params := defArgs s_is_text_of, body := defBody s_is_text_of, scope := defScope s_is_text_of, dfl := [], kwd := [] },
  { at_ := fun K => He.ga K "is_letter", name := "is_letter", qual := "is_letter", params := defArgs s_is_letter, body := defBody s_is_letter, scope := defScope s_is_letter, dfl := [], kwd := [] },
  { at_ := fun K => He.ga K "is_capacity", name := "is_capacity", qual := "is_capacity", params := defArgs s_is_capacity, body := defBody s_is_capacity, scope := defScope s_is_capacity, dfl := [], kwd := [] },
  { at_ := fun K => He.ga K "check_capacity", name := "check_capacity", qual := "check_capacity", params := defArgs s_check_capacity, body := defBody s_check_capacity, scope := defScope s_check_capacity, dfl := [], kwd := [] },
  { at_ := fun K => He.ga K "is_mode", name := "is_mode", qual := "is_mode", params := defArgs s_is_mode, body := defBody s_is_mode, scope := defScope s_is_mode, dfl := [], kwd := [] },
  { at_ := fun K => He.ga K "is_user", name := "is_user", qual := "is_user", params := defArgs s_is_user, body := defBody s_is_user, scope := defScope s_is_user, dfl := [], kwd := [] },
  { at_ := fun K => He.ga K "is_queue", name := "is_queue", qual := "is_queue", params := defArgs s_is_queue, body := defBody s_is_queue, scope := defScope s_is_queue, dfl := [(.int 100)], kwd := [] },
  { at_ := fun K => He.ga K "_law_draws", name := "_law_draws", qual := "_law_draws", params := defArgs s_law_draws, body := defBody s_law_draws, scope := defScope s_law_draws, dfl := [], kwd := [] },
  { at_ := fun K => He.ga K "_law_draw", name := "_law_draw", qual := "_law_draw", params := defArgs s_law_draw, body := defBody s_law_draw, scope := defScope s_law_draw, dfl := [], kwd := [] },
  { at_ := fun K => He.ga K "_law_checks", name := "_law_checks", qual := "_law_checks", params := defArgs s_law_checks, body := defBody s_law_checks, scope := defScope s_law_checks, dfl := [], kwd := [] },
  { at_ := fun K => He.ga K "_law_rejected", name := "_law_rejected", qual := "_law_rejected", params := defArgs s_law_rejected, body := defBody s_law_rejected, scope := defScope s_law_rejected, dfl := [], kwd := [] },
  { at_ := fun K => He.ga K "law", name := "law", qual := "law", params := defArgs s_law, body := defBody s_law, scope := defScope s_law, dfl := [], kwd := [] }]
theorem txt_of {K : PySem.W.Frag} {h : Heap} {mg : Str → Option Value} (X : K.In h) (G : h.Ns mainGlobals mg) (c : SaysM exs fns K) : Txt K mg :=
  ⟨He.free_ok X G (c.fact 0 rfl),
   He.free_ok X G (c.fact 1 rfl),
   He.free_ok X G (c.fact 2 rfl),
   He.free_ok X G (c.fact 3 rfl),
   He.free_ok X G (c.fact 4 rfl),
   He.free_ok X G (c.fact 5 rfl),
   He.free_ok X G (c.fact 6 rfl),
   He.free_ok X G (c.fact 7 rfl),
   He.free_ok X G (c.fact 8 rfl),
   (by obtain ⟨t, e⟩ := He.str_ok X G (c.fact 9 rfl); exact ⟨_, e, t, rfl⟩),
   (by obtain ⟨t, e⟩ := He.int_ok X G (c.fact 10 rfl); exact ⟨_, e, t, rfl⟩),
   He.glo_ok X G (c.fact 11 rfl),
   fun H => He.tupB_ok (c.fact 12 rfl) H,
   He.glo_ok X G (c.fact 13 rfl),
   excB_ok (c.fact 14 rfl),
   He.glo_ok X G (c.fact 15 rfl),
   excB_ok (c.fact 16 rfl),
   He.exm_ok (c.fact 17 rfl),
   He.glo_ok X G (c.fact 18 rfl),
   c.def_ 0 rfl,
   He.glo_ok X G (c.fact 19 rfl),
   c.def_ 1 rfl,
   He.glo_ok X G (c.fact 20 rfl),
   c.def_ 2 rfl,
   He.glo_ok X G (c.fact 21 rfl),
   c.def_ 3 rfl,
   He.glo_ok X G (c.fact 22 rfl),
   c.def_ 4 rfl,
   He.glo_ok X G (c.fact 23 rfl),
   c.def_ 5 rfl,
   He.glo_ok X G (c.fact 24 rfl),
   c.def_ 6 rfl,
   He.glo_ok X G (c.fact 25 rfl),
   c.def_ 7 rfl,
   He.glo_ok X G (c.fact 26 rfl),
   c.def_ 8 rfl,
   He.glo_ok X G (c.fact 27 rfl),
   c.def_ 9 rfl,
   He.glo_ok X G (c.fact 28 rfl),
   c.def_ 10 rfl,
   He.glo_ok X G (c.fact 29 rfl),
   c.def_ 11 rfl,
   He.glo_ok X G (c.fact 30 rfl),
   c.def_ 12 rfl⟩
variable {P : Program} {w : World} {K : PySem.W.Frag} {mg : Str → Option Value} {base : Heap}
theorem bd_is_integer (T : Txt K mg) : ∃ ds, Vals ([] : List V) ds ∧ Binds K (fdA K (He.ga K "is_integer")) ["value", "least"] ds := T.F_is_integer.binds1 2 1 (by simp) rfl (fun _ _ _ _ _ _ _ us its hu hi => match us, its, hu, hi with | [_, _], [_], _, _ => ⟨_, rfl, rfl⟩)
theorem bd_is_text_of (T : Txt K mg) : ∃ ds, Vals [] ds ∧ Binds K (fdA K (He.ga K "is_text_of")) ["value", "letters"] ds := ⟨[], .nil, T.F_is_text_of.bindsN fun _ _ _ _ _ _ us hl => match us, hl with | [_, _], _ => rfl⟩
theorem bd_is_letter (T : Txt K mg) : ∃ ds, Vals [] ds ∧ Binds K (fdA K (He.ga K "is_letter")) ["value"] ds := ⟨[], .nil, T.F_is_letter.bindsN fun _ _ _ _ _ _ us hl => match us, hl with | [_], _ => rfl⟩
theorem bd_is_capacity (T : Txt K mg) : ∃ ds, Vals [] ds ∧ Binds K (fdA K (He.ga K "is_capacity")) ["value"] ds := ⟨[], .nil, T.F_is_capacity.bindsN fun _ _ _ _ _ _ us hl => match us, hl with | [_], _ => rfl⟩
theorem bd_check_capacity (T : Txt K mg) : ∃ ds, Vals [] ds ∧ Binds K (fdA K (He.ga K "check_capacity")) ["value"] ds := ⟨[], .nil, T.F_check_capacity.bindsN fun _ _ _ _ _ _ us hl => match us, hl with | [_], _ => rfl⟩
theorem bd_is_mode (T : Txt K mg) : ∃ ds, Vals [] ds ∧ Binds K (fdA K (He.ga K "is_mode")) ["value"] ds := ⟨[], .nil, T.F_is_mode.bindsN fun _ _ _ _ _ _ us hl => match us, hl with | [_], _ => rfl⟩
theorem bd_is_user (T : Txt K mg) : ∃ ds, Vals [] ds ∧ Binds K (fdA K (He.ga K "is_user")) ["value"] ds := ⟨[], .nil, T.F_is_user.bindsN fun _ _ _ _ _ _ us hl => match us, hl with | [_], _ => rfl⟩
theorem bd_is_queue (T : Txt K mg) : ∃ ds, Vals ([] : List V) ds ∧ Binds K (fdA K (He.ga K "is_queue")) ["value", "capacity"] ds := T.F_is_queue.binds1 2 1 (by simp) rfl (fun _ _ _ _ _ _ _ us its hu hi => match us, its, hu, hi with | [_, _], [_], _, _ => ⟨_, rfl, rfl⟩)
theorem bd_is_queue_1 (T : Txt K mg) : ∃ ds, Vals ([(.int 100)] : List V) ds ∧ Binds K (fdA K (He.ga K "is_queue")) ["value", "capacity"] ds := T.F_is_queue.binds1 1 0 (by simp) rfl (fun _ _ _ _ _ _ _ us its hu hi => match us, its, hu, hi with | [_], [_], _, _ => ⟨_, rfl, rfl⟩)
theorem bd_law_draws (T : Txt K mg) : ∃ ds, Vals [] ds ∧ Binds K (fdA K (He.ga K "_law_draws")) ["_law_script", "_law_k"] ds := ⟨[], .nil, T.F_law_draws.bindsN fun _ _ _ _ _ _ us hl => match us, hl with | [_, _], _ => rfl⟩
theorem bd_law_draw (T : Txt K mg) : ∃ ds, Vals [] ds ∧ Binds K (fdA K (He.ga K "_law_draw")) ["_law_draws_here", "_law_upto"] ds := ⟨[], .nil, T.F_law_draw.bindsN fun _ _ _ _ _ _ us hl => match us, hl with | [_, _], _ => rfl⟩
theorem bd_law_checks (T : Txt K mg) : ∃ ds, Vals [] ds ∧ Binds K (fdA K (He.ga K "_law_checks")) ["_law_value"] ds := ⟨[], .nil, T.F_law_checks.bindsN fun _ _ _ _ _ _ us hl => match us, hl with | [_], _ => rfl⟩
theorem bd_law_rejected (T : Txt K mg) : ∃ ds, Vals [] ds ∧ Binds K (fdA K (He.ga K "_law_rejected")) ["_law_value"] ds := ⟨[], .nil, T.F_law_rejected.bindsN fun _ _ _ _ _ _ us hl => match us, hl with | [_], _ => rfl⟩
theorem bd_law (T : Txt K mg) : ∃ ds, Vals [] ds ∧ Binds K (fdA K (He.ga K "law")) ["_law_script"] ds := ⟨[], .nil, T.F_law.bindsN fun _ _ _ _ _ _ us hl => match us, hl with | [_], _ => rfl⟩
local macro_rules | `(tactic| walk_at "rd") => `(tactic| simp only [tRet, tRetN, tSeq, tNext, tAsg, gName, gTup, gCons, gNil, gSub, tDrop, tIfS, tIf, tB, tTest, tAnd, tOr, tNot, tAndV, tOrV, tNotV, tVar, tC, tOp, tUn, rI, rI0, rU, tCons, tNil, tCB, tTup, tLst, tCall, tCallS, tCallSD, wOnly, WE, tPar, tAug, ipI, tSl, tPart, tNoPart, tChain, tBM, tBM0, tM0, tM1, tYes, Q.tFor_eq, Q.tLc_eq, iRng1, iRng2, iList, iTup, iStr, rEq, rNe, CDiv, Q.cpow_9, Q.cpow_18, Q.cpow_20, Q.cpow_29, Q.cpow_30, sizeLine_eq, Nat.reduceLeDiff, Nat.reduceLT, Nat.zero_le, rRep, rCat, tDNewK, rSlS, Int.reduceNeg, Int.reduceToNat, Nat.reduceMul, Int.reducePow, List.flatten_cons, List.flatten_nil, ge_iff_le, gt_iff_lt, Int.reduceLE, Int.reduceLT, Q.rIxM, rSetL, Q.atI_zero, Q.atI_one, Q.ixN_20, Q.ixN_21, upd_same, upd_upd, HO.lst.injEq, HO.tup.injEq, Q.scal_ii, Q.scal_ss, Q.scal_bb, Q.rIsiA, Q.tyIs_str, Q.tyIs_int, Q.tyIs_bool, cxOf, L2.start, wipe, List.map_cons, List.map_nil, List.length_cons, List.length_nil, List.getElem?_cons_zero, List.getElem?_cons_succ, List.cons_append, List.nil_append, List.append_nil, List.set_cons_zero, List.set_cons_succ, Nat.reduceAdd, Nat.reduceSub, List.reduceReplicate, Option.some.injEq, List.cons.injEq, V.bl.injEq, V.int.injEq, V.str.injEq, V.ref.injEq, V.ty.injEq, and_assoc, and_true, true_and, exists_eq_left, exists_eq_left', exists_eq_right, exists_eq_right', exists_and_left, exists_eq, ite_true, ite_false, if_true, if_false, Bool.not_true, Bool.not_false, decide_eq_true_eq, Bool.not_eq_true', or_true, true_or, String.reduceEq, or_false, false_or, Bool.true_eq_false, Bool.false_eq_true])
/-! ### is_integer -/
def isInteger (v : V) (least : Int) : Bool := match v with
  | .int i => decide (least ≤ i)
  | _ => false
def sp_is_integer (K : PySem.W.Frag) : Sp := fun vs H Q _ => ∃ (v : V) (l : Int), vs = [v, .int l] ∧ AnyV K H v ∧ Q (.bl (isInteger v l)) H
theorem ok_is_integer (T : Txt K mg) : FnOk P w K mg base (L2.CX P w) 1 (He.ga K "is_integer") (fdA K (He.ga K "is_integer")) ["value", "least"] (sp_is_integer K) := by
  refine T.F_is_integer.ok sc_is_integer (fun vs H Q E h => ?_) (fun cdv A outer s H vs Q E hr h => ⟨_, (pss_one (ps_ret (pe_and (pe_callB call_isiA rfl T.b_isinstance (by decide +kernel) (pa_cons (pv 0) (pa_cons (pe_bltn (v := .ty "int") rfl T.b_int (by decide +kernel) rfl) pa_nil))) (pe_and (pe_not (pe_callB call_isiA rfl T.b_isinstance (by decide +kernel) (pa_cons (pv 0) (pa_cons (pe_bltn (v := .ty "bool") rfl T.b_bool (by decide +kernel) rfl) pa_nil)))) (pe_one (pe_cmpR op_ge (pv 0) (pv 1) (nomark _))))))), ?_⟩)
  · obtain ⟨v, l, rfl, _⟩ := h
    rfl
  · obtain ⟨v, l, rfl, a, q⟩ := h
    walk_at "rd"
    refine ⟨a, ?_⟩
    cases v <;> simp_all [isIntV, isBlV, isInteger]

/-! ### is_text_of -/
def isTextOf (v : V) (z : Str) : Bool := match v with
  | .str x => x.cps.toList.all fun c => decide (c ∈ z.cps.toList)
  | _ => false
/-- a text is not too long -/
def Short (v : V) : Prop := ∀ x, v = .str x → x.length ≤ 100000
def sp_is_text_of (K : PySem.W.Frag) : Sp := fun vs H Q _ => ∃ (v : V) (z : Str), vs = [v, .str z] ∧ AnyV K H v ∧ Short v ∧ ∀ H', Same H H' → Q (.bl (isTextOf v z)) H'
theorem ok_is_text_of (T : Txt K mg) : FnOk P w K mg base (L2.CX P w) 1 (He.ga K "is_text_of") (fdA K (He.ga K "is_text_of")) ["value", "letters"] (sp_is_text_of K) := by
  refine T.F_is_text_of.ok sc_is_text_of (fun vs H Q E h => ?_) (fun cdv A outer s H vs Q E hr h => ⟨_, (pss_one (ps_ret (pe_and (pe_callB call_isiA rfl T.b_isinstance (by decide +kernel) (pa_cons (pv 0) (pa_cons (pe_bltn (v := .ty "str") rfl T.b_str (by decide +kernel) rfl) pa_nil))) (pe_one (pe_callB (cr_all rfl) rfl T.b_all (by decide +kernel) (pa_cons (pe_lc (own := [("letter", 2)]) rfl sc_is_text_of.nd (pi_str (pv 0)) (blkOk_by (N := ["value", "letters", "letter"]) (sc := defScope s_is_text_of) (own := [("letter", 2)]) (by decide +kernel)) (fun _ _ _ _ _ => pg_name (i := 2) sc_is_text_of.nd rfl (by first | exact Or.inl rfl | exact Or.inr rfl)) (fun _ _ _ _ _ => pts_nil) (fun _ _ _ _ _ => (pe_cmpR op_in_sign (pv 2) (pv 1) rfl))) pa_nil)))))), ?_⟩)
  · obtain ⟨v, l, rfl, _⟩ := h
    rfl
  · obtain ⟨v, z, rfl, a, hl, q⟩ := h
    walk_at "rd"
    refine ⟨a, bool_cases (fun hv => ?_) (fun hv => ?_)⟩
    · cases v with
      | str x =>
        refine ⟨x, rfl, fun D hD => ?_⟩
        have hx : x.cps.size ≤ 100000 := hl x rfl
        refine LcOk.val walk_str hD (x.cps.toList.map fun c => V.bl (decide (c ∈ z.cps.toList))) (by simp) (by rw [sizeLine_eq]; omega) (fun _ _ => trivial) ?_ ?_
        · rintro i d y H1 H2 Nx hd s1 ⟨acc, hacc⟩ ⟨rfl, c, hc, rfl⟩ k
          walk_at "rd"
          refine ⟨c, rfl, ?_⟩
          have e : d = V.bl (decide (c ∈ z.cps.toList)) := by
            rw [List.getElem?_map, Array.getElem?_toList, hc] at hd
            exact (Option.some.inj hd).symm
          rw [← e]; exact k _ (Same.refl _)
        · intro H1 s1 hd
          refine ⟨D, x.cps.toList.map fun c => decide (c ∈ z.cps.toList), rfl, SqL.of (by rw [hd, List.map_map]; rfl), ?_⟩
          have e : ((x.cps.toList.map fun c => decide (c ∈ z.cps.toList)).all id) = isTextOf (.str x) z := by
            simp [isTextOf, List.all_map, Function.comp_def]
          rw [e]
          exact q _ s1
      | _ => cases hv
    · cases v <;> first | exact q _ (Same.refl _) | cases hv

/-! ### is_letter -/
abbrev lettersZ : Str := "abcdefghijklmnopqrstuvwxyz"
def isLetter (v : V) : Bool := match v with
  | .str x => isTextOf (.str x) lettersZ && decide ((x.length : Int) = 1)
  | _ => false
theorem Short.le {x : Str} (h : Short (.str x)) : x.length ≤ 16777216 := by
  have := h x rfl
  omega
def sp_is_letter (K : PySem.W.Frag) : Sp := fun vs H Q _ => ∃ (v : V), vs = [v] ∧ AnyV K H v ∧ Short v ∧ ∀ H', Same H H' → Q (.bl (isLetter v)) H'
theorem ok_is_letter (T : Txt K mg) : FnOk P w K mg base (L2.CX P w) 2 (He.ga K "is_letter") (fdA K (He.ga K "is_letter")) ["value"] (sp_is_letter K) := by
  refine T.F_is_letter.ok sc_is_letter (fun vs H Q E h => ?_) (fun cdv A outer s H vs Q E hr h => ⟨_, (pss_one (ps_ret (pe_and (pe_callD (ok_is_text_of T) (hr.mono (by decide)) rfl T.g_is_text_of T.F_is_text_of.kp (bd_is_text_of T) passE (pa_cons (pv 0) (pa_cons (pe_gc rfl T.c_LETTERS) pa_nil))) (pe_one (pe_cmpR op_eq (pe_callB call_len_str rfl T.b_len (by decide +kernel) (pa_cons (pv 0) pa_nil)) pe_int (nomark _)))))), ?_⟩)
  · obtain ⟨v, rfl, _⟩ := h
    rfl
  · obtain ⟨v, rfl, a, hl, q⟩ := h
    walk_at "rd"
    refine ⟨v, _, rfl, a, hl, fun H1 s1 => ⟨_, rfl, bool_cases (fun c => ?_) (fun c => ?_)⟩⟩
    · cases v with
      | str x =>
        refine ⟨x, rfl, hl.le, ?_⟩
        have := q _ s1
        simp only [isLetter, c, Bool.true_and] at this
        exact this
      | _ => cases c
    · have := q _ s1
      cases v with
      | str x =>
        simp only [isLetter, c, Bool.false_and] at this
        exact this
      | _ => exact this

/-! ### is_capacity -/
def isCap (v : V) : Bool := match v with
  | .int i => decide (1 ≤ i) && decide (i ≤ 100)
  | _ => false
theorem isCap_int {v : V} (h : isCap v = true) : ∃ i : Int, v = .int i ∧ 1 ≤ i ∧ i ≤ 100 := by
  cases v with
  | int i => exact ⟨i, rfl, by simpa [isCap] using h⟩
  | _ => cases h
def sp_is_capacity (K : PySem.W.Frag) : Sp := fun vs H Q _ => ∃ (v : V), vs = [v] ∧ AnyV K H v ∧ Q (.bl (isCap v)) H
theorem ok_is_capacity (T : Txt K mg) : FnOk P w K mg base (L2.CX P w) 2 (He.ga K "is_capacity") (fdA K (He.ga K "is_capacity")) ["value"] (sp_is_capacity K) := by
  refine T.F_is_capacity.ok sc_is_capacity (fun vs H Q E h => ?_) (fun cdv A outer s H vs Q E hr h => ⟨_, (pss_one (ps_ret (pe_and (pe_callD (ok_is_integer T) (hr.mono (by decide)) rfl T.g_is_integer T.F_is_integer.kp (bd_is_integer T) passE (pa_cons (pv 0) (pa_cons pe_int pa_nil))) (pe_one (pe_cmpR op_le (pv 0) (pe_gc rfl T.c_MOST) (nomark _)))))), ?_⟩)
  · obtain ⟨v, rfl, _⟩ := h
    rfl
  · obtain ⟨v, rfl, a, q⟩ := h
    walk_at "rd"
    refine ⟨v, 1, rfl, a, _, rfl, ?_⟩
    cases v with
    | int i =>
      refine bool_cases (fun c => ⟨_, rfl, ?_⟩) (fun c => ?_)
      · simp only [isInteger] at c
        simp only [isCap, c, Bool.true_and] at q
        exact q
      · simp only [isInteger] at c
        simp only [isCap, c, Bool.false_and] at q
        exact q
    | _ => exact iteF q

/-! ### check_capacity -/
def sp_check_capacity (K : PySem.W.Frag) : Sp := fun vs H Q E => ∃ (v : V), vs = [v] ∧ AnyV K H v ∧ (isCap v = true → Q .non H) ∧ (isCap v = false → E (.ref (He.ga K "InvalidCapacity")) none H)
theorem ok_check_capacity (T : Txt K mg) : FnOk P w K mg base (L2.CX P w) 3 (He.ga K "check_capacity") (fdA K (He.ga K "check_capacity")) ["value"] (sp_check_capacity K) := by
  refine T.F_check_capacity.ok sc_check_capacity (fun vs H Q E h => ?_) (fun cdv A outer s H vs Q E hr h => ⟨_, (pss_one (ps_if (pt_not (pt_val (pe_callD (ok_is_capacity T) (hr.mono (by decide)) rfl T.g_is_capacity T.F_is_capacity.kp (bd_is_capacity T) passE (pa_cons (pv 0) pa_nil))))
      (pss_one (ps_raise rfl (takes_of rfl rfl rfl rfl) (pmk_own PySem.F.excBase_ValueError T.x_InvalidCapacity.x T.g_InvalidCapacity T.x_InvalidCapacity.k (raises_own T.x_InvalidCapacity.b T.x_InvalidCapacity.t) rfl)))
      pss_nil)), ?_⟩)
  · obtain ⟨v, rfl, _⟩ := h
    rfl
  · obtain ⟨v, rfl, a, q, e⟩ := h
    walk_at "rd"
    refine ⟨v, rfl, a, _, rfl, ?_⟩
    cases c : isCap v with
    | true => exact q c
    | false => exact e c

/-! ### is_mode -/
def isMode (v : V) : Bool := match v with
  | .str x => decide (x ∈ (["oldest", "newest", "strict"] : List Str))
  | _ => false
theorem inV_modes (x : Str) : inV (.str x) [.str "oldest", .str "newest", .str "strict"] = isMode (.str x) := by
  simp only [inV, isMode, List.any_cons, List.any_nil, eqV, List.mem_cons, List.not_mem_nil, or_false, Bool.or_false]
  have sy : ∀ a : Str, (a = x) = (x = a) := fun a => propext ⟨Eq.symm, Eq.symm⟩
  rw [Bool.eq_iff_iff]
  simp only [Bool.or_eq_true, beq_iff_eq, decide_eq_true_eq, sy]
def sp_is_mode (K : PySem.W.Frag) : Sp := fun vs H Q _ => ∃ (v : V), vs = [v] ∧ AnyV K H v ∧ Q (.bl (isMode v)) H
theorem ok_is_mode (T : Txt K mg) : FnOk P w K mg base (L2.CX P w) 1 (He.ga K "is_mode") (fdA K (He.ga K "is_mode")) ["value"] (sp_is_mode K) := by
  refine T.F_is_mode.ok sc_is_mode (fun vs H Q E h => ?_) (fun cdv A outer s H vs Q E hr h => ⟨_, (pss_one (ps_ret (pe_and (pe_callB call_isiA rfl T.b_isinstance (by decide +kernel) (pa_cons (pv 0) (pa_cons (pe_bltn (v := .ty "str") rfl T.b_str (by decide +kernel) rfl) pa_nil))) (pe_one (pe_cmpR op_in_seq (pv 0) (pe_gc (v := .ref _) rfl ⟨_, T.g_MODES, rfl⟩) (by with_unfolding_all rfl)))))), ?_⟩)
  · obtain ⟨v, rfl, _⟩ := h
    rfl
  · obtain ⟨v, rfl, a, q⟩ := h
    walk_at "rd"
    refine ⟨a, bool_cases (fun hv => ?_) (fun hv => ?_)⟩
    · cases v with
      | str x =>
        refine ⟨_, _, rfl, .inr (T.q_MODES H), rfl, rfl, ?_⟩
        rw [← inV_modes] at q
        exact q
      | _ => cases hv
    · cases v <;> first | exact q | cases hv

/-! ### is_user -/
def isUser (v : V) : Bool := match v with
  | .str x => isTextOf (.str x) lettersZ && (decide ((1 : Int) ≤ x.length) && decide ((x.length : Int) ≤ 8))
  | _ => false
def sp_is_user (K : PySem.W.Frag) : Sp := fun vs H Q _ => ∃ (v : V), vs = [v] ∧ AnyV K H v ∧ Short v ∧ ∀ H', Same H H' → Q (.bl (isUser v)) H'
theorem ok_is_user (T : Txt K mg) : FnOk P w K mg base (L2.CX P w) 2 (He.ga K "is_user") (fdA K (He.ga K "is_user")) ["value"] (sp_is_user K) := by
  refine T.F_is_user.ok sc_is_user (fun vs H Q E h => ?_) (fun cdv A outer s H vs Q E hr h => ⟨_, (pss_one (ps_ret (pe_and (pe_callD (ok_is_text_of T) (hr.mono (by decide)) rfl T.g_is_text_of T.F_is_text_of.kp (bd_is_text_of T) passE (pa_cons (pv 0) (pa_cons (pe_gc rfl T.c_LETTERS) pa_nil))) (pe_one (pe_chain op_le op_le pe_int (pe_callB call_len_str rfl T.b_len (by decide +kernel) (pa_cons (pv 0) pa_nil)) pe_int))))), ?_⟩)
  · obtain ⟨v, rfl, _⟩ := h
    rfl
  · obtain ⟨v, rfl, a, hl, q⟩ := h
    walk_at "rd"
    refine ⟨v, _, rfl, a, hl, fun H1 s1 => ⟨_, rfl, bool_cases (fun c => ?_) (fun c => ?_)⟩⟩
    · cases v with
      | str x =>
        refine ⟨x, rfl, hl.le, ?_⟩
        have := q _ s1
        simp only [isUser, c, Bool.true_and] at this
        by_cases d : (1 : Int) ≤ x.length
        · rw [if_pos d]
          simp only [d, decide_true, Bool.true_and] at this
          exact this
        · rw [if_neg d]
          simp only [d, decide_false, Bool.false_and] at this
          exact this
      | _ => cases c
    · have := q _ s1
      cases v with
      | str x =>
        simp only [isUser, c, Bool.false_and] at this
        exact this
      | _ => exact this

/-! ### is_queue -/
def isQueue (v : V) (n : Int) : Bool := match v with
  | .str x => isTextOf (.str x) lettersZ && decide ((x.length : Int) ≤ n)
  | _ => false
def sp_is_queue (K : PySem.W.Frag) : Sp := fun vs H Q E => ∃ (v c : V), vs = [v, c] ∧ AnyV K H v ∧ AnyV K H c ∧ Short v ∧ (∀ n, c = .int n → isCap c = true → ∀ H', Same H H' → Q (.bl (isQueue v n)) H') ∧ (isCap c = false → E (.ref (He.ga K "InvalidCapacity")) none H)
theorem ok_is_queue (T : Txt K mg) : FnOk P w K mg base (L2.CX P w) 4 (He.ga K "is_queue") (fdA K (He.ga K "is_queue")) ["value", "capacity"] (sp_is_queue K) := by
  refine T.F_is_queue.ok sc_is_queue (fun vs H Q E h => ?_) (fun cdv A outer s H vs Q E hr h => ⟨_, (pss_cons (ps_expr (pe_callD (ok_check_capacity T) (hr.mono (by decide)) rfl T.g_check_capacity T.F_check_capacity.kp (bd_check_capacity T) passE (pa_cons (pv 1) pa_nil)))
      (pss_one (ps_ret (pe_and (pe_callD (ok_is_text_of T) (hr.mono (by decide)) rfl T.g_is_text_of T.F_is_text_of.kp (bd_is_text_of T) passE (pa_cons (pv 0) (pa_cons (pe_gc rfl T.c_LETTERS) pa_nil))) (pe_one (pe_cmpR op_le (pe_callB call_len_str rfl T.b_len (by decide +kernel) (pa_cons (pv 0) pa_nil)) (pv 1) (nomark _))))))), ?_⟩)
  · obtain ⟨v, c, rfl, _⟩ := h
    rfl
  · obtain ⟨v, c, rfl, a, b, hl, q, e⟩ := h
    walk_at "rd"
    refine ⟨c, rfl, b, fun hc => ?_, e⟩
    obtain ⟨n, rfl, h1, h2⟩ := isCap_int hc
    refine ⟨v, _, rfl, a, hl, fun H1 s1 => ⟨_, rfl, bool_cases (fun d => ?_) (fun d => ?_)⟩⟩
    · cases v with
      | str x =>
        refine ⟨x, rfl, hl.le, _, rfl, ?_⟩
        have := q n rfl hc _ s1
        simp only [isQueue, d, Bool.true_and] at this
        exact this
      | _ => cases d
    · have := q n rfl hc _ s1
      cases v with
      | str x =>
        simp only [isQueue, d, Bool.false_and] at this
        exact this
      | _ => exact this

/-! ### law_draws -/
/-- the pool of draws of a cell: a list of two numbers -/
def PoolAt (H : Hp) (d : Addr) : Prop := ∃ a b : Int, H d = some (.lst [.int a, .int b]) ∧ 0 ≤ a ∧ 0 ≤ b ∧ b < 2147483647
def sp_law_draws (K : PySem.W.Frag) : Sp := fun vs H Q _ => ∃ (a : Addr) (ns : List Int) (k : Int), vs = [.ref a, .int k] ∧ SqL K H a (ns.map V.int) ∧ ns.length ≤ 63 ∧ 0 ≤ k ∧ k ≤ 1000 ∧ ∀ H' d, Same H H' → H d = none → PoolAt H' d → Q (.ref d) H'
theorem ok_law_draws (T : Txt K mg) : FnOk P w K mg base (L2.CX P w) 1 (He.ga K "_law_draws") (fdA K (He.ga K "_law_draws")) ["_law_script", "_law_k"] (sp_law_draws K) := by
  refine T.F_law_draws.ok sc_law_draws (fun vs H Q E h => ?_) (fun cdv A outer s H vs Q E hr h => ⟨_, (pss_cons (ps_set (i := 2) sc_law_draws.nd rfl (by first | exact Or.inl rfl | exact Or.inr rfl) pe_int)
      (pss_cons (ps_if (pt_cmpR (op_neD hr.units) (pv 0) (pe_lst pa_nil) (nomark _))
      (pss_one (ps_set (i := 2) sc_law_draws.nd rfl (by first | exact Or.inl rfl | exact Or.inr rfl) (pe_ix ix_list (pv 0) (pe_op op_mod (pv 1) (pe_callB call_lenL rfl T.b_len (by decide +kernel) (pa_cons (pv 0) pa_nil))) (fun _ _ => rfl))))
      pss_nil)
      (pss_cons (ps_if (pt_cmpR op_ge (pv 1) (pe_callB call_lenL rfl T.b_len (by decide +kernel) (pa_cons (pv 0) pa_nil)) (nomark _))
      (pss_one (ps_set (i := 2) sc_law_draws.nd rfl (by first | exact Or.inl rfl | exact Or.inr rfl) (pe_op op_mod (pv 2) pe_int)))
      pss_nil)
      (pss_cons (ps_set (i := 3) sc_law_draws.nd rfl (by first | exact Or.inl rfl | exact Or.inr rfl) (pe_op op_mod (pe_op op_mul (pe_op op_add (pe_op op_add (pe_op op_mod (pv 2) pe_int) (pe_op op_mul pe_int (pv 1))) pe_int) pe_int) pe_int))
      (pss_one (ps_ret (pe_lst (pa_cons (pe_op op_mul (pv 2) (pe_callTy call_intB rfl T.b_int (by decide +kernel) (pa_cons (pe_cmpR op_ge (pv 2) (pe_op op_pow pe_int pe_int) (nomark _)) pa_nil))) (pa_cons (pv 3) pa_nil))))))))), ?_⟩)
  · obtain ⟨a, ns, k, rfl, _⟩ := h
    rfl
  · obtain ⟨a, ns, k, rfl, hS, hl, h0, h1, q⟩ := h
    walk_at "rd"
    intro p hp
    refine ⟨.list (ns.map PyData.int), .list [], .lst ((Same.upd hp).seq hS) (dpAll_ints ns), .lst (SqL.of upd_same) .nil, shaped_ints ns, rfl, _, rfl, ?_⟩
    have fin : ∀ (c d : Int), 0 ≤ d → ∀ (z : Addr), upd H p (.lst []) z = none → Q (V.ref z) (upd (upd H p (.lst [])) z (.lst [.int d, .int ((c % 2147483629 + 104729 * k + 11) * 48271 % 2147483647)])) := by
      intro c d hd z hz
      have m1 := Int.emod_nonneg ((c % 2147483629 + 104729 * k + 11) * 48271) (show (2147483647 : Int) ≠ 0 by decide)
      have m2 := Int.emod_lt_of_pos ((c % 2147483629 + 104729 * k + 11) * 48271) (show (0 : Int) < 2147483647 by decide)
      have hz0 : H z = none := (Same.upd hp).free hz
      exact q _ z (Same.upd2 (Same.upd hp) hz0) hz0 ⟨_, _, upd_same, hd, m1, m2⟩
    have s1 : Same H (upd H p (.lst [])) := Same.upd hp
    have c1 : CMul 104729 k := .inl ⟨by decide, by decide⟩
    have c2 : ∀ x : Int, CMul x 48271 := fun x => .inr ⟨by decide, by decide⟩
    have c3 : ∀ x : Int, CMul x (if 1000000000000000000 ≤ x then 1 else 0) := fun x => .inr (by split <;> exact ⟨by decide, by decide⟩)
    have c4 : ∀ x : Int, 0 ≤ x * (if 1000000000000000000 ≤ x then 1 else 0) := fun x => by
      by_cases d : (1000000000000000000 : Int) ≤ x
      · rw [if_pos d]; omega
      · rw [if_neg d]; omega
    have c5 : CMul 0 0 := .inl ⟨by decide, by decide⟩
    refine bool_cases (fun c => ?_) (fun c => ?_)
    · have hne : 0 < ns.length := by
        cases ns with
        | nil => simp [PyData.eqv, PyData.eqvAll] at c
        | cons n ns => simp
      have hm1 := Int.emod_nonneg k (show ((ns.map V.int).length : Int) ≠ 0 by rw [List.length_map]; omega)
      have hm2 := Int.emod_lt_of_pos k (show (0 : Int) < ((ns.map V.int).length : Int) by rw [List.length_map]; omega)
      obtain ⟨j, hj⟩ : ∃ j : Nat, k % ((ns.map V.int).length : Int) = (j : Int) := ⟨(k % ((ns.map V.int).length : Int)).toNat, by omega⟩
      have hjl : j < ns.length := by rw [List.length_map] at hj hm2; omega
      refine ⟨_, s1.seq hS, by rw [List.length_map]; omega, ⟨a, _, _, .int ns[j], rfl, rfl, s1.seq hS, ?_, _, s1.seq hS, ?_⟩⟩
      · rw [hj]
        unfold atI
        rw [ixN_nat (by rw [List.length_map]; exact hjl)]
        simp [hjl]
      · by_cases d : (((ns.map V.int).length : Nat) : Int) ≤ k
        · rw [if_pos d]
          exact ⟨_, rfl, c1, c2 _, c3 _, fin _ _ (c4 _)⟩
        · rw [if_neg d]
          exact ⟨_, rfl, c1, c2 _, _, rfl, _, rfl, c3 _, fin _ _ (c4 _)⟩
    · refine ⟨_, s1.seq hS, ?_⟩
      by_cases d : (((ns.map V.int).length : Nat) : Int) ≤ k
      · rw [if_pos d]
        exact ⟨c1, c2 _, c3 _, fin _ _ (c4 _)⟩
      · rw [if_neg d]
        exact ⟨c1, c2 _, c5, fin _ _ (by decide)⟩

/-! ### law_draw -/
def sp_law_draw (K : PySem.W.Frag) : Sp := fun vs H Q _ => ∃ (d : Addr) (n : Int), vs = [.ref d, .int n] ∧ PoolAt H d ∧ 1 ≤ n ∧ n ≤ 1000000000 ∧ ∀ (r : Int) H', 0 ≤ r → r < n → SameX d H H' → PoolAt H' d → Q (.int r) H'
theorem pool_upd {H : Hp} {d : Addr} {a b : Int} (ha : 0 ≤ a) (hb : 0 ≤ b) (hb2 : b < 2147483647) : PoolAt (upd H d (.lst [.int a, .int b])) d := ⟨a, b, upd_same, ha, hb, hb2⟩
theorem ok_law_draw (T : Txt K mg) : FnOk P w K mg base (L2.CX P w) 1 (He.ga K "_law_draw") (fdA K (He.ga K "_law_draw")) ["_law_draws_here", "_law_upto"] (sp_law_draw K) := by
  refine T.F_law_draw.ok sc_law_draw (fun vs H Q E h => ?_) (fun cdv A outer s H vs Q E hr h => ⟨_, (pss_cons (ps_if (pt_cmpR op_gt (pe_ix ix_listM (pv 0) pe_int (fun _ _ => rfl)) pe_int (nomark _))
      (pss_cons (ps_set (i := 2) sc_law_draw.nd rfl (by first | exact Or.inl rfl | exact Or.inr rfl) (pe_op op_mod (pe_ix ix_listM (pv 0) pe_int (fun _ _ => rfl)) (pv 1)))
      (pss_cons (ps_asg (pe_op op_fdiv (pe_ix ix_listM (pv 0) pe_int (fun _ _ => rfl)) (pv 1)) (pg_sub (pv 0) pe_int set_list))
      (pss_one (ps_ret (pv 2)))))
      pss_nil)
      (pss_cons (ps_asg (pe_op op_mod (pe_op op_add (pe_op op_mul (pe_ix ix_listM (pv 0) pe_int (fun _ _ => rfl)) pe_int) pe_int) pe_int) (pg_sub (pv 0) pe_int set_list))
      (pss_one (ps_ret (pe_op op_mod (pe_op op_fdiv (pe_op op_mod (pe_op op_mul (pe_ix ix_listM (pv 0) pe_int (fun _ _ => rfl)) (pe_ix ix_listM (pv 0) pe_int (fun _ _ => rfl))) pe_int) pe_int) (pv 1)))))), ?_⟩)
  · obtain ⟨a, n, rfl, _⟩ := h
    rfl
  · obtain ⟨d, n, rfl, ⟨a, b, hd, ha, hb, hb2⟩, h0, h1, q⟩ := h
    walk_at "rd"
    simp only [hd]
    walk_at "rd"
    by_cases c : 0 < a
    · rw [if_pos c]
      have e := Int.emod_nonneg a (show n ≠ 0 by omega)
      have e2 := Int.emod_lt_of_pos a (show 0 < n by omega)
      refine ⟨by omega, by omega, by omega, q _ _ e e2 SameX.upd (pool_upd (Int.ediv_nonneg ha (by omega)) hb hb2)⟩
    · rw [if_neg c]
      have m1 := Int.emod_nonneg (b * 48271 + 11) (show (2147483647 : Int) ≠ 0 by decide)
      have m2 := Int.emod_lt_of_pos (b * 48271 + 11) (show (0 : Int) < 2147483647 by decide)
      have e := Int.emod_nonneg ((b * 48271 + 11) % 2147483647 * ((b * 48271 + 11) % 2147483647) % 2147483629 / 64) (show n ≠ 0 by omega)
      have e2 := Int.emod_lt_of_pos ((b * 48271 + 11) % 2147483647 * ((b * 48271 + 11) % 2147483647) % 2147483629 / 64) (show 0 < n by omega)
      exact ⟨.inl ⟨by omega, by omega⟩, .inl ⟨by omega, by omega⟩, by omega, q _ _ e e2 SameX.upd (pool_upd ha m1 m2)⟩
theorem pool_free {H H' : Hp} {d p : Addr} (s : SameX d H H') (pl : PoolAt H' d) (h : H' p = none) : H p = none := by
  cases e : H p with
  | none => rfl
  | some o =>
    by_cases c : p = d
    · obtain ⟨_, _, h2, _⟩ := pl
      rw [c, h2] at h; cases h
    · rw [s _ _ e c] at h; cases h
theorem pool_ne {H : Hp} {d p : Addr} (pl : PoolAt H d) (h : H p = none) : p ≠ d := by
  obtain ⟨_, _, h2, _⟩ := pl
  exact fun e => by rw [e, h2] at h; cases h
theorem pool_upd_ne {H : Hp} {d p : Addr} {o : HO} (pl : PoolAt H d) (h : H p = none) : PoolAt (upd H p o) d := by
  obtain ⟨a, b, h2, r⟩ := pl
  exact ⟨a, b, by rw [upd_ne (fun e => by rw [← e, h2] at h; cases h)]; exact h2, r⟩
theorem pool_upd_ne' {H : Hp} {d p : Addr} {o : HO} (pl : PoolAt H d) (h : p ≠ d) : PoolAt (upd H p o) d := by
  obtain ⟨a, b, h2, r⟩ := pl
  exact ⟨a, b, by rw [upd_ne h.symm]; exact h2, r⟩

/-! ### law_checks -/
def checks (v : V) : List Bool := [isLetter v, isCap v, isMode v, isUser v, isQueue v 100]
def sp_law_checks (K : PySem.W.Frag) : Sp := fun vs H Q _ => ∃ (v : V), vs = [v] ∧ AnyV K H v ∧ Short v ∧ ∀ H' p, Same H H' → H p = none → H' p = some (.lst ((checks v).map V.bl)) → Q (.ref p) H'
theorem ok_law_checks (T : Txt K mg) : FnOk P w K mg base (L2.CX P w) 5 (He.ga K "_law_checks") (fdA K (He.ga K "_law_checks")) ["_law_value"] (sp_law_checks K) := by
  refine T.F_law_checks.ok sc_law_checks (fun vs H Q E h => ?_) (fun cdv A outer s H vs Q E hr h => ⟨_, (pss_one (ps_ret (pe_lst (pa_cons (pe_callD (ok_is_letter T) (hr.mono (by decide)) rfl T.g_is_letter T.F_is_letter.kp (bd_is_letter T) passE (pa_cons (pv 0) pa_nil)) (pa_cons (pe_callD (ok_is_capacity T) (hr.mono (by decide)) rfl T.g_is_capacity T.F_is_capacity.kp (bd_is_capacity T) passE (pa_cons (pv 0) pa_nil)) (pa_cons (pe_callD (ok_is_mode T) (hr.mono (by decide)) rfl T.g_is_mode T.F_is_mode.kp (bd_is_mode T) passE (pa_cons (pv 0) pa_nil)) (pa_cons (pe_callD (ok_is_user T) (hr.mono (by decide)) rfl T.g_is_user T.F_is_user.kp (bd_is_user T) passE (pa_cons (pv 0) pa_nil)) (pa_cons (pe_callD (ok_is_queue T) (hr.mono (by decide)) rfl T.g_is_queue T.F_is_queue.kp (bd_is_queue_1 T) passE (pa_cons (pv 0) pa_nil)) pa_nil)))))))), ?_⟩)
  · obtain ⟨v, rfl, _⟩ := h
    rfl
  · obtain ⟨v, rfl, a, hl, q⟩ := h
    walk_at "rd"
    refine ⟨v, rfl, a, hl, fun H1 s1 => ?_⟩
    refine ⟨v, rfl, a.mono s1, ?_⟩
    refine ⟨v, rfl, a.mono s1, ?_⟩
    refine ⟨v, rfl, a.mono s1, hl, fun H2 s2 => ?_⟩
    refine ⟨v, _, rfl, a.mono (s1.trans s2), AnyV.int, hl, ?_, fun c => by cases c⟩
    intro n en hc H3 s3
    cases en
    intro p hp
    have s : Same H H3 := (s1.trans s2).trans s3
    exact q _ p (Same.upd2 s (s.free hp)) (s.free hp) upd_same

/-! ### law_rejected -/
def sp_law_rejected (K : PySem.W.Frag) : Sp := fun vs H Q _ => ∃ (v : V), vs = [v] ∧ AnyV K H v ∧ ∀ H', Same H H' → Q (.bl (!isCap v)) H'
theorem ok_law_rejected (T : Txt K mg) : FnOk P w K mg base (L2.CX P w) 5 (He.ga K "_law_rejected") (fdA K (He.ga K "_law_rejected")) ["_law_value"] (sp_law_rejected K) := by
  refine T.F_law_rejected.ok sc_law_rejected (fun vs H Q E h => ?_) (fun cdv A outer s H vs Q E hr h => ⟨_, (pss_cons (ps_try_only rfl rfl ⟨rfl, by decide, .inl T.g_InvalidCapacity⟩ (takes_of rfl rfl rfl rfl) (fun W pn xe tk _ => (pss_one (ps_expr (pe_callW (ok_is_queue T) (hr.mono (by decide)) rfl T.g_is_queue T.F_is_queue.kp (bd_is_queue T) (fun σ => passAt tk σ) (pa_cons pe_str (pa_cons (pv 0) pa_nil)))))) (fun a oe cls d pn _ _ => (pss_one (ps_ret pe_bl))))
      (pss_one (ps_ret pe_bl))), ?_⟩)
  · obtain ⟨v, rfl, _⟩ := h
    rfl
  · obtain ⟨v, rfl, a, q⟩ := h
    walk_at "rd"
    refine ⟨_, v, rfl, AnyV.str, a, fun x hx => ?_, fun n _ hc H1 s1 => ?_, fun hc => ?_⟩
    · cases hx
      decide +kernel
    · have := q _ s1
      rw [hc] at this
      exact this
    · refine ⟨true, T.e_InvalidCapacity_InvalidCapacity, fun _ a ha => ?_, fun c => Bool.noConfusion c⟩
      have := q _ (Same.refl _)
      rw [hc] at this
      exact this

/-! ### law -/
def sp_law (K : PySem.W.Frag) : Sp := fun vs H Q _ => ∃ (a : Addr) (ns : List Int), vs = [.ref a] ∧ SqL K H a (ns.map V.int) ∧ ns.length ≤ 63 ∧ ∀ H', Q (.bl true) H'
def BadV (v : V) : Prop := checks v = [false, false, false, false, false]
theorem short_of {v : V} {z : Str} (h : v = .str z) (l : z.length ≤ 100000) : Short v := fun x e => by
  rw [h] at e; cases e; exact l
theorem short_no {v : V} (h : isStrV v = false) : Short v := fun x e => by
  rw [e] at h; cases h
/-- the codes of letters -/
abbrev ltr : List Nat := lettersZ.cps.toList
theorem isText_S (l : List Nat) : isTextOf (.str (S l)) lettersZ = l.all fun c => decide (c ∈ ltr) := rfl
theorem mode_text {x : Str} (h : isMode (.str x) = true) : isTextOf (.str x) lettersZ = true := by
  have h2 : x ∈ (["oldest", "newest", "strict"] : List Str) := of_decide_eq_true h
  simp only [List.mem_cons, List.not_mem_nil, or_false] at h2
  rcases h2 with rfl | rfl | rfl <;> decide +kernel
theorem checks_bad {x : Str} (h : isTextOf (.str x) lettersZ = false) : BadV (.str x) := by
  have m : isMode (.str x) = false := by
    cases e : isMode (.str x) with
    | false => rfl
    | true => rw [mode_text e] at h; cases h
  simp [BadV, checks, isLetter, isCap, isUser, isQueue, h, m]
theorem checks_good {l : List Nat} (h : ∀ c ∈ l, c ∈ ltr) (h1 : 1 ≤ l.length) : checks (.str (S l)) = [decide ((l.length : Int) = 1), false, isMode (.str (S l)), decide ((l.length : Int) ≤ 8), decide ((l.length : Int) ≤ 100)] := by
  have e : isTextOf (.str (S l)) lettersZ = true := by
    rw [isText_S, List.all_eq_true]
    exact fun c hc => decide_eq_true (h c hc)
  have : (1 : Int) ≤ (l.length : Int) := by omega
  simp only [checks, isLetter, isCap, isUser, isQueue, e, Bool.true_and, S_length, this, decide_true]
theorem bad_changed {l : List Nat} {k c : Nat} (hc : ¬ c ∈ ltr) : isTextOf (.str (S (l.take k ++ [c] ++ l.drop (k + 1)))) lettersZ = false := by
  rw [isText_S, List.all_append, List.all_append]
  have e : ([c].all fun c => decide (c ∈ ltr)) = false := by
    simp only [List.all_cons, List.all_nil, Bool.and_true]
    exact decide_eq_false hc
  rw [e]
  simp
theorem ok_law (T : Txt K mg) : FnOk P w K mg base CX0 6 (He.ga K "law") (fdA K (He.ga K "law")) ["_law_script"] (sp_law K) := by
  refine T.F_law.ok sc_law (fun vs H Q E h => ?_) (fun cdv A outer s H vs Q E hr h => ⟨_, (pss_cons (ps_set (i := 1) sc_law.nd rfl (by first | exact Or.inl rfl | exact Or.inr rfl) (pe_op op_rep (pe_lst (pa_cons pe_bl pa_nil)) pe_int))
      (pss_cons (ps_for (passes_of rfl) rfl (pi_list (pe_lst (pa_cons pe_non (pa_cons pe_bl (pa_cons pe_bl (pa_cons (pe_tup pa_nil) (pa_cons (pe_lst (pa_cons pe_str pa_nil)) (pa_cons pe_dnewK (pa_cons (pe_tup (pa_cons pe_str (pa_cons pe_str pa_nil))) (pa_cons pe_str (pa_cons pe_str (pa_cons pe_str (pa_cons pe_str (pa_cons pe_str (pa_cons pe_str (pa_cons (pe_un un_neg pe_int) (pa_cons pe_int (pa_cons pe_int (pa_cons (pe_op op_pow pe_int pe_int) pa_nil))))))))))))))))))) (pg_name (i := 2) sc_law.nd rfl (by first | exact Or.inl rfl | exact Or.inr rfl))
      (pss_one (ps_if (pt_cmpR (op_neD hr.units) (pe_callD (ok_law_checks T) (hr.mono (by decide)) rfl T.g_law_checks T.F_law_checks.kp (bd_law_checks T) passL (pa_cons (pv 2) pa_nil)) (pv 1) (nomark _))
      (pss_one (ps_ret pe_bl))
      pss_nil)))
      (pss_cons (ps_for (passes_of rfl) rfl (pi_list (pe_lst (pa_cons pe_non (pa_cons pe_bl (pa_cons pe_str (pa_cons pe_int (pa_cons (pe_un un_neg pe_int) (pa_cons pe_int (pa_cons (pe_tup (pa_cons pe_int pa_nil)) pa_nil))))))))) (pg_name (i := 2) sc_law.nd rfl (by first | exact Or.inl rfl | exact Or.inr rfl))
      (pss_one (ps_if (pt_not (pt_val (pe_callD (ok_law_rejected T) (hr.mono (by decide)) rfl T.g_law_rejected T.F_law_rejected.kp (bd_law_rejected T) passL (pa_cons (pv 2) pa_nil))))
      (pss_one (ps_ret pe_bl))
      pss_nil)))
      (pss_cons (ps_if (PW.pt (pw_or (pt_cmpR (op_neD hr.units) (pe_callD (ok_law_checks T) (hr.mono (by decide)) rfl T.g_law_checks T.F_law_checks.kp (bd_law_checks T) passL (pa_cons pe_str pa_nil)) (pe_lst (pa_cons pe_bl (pa_cons pe_bl (pa_cons pe_bl (pa_cons pe_bl (pa_cons pe_bl pa_nil)))))) (nomark _)) (pw_or1 (pt_cmpR (op_neD hr.units) (pe_callD (ok_law_checks T) (hr.mono (by decide)) rfl T.g_law_checks T.F_law_checks.kp (bd_law_checks T) passL (pa_cons pe_str pa_nil)) (pe_lst (pa_cons pe_bl (pa_cons pe_bl (pa_cons pe_bl (pa_cons pe_bl (pa_cons pe_bl pa_nil)))))) (nomark _)))))
      (pss_one (ps_ret pe_bl))
      pss_nil)
      (pss_cons (ps_for (passes_of rfl) rfl (pi_list (pe_lst (pa_cons pe_str (pa_cons pe_str (pa_cons pe_str pa_nil))))) (pg_name (i := 3) sc_law.nd rfl (by first | exact Or.inl rfl | exact Or.inr rfl))
      (pss_one (ps_if (PW.pt (pw_or (pt_cmpR (op_neD hr.units) (pe_callD (ok_law_checks T) (hr.mono (by decide)) rfl T.g_law_checks T.F_law_checks.kp (bd_law_checks T) passL (pa_cons (pv 3) pa_nil)) (pe_lst (pa_cons pe_bl (pa_cons pe_bl (pa_cons pe_bl (pa_cons pe_bl (pa_cons pe_bl pa_nil)))))) (nomark _)) (pw_or (pt_val (pe_callD (ok_is_mode T) (hr.mono (by decide)) rfl T.g_is_mode T.F_is_mode.kp (bd_is_mode T) passL (pa_cons (pe_op op_add_str (pv 3) pe_str) pa_nil))) (pw_or1 (pt_val (pe_callD (ok_is_mode T) (hr.mono (by decide)) rfl T.g_is_mode T.F_is_mode.kp (bd_is_mode T) passL (pa_cons (pe_slice sl_str (pv 3) (po_some pe_int) po_none) pa_nil)))))))
      (pss_one (ps_ret pe_bl))
      pss_nil)))
      (pss_cons (ps_for (passes_of rfl) rfl (pi_range1 rfl T.b_range (pa_cons (pe_callB (call_max2 rfl) rfl T.b_max (by decide +kernel) (pa_cons pe_int (pa_cons (pe_callB call_lenL rfl T.b_len (by decide +kernel) (pa_cons (pv 0) pa_nil)) pa_nil))) pa_nil)) (pg_name (i := 4) sc_law.nd rfl (by first | exact Or.inl rfl | exact Or.inr rfl))
      (pss_cons (ps_set (i := 5) sc_law.nd rfl (by first | exact Or.inl rfl | exact Or.inr rfl) (pe_callD (ok_law_draws T) (hr.mono (by decide)) rfl T.g_law_draws T.F_law_draws.kp (bd_law_draws T) passL (pa_cons (pv 0) (pa_cons (pv 4) pa_nil))))
      (pss_cons (ps_set (i := 6) sc_law.nd rfl (by first | exact Or.inl rfl | exact Or.inr rfl) pe_str)
      (pss_cons (ps_set (i := 7) sc_law.nd rfl (by first | exact Or.inl rfl | exact Or.inr rfl) (pe_ix ix_listM (pe_lst (pa_cons (pe_op op_add pe_int (pe_callD (ok_law_draw T) (hr.mono (by decide)) rfl T.g_law_draw T.F_law_draw.kp (bd_law_draw T) passL (pa_cons (pv 5) (pa_cons pe_int pa_nil)))) (pa_cons (pe_op op_add pe_int (pe_callD (ok_law_draw T) (hr.mono (by decide)) rfl T.g_law_draw T.F_law_draw.kp (bd_law_draw T) passL (pa_cons (pv 5) (pa_cons pe_int pa_nil)))) (pa_cons pe_int (pa_cons pe_int pa_nil))))) (pe_callD (ok_law_draw T) (hr.mono (by decide)) rfl T.g_law_draw T.F_law_draw.kp (bd_law_draw T) passL (pa_cons (pv 5) (pa_cons pe_int pa_nil))) (fun _ _ => rfl)))
      (pss_cons (ps_set (i := 8) sc_law.nd rfl (by first | exact Or.inl rfl | exact Or.inr rfl) (pe_join pe_str (pe_lc (own := [("_law_turn", 9)]) rfl sc_law.nd (pi_range1 rfl T.b_range (pa_cons (pv 7) pa_nil)) (blkOk_by (N := ["_law_script", "_law_nothing", "_law_value", "_law_mode", "_law_k", "_law_draws_here", "_law_letters", "_law_size", "_law_text", "_law_turn", "_law_capacity", "_law_at"]) (sc := defScope s_law) (own := [("_law_turn", 9)]) (by decide +kernel)) (fun _ _ _ _ _ => pg_name (i := 9) sc_law.nd rfl (by first | exact Or.inl rfl | exact Or.inr rfl)) (fun _ _ _ _ _ => pts_nil) (fun _ _ _ _ _ => (pe_ix ix_str (pv 6) (pe_callD (ok_law_draw T) (hr.mono (by decide)) rfl T.g_law_draw T.F_law_draw.kp (bd_law_draw T) passL (pa_cons (pv 5) (pa_cons pe_int pa_nil))) (fun _ _ => rfl))))))
      (pss_cons (ps_if (pt_cmpR (op_neD hr.units) (pe_callD (ok_law_checks T) (hr.mono (by decide)) rfl T.g_law_checks T.F_law_checks.kp (bd_law_checks T) passL (pa_cons (pv 8) pa_nil)) (pe_lst (pa_cons (pe_cmpR op_eq (pv 7) pe_int (nomark _)) (pa_cons pe_bl (pa_cons (pe_cmpR op_in_seq (pv 8) (pe_tup (pa_cons pe_str (pa_cons pe_str (pa_cons pe_str pa_nil)))) (by with_unfolding_all rfl)) (pa_cons (pe_cmpR op_le (pv 7) pe_int (nomark _)) (pa_cons (pe_cmpR op_le (pv 7) pe_int (nomark _)) pa_nil)))))) (nomark _))
      (pss_one (ps_ret pe_bl))
      pss_nil)
      (pss_cons (ps_set (i := 10) sc_law.nd rfl (by first | exact Or.inl rfl | exact Or.inr rfl) (pe_op op_add pe_int (pe_callD (ok_law_draw T) (hr.mono (by decide)) rfl T.g_law_draw T.F_law_draw.kp (bd_law_draw T) passL (pa_cons (pv 5) (pa_cons pe_int pa_nil)))))
      (pss_cons (ps_if (PW.pt (pw_or (pt_not (pt_val (pe_callD (ok_is_capacity T) (hr.mono (by decide)) rfl T.g_is_capacity T.F_is_capacity.kp (bd_is_capacity T) passL (pa_cons (pv 10) pa_nil)))) (pw_or1 (pt_cmpR op_ne (pe_callD (ok_is_queue T) (hr.mono (by decide)) rfl T.g_is_queue T.F_is_queue.kp (bd_is_queue T) passL (pa_cons (pv 8) (pa_cons (pv 10) pa_nil))) (pe_cmpR op_le (pv 7) (pv 10) (nomark _)) (nomark _)))))
      (pss_one (ps_ret pe_bl))
      pss_nil)
      (pss_cons (ps_set (i := 11) sc_law.nd rfl (by first | exact Or.inl rfl | exact Or.inr rfl) (pe_callD (ok_law_draw T) (hr.mono (by decide)) rfl T.g_law_draw T.F_law_draw.kp (bd_law_draw T) passL (pa_cons (pv 5) (pa_cons (pv 7) pa_nil))))
      (pss_one (ps_if (pt_cmpR (op_neD hr.units) (pe_callD (ok_law_checks T) (hr.mono (by decide)) rfl T.g_law_checks T.F_law_checks.kp (bd_law_checks T) passL (pa_cons (pe_op op_add_str (pe_op op_add_str (pe_slice sl_str (pv 8) po_none (po_some (pv 11))) (pe_ix ix_str pe_str (pe_callD (ok_law_draw T) (hr.mono (by decide)) rfl T.g_law_draw T.F_law_draw.kp (bd_law_draw T) passL (pa_cons (pv 5) (pa_cons pe_int pa_nil))) (fun _ _ => rfl))) (pe_slice sl_str (pv 8) (po_some (pe_op op_add (pv 11) pe_int)) po_none)) pa_nil)) (pv 1) (nomark _))
      (pss_one (ps_ret pe_bl))
      pss_nil)))))))))))
      (pss_one (ps_ret pe_bl)))))))), ?_⟩)
  · obtain ⟨a, ns, rfl, _⟩ := h
    rfl
  · obtain ⟨a, ns, rfl, hS, hl, q⟩ := h
    walk_at "rd"
    intro p1 h_p1 p2 h_p2 p3 h_p3 p4 h_p4 p5 h_p5 p6 h_p6 p7 h_p7
    generalize e_HB : upd _ p7 _ = HB
    have s_HB : Same H HB := by rw [← e_HB]; exact (Same.upd3 (Same.upd3 (Same.upd3 (Same.upd3 (Same.upd3 (Same.upd3 (Same.upd h_p1) h_p2) h_p3) h_p4) h_p5) h_p6) h_p7)
    have g_p1 := (congrFun e_HB p1).symm.trans (kp (kp (kp (kp (kp (kp upd_same h_p2) h_p3) h_p4) h_p5) h_p6) h_p7)
    have g_p2 := (congrFun e_HB p2).symm.trans (kp (kp (kp (kp (kp upd_same h_p3) h_p4) h_p5) h_p6) h_p7)
    have g_p3 := (congrFun e_HB p3).symm.trans (kp (kp (kp (kp upd_same h_p4) h_p5) h_p6) h_p7)
    have g_p4 := (congrFun e_HB p4).symm.trans (kp (kp (kp upd_same h_p5) h_p6) h_p7)
    have g_p5 := (congrFun e_HB p5).symm.trans (kp (kp upd_same h_p6) h_p7)
    have g_p6 := (congrFun e_HB p6).symm.trans (kp upd_same h_p7)
    have g_p7 := (congrFun e_HB p7).symm.trans upd_same
    clear e_HB
    refine ⟨⟨_, SqL.of g_p7⟩, LoopOk.walk walk_list (fun i σ H1 => ∃ v, σ = [some (.ref a), some (.ref p2), v, none, none, none, none, none, none, none, none, none] ∧ Same HB H1) ⟨none, rfl, Same.refl _⟩ (fun i σ H1 _ ⟨v, _, s1⟩ => s1.seq (SqL.of g_p7)) ?_ ?_⟩
    · rintro i y σ H1 H2 hi ⟨v, rfl, s1⟩ ⟨rfl, hy⟩
      walk_at "rd"
      have hmem := List.mem_of_getElem? hy
      have hbad : AnyV K H2 y ∧ Short y ∧ BadV y := by
        simp only [List.mem_cons, List.not_mem_nil, or_false] at hmem
        rcases hmem with rfl | rfl | rfl | rfl | rfl | rfl | rfl | rfl | rfl | rfl | rfl | rfl | rfl | rfl | rfl | rfl | rfl
        · exact ⟨.non, short_no rfl, rfl⟩
        · exact ⟨.bl, short_no rfl, rfl⟩
        · exact ⟨.bl, short_no rfl, rfl⟩
        · exact ⟨.tup (s1 _ _ g_p3), short_no rfl, rfl⟩
        · exact ⟨.lst (s1 _ _ g_p4), short_no rfl, rfl⟩
        · exact ⟨.dK (s1 _ _ g_p5), short_no rfl, rfl⟩
        · exact ⟨.tup (s1 _ _ g_p6), short_no rfl, rfl⟩
        · exact ⟨.str, short_of rfl (by decide +kernel), checks_bad (by decide +kernel)⟩
        · exact ⟨.str, short_of rfl (by decide +kernel), checks_bad (by decide +kernel)⟩
        · exact ⟨.str, short_of rfl (by decide +kernel), checks_bad (by decide +kernel)⟩
        · exact ⟨.str, short_of rfl (by decide +kernel), checks_bad (by decide +kernel)⟩
        · exact ⟨.str, short_of rfl (by decide +kernel), checks_bad (by decide +kernel)⟩
        · exact ⟨.str, short_of rfl (by decide +kernel), checks_bad (by decide +kernel)⟩
        · exact ⟨.int, short_no rfl, rfl⟩
        · exact ⟨.int, short_no rfl, rfl⟩
        · exact ⟨.int, short_no rfl, rfl⟩
        · exact ⟨.int, short_no rfl, rfl⟩
      refine ⟨y, rfl, hbad.1, hbad.2.1, fun H3 p s3 hp e3 => ?_⟩
      refine ne_bools (ms := [false, false, false, false, false]) (SqL.of e3) (SqL.of (s3 _ _ (s1 _ _ g_p2))) ?_
      rw [show checks y = _ from hbad.2.2]
      exact ⟨_, rfl, s1.trans s3⟩
    · rintro σ H1 ⟨v, rfl, s1⟩
      walk_at "rd"
      intro q1 h_q1 q2 h_q2
      generalize e_HC : upd _ q2 _ = HC
      have s_HC : Same H1 HC := by rw [← e_HC]; exact (Same.upd3 (Same.upd h_q1) h_q2)
      have g_q1 := (congrFun e_HC q1).symm.trans (kp upd_same h_q2)
      have g_q2 := (congrFun e_HC q2).symm.trans upd_same
      clear e_HC
      refine ⟨⟨_, SqL.of g_q2⟩, LoopOk.walk walk_list (fun i σ H2 => ∃ v, σ = [some (.ref a), some (.ref p2), v, none, none, none, none, none, none, none, none, none] ∧ Same HC H2) ⟨_, rfl, Same.refl _⟩ (fun i σ H2 _ ⟨v, _, s2⟩ => s2.seq (SqL.of g_q2)) ?_ ?_⟩
      · rintro i y σ H2 H3 hi ⟨v, rfl, s2⟩ ⟨rfl, hy⟩
        walk_at "rd"
        have hmem := List.mem_of_getElem? hy
        have hbad : AnyV K H3 y ∧ isCap y = false := by
          simp only [List.mem_cons, List.not_mem_nil, or_false] at hmem
          rcases hmem with rfl | rfl | rfl | rfl | rfl | rfl | rfl
          · exact ⟨.non, rfl⟩
          · exact ⟨.bl, rfl⟩
          · exact ⟨.str, rfl⟩
          · exact ⟨.int, rfl⟩
          · exact ⟨.int, rfl⟩
          · exact ⟨.int, rfl⟩
          · exact ⟨.tup (s2 _ _ g_q1), rfl⟩
        refine ⟨y, rfl, hbad.1, fun H4 s4 => ⟨_, rfl, ?_⟩⟩
        rw [hbad.2]
        exact s2.trans s4
      · rintro σ H2 ⟨v2, rfl, s2⟩
        walk_at "rd"
        refine ⟨_, rfl, .str, short_of rfl (by decide +kernel), fun H3 r1 s3 h3 e3 r2 h_r2 => ?_⟩
        refine ne_bools (ms := [false, false, false, false, true]) (SqL.of (kp e3 h_r2)) (SqL.of upd_same) ⟨_, rfl, ?_⟩
        rw [show checks (.str "") = _ from (by decide +kernel : checks (.str "") = [false, false, false, false, true])]
        have s3' := s3.trans (Same.upd (o := .lst [.bl false, .bl false, .bl false, .bl false, .bl true]) h_r2)
        refine ⟨_, rfl, .str, short_of rfl (by decide +kernel), fun H4 r3 s4 h4 e4 r4 h_r4 => ?_⟩
        refine ne_bools (ms := [true, false, false, true, true]) (SqL.of (kp e4 h_r4)) (SqL.of upd_same) ⟨_, rfl, ?_⟩
        rw [show checks (.str "q") = _ from (by decide +kernel : checks (.str "q") = [true, false, false, true, true])]
        have s4' := s4.trans (Same.upd (o := .lst [.bl true, .bl false, .bl false, .bl true, .bl true]) h_r4)
        intro r5 h_r5
        have g_r5 := upd_same (H := upd H4 r4 (.lst [.bl true, .bl false, .bl false, .bl true, .bl true])) (a := r5) (o := .lst [.str "oldest", .str "newest", .str "strict"])
        have s5 := s4'.trans (Same.upd (o := .lst [.str "oldest", .str "newest", .str "strict"]) h_r5)
        generalize e_HD : upd _ r5 _ = HD at g_r5 s5
        refine ⟨⟨_, SqL.of g_r5⟩, LoopOk.walk walk_list (fun i σ H5 => ∃ v w, σ = [some (.ref a), some (.ref p2), v, w, none, none, none, none, none, none, none, none] ∧ Same HD H5) ⟨_, _, rfl, Same.refl _⟩ (fun i σ H5 _ ⟨v, w, _, s6⟩ => s6.seq (SqL.of g_r5)) ?_ ?_⟩
        · rintro i y σ H5 H6 hi ⟨v, w, rfl, s6⟩ ⟨rfl, hy⟩
          walk_at "rd"
          have hmem := List.mem_of_getElem? hy
          have hm : ∃ x : Str, y = .str x ∧ x.length ≤ 100 ∧ checks (.str x) = [false, false, true, true, true] ∧ isMode (.str (x ++ "s")) = false ∧ isMode (.str (cutS x (some 1) none)) = false := by
            simp only [List.mem_cons, List.not_mem_nil, or_false] at hmem
            rcases hmem with rfl | rfl | rfl <;> exact ⟨_, rfl, by decide +kernel, by decide +kernel, by decide +kernel, by decide +kernel⟩
          obtain ⟨x, rfl, hx, hc, hm1, hm2⟩ := hm
          refine ⟨_, rfl, .str, short_of rfl (by omega), fun H7 t1 s7 h7 e7 t2 h_t2 => ?_⟩
          refine ne_bools (ms := [false, false, true, true, true]) (SqL.of (kp e7 h_t2)) (SqL.of upd_same) ⟨_, rfl, ?_⟩
          rw [hc]
          refine ⟨_, rfl, by rw [show Str.length "s" = 1 by decide +kernel]; omega, _, rfl, .str, _, rfl, ?_⟩
          rw [hm1]
          refine ⟨_, rfl, by omega, _, rfl, .str, _, rfl, ?_⟩
          rw [hm2]
          exact s6.trans (s7.trans (Same.upd h_t2))
        · rintro σ H5 ⟨v, w, rfl, s6⟩
          have sA : Same HB H5 := ((s1.trans s_HC).trans s2).trans (s3'.trans (s5.trans s6))
          have gS : SqL K H5 a (ns.map V.int) := (s_HB.trans sA).seq hS
          have gN := sA _ _ g_p2
          clear s6 s5 s4' s4 s3' s3 s2 s_HC s1
          walk_at "rd"
          refine ⟨_, gS, ?_⟩
          obtain ⟨m, em, hm⟩ := max1 hl
          rw [List.length_map]
          refine ⟨by rw [show (if (1 : Int) < (ns.length : Int) then (ns.length : Int) else 1) = m from em]; omega, by rw [show (if (1 : Int) < (ns.length : Int) then (ns.length : Int) else 1) = m from em]; omega, ?_⟩
          rw [show (if (1 : Int) < (ns.length : Int) then (ns.length : Int) else 1) = m from em, Int.toNat_natCast]
          refine LoopOk.walk walk_range (fun i σ H6 => ∃ v4 v5 v6 v7 v8 v9 v10 v11, σ = [some (.ref a), some (.ref p2), v, w, v4, v5, v6, v7, v8, v9, v10, v11] ∧ SqL K H6 a (ns.map V.int) ∧ H6 p2 = some (.lst [.bl false, .bl false, .bl false, .bl false, .bl false])) ⟨_, _, _, _, _, _, _, _, rfl, gS, gN⟩ (fun _ _ _ _ _ => trivial) ?_ ?_
          · rintro i y σ H6 H7 hi ⟨v4, v5, v6, v7, v8, v9, v10, v11, rfl, gS, gN⟩ ⟨rfl, rfl⟩
            walk_at "rd"
            refine ⟨a, ns, _, rfl, gS, hl, by omega, by omega, fun H8 d s8 hd pl8 => ?_⟩
            refine ⟨d, 9, rfl, pl8, by decide, by decide, fun r1 H9 l1 u1 x9 pl9 => ⟨_, rfl, ?_⟩⟩
            refine ⟨d, 100, rfl, pl9, by decide, by decide, fun r2 H10 l2 u2 x10 pl10 => ⟨_, rfl, fun p hp => ?_⟩⟩
            refine ⟨d, 4, rfl, pool_upd_ne pl10 hp, by decide, by decide, fun r3 H11 l3 u3 x11 pl11 => ?_⟩
            refine ⟨_, r3, rfl, x11 _ _ upd_same (pool_ne pl10 hp), ?_⟩
            obtain ⟨sz, e3, hz1, hz2⟩ : ∃ sz : Nat, atI [V.int (1 + r1), V.int (1 + r2), V.int 100, V.int 101] r3 = some (.int sz) ∧ 1 ≤ sz ∧ sz ≤ 101 := by
              obtain ⟨j, rfl⟩ : ∃ j : Nat, r3 = j := ⟨r3.toNat, by omega⟩
              have hj : j < 4 := by omega
              unfold atI
              rw [ixN_nat (by exact hj)]
              rcases (by omega : j = 0 ∨ j = 1 ∨ j = 2 ∨ j = 3) with rfl | rfl | rfl | rfl
              · exact ⟨(1 + r1).toNat, by simp; omega, by omega, by omega⟩
              · exact ⟨(1 + r2).toNat, by simp; omega, by omega, by omega⟩
              · exact ⟨100, rfl, by omega, by omega⟩
              · exact ⟨101, rfl, by omega, by omega⟩
            have na : SameX d H7 H11 := (SameX.of s8).trans (x9.trans (x10.trans ((SameX.of (Same.upd hp)).trans x11)))
            refine ⟨_, e3, ⟨_, rfl⟩, _, rfl, by omega, by omega, fun D hD => ?_⟩
            rw [Int.toNat_natCast]
            have hDd := pool_ne pl11 hD
            refine LcOk.walk walk_range (fun k Hk => SameX d H11 Hk ∧ PoolAt Hk d ∧ ∃ ls : List Nat, Hk D = some (.lst (ls.map fun c => V.str (S [c]))) ∧ ls.length = k ∧ ∀ c ∈ ls, c ∈ ltr) ⟨SameX.of (Same.upd hD), pool_upd_ne pl11 hD, [], upd_same, rfl, by simp⟩ (fun _ _ _ _ => trivial) ?_ ?_
            · rintro k y Hk Hk' hk ⟨xk, plk, ls, gD, hls, hlt⟩ ⟨rfl, rfl⟩
              walk_at "rd"
              refine ⟨plk, fun r4 Hm l4 u4 xm plm => ?_⟩
              obtain ⟨j, rfl⟩ : ∃ j : Nat, r4 = j := ⟨r4.toNat, by omega⟩
              have hlen : (ltr).length = 26 := by decide +kernel
              have hj : j < ltr.length := by omega
              refine ⟨_, _, ltr[j], rfl, rfl, by decide +kernel, ?_, _, xm _ _ gD hDd, by rw [List.length_map]; omega, ?_, pool_upd_ne' plm hDd, ls ++ [ltr[j]], ?_, by simp [hls], ?_⟩
              · unfold atI
                rw [ixN_nat hj]
                simp [hj]
              · exact fun b o h n => by
                  by_cases c : b = D
                  · rw [c, hD] at h; cases h
                  · rw [upd_ne c]; exact xm _ _ (xk _ _ h n) n
              · rw [List.map_append]; rfl
              · intro c hc
                rcases List.mem_append.mp hc with h | h
                · exact hlt c h
                · simp only [List.mem_singleton] at h
                  rw [h]; exact List.getElem_mem hj
            · rintro Hk ⟨xk, plk, ls, gD, hls, hlt⟩
              refine ⟨_, rfl, ls.map fun c => S [c], .inl (SqL.of (by rw [gD, List.map_map]; rfl)), ?_, ?_⟩
              · have e1 : (ls.map fun c => S [c]).map (fun x => x.length) = ls.map fun _ => 1 := by
                  rw [List.map_map]; exact List.map_congr_left fun c _ => by simp [S_length]
                rw [e1, List.length_map, show Str.length "" = 0 by decide +kernel]
                have : (ls.map fun _ => 1).sum = ls.length := by
                  clear gD hls hlt e1
                  induction ls with
                  | nil => rfl
                  | cons c l ih => simp [ih]; omega
                rw [this]
                omega
              · have ej : Txt.join "" (ls.map fun c => S [c]) = S ls := by
                  have := join_empty (ls.map fun c => [c])
                  rw [List.map_map] at this
                  have e2 : (ls.map fun c => [c]).flatten = ls := by
                    clear this gD hls hlt
                    induction ls with
                    | nil => rfl
                    | cons c l ih => simp [ih]
                  rw [e2] at this
                  exact this
                rw [ej]
                have eck := checks_good hlt (by omega)
                rw [hls] at eck
                refine ⟨_, rfl, .str, short_of rfl (by rw [S_length]; omega), fun H12 p12 s12 h12 e12 => ?_⟩
                refine ⟨rfl, fun t1 h_t1 => ?_⟩
                refine ⟨_, _, rfl, .inr (SqT.of upd_same), rfl, rfl, ?_⟩
                rw [if_neg (by decide), inV_modes]
                refine ⟨_, rfl, _, rfl, fun t2 h_t2 => ?_⟩
                have g12 := kp (u := .lst [V.bl (decide (V.int (sz : Int) = V.int 1)), V.bl false, V.bl (isMode (V.str (S ls))), V.bl (decide ((sz : Int) ≤ 8)), V.bl (decide ((sz : Int) ≤ 100))]) (kp (u := .tup [.str "oldest", .str "newest", .str "strict"]) e12 h_t1) h_t2
                refine ne_bools (ms := [decide (V.int (sz : Int) = V.int 1), false, isMode (V.str (S ls)), decide ((sz : Int) ≤ 8), decide ((sz : Int) ≤ 100)]) (SqL.of g12) (SqL.of upd_same) ⟨_, rfl, ?_⟩
                have eI : decide (V.int (sz : Int) = V.int 1) = decide ((sz : Int) = 1) := by simp
                rw [eck, eI]
                have sE : Same Hk (upd (upd H12 t1 (.tup [.str "oldest", .str "newest", .str "strict"])) t2 (.lst [V.bl (decide (V.int (sz : Int) = V.int 1)), V.bl false, V.bl (isMode (V.str (S ls))), V.bl (decide ((sz : Int) ≤ 8)), V.bl (decide ((sz : Int) ≤ 100))])) := Same.upd3 (Same.upd3 s12 h_t1) h_t2
                simp only [decide_true, Bool.not_true, Bool.false_eq_true, if_false]
                rw [eI] at sE
                generalize e_HE : upd _ t2 _ = HE at sE ⊢
                have plE : PoolAt HE d := by
                  obtain ⟨x, y, h, r⟩ := plk
                  exact ⟨x, y, sE _ _ h, r⟩
                have xE : SameX d H7 HE := na.trans (xk.trans (SameX.of sE))
                refine ⟨d, 100, rfl, plE, by decide, by decide, fun r5 H13 l5 u5 x13 pl13 => ⟨_, rfl, ?_⟩⟩
                have hcap : isCap (.int (1 + r5)) = true := by
                  have h1 : (1 : Int) ≤ 1 + r5 := by omega
                  have h2 : 1 + r5 ≤ 100 := by omega
                  simp [isCap, h1, h2]
                refine ⟨_, rfl, .int, _, rfl, ?_⟩
                rw [hcap]
                simp only [Bool.true_eq_false, if_false]
                refine ⟨_, _, rfl, .str, .int, short_of rfl (by rw [S_length]; omega), fun n en _ H14 s14 => ?_, fun c => by rw [hcap] at c; cases c⟩
                cases en
                refine ⟨_, rfl, rfl, ?_⟩
                have etx : isTextOf (.str (S ls)) lettersZ = true := by
                  rw [isText_S, List.all_eq_true]
                  exact fun c hc => decide_eq_true (hlt c hc)
                have eq1 : isQueue (.str (S ls)) (1 + r5) = decide ((sz : Int) ≤ 1 + r5) := by
                  simp only [isQueue, etx, Bool.true_and, S_length, hls]
                rw [eq1]
                simp only [decide_true, Bool.true_eq_false, if_false]
                have pl14 : PoolAt H14 d := by
                  obtain ⟨x, y, h, r⟩ := pl13
                  exact ⟨x, y, s14 _ _ h, r⟩
                refine ⟨d, _, rfl, pl14, by omega, by omega, fun r6 H15 l6 u6 x15 pl15 => ⟨_, rfl, by rw [S_length]; omega, ?_⟩⟩
                refine ⟨d, 5, rfl, pl15, by decide, by decide, fun r7 H16 l7 u7 x16 pl16 => ?_⟩
                obtain ⟨k, rfl⟩ : ∃ k : Nat, r6 = k := ⟨r6.toNat, by omega⟩
                obtain ⟨j, rfl⟩ : ∃ j : Nat, r7 = j := ⟨r7.toNat, by omega⟩
                obtain ⟨c, hc1, hc2⟩ : ∃ c, atI (Str.ofString "A- 0~").cps.toList (j : Int) = some c ∧ ¬ c ∈ ltr := by
                  rcases (by omega : j = 0 ∨ j = 1 ∨ j = 2 ∨ j = 3 ∨ j = 4) with rfl | rfl | rfl | rfl | rfl
                  · exact ⟨65, by decide +kernel, by decide +kernel⟩
                  · exact ⟨45, by decide +kernel, by decide +kernel⟩
                  · exact ⟨32, by decide +kernel, by decide +kernel⟩
                  · exact ⟨48, by decide +kernel, by decide +kernel⟩
                  · exact ⟨126, by decide +kernel, by decide +kernel⟩
                refine ⟨_, _, c, rfl, rfl, by decide +kernel, hc1, S [c], rfl, ?_⟩
                have ek : ((k : Int) + 1) = ((k + 1 : Nat) : Int) := by omega
                rw [cut_to (by omega), S_append, S_length, S_length]
                refine ⟨by simp; omega, _, rfl, by rw [S_length]; omega, ?_⟩
                rw [ek, cut_from (by omega), S_append, S_length, S_length]
                refine ⟨by simp; omega, ?_⟩
                refine ⟨_, rfl, .str, short_of rfl (by rw [S_length]; simp; omega), fun H17 p17 s17 h17 e17 => ?_⟩
                have xF : SameX d H7 H17 := xE.trans (x13.trans ((SameX.of s14).trans (x15.trans (x16.trans (SameX.of s17)))))
                have bd : BadV (.str (S (ls.take k ++ [c] ++ ls.drop (k + 1)))) := checks_bad (bad_changed hc2)
                rw [show checks (.str (S (ls.take k ++ [c] ++ ls.drop (k + 1)))) = _ from bd] at e17
                refine ne_bools (ns := [false, false, false, false, false]) (ms := [false, false, false, false, false]) (SqL.of e17) (SqL.of (xF.at hd gN)) ⟨_, rfl, ?_⟩
                exact ⟨xF.seqF hd gS, xF.at hd gN⟩
          · rintro σ H6 ⟨v4, v5, v6, v7, v8, v9, v10, v11, rfl, gS, gN⟩
            walk_at "rd"
            exact q _

end Q
namespace Q
open PySem PySem.W PySem.Calls PyProof.Rows
abbrev R : OpenRow := OpenLaw.row PySem.Challenge.rw_fullqueue_k01_letters_and_queues
def loose : List PySem.Str := (["InvalidCapacity", "LETTERS", "MODES", "MOST", "QueueError", "_law_checks", "_law_draw", "_law_draws", "_law_rejected", "check_capacity", "is_capacity", "is_integer", "is_letter", "is_mode", "is_queue", "is_text_of", "is_user"] : List PySem.Str)
abbrev hk : Hook := hookM 5 exs fns
def ob (s : SharedT) : He.AlD := obsMG 5 exs fns (HandSHeadRun.getT s)
theorem ob_eq (s : SharedT) : ob s = hk.obs s.abs := obsMG_eq (HandSHeadRun.getT_eq s)
theorem run (w : World) : HandSHeadRun.RunEq R (view R.prog [20]) hk ob 20000 loose w := by
  intro os
  kernel_rfl
end Q
open PySem PySem.W PySem.Calls PyProof.Rows
theorem PySem.Challenge.cw_fullqueue_k01_letters_and_queues_holds : PySem.Challenge.rw_fullqueue_k01_letters_and_queues.Holds := by
  w_on; o_law
  refine HandSHeadRun.head_any (r := OpenLaw.row PySem.Challenge.rw_fullqueue_k01_letters_and_queues) (q := view (OpenLaw.row PySem.Challenge.rw_fullqueue_k01_letters_and_queues).prog [20]) (H := Q.hk) (ob := Q.ob) (M := 20000) (loose := Q.loose) (d := HandSHeadRun.topDef (OpenLaw.row PySem.Challenge.rw_fullqueue_k01_letters_and_queues).prog 20) (kwd := []) Q.ob_eq
    (by kernel_rfl) (fun s => by kernel_rfl) Q.run (by kernel_rfl) (by kernel_rfl) (by kernel_rfl) (by rfl) (by first | assumption | decide +kernel) (by decide +kernel) ⟨rfl, rfl, rfl, rfl, rfl, by decide +kernel⟩ ?hw ?hc
  case hw => w_witness2
  case hc =>
    refine L2.walk_ofE (l := PySem.Challenge.rw_fullqueue_k01_letters_and_queues) (n := 63) (k := 6) (x := "_law_script") (CX := L2.CX0) rfl (by decide) (by kernel_rfl) ⟨rfl, by decide, by decide⟩ ?F (fun _ _ _ _ z => z)
    intro w mg fa h Y G hmg0
    obtain ⟨K, KX, c⟩ := Y
    have hmg : mg ("law" : PySem.Str) = some (.ref fa) := by
      have e : (HandSHeadRun.topDef (OpenLaw.row PySem.Challenge.rw_fullqueue_k01_letters_and_queues).prog 20).name = ("law" : PySem.Str) := by kernel_rfl
      rw [← e]
      exact hmg0
    have T : Q.Txt K mg := Q.txt_of KX G c
    have e := hmg.symm.trans T.g_law
    cases e
    exact ⟨K, _, Q.sp_law K, KX, fun s v => T.F_law.bindsA (ps := ["_law_script"]) (fun _ _ _ _ _ _ us hl => match us, hl with | [_], _ => rfl) s [v] rfl, fun H a ns hl _ hS => ⟨a, ns, rfl, hS, hl, fun _ => rfl⟩, fun base _ _ => Q.ok_law T⟩

