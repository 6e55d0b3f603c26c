import PyProof.Rows.All
import Wide.All
import OpenK.AllK
import Wide.FinOn
import KE.KStateDown
import Lean
import HandS.ForMost
import HandS.Sort
import HandS.SortOrd
import HandS.SortRule
import HandS.SortInts
import HandS.Conv
import HandS.Codes
import HandS.Flow
import HandS.Style
import HandS.Defaults
import HandS.MakeKw
import HandS.MakeKwOnly
import HandS.Slots
import HandS.SlotsVar
import HandS.SlotsOwn
import HandS.SetKeys
import HandS.DictComp
import HandS.DictTup
import HandS.Deep
import HandS.DeepEq
import HandS.Star
import HandS.IsInst
import HandS.StrMore
import HandS.Wide
import HandS.WideMore
import HandS.Property
import HandS.TupAny
import HandS.TupSets
import HandS.Walk
import HandS.Zip
import HandS.Rev
import HandS.NoneIn
import HandS.CallLocal
import HandS.OwnIter
import HandS.ListItems
import HandS.Small
import HandS.FStr
import HandS.Remove
import HandS.GenList
import HandS.GenYield
import HandS.Head0
import HandS.Head1
import HandS.Head2
import HandS.HeadEnd
import HandS.HeadHook1
import HandS.HeadHook2
import KE.KExcSuper
import HandS.ExcInit
import HandS.ExcField
import HandS.ExcIs
import HandS.TryOnly
import PySem.Challenge.RW_askedfacts_k61_safe_orders
set_option Elab.async false
set_option linter.all false
set_option maxRecDepth 100000
set_option maxHeartbeats 2000000

local macro_rules | `(tactic| walk_at "i") => `(tactic| (first | refine L2.iteT ?_ | refine L2.iteF ?_))
local macro_rules | `(tactic| walk_at "ii") => `(tactic| (repeat (first | refine L2.iteT ?_ | refine L2.iteF ?_)))

namespace AF
/-! ### the head's facts: any test of the written part, and the defs -/
section Hook
open PySem PySem.Spec PyProof.Rows L2 He
/-- the keyword-only default x of the def at p, if it is an object -/
def kwdAt (p : Str × Option Str) (x : Str) (K : PySem.W.Frag) : Addr := match K.lookup (fAd K p) with
  | some ⟨_, _, .func fd, _⟩ => (match fd.kwdefaults with
    | .ref D => (match PySem.W.nsIn K D x with
      | some (some (.ref a)) => a
      | _ => 0)
    | _ => 0)
  | _ => 0
/-! the written part that is looked at: the globals, their defs (code, defaults), their classes (the namespace, what stands in it) -/
def dvs1 (g : Addr → Option Obj) (v : Value) : List Addr := match v with
  | .ref a => (match g a with
    | some ⟨_, _, .seq its _, _⟩ => a :: its.toList.flatMap refV
    | some ⟨_, _, .dict es _, _⟩ => a :: es.toList.flatMap fun e => refV e.val
    | _ => [a])
  | _ => []
def fnA1 (g : Addr → Option Obj) (a : Addr) : List Addr := match g a with
  | some ⟨_, _, .func fd, _⟩ => a :: (refV fd.code ++ (dvs1 g fd.defaults ++ (dvs1 g fd.kwdefaults ++ fd.closure.map (·.2))))
  | some ⟨_, _, .fields vs, _⟩ => a :: vs.toList.flatMap fun v => (refV v).flatMap fun b => match g b with
    | some ⟨_, _, .func fd, _⟩ => b :: refV fd.code
    | _ => []
  | _ => [a]
def glA1 (g : Addr → Option Obj) (a : Addr) : List Addr := match g a with
  | some ⟨_, _, .cls cd, _⟩ => a :: cd.ns :: (match g cd.ns with
    | some ⟨_, _, .dict es _, _⟩ => es.toList.flatMap fun e => (refV e.val).flatMap (fnA1 g)
    | _ => [])
  | some ⟨_, _, .func _, _⟩ => fnA1 g a
  | some ⟨_, _, .seq _ _, _⟩ => [a]
  | some ⟨_, _, .dict _ _, _⟩ => [a]
  | _ => []
def asM (g : Addr → Option Obj) : List Addr := cStatics :: mainGlobals :: (match g mainGlobals with
  | some ⟨_, _, .dict es _, _⟩ => es.toList.flatMap fun e => (refV e.val).flatMap (glA1 g)
  | _ => [])
/-- the part, worked out once: the kernel does it ahead of what leans on it -/
def frA {α : Type} : List Addr → (List Addr → α) → α
  | [], k => k []
  | a :: as, k => HandSHeadRun.frNat a fun a => frA as fun as => k (a :: as)
theorem frA_eq {α : Type} : ∀ (as : List Addr) (k : List Addr → α), frA as k = k as
  | [], _ => rfl
  | a :: as, k => by
    unfold frA
    rw [HandSHeadRun.frNat_eq, frA_eq as]
def frK {α : Type} : PySem.W.Frag → (PySem.W.Frag → α) → α
  | [], k => k []
  | (a, ⟨c, d, dt, sl⟩) :: r, k => frK r fun r => k ((a, ⟨c, d, dt, sl⟩) :: r)
theorem frK_eq {α : Type} : ∀ (K : PySem.W.Frag) (k : PySem.W.Frag → α), frK K k = k K
  | [], _ => rfl
  | (a, ⟨c, d, dt, sl⟩) :: r, k => by
    unfold frK
    rw [frK_eq r]
abbrev AlM : Type := Bool × List FnW
/-- the defs that close over __class__: the cell's place is put aside -/
def fnWc (K : PySem.W.Frag) (p : Str × Option Str) : FnW := match K.lookup (fAd K p) with
  | some ⟨_, _, .func fd, _⟩ => some (fd.name, fd.qualname, fd.params, fd.body, fd.scope, fd.globals, fd.closure.map fun z => (z.1, 0), fd.builtins)
  | _ => none
def valc (d : DefD) : FnW := some (d.name, d.qual, d.params, .stmts d.body, d.scope, mainGlobals, [("__class__", 0)], builtinsNs)
def obsM (fb : PySem.W.Frag → Bool) (fn ex : List DefD) (K : PySem.W.Frag) : AlM := (fb K && fn.all fun d => d.ok K, fn.map (fun d => fnW K d.at_) ++ ex.map (fun d => fnWc K d.at_))
def valM (fn ex : List DefD) : AlM := (true, fn.map DefD.val ++ ex.map valc)
def SaysM (fb : PySem.W.Frag → Bool) (fn ex : List DefD) (K : PySem.W.Frag) : Prop := obsM fb fn ex K = valM fn ex
def obsMG (fb : PySem.W.Frag → Bool) (fn ex : List DefD) (g : Addr → Option Obj) : AlM := frA (asM g) fun as => frK (frG g as) fun K => obsM fb fn ex K
theorem obsMG_is (fb : PySem.W.Frag → Bool) (fn ex : List DefD) (g : Addr → Option Obj) : obsMG fb fn ex g = obsM fb fn ex (frG g (asM g)) := by
  unfold obsMG
  rw [frA_eq, frK_eq]
def hookM (fb : PySem.W.Frag → Bool) (fn ex : List DefD) : PySem.W.Hook where
  α := AlM
  obs := fun s => obsMG fb fn ex s.heap.get?
  val := fun _ => valM fn ex
  says := fun _ h => ∃ K : PySem.W.Frag, K.In h ∧ SaysM fb fn ex K
  of := fun _ _ e => ⟨_, frG_in, (obsMG_is _ _ _ _).symm.trans e⟩
  keeps := fun _ _ _ ⟨K, hK, c⟩ k => ⟨K, PySem.W.Frag.In.keeps hK k, c⟩
theorem obsMG_eq {fb : PySem.W.Frag → Bool} {fn ex : List DefD} {g : Addr → Option Obj} {s : Shared} (h : ∀ a, g a = s.heap.get? a) : obsMG fb fn ex g = (hookM fb fn ex).obs s := by
  have e : g = s.heap.get? := funext h
  rw [e] <;> rfl
section
variable {fb0 : PySem.W.Frag → Bool} {fn ex : List DefD} {K : PySem.W.Frag}
theorem SaysM.fb (c : SaysM fb0 fn ex K) : fb0 K = true := (ba (show (fb0 K && fn.all fun d => d.ok K) = true from congrArg (fun z : AlM => z.1) c)).1
theorem SaysM.two (c : SaysM fb0 fn ex K) : fn.map (fun d => fnW K d.at_) = fn.map DefD.val ∧ ex.map (fun d => fnWc K d.at_) = ex.map valc :=
  List.append_inj (show fn.map (fun d => fnW K d.at_) ++ ex.map (fun d => fnWc K d.at_) = fn.map DefD.val ++ ex.map valc from congrArg (fun z : AlM => z.2) c) (by rw [List.length_map, List.length_map])
theorem SaysM.def_ (c : SaysM fb0 fn ex K) (i : Nat) {d : DefD} (h : fn[i]? = some d := by rfl) :
    ∃ fd, FunD K d.name d.qual d.params d.body d.scope (d.dvs K) (d.kws K) (fAd K d.at_) fd := by
  have c2 := (ba (show (fb0 K && fn.all fun d => d.ok K) = true from congrArg (fun z : AlM => z.1) c)).2
  have e := c.two.1
  have e2 : (fn.map fun d => fnW K d.at_)[i]? = (fn.map DefD.val)[i]? := by rw [e]
  rw [List.getElem?_map, List.getElem?_map, h] at e2
  exact DefD.funD (Option.some.inj e2) (List.all_eq_true.mp c2 d (List.mem_of_getElem? h))
theorem SaysM.defX (c : SaysM fb0 fn ex K) (i : Nat) {d : DefD} (h : ex[i]? = some d := by rfl) : fnWc K d.at_ = valc d := by
  have e2 : (ex.map fun d => fnWc K d.at_)[i]? = (ex.map valc)[i]? := by rw [c.two.2]
  rw [List.getElem?_map, List.getElem?_map, h] at e2
  exact Option.some.inj e2
end
/-! own errors: what the written part says -/
def supDB (K : PySem.W.Frag) (x qual file : Str) : Bool := match K.lookup (fAd K (x, some "__init__")) with
  | some ⟨_, _, .func fd, _⟩ => (match fd.defaults with
    | .none => true
    | _ => false) && (PySem.W.codeIn K fd.code qual && ((match fd.code with
    | .ref cda => (match K.lookup cda with
      | some ⟨_, _, .fields vs, _⟩ => (match (vs[2]? : Option Value) with
        | some (Value.str fl _) => decide (fl = file)
        | _ => false)
      | _ => false)
    | _ => false) && (match fd.closure with
    | [(_, cc)] => (match K.lookup cc with
      | some ⟨_, _, .cell (some (.ref C)), _⟩ => decide (C = ga K x)
      | _ => false)
    | _ => false)))
  | _ => false
def oexB (K : PySem.W.Frag) (C : Addr) : Bool := match K.lookup C with
  | some ⟨.type "type", _, .cls cd, sl⟩ => (match cd.mro, sl.toList with
    | .ref C' :: bm, [_, _, _, _, some (.builtin n), _] => decide (C' = C) && (decide (n = "ValueError.__new__") && (!cd.hasDel && (cd.hasDict && PySem.HandSPX.refsVE bm)))
    | _, _ => false)
  | _ => false
def supCB (K : PySem.W.Frag) (x f : Str) : Bool := oexB K (ga K x) && (eqO (PySem.W.findIn K (.ref (ga K x)) "__setattr__") (some (some (.builtin "object.__setattr__"))) && (decide (PySem.W.subIn K (.ref (ga K x)) (.type "BaseException") = some true) &&
  (decide (PySem.W.typeIn K (.ref (ga K x)) = some (.type "type")) && (PySem.W.keepIn K (.ref (ga K x)) && (eqO (PySem.W.findIn K (.ref (ga K x)) f) (some none) && ((PySem.W.clsIn K (ga K x)).isSome && (eqO (PySem.W.ks_superIn K (ga K x) (ga K x) "__init__") (some (some (.builtin "ValueError.__init__"))) &&
  (decide (PySem.W.mroIn K (ga K x) (.ref (ga K x)) = some true) && (decide (PySem.W.subIn K (.ref (ga K x)) (.type "ValueError") = some true) && (eqO (PySem.W.nsIn K cStatics "thirdparty.any") (some none) && eqO (PySem.W.nsIn K mainGlobals "super") (some none)))))))))))
def excCB (K : PySem.W.Frag) (x : Str) : Bool := eqO (PySem.W.findIn K (.ref (ga K x)) "__getattribute__") (some (some (.builtin "BaseException.__getattribute__"))) && (eqO (PySem.W.findIn K (.ref (ga K x)) "__getattr__") (some none) && (decide (PySem.W.subIn K (.ref (ga K x)) (.type "BaseException") = some true) &&
  (PySem.W.hasDictIn K (ga K x) && (eqO (PySem.W.findIn K (.ref (ga K x)) "__class__") (some (some (.builtin "object.__class__"))) && (eqO (PySem.W.specialIn K (.builtin "object.__class__") "__get__") (some (some (.builtin "getset_descriptor.__get__"))) &&
  (decide (PySem.W.takesIn K (.builtin "object.__class__") = some true) && decide (PySem.W.mroIn K (ga K x) (.type "object") = some true)))))))
def kitXB (K : PySem.W.Frag) (x y : Str) (b : Bool) : Bool := decide (PySem.W.kitOne K (.ref (ga K x)) (.ref (ga K y)) = some b)
def exmB (K : PySem.W.Frag) (x y : Str) (b : Bool) : Bool := decide (PySem.W.exmOne K (.ref (ga K x)) (.ref (ga K y)) = some b)
def nstopB (K : PySem.W.Frag) (x : Str) : Bool := decide (PySem.W.subIn K (.ref (ga K x)) (.type "StopIteration") = some false)
def initB (K : PySem.W.Frag) (x : Str) : Bool := eqO (PySem.W.findIn K (.ref (ga K x)) "__init__") (some (some (.ref (fAd K (x, some "__init__"))))) && (decide (PySem.W.typeIn K (.ref (fAd K (x, some "__init__"))) = some (.type "function")))
end Hook

/-! ### general: values, tuples of the written part, what never changes -/
section Gen
open PySem PySem.Spec PyProof.Rows L2
/-- a global of the module by its value -/
def GV (mg : Str → Option Value) (x : Str) (v : V) : Prop := ∃ u, mg x = some u ∧ RelV v u
theorem pe_gv {X : Cx} {x : Str} {v : V} {pos : Pos} (hg : Gl X x) (h : GV X.mg x v) (hd : (x == ("__debug__" : Str)) = false := by decide) : PE X (.Name x pos) (tC v) := by
  obtain ⟨u, hm, r⟩ := h
  exact pe_glob hg hm r hd
/-- a tuple: tracked, or of the written part -/
def TupAt (K : PySem.W.Frag) (H : Hp) (a : Addr) (xs : List V) : Prop := H a = some (.tup xs) ∨
  ∃ (o : Obj) (its : Array Value) (n : Nat), K.lookup a = some o ∧ o.cls = .type "tuple" ∧ o.data = .seq its n ∧ its.size ≤ sizeLine ∧ Vals xs its.toList
theorem TupAt.sq {K : PySem.W.Frag} {H : Hp} {a : Addr} {xs : List V} (h : TupAt K H a xs) : SqT K H a xs := by
  rcases h with h | h
  · exact .inl (.inl h)
  · exact .inr h
theorem TupAt.of {K : PySem.W.Frag} {H : Hp} {a : Addr} {xs : List V} (h : H a = some (.tup xs)) : TupAt K H a xs := .inl h
/-- what never changes once it stands: tuples; instances of the classes Literal, Rule, Program -/
inductive ImO (K : PySem.W.Frag) : HO → Prop where
  | tup (xs : List V) : ImO K (.tup xs)
  | own (x : Addr) : ImO K (.own x)
  | xd : ImO K (.xd [])
  | lit (a dx : Addr) (vs : List (Option V)) : ImO K (SlX.SlO a (He.ga K "Literal") dx vs)
  | rule (dx : Addr) (fs : List (Str × V)) : ImO K (.ins (He.ga K "Rule") dx fs)
  | prog (dx : Addr) (fs : List (Str × V)) : ImO K (.ins (He.ga K "Program") dx fs)
def Imm (K : PySem.W.Frag) (H H' : Hp) : Prop := ∀ a o, ImO K o → H a = some o → H' a = some o
theorem Imm.refl {K : PySem.W.Frag} (H : Hp) : Imm K H H := fun _ _ _ h => h
theorem Imm.trans {K : PySem.W.Frag} {H H1 H2 : Hp} (a : Imm K H H1) (b : Imm K H1 H2) : Imm K H H2 := fun x o i h => b x o i (a x o i h)
theorem Imm.same {K : PySem.W.Frag} {H H' : Hp} (s : Same H H') : Imm K H H' := fun a o _ h => s a o h
theorem Imm.new {K : PySem.W.Frag} {H : Hp} {p : Addr} {o : HO} (h : H p = none) : Imm K H (upd H p o) := fun a u _ e => by
  rw [upd_ne (ne_of_none e h)]
  exact e
theorem same_new {H : Hp} {p : Addr} {o : HO} (h : H p = none) : Same H (upd H p o) := fun a u e => by
  rw [upd_ne (ne_of_none e h)]
  exact e
theorem ImO.not_lst {K : PySem.W.Frag} {xs : List V} (h : ImO K (.lst xs)) : False := by cases h
theorem ImO.not_dK {K : PySem.W.Frag} {xs : List (Key × V)} (h : ImO K (.dK xs)) : False := by cases h
theorem ImO.not_dT {K : PySem.W.Frag} {xs : List (List Key × V)} (h : ImO K (.dT xs)) : False := by cases h
theorem Imm.lst {K : PySem.W.Frag} {H : Hp} {p : Addr} {o : HO} {xs : List V} (h : H p = some (.lst xs)) : Imm K H (upd H p o) := fun a u i e => by
  have n : a ≠ p := fun q => by
    rw [q, h] at e
    cases e
    exact i.not_lst
  rw [upd_ne n]
  exact e
theorem Imm.dK {K : PySem.W.Frag} {H : Hp} {p : Addr} {o : HO} {xs : List (Key × V)} (h : H p = some (.dK xs)) : Imm K H (upd H p o) := fun a u i e => by
  have n : a ≠ p := fun q => by
    rw [q, h] at e
    cases e
    exact i.not_dK
  rw [upd_ne n]
  exact e
theorem TupAt.mono {K : PySem.W.Frag} {H H' : Hp} {a : Addr} {xs : List V} (m : Imm K H H') (h : TupAt K H a xs) : TupAt K H' a xs := by
  rcases h with h | h
  · exact .inl (m _ _ (.tup _) h)
  · exact .inr h
end Gen
section SlotsFacts
open PySem PySem.Spec PyProof.Rows L2 He
def sclsB (K : PySem.W.Frag) (x : Str) : Bool := PySem.W.plainGet K (ga K x) Str.empty && (PySem.W.isClsIn K (ga K x) && (PySem.W.plainOver K (ga K x) && eqO (PySem.W.findIn K (.ref (ga K x)) "__setattr__") (some (some (.builtin "object.__setattr__")))))
theorem sclsB_ok {K : PySem.W.Frag} {x : Str} {b : Bool} (c : b = true) (e : b = sclsB K x := by rfl) : SlX.SCls K (ga K x) := by
  subst e
  obtain ⟨c1, c⟩ := ba c
  obtain ⟨c2, c⟩ := ba c
  obtain ⟨c3, c⟩ := ba c
  exact ⟨c1, c2, c3, eqO_ok c⟩
def slotB (K : PySem.W.Frag) (x f : Str) (i : Nat) : Bool := eqO (PySem.W.findIn K (.ref (ga K x)) f) (some (some (.ref (ma K (ga K x) f)))) && (eqO (PySem.W.specialIn K (.ref (ma K (ga K x) f)) "__get__") (some (some (.builtin "member_descriptor.__get__"))) &&
  (decide (PySem.W.takesIn K (.ref (ma K (ga K x) f)) = some true) && (decide (PySem.W.typeIn K (.ref (ma K (ga K x) f)) = some (.type "member_descriptor")) && decide (PySem.W.slotIn K (ma K (ga K x) f) (ga K x) = some i))))
theorem slotB_ok {K : PySem.W.Frag} {x f : Str} {i : Nat} {b : Bool} (hi : i < 1000) (c : b = true) (e : b = slotB K x f i := by rfl) : SlX.Slot1 K (ga K x) f (ma K (ga K x) f) i := by
  subst e
  obtain ⟨c1, c⟩ := ba c
  obtain ⟨c2, c⟩ := ba c
  obtain ⟨c3, c⟩ := ba c
  obtain ⟨c4, c⟩ := ba c
  exact ⟨eqO_ok c1, eqO_ok c2, of_decide_eq_true c3, of_decide_eq_true c4, of_decide_eq_true c, hi⟩
end SlotsFacts
/-! ### comprehensions whose parts leave all that stood -/
section Lc
open PySem PySem.Spec PyProof.Rows L2
variable {J : It} {n : Nat} {G : Hp → Prop} {Y : Nat → Hp → V → Hp → Prop}
theorem same_at {H0 H : Hp} {D : Addr} {o : HO} (h : H0 D = none) (s : Same H0 H) : Same H0 (upd H D o) := fun a u e => by
  rw [upd_ne (ne_of_none e h)]
  exact s a u e
theorem fm_succ {α : Type} (f : Nat → Option α) (i : Nat) : (List.range (i + 1)).filterMap f = (List.range i).filterMap f ++ (match f i with | some v => [v] | none => []) := by
  rw [List.range_succ, List.filterMap_append]
  congr 1
  cases e : f i with
  | none => simp [e]
  | some v => simp [e]
theorem fm_len {α : Type} (f : Nat → Option α) (i : Nat) : ((List.range i).filterMap f).length ≤ i := by
  have := List.length_filterMap_le f (List.range i)
  rw [List.length_range] at this
  exact this
theorem lc_fm (w : Walk J n G Y) {g : TG} {tt : TT} {te : TE} {vs : List Nat} {σ : L2.St} {H1 : Hp} {D : Addr} {Qd : Hp → Prop} (f : Nat → Option V) (hn : n ≤ sizeLine) (hD : H1 D = none) (hG : ∀ H, Same H1 H → G H)
    (hs : ∀ i x H H', i < n → Same H1 H → Y i H x H' → ∀ (Q : VK) (N : Hp → Prop), (∀ v H4, f i = some v → Same H H4 → Q v H4) → (∀ H3, f i = none → Same H H3 → N H3) →
      g x (wipe σ vs) H' fun σ2 H2 => wipe σ2 vs = wipe σ vs ∧ tt σ2 H2 fun b H3 => if b = true then te σ2 H3 Q else N H3)
    (hd : ∀ H, Same H1 H → H D = some (.lst ((List.range n).filterMap f)) → Qd H) :
    ∃ W : Nat → Nat → Hp → Prop, (∃ m, W 0 m (upd H1 D (.lst []))) ∧ ∀ i m H, W i m H →
      (J.stop i H ∧ Qd H) ∨ (J.go i H ∧ ∃ Nx : Hp → Prop, (∀ H', Nx H' → ∃ m', m' < m ∧ W (i + 1) m' H') ∧ ∀ x H', J.yld i H x H' → g x (wipe σ vs) H' fun σ2 H2 => wipe σ2 vs = wipe σ vs ∧ tt σ2 H2 fun b H3 =>
        if b = true then te σ2 H3 fun y H4 => ∃ acc, H4 D = some (.lst acc) ∧ acc.length < sizeLine ∧ Nx (upd H4 D (.lst (acc ++ [y]))) else Nx H3) := by
  refine lc_it w (fun i H => Same H1 H ∧ H D = some (.lst ((List.range i).filterMap f))) ⟨same_new hD, upd_same⟩ (fun i H _ p => hG H p.1) (fun i x H H' hi p y => ?_) (fun H p => hd H p.1 p.2)
  have hlen : ((List.range i).filterMap f).length < sizeLine := Nat.lt_of_le_of_lt (fm_len f i) (Nat.lt_of_lt_of_le hi hn)
  refine hs i x H H' hi p.1 y _ _ (fun v H4 e s => ?_) (fun H3 e s => ?_)
  · refine ⟨_, s _ _ p.2, hlen, same_at hD (p.1.trans s), ?_⟩
    rw [fm_succ, e]
    exact upd_same
  · refine ⟨p.1.trans s, ?_⟩
    rw [fm_succ, e, List.append_nil]
    exact s _ _ p.2
theorem range_fm {α β : Type} (xs : List α) (f : α → Option β) : (List.range xs.length).filterMap (fun i => xs[i]?.bind f) = xs.filterMap f := by
  induction xs with
  | nil => rfl
  | cons x r ih =>
    rw [List.length_cons, List.range_succ_eq_map, List.filterMap_cons, List.filterMap_map]
    have e : ((fun i => (x :: r)[i]?.bind f) ∘ Nat.succ) = fun i => r[i]?.bind f := rfl
    have e0 : ((x :: r)[0]?.bind f) = f x := rfl
    rw [e, ih, e0, List.filterMap_cons]
end Lc
/-! ### defs and methods by their promises -/
section Cals
open PySem PySem.Spec PyProof.Rows L2
/-- a def that may be called by its name; dvs: the defaults -/
structure Cal (P : Program) (w : World) (K : PySem.W.Frag) (mg : Str → Option Value) (base : Heap) (k : Nat) (x : Str) (sp : Sp) (dvs : List V) : Prop where
  ex : ∃ (f : Addr) (fd : FuncData) (ps : List Str) (ds : List Value), FnOk P w K mg base CX0 k f fd ps sp ∧ mg x = some (.ref f) ∧ PySem.W.keepIn K (.ref f) = true ∧ Binds K fd ps ds ∧ Vals dvs ds
/-- a method (of a class without __slots__) -/
structure Met (P : Program) (w : World) (K : PySem.W.Frag) (mg : Str → Option Value) (base : Heap) (k : Nat) (C : Addr) (m : Str) (sp : Sp) (dvs : List V) : Prop where
  ex : ∃ (f : Addr) (fd : FuncData) (ps : List Str) (ds : List Value), Cls K C ∧ Meth K C m f ∧ FnOk P w K mg base CX0 k f fd ps sp ∧ Binds K fd ps ds ∧ Vals dvs ds
/-- a class that may be made -/
structure Mak (P : Program) (w : World) (K : PySem.W.Frag) (mg : Str → Option Value) (base : Heap) (k : Nat) (x : Str) (C : Addr) (sp : Sp) (dvs : List V) : Prop where
  ex : ∃ (f : Addr) (fd : FuncData) (ps : List Str) (ds : List Value), Mk K C f ∧ FnOk P w K mg base CX0 k f fd ps sp ∧ mg x = some (.ref C) ∧ Binds K fd ps ds ∧ Vals dvs ds
variable {X : Cx} {k j : Nat} {C : Addr} {x m : Str} {sp : Sp} {dvs : List V} {p pos apos : Pos} {e o : Expr} {es : List Expr} {ta : TE} {t : TA}
theorem pe_c (c : Cal X.prog X.w X.K X.mg X.base k x sp dvs) (hr : Room j X.A) (hk : k ≤ j) (hg : Gl X x) (ha : PA X (e :: es) t)
    (hdb : (x == ("__debug__" : Str)) = false := by decide) (he : starEach (e :: es) X.env = (false, eval e X.env) :: starEach es X.env := by rfl) (hpl : (backTo pos (starEach es X.env)).any (·.1) = false := by rfl) :
    PE X (.Call (.Name x p) (e :: es) [] pos) (tCall sp dvs E0 t) := by
  obtain ⟨f, fd, ps, ds, F, hm, kp, b, d⟩ := c.ex
  exact pe_call F (hr.mono hk) hg hm kp b d pass0 ha hdb he hpl
theorem pe_mk (c : Mak X.prog X.w X.K X.mg X.base k x C sp dvs) (hr : Room j X.A) (hk : k + 1 ≤ j) (hg : Gl X x) (ha : PA X (e :: es) t)
    (hdb : (x == ("__debug__" : Str)) = false := by decide) (he : starEach (e :: es) X.env = (false, eval e X.env) :: starEach es X.env := by rfl) (hpl : (backTo pos (starEach es X.env)).any (·.1) = false := by rfl) :
    PE X (.Call (.Name x p) (e :: es) [] pos) (tMake C sp dvs E0 t) := by
  obtain ⟨f, fd, ps, ds, M, F, hm, b, d⟩ := c.ex
  exact pe_make M F (hr.mono hk) hg hm b d pass0 ha hdb he hpl
theorem pe_mt {pl : Sem Bool} (c : Met X.prog X.w X.K X.mg X.base k C m sp dvs) (hr : Room j X.A) (hk : k ≤ j) (he : PE X o ta) (ha : PA X (e :: es) t)
    (hst : starEach (e :: es) X.env = (false, eval e X.env) :: starEach es X.env := by rfl) (hpl : (backTo pos (starEach es X.env)).any (·.1) = false := by rfl)
    (ht : eval (.Call (.Attribute o m apos) (e :: es) [] pos) X.env = (do
      let ov ← eval o X.env
      standAt apos.atName
      let (f, first) ← holding [ov] (getMethod ov m pl)
      callWith pos f first (backTo pos (starEach (e :: es) X.env)) (backToKw pos (keywordEach [] X.env))) := by rfl) :
    PE X (.Call (.Attribute o m apos) (e :: es) [] pos) (tMeth C m sp dvs E0 ta t) := by
  obtain ⟨f, fd, ps, ds, hc, hm, F, b, d⟩ := c.ex
  exact pe_meth (pl := pl) he hc hm F (hr.mono hk) b d pass0 ha hst hpl ht
theorem pe_mt0 {pl : Sem Bool} (c : Met X.prog X.w X.K X.mg X.base k C m sp dvs) (hr : Room j X.A) (hk : k ≤ j) (he : PE X o ta)
    (ht : eval (.Call (.Attribute o m apos) [] [] pos) X.env = (do
      let ov ← eval o X.env
      standAt apos.atName
      let (f, first) ← holding [ov] (getMethod ov m pl)
      callWith pos f first (backTo pos (starEach [] X.env)) (backToKw pos (keywordEach [] X.env))) := by rfl) :
    PE X (.Call (.Attribute o m apos) [] [] pos) (tMeth C m sp dvs E0 ta tNil) := by
  obtain ⟨f, fd, ps, ds, hc, hm, F, b, d⟩ := c.ex
  exact pe_meth0 (pl := pl) he hc hm F (hr.mono hk) b d pass0 ht
end Cals
section
theorem range_map {α β : Type} (xs : List α) (f : α → β) {n : Nat} (hn : n = xs.length) : (List.range n).filterMap (fun i => xs[i]?.map f) = xs.map f := by
  subst hn
  have e := range_fm xs (fun x => some (f x))
  have e2 : (fun i : Nat => xs[i]?.bind fun x => some (f x)) = fun i => xs[i]?.map f := by
    funext i
    cases xs[i]? <;> rfl
  rw [e2] at e
  rw [e]
  induction xs with
  | nil => rfl
  | cons x r ih => simp
end
end AF
namespace AF
open PySem PySem.Spec PyProof.Rows L2
/-! ### an own error whose __init__ says super().__init__(text) and stores one field -/
section Sup
/-- what the written part says of such a def -/
structure SupD (K : PySem.W.Frag) (f C : Addr) (x qual : Str) (params : Arguments) (body : List Stmt) (scope : Scope) (file : Str) (fd : FuncData) : Prop where
  ex : ∃ (oc : Value) (od : Option Addr) (kV doc pm : Value) (an : Option Addr) (cda : Addr) (ct : Value) (osl : Array (Option Value)) (cc : Addr),
    fd = PySem.W.ksFn x qual params body scope .none kV doc pm an (.ref cda) ct cc ∧ K.lookup f = some ⟨oc, od, .func fd, osl⟩ ∧ PySem.W.codeIn K (.ref cda) qual = true ∧
    (∃ ccl cdd vs ccs tf, K.lookup cda = some ⟨ccl, cdd, .fields vs, ccs⟩ ∧ vs[2]? = some (.str file tf)) ∧ (∃ cl cld csl, K.lookup cc = some ⟨cl, cld, .cell (some (.ref C)), csl⟩)
theorem SupD.binds {K : PySem.W.Frag} {f C : Addr} {x qual : Str} {params : Arguments} {body : List Stmt} {scope : Scope} {file : Str} {fd : FuncData} {ps : List Str} (D : SupD K f C x qual params body scope file fd)
    (h : ∀ (kV doc pm : Value) (an : Option Addr) (cda : Addr) (ct : Value) (cc : Addr) (us : List Value), us.length = ps.length → bindArgs (PySem.W.ksFn x qual params body scope .none kV doc pm an (.ref cda) ct cc) ⟨us, []⟩ = pure (ps.zip us)) : Binds K fd ps [] := by
  obtain ⟨oc, od, kV, doc, pm, an, cda, ct, osl, cc, rfl, _⟩ := D.ex
  exact .all (h kV doc pm an cda ct cc)
/-- what it says of its class -/
structure SupC (K : PySem.W.Frag) (C : Addr) (at_ : Str) : Prop where
  T : OexC K C
  no : PySem.W.findIn K (.ref C) at_ = some none
  cls : ∃ cd, PySem.W.clsIn K C = some cd
  sup : PySem.W.ks_superIn K C C "__init__" = some (some (.builtin "ValueError.__init__"))
  sub : PySem.W.mroIn K C (.ref C) = some true
  ve : PySem.W.subIn K (.ref C) (.type "ValueError") = some true
  op : PySem.W.nsIn K cStatics "thirdparty.any" = some none
  su : PySem.W.nsIn K mainGlobals "super" = some none
/-- what the program says -/
structure SupP (P : Program) (file : Str) : Prop where
  file : ((P.main.file : Str) == file) = true
  top : (P.main.scope.names.lookup ("super" : Str)).isSome = false
structure SScope (p1 p2 : Str) (sc : Scope) : Prop where
  kind : sc.kind = .function
  co : sc.isCoroutine = false
  gen : sc.isGenerator = false
  ne : p1 ≠ p2
  l1 : sc.names.lookup p1 = some .local
  l2 : sc.names.lookup p2 = some .local
  c1 : p1 ≠ "__class__"
  nocell : ∀ y ∈ sc.names, y.2 ≠ .cell
  free : ∀ y ∈ sc.names, y.2 = .free → y.1 = "__class__"
  kc : sc.names.lookup ("__class__" : Str) = some .free
  ks : sc.names.lookup ("super" : Str) = some .globalImplicit
def cxS (CX : CXT) (P : Program) (w : World) (K : PySem.W.Frag) (mg : Str → Option Value) (base : Heap) (N : List Str) (qual : Str) (scope : Scope) (f : Addr) (cd : Value) (cc : Addr) (A : Around) (outer : List Env) (s : Shared) (H : Hp) (E : XK) : Cx where
  prog := P
  w := w
  K := K
  mg := mg
  base := base
  A := A.deeper (PySem.W.ksEnv qual scope s.heap.objs.size f cd cc)
  N := N
  s_0 := s
  H_0 := H
  env := PySem.W.ksEnv qual scope s.heap.objs.size f cd cc
  outer := outer
  stack := PySem.W.ksEnv qual scope s.heap.objs.size f cd cc :: outer
  ex := []
  calm := true
  fn := fun _ => false
  pn := []
  xe := fun e s' => wpAny (model P w) (A.deeper (PySem.W.ksEnv qual scope s.heap.objs.size f cd cc)) (leaving (PySem.W.ksEnv qual scope s.heap.objs.size f cd cc) e) (fun _ s'' => CX outer H s E e s'') (fun e' s'' => CX outer H s E e' s'') s'
theorem cxS_lookup {x : Str} {cc c : Addr} (h : ([(("__class__" : Str), cc)] : List (Str × Addr)).lookup x = some c) : x = "__class__" ∧ c = cc := by
  by_cases e : x = "__class__"
  · subst e
    have z : ([(("__class__" : Str), cc)] : List (Str × Addr)).lookup ("__class__" : Str) = some cc := rfl
    rw [z] at h
    exact ⟨rfl, (Option.some.inj h).symm⟩
  · have z : (x == ("__class__" : Str)) = false := by simpa using e
    have z2 : ([(("__class__" : Str), cc)] : List (Str × Addr)).lookup x = none := by
      simp [List.lookup, z]
    rw [z2] at h
    cases h
theorem invS {CX : CXT} {P : Program} {w : World} {K : PySem.W.Frag} {mg : Str → Option Value} {base : Heap} {p1 p2 qual : Str} {scope : Scope} {f cc : Addr} {cd : Value} {A : Around} {outer : List Env} {s : Shared} {H : Hp} {E : XK} {u1 u2 : Value} {v1 v2 : V} {h₁ : Heap} {tk : Nat} {cv : Value}
    (S : SScope p1 p2 scope) (hd : A.handled = none) (e0 : Env0 P w K mg base A outer s H) (r1 : RelV v1 u1) (r2 : RelV v2 u2) (hc : base.IsCell cc (some cv))
    (hns : h₁.Ns s.heap.objs.size fun y => ([(p1, u1), (p2, u2)] : List (Str × Value)).reverse.lookup y) (kp : ∀ b o, s.heap.get? b = some o → h₁.get? b = some o) :
    Inv (cxS CX P w K mg base [p1, p2] qual scope f cd cc A outer s H E) [] [some v1, some v2] H { s with heap := h₁, toks := tk } := by
  have noA : ∀ b : Addr, b ∉ (cxS CX P w K mg base [p1, p2] qual scope f cd cc A outer s H E).ex := fun b z => absurd (show b ∈ ([] : List Addr) from z) (by simp)
  obtain ⟨oc, hoc, hod⟩ := hc
  have hcs : s.heap.get? cc = some oc ∧ H cc = none := e0.bs _ _ hoc
  refine ⟨⟨e0.mod, S.kind, rfl, rfl, Nat.le_refl _, fun x y c h1 h2 => ?_, fun y hy => ?_, fun y c z _ => ?_, fun _ => hd, Around.frames_deeper e0.frames, .inr ⟨rfl, rfl⟩, fun b z => absurd z (noA b), e0.bs, e0.bsz, fun b _ _ => noA b,
      fun b z => absurd z (noA b), e0.funs, e0.frf⟩,
    rfl, e0.bare, Un.kept kp, ⟨_, hns, fun i y v e1 e2 e3 => ?_⟩, fun y c e => ?_, e0.hok.fresh (Nat.le_refl _), fun y c e => ?_, fun q hq => absurd (show q ∈ ([] : List (Addr × Obj)) ++ [] from hq) (by simp), e0.hok.kept kp, rfl⟩
  · exact (cxS_lookup h1).1.trans (cxS_lookup h2).1.symm
  · have hy : scope.names.lookup y = some .cell ∨ scope.names.lookup y = some .free := hy
    rcases hy with hy | hy
    · exact absurd rfl (S.nocell _ (PySem.mem_of_lookup hy))
    · have e := S.free _ (PySem.mem_of_lookup hy) rfl
      have e : y = "__class__" := e
      subst e
      exact ⟨cc, rfl⟩
  · have z : false = true := z
    cases z
  · have e1 : ([p1, p2] : List Str)[i]? = some y := e1
    have ne' : (p1 == p2) = false := by simpa using S.ne
    match i, e1, e2 with
    | 0, e1, e2 =>
      cases e1
      cases e2
      refine ⟨u1, r1, .inl ⟨S.l1, ?_⟩⟩
      show ([(p2, u2), (p1, u1)] : List (Str × Value)).lookup p1 = some u1
      simp [List.lookup, ne']
    | 1, e1, e2 =>
      cases e1
      cases e2
      refine ⟨u2, r2, .inl ⟨S.l2, ?_⟩⟩
      show ([(p2, u2), (p1, u1)] : List (Str × Value)).lookup p2 = some u2
      simp [List.lookup]
  · obtain ⟨_, rfl⟩ := cxS_lookup e
    exact ⟨_, oc, kp _ _ hcs.1, hod⟩
  · obtain ⟨_, rfl⟩ := cxS_lookup e
    exact hcs.2
/-- the promise: the object is made whole -/
def spX (C : Addr) (at_ : Str) : Sp := fun vs H Q _ => ∃ (a : Addr) (y : V), vs = [.ref a, y] ∧ H a = some (exo a C none) ∧ ∀ dx, H dx = none → dx ≠ a → Q .non (upd (upd H dx (exd dx [(at_, y)])) a (exo a C (some dx)))
theorem exinit_ok {CX : CXT} {P : Program} {w : World} {K : PySem.W.Frag} {mg : Str → Option Value} {base : Heap} {f C : Addr} {x qual p1 p2 at_ msg file : Str} {params : Arguments} {scope : Scope} {fd : FuncData} {q0 q1 q2 q3 q4 q5 q6 q7 q8 q9 : Pos} {j : Nat} {ar : Arg}
    (D : SupD K f C x qual params [.Expr (.Call (.Attribute (.Call (.Name "super" q0) [] [] q1) "__init__" q2) [.Constant (.str msg) j q3] [] q4) q5, .Assign [.Attribute (.Name p1 q6) at_ q7] (.Name p2 q8) q9] scope file fd)
    (S : SScope p1 p2 scope) (G : SupC K C at_) (PP : SupP P file) (hpar : (params.posonlyargs ++ params.args).head? = some ar) (har : ar.arg = p1) (hk : (p1 == ("__debug__" : Str)) = false) (hk2 : (p2 == ("__debug__" : Str)) = false) (hkc : (p1 == ("__classdict__" : Str)) = false) (hkc2 : (p2 == ("__classdict__" : Str)) = false) (hmg : ∀ base : Heap, K.In base → base.Ns mainGlobals mg → mg "super" = none) {pl : Env → Sem Bool}
    (he : ∀ env : Env, eval (.Call (.Attribute (.Call (.Name "super" q0) [] [] q1) "__init__" q2) [.Constant (.str msg) j q3] [] q4) env = (do
      let ov ← attributeBase (.Call (.Name "super" q0) [] [] q1) "__init__" env (eval (.Call (.Name "super" q0) [] [] q1) env)
      standAt q2.atName
      let (f, first) ← holding [ov] (getMethod ov "__init__" (pl env))
      callWith q4 f first (backTo q4 (starEach [.Constant (.str msg) j q3] env)) [])) :
    FnOk P w K mg base CX 1 f fd [p1, p2] (spX C at_) := by
  obtain ⟨oc, od, kV, doc, pm, an, cda, ct, osl, cc, rfl, lk, hcd, ⟨ccl, cdd, vsc, ccs, tf, lcda, hvs⟩, cl, cld, csl, lcc⟩ := D.ex
  refine ⟨fun vs H Q E h => by obtain ⟨a, y, rfl, _⟩ := h; rfl, fun A outer s H args us vs Q E hr e0 hb r hsp => ?_⟩
  obtain ⟨a, y, rfl, ha, hq⟩ := hsp
  obtain ⟨u1, u2, rfl, ra, ry⟩ : ∃ u1 u2, us = [u1, u2] ∧ RelV (.ref a) u1 ∧ RelV y u2 := by
    cases r with
    | cons r1 rr =>
      cases rr with
      | cons r2 rr2 =>
        cases rr2
        exact ⟨_, _, rfl, r1, r2⟩
  obtain rfl : u1 = Value.ref a := ra
  have KX : K.In s.heap := e0.mod.kin.keeps fun b o e => (e0.bs b o e).1
  have lim : s.heap.NoLimit := e0.mod.nolimit.keeps fun b o e => (e0.bs b o e).1
  refine PySem.ks_codeAny_call_defAt (fd := PySem.W.ksFn x qual params _ scope .none kV doc pm an (.ref cda) ct cc) (binds := [(p1, .ref a), (p2, u2)]) hr.depth (KX _ _ lk) rfl lim (PySem.W.codeRec_of KX hcd) rfl hb S.nocell (fun z hz => ?_) (fun h₁ hns kp => ?_) S.co S.gen S.kind
  · simp only [List.mem_cons, List.not_mem_nil, or_false] at hz
    rcases hz with rfl | rfl
    · exact S.l1
    · exact S.l2
  have hcell : base.IsCell cc (some (.ref C)) := ⟨_, e0.mod.kin _ _ lcc, rfl⟩
  have I := invS (CX := CX) (qual := qual) (f := f) (cd := .ref cda) (E := E) (tk := s.toks + 2) S hr.hd e0 (show RelV (.ref a) (Value.ref a) from rfl) ry hcell hns kp
  have Kb : ∀ h' : Heap, (∀ b o, h₁.get? b = some o → h'.get? b = some o) → K.In h' := fun h' k => fun b o e => k b o (kp b o (KX b o e))
  obtain ⟨mb, hb1, hb2⟩ := e0.mod.blt
  have bk : ∀ b o, base.get? b = some o → h₁.get? b = some o := fun b o e => kp b o (e0.bs b o e).1
  have hm : mg "super" = none := hmg base e0.mod.kin e0.mod.glob
  obtain ⟨cdD, hcdD⟩ := G.cls
  obtain ⟨oD, hD1, hD2⟩ : ∃ oD, h₁.get? C = some oD ∧ oD.data = .cls cdD := by
    have z := hcdD
    unfold PySem.W.clsIn at z
    split at z
    · rename_i c d cd' sl ho
      cases z
      exact ⟨_, Kb h₁ (fun _ _ e => e) _ _ ho, rfl⟩
    · cases z
  obtain ⟨t1, ho⟩ := exo_at I.hok ha
  have ho : h₁.get? a = some _ := ho
  let X := cxS CX P w K mg base [p1, p2] qual scope f (.ref cda) cc A outer s H E
  have hX : X.env.scope.kind = .function := S.kind
  have hint : interactive X.env = false := by
    unfold interactive
    rw [hX]
    rfl
  show _root_.PySem.wpAt (model X.prog X.w) X.A (.func _ X.env) (execs _ X.env) _ _ _
  refine PySem.ks_wpAt_execs_cons ?_
  refine PySem.ks_wpAt_Expr_any ?_ hint rfl
  refine PySem.ks_wpAt_MethodCall (pl := pl X.env) ?_ (he X.env)
  refine PySem.ks_wpAt_super_base (env := X.env) (ar := ar) S.ks S.kc (by decide +kernel) rfl (kp _ _ (KX _ _ lk)) rfl hpar rfl (kp _ _ (KX _ _ lcda)) rfl hvs PP.file PP.top ?_
  refine PySem.W.ks_loadName_global hX S.ks (PySem.Calls.loadGlobal_builtin (e0.mod.glob.keeps bk) hm (hb1.keeps bk) ((hb2 _ (by decide)).trans (show bootBuiltins "super" = some (.type "super") from by first | boot_by_name | rfl | kernel_rfl)) ⟨rfl, ?_⟩)
  refine wpAny_loadName_free hX S.kc rfl (⟨_, bk _ _ (e0.mod.kin _ _ lcc), rfl⟩ : Heap.IsCell h₁ cc (some (.ref C))) ?_
  rw [har]
  refine wpAny_loadName_local (v := .ref a) hX S.l1 hns ?_ ?_
  · have ne' : (p1 == p2) = false := by simpa using S.ne
    simp [List.lookup, ne']
  refine PySem.ks_wpAny_isType_cls hD1 hD2 ⟨rfl, ?_⟩
  refine PySem.ks_wpAny_call_super hD1 hD2 ho rfl (fun c e => by cases e) (PySem.W.looks_mroIn (Kb h₁ fun _ _ e => e) G.sub) (fun h2 hso k2 => ?_)
  have X2 : K.In h2 := Kb h2 k2
  have IA : PySem.W.InstAt h2 a { cls := .ref C, dict := none, data := .fields #[.ref t1, .none, .none, .none, .bool false, .none] } C none := ⟨k2 _ _ ho, rfl, rfl, trivial⟩
  have hin : PySem.W.Looks (model P w) h2 (isInstance (.ref a) (.type "ValueError")) true := IA.type.andThen (PySem.W.looks_subIn X2 G.ve)
  have hsup : PySem.W.alongIn K "__init__" ((cdD.mro.dropWhile (· != .ref C)).drop 1) = some (some (.builtin "ValueError.__init__")) := by
    have z := G.sup
    unfold PySem.W.ks_superIn at z
    rw [hcdD] at z
    exact z
  have hac : a ≠ C := PySem.W.ks_ne X2 IA hcdD
  refine PySem.W.kxs_getMethod PySem.W.kxs_ValueError hso (PySem.W.looks_opaque X2 G.op) (l₀ := cdD.mro) (fun A' Q' E' s' k q => wpAny_bind ((PySem.W.looks_clsIn X2 hcdD) A' _ E' s' k (wpAny_pure q))) rfl X2 hsup hin hac (by decide +kernel) ?_
  refine PySem.W.kxs_callWith (i := "ValueError.__init__") (x := a) rfl ?_
  refine PySem.Calls.evalArgs_plain (x := eval (.Constant (.str msg) j q3) X.env) (rest := []) (PySem.Calls.spliced_cons (PySem.Calls.Constant_str (PySem.Calls.spliced_nil ⟨Heap.get?_push_size _ rfl, ?_⟩)))
  obtain ⟨nm, qn, NN, bs, bm, sn, sub, ab, col, ddd, z0, z1, z2, z3, z5, hC, hbm⟩ := G.T.cls
  have up3 : ∀ b o, h2.get? b = some o → (h2.push (PySem.W.kxs_mw "ValueError.__init__" a)).get? b = some o := fun b o e => Heap.get?_push_of_some _ e
  have hC3 := up3 _ _ (X2 _ _ hC)
  have ho3 := up3 _ _ (k2 _ _ ho)
  refine wpAny_call (codeAny_of_tree ?_)
  show wpAny _ _ (callAny (.ref h2.objs.size) ⟨[Value.str msg _], []⟩) _ _ _
  simp only [callAny]
  refine wpAny_bind (wpAny_load (Heap.get?_push_size _ rfl) ?_)
  simp only [PySem.W.kxs_mw, show (Value.type "method-wrapper" == Value.type "method" || Value.type "method-wrapper" == Value.type "builtin_function_or_method" || Value.type "method-wrapper" == Value.type "method-wrapper") = true by decide, if_true]
  refine PySem.W.KFB.if_so (by decide) ?_
  refine wpAny_bind (PySem.W.check_bound_init PySem.F.excBase_ValueError.toExcCallFacts hC3 ho3 rfl ?_)
  refine wpAny_bind (wpAny_pure (wpAny_pure ?_))
  refine ⟨plainId_quiet PySem.F.excBase_ValueError.init.plain _, codeAny_builtin PySem.F.excBase_ValueError.initEntry ?_⟩
  refine PySem.W.exc_init_tree (cls := .ref C) (t0 := t1) (dv := none) (c2 := .none) (c3 := .none) (b4 := .bool false) ho3 (by rw [sizeLine_eq]; show 1 ≤ 16777216; decide) (fun h4 k4 e4 _ => ?_)
  have eu : upd H a (exo a C none) = H := by
    funext b
    by_cases hb : b = a
    · rw [hb, upd_same, ha]
    · rw [upd_ne hb]
  have J := I.write (h' := h4) (t' := s.toks + 2 + 1 + 1) (x := a) (e := a) (o := exo a C none) (by rw [ha]; exact True.intro) (.inl rfl) (fun b o hb e => k4 b o hb (up3 _ _ (k2 _ _ e))) ⟨_, e4⟩ (exo_ok e4)
  rw [eu] at J
  refine PySem.wpAt_of_wpAny ?_
  have ht : PSs X [.Assign [.Attribute (.Name p1 q6) at_ q7] (.Name p2 q8) q9] _ := pss_one (ps_ost (X := X) (pe_var (i := 0) rfl (Or.inl S.l1) hk hkc) (pe_var (i := 1) rfl (Or.inl S.l2) hk2 hkc2))
  refine wpAny_mono (ht.run [] _ [some (.ref a), some y] H { nx := fun _ H' => Q .non H', rt := Q } J ?_) (fun fl s' hs => ?_) fun e s' hs => hs
  · refine ⟨_, rfl, _, rfl, a, C, rfl, G.T, G.no, .inl ⟨ha, hq⟩⟩
  have fin : ∀ {σ' : L2.St} {H' : Hp} {v : V} {u : Value}, Inv X [] σ' H' s' → L2.RelV v u → Q v H' → CE outer P w H s Q u s' :=
    fun {σ' H' v u} J rv q => ⟨v, H', J.os, J.bare, J.base, J.hok, rv, q⟩
  cases fl with
  | ret u =>
    obtain ⟨v, σ', H', J, rv, q⟩ := hs
    exact fin J rv q
  | next =>
    obtain ⟨σ', H', J, q⟩ := hs
    exact fin (v := V.non) (u := Value.none) J rfl q
  | brk =>
    obtain ⟨_, _, _, q⟩ := hs
    exact False.elim q
  | cont =>
    obtain ⟨_, _, _, q⟩ := hs
    exact False.elim q
end Sup
end AF
namespace AF
open PySem PySem.Spec PyProof.Rows L2
/-! ### isinstance of a caught error that has a dict; the field read; raising -/
section SupIs
theorem findObj_dataG {K : PySem.W.Frag} {C : Addr} {od : Option Obj} {name : Str} {a g : Value} (hc : (PySem.W.clsIn K C).isSome = true) (ha : PySem.W.findIn K (.ref C) name = some (some a)) (hg : PySem.W.specialIn K a "__get__" = some (some g)) (ht : PySem.W.takesIn K a = some true) :
    PySem.W.findObj K C od name = some (.bind g a) := by
  obtain ⟨cd, hc⟩ := Option.isSome_iff_exists.mp hc
  unfold PySem.W.findObj
  rw [hc, Option.bind_some, ha, Option.bind_some]
  simp [hg, ht]
open PySem.W in
theorem kin_classG {prog : Program} {w : World} {A : Around} {E : Value → Shared → Prop} {s : Shared} {K : Frag} {x D : Addr} {ox : Obj} {od : Option Obj} {Q : Option Value → Shared → Prop} (C : ExcC K D) (X : K.In s.heap) (I : InstAt s.heap x ox D od) (h : Q (some (.ref D)) { s with toks := s.toks + 1 }) :
    wpAny (model prog w) A (getAttr? (.ref x) "__class__") Q E s := by
  have hf : findObj K D od "__class__" = some (.bind (.builtin "getset_descriptor.__get__") (.builtin "object.__class__")) := findObj_dataG (by obtain ⟨cd, hc, _⟩ := any_some C.hd; rw [hc]; rfl) C.ha C.hn C.ht
  obtain ⟨hp, g, d, t, os⟩ := s
  have L0 := I.type (M := model prog w)
  have L1 := looks_findIn (M := model prog w) X C.hg
  have L2 := looks_findIn (M := model prog w) X C.hk
  have L3 := looks_find (M := model prog w) X I hf
  have sub : Looks (model prog w) hp (isInstance (.ref x) (.type "BaseException")) true := L0.andThen (looks_subIn X C.hs)
  have hx0 : (false && onTheHeap (Value.builtin "BaseException.__getattribute__")) = false := rfl
  have hx2 : (Value.builtin "BaseException.__getattribute__" == Value.builtin "object.__getattribute__") = false := by decide +kernel
  have hx1 : (onTheHeap (Value.ref D) && Value.builtin "BaseException.__getattribute__" == Value.builtin "object.__getattribute__") = false := by rw [hx2]; rfl
  unfold getAttr? getAttrBy? getAttrBy
  refine wpAny_bind (wpAny_mkText (wpAny_bind (wpAny_attempt (wpAny_holding (wpAny_bind (L0.at (wpAny_bind (L1.at ?_))))))))
  show wpAny _ _ (if (onTheHeap (Value.ref D) && Value.builtin "BaseException.__getattribute__" == Value.builtin "object.__getattribute__") = true then _ else _) _ _ _
  rw [hx1, if_neg Bool.false_ne_true]
  unfold getAttrByItsOwn hookBefore
  refine wpAny_bind ?_
  rw [if_pos (show onTheHeap (Value.ref D) = true from rfl)]
  refine L2.at ?_
  refine wpAny_bind (wpAny_attempt (wpAny_holding ?_))
  unfold callGetattribute
  rw [hx0, if_neg Bool.false_ne_true]
  unfold boundAndCalled
  rw [PySem.F.excAttr_ValueError.ga.bind (.ref x)]
  refine wpAny_bind (wpAny_pure ?_)
  show wpAny _ _ (call (.builtin "BaseException.__getattribute__") [.ref x, .str "__class__" t]) _ _ _
  refine wpAny_call (codeAny_call_builtin PySem.F.excAttr_ValueError.ga.plain PySem.F.entry_bexc_ga ?_)
  refine @check_slot (model prog w) _ _ ⟨hp, g, d, t + 1, os⟩ "BaseException.__getattribute__" "BaseException" "__getattribute__" (.ref x) [.str "__class__" t] [] _ (by decide +kernel) (by decide +kernel) sub (PySem.F.args_bexc_ga (.ref x) (.str "__class__" t)) ?_
  unfold Builtin.«object.__getattribute__»
  refine wpAny_bind (wpAny_of_eq (a := ((Value.ref x : Value), [Value.str "__class__" t])) (by first | rfl | (simp only [slotArgs]; rfl)) ?_)
  refine wpAny_bind (wpAny_pure (wpAny_bind (L0.at (wpAny_bind (L3.at ?_)))))
  show wpAny _ _ (holding [Value.builtin "object.__class__"] (call (.builtin "getset_descriptor.__get__") [.builtin "object.__class__", .ref x, .ref D]) >>= ret) _ _ _
  refine wpAny_bind (wpAny_holding (wpAny_call (class_get (s := ⟨hp, g, d, t + 1, os⟩) (ox := ox) (od := od) X I C.hm ?_)))
  refine wpAny_pure ?_
  show wpAny _ _ (handedOut (.ref D)) _ _ _
  rw [handedOut_of (v := .ref D) rfl]
  first
    | exact wpAny_pure (wpAny_pure h)
    | exact wpAny_pure h
    | exact wpAny_pure (wpAny_bind (wpAny_pure (wpAny_pure h)))
open PySem.W in
theorem kitG {K : Frag} {x D : Addr} {ox : Obj} (C : ExcC K D) : KitX K (.ref x) (.ref D) (fun h => ∃ od, InstAt h x ox D od) where
  ty := fun _ _ _ ⟨_, I⟩ => I.type
  it := fun _ _ X _ => by
    obtain ⟨cdD, hcD, _⟩ := any_some C.hd
    unfold clsIn at hcD
    split at hcD
    · rename_i c' d' cd' sl' ho
      intro A' Q' E' s' k q
      unfold isType loadHead
      exact wpAny_bind (wpAny_loadPart (k _ _ (X _ _ ho)) (wpAny_pure q))
    · cases hcD
  ne := fun h tp dd its n sl X htp => by
    obtain ⟨cdD, hcD, _⟩ := any_some C.hd
    refine Bool.eq_false_iff.mpr fun q => ?_
    have e : D = tp := Value.ref.inj (beq_iff_eq.mp q)
    subst e
    unfold clsIn at hcD
    split at hcD
    · rename_i c' d' cd' sl' ho
      have z := (X _ _ ho).symm.trans htp
      cases z
    · cases hcD
  ca := fun X ⟨_, I⟩ k => kin_classG C X I k
/-- isinstance(e, c), isinstance(e, (c1, ..)): e the error that the suite holds, with its dict -/
def rIsX (K : PySem.W.Frag) (D a : Addr) (cls : Value) (d : Option Addr) : List V → Hp → VK → Prop := fun xs H Q => cls = .ref D ∧ ∃ (y : V) (b : Bool), xs = [.ref a, y] ∧ (∃ dd fs, d = some dd ∧ H dd = some (.xd fs)) ∧
  ((∃ u, ClsV y u ∧ PySem.W.kitOne K (.ref D) u = some b) ∨ (∃ (tp : Addr) (cs : List V) (us : List Value), y = .ref tp ∧ H tp = some (.tup cs) ∧ Paired ClsV cs us ∧ PySem.W.kitAny K (.ref D) us = some b)) ∧ Q (.bl b) H
theorem call_isX {X : Cx} {a D : Addr} {oe : Obj} {cls : Value} {d : Option Addr} {pn : List (Addr × Obj)} (C : ExcC X.K D) (hz : Zc cls d oe) (hf : ∃ vs, oe.data = .fields vs) : CallR (X.suite a ((a, oe) :: pn)) (.builtin "isinstance") (rIsX X.K D a cls d) := by
  intro pins s σ H xs us Q I r h
  obtain ⟨rfl, y, b, rfl, ⟨dd, fs, ed, ea⟩, hc, q⟩ := h
  obtain ⟨u1, u2, rfl, r1, r2⟩ := vals2 r
  obtain rfl : u1 = Value.ref a := r1
  obtain ⟨hget, _⟩ := I.pin (a, oe) (List.mem_append.mpr (.inl List.mem_cons_self))
  obtain ⟨vs, hv⟩ := hf
  have hx : ObjOk X.prog X.w H s.heap dd (.xd fs) := I.hok dd _ ea
  obtain ⟨mA, hns, _⟩ := hx
  obtain ⟨od, ho, _⟩ := lookIn_ns hns
  have J : ∃ od, PySem.W.InstAt s.heap a oe D od := ⟨some od, hget, hz.1, by unfold PySem.W.notCls; rw [hv] <;> rfl, by rw [hz.2, ed]; exact ho⟩
  rcases hc with ⟨u, k, e⟩ | ⟨tp, cs, ws, ey, hT, k, e⟩
  · have e2 := k.eq r2
    subst e2
    exact PySem.W.kia_one (kitG C) I.kIn J e (fun z => nomatch z) fun tk => ⟨.bl b, H, I.tok tk, rfl, q⟩
  · subst ey
    obtain rfl : u2 = Value.ref tp := r2
    obtain ⟨_, its, rv, o, h1, h2, n, h3⟩ := (show ObjOk X.prog X.w H s.heap tp (.tup cs) from I.hok tp _ hT)
    have e3 := ClsV.all k rv
    subst e3
    obtain ⟨oc, od, dt, sl⟩ := o
    simp only at h2 h3
    subst h2 h3
    exact PySem.W.kia_tup (kitG C) I.kIn J h1 e (fun z => nomatch z) fun tk => ⟨.bl b, H, I.tok tk, rfl, q⟩
/-- what a call lets out, whatever the slots hold -/
theorem passAll {X : Cx} {W : WX} {n : Nat} {C : Value} (tk : Takes X W) (hn : X.N.length = n) : Passes (CX X.prog X.w) X (fun cls d H' => cls = C ∧ ∀ σ : L2.St, σ.length = n → W cls d σ H') :=
  fun _ σ _ _ e s' I c => tk e s' (XE.of_call I (fun _ _ _ h => h.2 σ (I.len.trans hn)) c)
end SupIs
end AF
namespace AF
open PySem PySem.Spec PyProof.Rows L2
section
open He
theorem excCB_ok {K : PySem.W.Frag} {x : Str} {b : Bool} (c : b = true) (e : b = excCB K x := by rfl) : ExcC K (ga K x) := by
  subst e
  obtain ⟨c1, c⟩ := ba c
  obtain ⟨c2, c⟩ := ba c
  obtain ⟨c3, c⟩ := ba c
  obtain ⟨c4, c⟩ := ba c
  obtain ⟨c5, c⟩ := ba c
  obtain ⟨c6, c⟩ := ba c
  obtain ⟨c7, c⟩ := ba c
  exact ⟨eqO_ok c1, eqO_ok c2, of_decide_eq_true c3, c4, eqO_ok c5, eqO_ok c6, of_decide_eq_true c7, of_decide_eq_true c⟩
theorem ExcC.xf {K : PySem.W.Frag} {C : Addr} (h : ExcC K C) : XfC K C := ⟨h.hg, h.hk, h.hs, h.hd⟩
theorem oexB_ok {K : PySem.W.Frag} {C : Addr} (c : oexB K C = true) : ∃ nm q N bs bm sn sub ab col dd k0 k1 k2 k3 k5, K.lookup C = some (excClassObj nm q C N bs bm true sn sub ab col dd k0 k1 k2 k3 k5 "ValueError.__new__") ∧ PySem.HandSPX.refsVE bm = true := by
  unfold oexB at c
  split at c
  · rename_i dd cd sl ho
    split at c
    · rename_i C' bm k0 k1 k2 k3 n k5 hm hs
      obtain ⟨c1, d1⟩ := ba c
      obtain ⟨c2, d2⟩ := ba d1
      obtain ⟨c3, d3⟩ := ba d2
      obtain ⟨c4, d4⟩ := ba d3
      have e1 : C' = C := of_decide_eq_true c1
      have e2 : n = "ValueError.__new__" := of_decide_eq_true c2
      subst e1 e2
      obtain ⟨nm, bs, mro, ns, qn, hd, sn, sub, ab, col, del⟩ := cd
      dsimp only at hm c3 c4
      subst hm c4
      have hdel : del = false := by simpa using c3
      subst hdel
      have hsl : sl = #[k0, k1, k2, k3, some (.builtin "ValueError.__new__"), k5] := by
        obtain ⟨l⟩ := sl
        simp only at hs
        rw [hs]
      subst hsl
      exact ⟨_, _, _, _, _, _, _, _, _, _, _, _, _, _, _, ho, d4⟩
    · cases c
  · cases c
theorem supCB_ok {K : PySem.W.Frag} {x f : Str} {b : Bool} (c : b = true) (e : b = supCB K x f := by rfl) : SupC K (ga K x) f := by
  subst e
  obtain ⟨c1, c⟩ := ba c
  obtain ⟨c2, c⟩ := ba c
  obtain ⟨c3, c⟩ := ba c
  obtain ⟨c4, c⟩ := ba c
  obtain ⟨c5, c⟩ := ba c
  obtain ⟨c6, c⟩ := ba c
  obtain ⟨c7, c⟩ := ba c
  obtain ⟨c8, c⟩ := ba c
  obtain ⟨c9, c⟩ := ba c
  obtain ⟨c10, c⟩ := ba c
  obtain ⟨c11, c⟩ := ba c
  exact ⟨⟨oexB_ok c1, eqO_ok c2, of_decide_eq_true c3, of_decide_eq_true c4, c5⟩, eqO_ok c6, Option.isSome_iff_exists.mp c7, eqO_ok c8, of_decide_eq_true c9, of_decide_eq_true c10, eqO_ok c11, eqO_ok c⟩
theorem kitXB_ok {K : PySem.W.Frag} {x y : Str} {r b : Bool} (c : b = true) (e : b = kitXB K x y r := by rfl) : PySem.W.kitOne K (.ref (ga K x)) (.ref (ga K y)) = some r := by
  subst e
  exact of_decide_eq_true c
theorem exmB_ok {K : PySem.W.Frag} {x y : Str} {r b : Bool} (c : b = true) (e : b = exmB K x y r := by rfl) : PySem.W.exmOne K (.ref (ga K x)) (.ref (ga K y)) = some r := by
  subst e
  exact of_decide_eq_true c
theorem nstopB_ok {K : PySem.W.Frag} {x : Str} {b : Bool} (c : b = true) (e : b = nstopB K x := by rfl) : PySem.W.subIn K (.ref (ga K x)) (.type "StopIteration") = some false := by
  subst e
  exact of_decide_eq_true c
theorem initB_ok {K : PySem.W.Frag} {x : Str} {b : Bool} (c : b = true) (e : b = initB K x := by rfl) : PySem.W.findIn K (.ref (ga K x)) "__init__" = some (some (.ref (fAd K (x, some "__init__")))) ∧ PySem.W.typeIn K (.ref (fAd K (x, some "__init__"))) = some (.type "function") := by
  subst e
  obtain ⟨c1, c⟩ := ba c
  exact ⟨eqO_ok c1, of_decide_eq_true c⟩
theorem supD_ok {K : PySem.W.Frag} {d : DefD} {x file : Str} {b : Bool} (h : fnWc K d.at_ = valc d) (ha : d.at_ = (x, some ("__init__" : Str))) (c : b = true) (e : b = supDB K x d.qual file := by rfl) :
    ∃ fd, SupD K (fAd K (x, some "__init__")) (ga K x) d.name d.qual d.params d.body d.scope file fd := by
  subst e
  rw [ha] at h
  unfold supDB at c
  unfold fnWc at h
  cases q : K.lookup (fAd K (x, some "__init__")) with
  | none =>
    rw [q] at c
    cases c
  | some o =>
    obtain ⟨oc, od, dt, osl⟩ := o
    rw [q] at c h
    cases dt with
    | func fd =>
      obtain ⟨n1, n2, n3, n4, n5, n6, n7, n8, n9, n10, n11, n12, n13, n14, n15⟩ := fd
      have e2 : (some (n1, n2, n3, n4, n5, n6, n7.map (fun z => (z.1, 0)), n15) : FnW) = some (d.name, d.qual, d.params, FuncBody.stmts d.body, d.scope, mainGlobals, [(("__class__" : Str), (0 : Addr))], builtinsNs) := h
      simp only [Option.some.injEq, Prod.mk.injEq] at e2
      obtain ⟨h1, h2, h3, h4, h5, h6, h7, h8⟩ := e2
      subst h1 h2 h3 h4 h5 h6 h8
      obtain ⟨c0, c5⟩ := ba c
      obtain ⟨c1, c4⟩ := ba c5
      obtain ⟨c2, c3⟩ := ba c4
      clear c c4 c5
      dsimp only at c0 c1 c2 c3
      have key0 : n8 = Value.none := by
        cases n8 with
        | none => rfl
        | _ => cases c0
      subst key0
      have key1 : ∃ cda, n13 = Value.ref cda := by
        cases n13 with
        | ref a => exact ⟨a, rfl⟩
        | _ => cases c2
      obtain ⟨cda, rfl⟩ := key1
      dsimp only at c2
      have key2 : ∃ ccl cdd vs ccs tf, K.lookup cda = some ⟨ccl, cdd, .fields vs, ccs⟩ ∧ vs[2]? = some (Value.str file tf) := by
        cases q2 : K.lookup cda with
        | none =>
          rw [q2] at c2
          cases c2
        | some o2 =>
          obtain ⟨ccl, cdd, dt2, ccs⟩ := o2
          rw [q2] at c2
          cases dt2 with
          | fields vs =>
            dsimp only at c2
            cases q3 : (vs[2]? : Option Value) with
            | none =>
              rw [q3] at c2
              cases c2
            | some v =>
              rw [q3] at c2
              cases v with
              | str fl tf =>
                have ef : fl = file := of_decide_eq_true c2
                subst ef
                exact ⟨_, _, _, _, _, rfl, q3⟩
              | _ => cases c2
          | _ => cases c2
      have key3 : ∃ cc, n7 = [(("__class__" : Str), cc)] ∧ ∃ cl cld csl, K.lookup cc = some ⟨cl, cld, .cell (some (.ref (ga K x))), csl⟩ := by
        match n7, h7, c3 with
        | [], h7, c3 => cases h7
        | [(nmc, cc)], h7, c3 =>
          have en : nmc = ("__class__" : Str) := by
            simp only [List.map_cons, List.map_nil, List.cons.injEq, Prod.mk.injEq, and_true] at h7
            exact h7
          subst en
          refine ⟨cc, rfl, ?_⟩
          dsimp only at c3
          cases q2 : K.lookup cc with
          | none =>
            rw [q2] at c3
            cases c3
          | some o2 =>
            obtain ⟨cl, cld, dt2, csl⟩ := o2
            rw [q2] at c3
            cases dt2 with
            | cell v =>
              cases v with
              | none => cases c3
              | some v =>
                cases v with
                | ref C =>
                  have eC : C = ga K x := of_decide_eq_true c3
                  subst eC
                  exact ⟨_, _, _, rfl⟩
                | _ => cases c3
            | _ => cases c3
        | _ :: _ :: _, h7, c3 =>
          simp only [List.map_cons, List.cons.injEq] at h7
          exact absurd h7.2 (by simp)
      obtain ⟨cc, rfl, k3⟩ := key3
      exact ⟨_, ⟨oc, od, n9, n10, n11, n12, cda, n14, osl, cc, rfl, q, c1, key2, k3⟩⟩
    | _ => cases c
end
end AF
namespace AF
open PySem PySem.Spec PyProof.Rows L2
def top (i : Nat) : Stmt := PySem.Challenge.pw_askedfacts_k61_safe_orders.main.body.getD i (.Pass ⟨0, 0, 0, 0⟩)
abbrev s_has_only : Stmt := top 24
abbrev N_has_only : List Str := ["text", "characters", "char"]
theorem sc_has_only : FnScope N_has_only ["text", "characters"] (defScope s_has_only) := ⟨rfl, rfl, rfl, by decide +kernel, rfl, by decide +kernel, by decide +kernel⟩
def d_has_only : He.DefD := ⟨("has_only", none), "has_only", "has_only", defArgs s_has_only, defBody s_has_only, defScope s_has_only, [], []⟩
abbrev s_is_number : Stmt := top 25
abbrev N_is_number : List Str := ["text", "most_digits"]
theorem sc_is_number : FnScope N_is_number ["text", "most_digits"] (defScope s_is_number) := ⟨rfl, rfl, rfl, by decide +kernel, rfl, by decide +kernel, by decide +kernel⟩
def d_is_number : He.DefD := ⟨("is_number", none), "is_number", "is_number", defArgs s_is_number, defBody s_is_number, defScope s_is_number, [], []⟩
abbrev s_is_constant : Stmt := top 26
abbrev N_is_constant : List Str := ["value"]
theorem sc_is_constant : FnScope N_is_constant ["value"] (defScope s_is_constant) := ⟨rfl, rfl, rfl, by decide +kernel, rfl, by decide +kernel, by decide +kernel⟩
def d_is_constant : He.DefD := ⟨("is_constant", none), "is_constant", "is_constant", defArgs s_is_constant, defBody s_is_constant, defScope s_is_constant, [], []⟩
abbrev s_is_variable : Stmt := top 27
abbrev N_is_variable : List Str := ["value"]
theorem sc_is_variable : FnScope N_is_variable ["value"] (defScope s_is_variable) := ⟨rfl, rfl, rfl, by decide +kernel, rfl, by decide +kernel, by decide +kernel⟩
def d_is_variable : He.DefD := ⟨("is_variable", none), "is_variable", "is_variable", defArgs s_is_variable, defBody s_is_variable, defScope s_is_variable, [], []⟩
abbrev s_is_word : Stmt := top 28
abbrev N_is_word : List Str := ["text"]
theorem sc_is_word : FnScope N_is_word ["text"] (defScope s_is_word) := ⟨rfl, rfl, rfl, by decide +kernel, rfl, by decide +kernel, by decide +kernel⟩
def d_is_word : He.DefD := ⟨("is_word", none), "is_word", "is_word", defArgs s_is_word, defBody s_is_word, defScope s_is_word, [], []⟩
abbrev s_is_mark : Stmt := top 29
abbrev N_is_mark : List Str := ["text", "rest", "parts"]
theorem sc_is_mark : FnScope N_is_mark ["text"] (defScope s_is_mark) := ⟨rfl, rfl, rfl, by decide +kernel, rfl, by decide +kernel, by decide +kernel⟩
def d_is_mark : He.DefD := ⟨("is_mark", none), "is_mark", "is_mark", defArgs s_is_mark, defBody s_is_mark, defScope s_is_mark, [], []⟩
abbrev s_is_name : Stmt := top 30
abbrev N_is_name : List Str := ["value", "word", "marks", "mark"]
theorem sc_is_name : FnScope N_is_name ["value"] (defScope s_is_name) := ⟨rfl, rfl, rfl, by decide +kernel, rfl, by decide +kernel, by decide +kernel⟩
def d_is_name : He.DefD := ⟨("is_name", none), "is_name", "is_name", defArgs s_is_name, defBody s_is_name, defScope s_is_name, [], []⟩
abbrev s_Literal___init__ : Stmt := inClass (top 34) 1
abbrev N_Literal___init__ : List Str := ["self", "name", "terms", "negated", "term"]
theorem sc_Literal___init__ : FnScope N_Literal___init__ ["self", "name", "terms", "negated"] (defScope s_Literal___init__) := ⟨rfl, rfl, rfl, by decide +kernel, rfl, by decide +kernel, by decide +kernel⟩
def d_Literal___init__ : He.DefD := ⟨("Literal", some "__init__"), "__init__", "Literal.__init__", defArgs s_Literal___init__, defBody s_Literal___init__, defScope s_Literal___init__, [], [("negated", .bl false)]⟩
abbrev s_Literal_variables : Stmt := inClass (top 34) 6
abbrev N_Literal_variables : List Str := ["self", "found", "term"]
theorem sc_Literal_variables : FnScope N_Literal_variables ["self"] (defScope s_Literal_variables) := ⟨rfl, rfl, rfl, by decide +kernel, rfl, by decide +kernel, by decide +kernel⟩
def d_Literal_variables : He.DefD := ⟨("Literal", some "variables"), "variables", "Literal.variables", defArgs s_Literal_variables, defBody s_Literal_variables, defScope s_Literal_variables, [], []⟩
abbrev s_first_unsafe : Stmt := top 36
abbrev N_first_unsafe : List Str := ["head", "body", "known", "literal", "variable"]
theorem sc_first_unsafe : FnScope N_first_unsafe ["head", "body"] (defScope s_first_unsafe) := ⟨rfl, rfl, rfl, by decide +kernel, rfl, by decide +kernel, by decide +kernel⟩
def d_first_unsafe : He.DefD := ⟨("first_unsafe", none), "first_unsafe", "first_unsafe", defArgs s_first_unsafe, defBody s_first_unsafe, defScope s_first_unsafe, [], []⟩
abbrev s_Rule___init__ : Stmt := inClass (top 37) 0
abbrev N_Rule___init__ : List Str := ["self", "head", "body", "variable"]
theorem sc_Rule___init__ : FnScope N_Rule___init__ ["self", "head", "body"] (defScope s_Rule___init__) := ⟨rfl, rfl, rfl, by decide +kernel, rfl, by decide +kernel, by decide +kernel⟩
def d_Rule___init__ : He.DefD := ⟨("Rule", some "__init__"), "__init__", "Rule.__init__", defArgs s_Rule___init__, defBody s_Rule___init__, defScope s_Rule___init__, [.adr (He.dflAt ("Rule", some "__init__") 0)], []⟩
abbrev s_next_order : Stmt := top 40
abbrev N_next_order : List Str := ["order", "last", "rest", "first"]
theorem sc_next_order : FnScope N_next_order ["order"] (defScope s_next_order) := ⟨rfl, rfl, rfl, by decide +kernel, rfl, by decide +kernel, by decide +kernel⟩
def d_next_order : He.DefD := ⟨("next_order", none), "next_order", "next_order", defArgs s_next_order, defBody s_next_order, defScope s_next_order, [], []⟩
abbrev s_safe_orders : Stmt := top 41
abbrev N_safe_orders : List Str := ["rule", "order", "at"]
theorem sc_safe_orders : GScope N_safe_orders ["rule"] (defScope s_safe_orders) := ⟨rfl, rfl, rfl, by decide +kernel, rfl, by decide +kernel, by decide +kernel⟩
def d_safe_orders : He.DefD := ⟨("safe_orders", none), "safe_orders", "safe_orders", defArgs s_safe_orders, defBody s_safe_orders, defScope s_safe_orders, [], []⟩
abbrev s__law_flow : Stmt := top 43
abbrev N__law_flow : List Str := ["_law_script", "_law_flow_here", "_law_cells", "_law_k", "_law_size", "_law_j", "_law_mixed"]
theorem sc__law_flow : FnScope N__law_flow ["_law_script"] (defScope s__law_flow) := ⟨rfl, rfl, rfl, by decide +kernel, rfl, by decide +kernel, by decide +kernel⟩
def d__law_flow : He.DefD := ⟨("_law_flow", none), "_law_flow", "_law_flow", defArgs s__law_flow, defBody s__law_flow, defScope s__law_flow, [], []⟩
abbrev s__law_draw : Stmt := top 44
abbrev N__law_draw : List Str := ["_law_flow_here", "_law_many"]
theorem sc__law_draw : FnScope N__law_draw ["_law_flow_here", "_law_many"] (defScope s__law_draw) := ⟨rfl, rfl, rfl, by decide +kernel, rfl, by decide +kernel, by decide +kernel⟩
def d__law_draw : He.DefD := ⟨("_law_draw", none), "_law_draw", "_law_draw", defArgs s__law_draw, defBody s__law_draw, defScope s__law_draw, [], []⟩
abbrev s__law_kit : Stmt := top 45
abbrev N__law_kit : List Str := ["_law_flow_here", "_law_words", "_law_front", "_law_start", "_law_step", "_law_names", "_law_mark", "_law_place", "_law_sizes", "_law_levels", "_law_pool", "_law_variables", "_law_k"]
theorem sc__law_kit : FnScope N__law_kit ["_law_flow_here"] (defScope s__law_kit) := ⟨rfl, rfl, rfl, by decide +kernel, rfl, by decide +kernel, by decide +kernel⟩
def d__law_kit : He.DefD := ⟨("_law_kit", none), "_law_kit", "_law_kit", defArgs s__law_kit, defBody s__law_kit, defScope s__law_kit, [], []⟩
abbrev s__law_term : Stmt := top 46
abbrev N__law_term : List Str := ["_law_flow_here", "_law_near", "_law_pool"]
theorem sc__law_term : FnScope N__law_term ["_law_flow_here", "_law_near", "_law_pool"] (defScope s__law_term) := ⟨rfl, rfl, rfl, by decide +kernel, rfl, by decide +kernel, by decide +kernel⟩
def d__law_term : He.DefD := ⟨("_law_term", none), "_law_term", "_law_term", defArgs s__law_term, defBody s__law_term, defScope s__law_term, [], []⟩
abbrev s__law_long_rule : Stmt := top 47
abbrev N__law_long_rule : List Str := ["_law_flow_here", "_law_kit_here", "_law_names", "_law_sizes", "_law_levels", "_law_pool", "_law_variables", "_law_body", "_law_seen", "_law_k", "_law_bar", "_law_at", "_law_near", "_law_terms", "_law_head", "_law_i", "_law_term_here"]
theorem sc__law_long_rule : FnScope N__law_long_rule ["_law_flow_here", "_law_kit_here"] (defScope s__law_long_rule) := ⟨rfl, rfl, rfl, by decide +kernel, rfl, by decide +kernel, by decide +kernel⟩
def d__law_long_rule : He.DefD := ⟨("_law_long_rule", none), "_law_long_rule", "_law_long_rule", defArgs s__law_long_rule, defBody s__law_long_rule, defScope s__law_long_rule, [], []⟩
abbrev s__law_literal : Stmt := top 48
abbrev N__law_literal : List Str := ["_law_one"]
theorem sc__law_literal : FnScope N__law_literal ["_law_one"] (defScope s__law_literal) := ⟨rfl, rfl, rfl, by decide +kernel, rfl, by decide +kernel, by decide +kernel⟩
def d__law_literal : He.DefD := ⟨("_law_literal", none), "_law_literal", "_law_literal", defArgs s__law_literal, defBody s__law_literal, defScope s__law_literal, [], []⟩
abbrev s__law_is_safe : Stmt := top 49
abbrev N__law_is_safe : List Str := ["_law_body", "_law_order", "_law_near", "_law_at", "_law_name", "_law_terms", "_law_bar", "_law_term_here"]
theorem sc__law_is_safe : FnScope N__law_is_safe ["_law_body", "_law_order"] (defScope s__law_is_safe) := ⟨rfl, rfl, rfl, by decide +kernel, rfl, by decide +kernel, by decide +kernel⟩
def d__law_is_safe : He.DefD := ⟨("_law_is_safe", none), "_law_is_safe", "_law_is_safe", defArgs s__law_is_safe, defBody s__law_is_safe, defScope s__law_is_safe, [], []⟩
abbrev s__law_orders : Stmt := top 50
abbrev N__law_orders : List Str := ["_law_body", "_law_orders_here", "_law_k", "_law_longer", "_law_order", "_law_at"]
theorem sc__law_orders : FnScope N__law_orders ["_law_body"] (defScope s__law_orders) := ⟨rfl, rfl, rfl, by decide +kernel, rfl, by decide +kernel, by decide +kernel⟩
def d__law_orders : He.DefD := ⟨("_law_orders", none), "_law_orders", "_law_orders", defArgs s__law_orders, defBody s__law_orders, defScope s__law_orders, [], []⟩
abbrev s__law_is_order : Stmt := top 51
abbrev N__law_is_order : List Str := ["_law_order", "_law_at"]
theorem sc__law_is_order : FnScope N__law_is_order ["_law_order"] (defScope s__law_is_order) := ⟨rfl, rfl, rfl, by decide +kernel, rfl, by decide +kernel, by decide +kernel⟩
def d__law_is_order : He.DefD := ⟨("_law_is_order", none), "_law_is_order", "_law_is_order", defArgs s__law_is_order, defBody s__law_is_order, defScope s__law_is_order, [], []⟩
abbrev s__law_got : Stmt := top 52
abbrev N__law_got : List Str := ["_law_rule", "_law_got_here", "e"]
theorem sc__law_got : FnScope N__law_got ["_law_rule"] (defScope s__law_got) := ⟨rfl, rfl, rfl, by decide +kernel, rfl, by decide +kernel, by decide +kernel⟩
def d__law_got : He.DefD := ⟨("_law_got", none), "_law_got", "_law_got", defArgs s__law_got, defBody s__law_got, defScope s__law_got, [], []⟩
abbrev s_law : Stmt := top 53
abbrev N_law : List Str := ["_law_script", "_law_flow_here", "_law_kit_here", "_law_head", "_law_body", "_law_rule", "_law_due", "_law_k", "_law_got_here", "_law_one", "_law_order"]
theorem sc_law : FnScope N_law ["_law_script"] (defScope s_law) := ⟨rfl, rfl, rfl, by decide +kernel, rfl, by decide +kernel, by decide +kernel⟩
def d_law : He.DefD := ⟨("law", none), "law", "law", defArgs s_law, defBody s_law, defScope s_law, [], []⟩
def fnl : List He.DefD := [d_has_only, d_is_number, d_is_constant, d_is_variable, d_is_word, d_is_mark, d_is_name, d_Literal___init__, d_Literal_variables, d_first_unsafe, d_Rule___init__, d_next_order, d_safe_orders, d__law_flow, d__law_draw, d__law_kit, d__law_term, d__law_long_rule, d__law_literal, d__law_is_safe, d__law_orders, d__law_is_order, d__law_got, d_law]
abbrev pfile : Str := PySem.Challenge.pw_askedfacts_k61_safe_orders.main.file
abbrev s_TooLong___init__ : Stmt := inClass (top 17) 0
def d_TooLong___init__ : He.DefD := ⟨("TooLong", some "__init__"), "__init__", "TooLong.__init__", defArgs s_TooLong___init__, defBody s_TooLong___init__, defScope s_TooLong___init__, [], []⟩
theorem sx_TooLong___init__ : SScope "self" "length" (defScope s_TooLong___init__) := ⟨rfl, rfl, rfl, by decide +kernel, by decide +kernel, by decide +kernel, by decide +kernel, by decide +kernel, by decide +kernel, by decide +kernel, by decide +kernel⟩
def exl : List He.DefD := [d_TooLong___init__]
def fal0 : List He.Fa := [.free "all", .glo "has_only", .free "len", .str "DIGITS" "0123456789", .glo "is_number", .free "isinstance", .free "int", .free "bool", .int "MOST" 999999999999, .glo "is_constant", .free "str", .str "CAPITALS" "ABCDEFGHIJKLMNOPQRSTUVWXYZ", .str "SMALL" "abcdefghijklmnopqrstuvwxyz", .glo "is_variable", .glo "is_word", .glo "is_mark", .glo "is_name", .free "tuple", .glo "first_unsafe", .free "sorted"]
def fal1 : List He.Fa := [.glo "next_order", .int "MOST_BODY" 5, .free "range", .glo "safe_orders", .free "abs", .glo "_law_flow", .glo "_law_draw", .glo "_law_kit", .glo "_law_term", .glo "_law_long_rule", .glo "_law_literal", .free "list", .glo "_law_is_safe", .glo "_law_orders", .glo "_law_is_order", .glo "_law_got", .glo "law", .glo "FactsError", .glo "BadName", .glo "BadTerm"]
def fal2 : List He.Fa := [.glo "BadRule", .glo "Unsafe", .glo "BadText", .glo "WrongCount", .glo "RingThroughNot", .glo "BadLine", .glo "NoRule", .glo "BadOrder", .glo "BadQuestion", .glo "BadWhole", .glo "NoCall", .glo "NoRow", .glo "TooLong", .glo "BadRoom", .glo "Literal", .mkr "Literal", .meth "Literal" "__init__", .meth "Literal" "variables", .glo "Rule", .mkr "Rule"]
def fal3 : List He.Fa := [.cls "Rule", .noat "Rule" "body", .noat "Rule" "head", .meth "Rule" "__init__"]
def fal : List He.Fa := fal0 ++ fal1 ++ fal2 ++ fal3
def sbl (K : PySem.W.Frag) : List Bool := [supCB K "TooLong" "length", excCB K "TooLong", initB K "TooLong", nstopB K "TooLong", exmB K "TooLong" "TooLong" true, supDB K "TooLong" "TooLong.__init__" pfile, kitXB K "TooLong" "FactsError" true, kitXB K "TooLong" "BadName" false, kitXB K "TooLong" "BadTerm" false, kitXB K "TooLong" "BadRule" false, kitXB K "TooLong" "Unsafe" false, kitXB K "TooLong" "BadText" false, kitXB K "TooLong" "WrongCount" false, kitXB K "TooLong" "RingThroughNot" false, kitXB K "TooLong" "BadLine" false, kitXB K "TooLong" "NoRule" false, kitXB K "TooLong" "BadOrder" false, kitXB K "TooLong" "BadQuestion" false, kitXB K "TooLong" "BadWhole" false, kitXB K "TooLong" "NoCall" false, kitXB K "TooLong" "NoRow" false, kitXB K "TooLong" "TooLong" true, kitXB K "TooLong" "BadRoom" false, sclsB K "Literal", slotB K "Literal" "name" 0, slotB K "Literal" "negated" 1, slotB K "Literal" "terms" 2]
def fbA (K : PySem.W.Frag) : Bool := (fal.all fun f => f.ok K) && (sbl K).all id
/-- what the top has left: the written part, the module's names -/
structure Top (K : PySem.W.Frag) (mg : Str → Option Value) : Prop where
  says : SaysM fbA fnl exl K
  gl : ∀ (x : Str) (v : Value), PySem.W.nsIn K mainGlobals x = some (some v) → mg x = some v
  fr : ∀ (x : Str), PySem.W.nsIn K mainGlobals x = some none → mg x = none
section
variable {K : PySem.W.Frag} {mg : Str → Option Value}
theorem Top.fa (T : Top K mg) (i : Nat) {f : He.Fa} (h : fal[i]? = some f) : f.ok K = true :=
  List.all_eq_true.mp (He.ba T.says.fb).1 f (List.mem_of_getElem? h)
theorem Top.sb (T : Top K mg) (i : Nat) {b : Bool} (h : (sbl K)[i]? = some b) : b = true :=
  List.all_eq_true.mp (He.ba T.says.fb).2 b (List.mem_of_getElem? h)
theorem Top.free (T : Top K mg) {x : Str} {f : He.Fa} (i : Nat) (h : fal[i]? = some f) (e : f = .free x := by rfl) : mg x = none := by
  have c := T.fa i h
  subst e
  exact T.fr _ (He.eqO_ok c)
theorem Top.glo (T : Top K mg) {x : Str} (i : Nat) (h : fal[i]? = some (.glo x)) : mg x = some (.ref (He.ga K x)) := T.gl _ _ (He.eqO_ok (T.fa i h))
theorem Top.int (T : Top K mg) {x : Str} {z : Int} (i : Nat) (h : fal[i]? = some (.int x z)) : GV mg x (.int z) := by
  have c := T.fa i h
  have c2 : (match PySem.W.nsIn K mainGlobals x with
    | some (some (.int j _)) => decide (j = z)
    | _ => false) = true := c
  cases e : PySem.W.nsIn K mainGlobals x with
  | none => rw [e] at c2; cases c2
  | some o =>
    rw [e] at c2
    cases o with
    | none => cases c2
    | some v =>
      cases v with
      | int j t =>
        have ej : j = z := of_decide_eq_true c2
        exact ⟨_, T.gl _ _ e, t, by rw [ej]⟩
      | _ => cases c2
theorem Top.str (T : Top K mg) {x z : Str} (i : Nat) (h : fal[i]? = some (.str x z)) : GV mg x (.str z) := by
  have c := T.fa i h
  have c2 : (match PySem.W.nsIn K mainGlobals x with
    | some (some (.str j _)) => decide (j = z)
    | _ => false) = true := c
  cases e : PySem.W.nsIn K mainGlobals x with
  | none => rw [e] at c2; cases c2
  | some o =>
    rw [e] at c2
    cases o with
    | none => cases c2
    | some v =>
      cases v with
      | str j t =>
        have ej : j = z := of_decide_eq_true c2
        exact ⟨_, T.gl _ _ e, t, by rw [ej]⟩
      | _ => cases c2
theorem Top.f_all (T : Top K mg) : mg "all" = none := T.free (f := .free "all") 0 (by kernel_rfl)
theorem Top.g_has_only (T : Top K mg) : mg "has_only" = some (.ref (He.ga K "has_only")) := T.glo 1 (by kernel_rfl)
theorem Top.f_len (T : Top K mg) : mg "len" = none := T.free (f := .free "len") 2 (by kernel_rfl)
theorem Top.m_DIGITS (T : Top K mg) : GV mg "DIGITS" (.str "0123456789") := T.str 3 (by kernel_rfl)
theorem Top.g_is_number (T : Top K mg) : mg "is_number" = some (.ref (He.ga K "is_number")) := T.glo 4 (by kernel_rfl)
theorem Top.f_isinstance (T : Top K mg) : mg "isinstance" = none := T.free (f := .free "isinstance") 5 (by kernel_rfl)
theorem Top.f_int (T : Top K mg) : mg "int" = none := T.free (f := .free "int") 6 (by kernel_rfl)
theorem Top.f_bool (T : Top K mg) : mg "bool" = none := T.free (f := .free "bool") 7 (by kernel_rfl)
theorem Top.m_MOST (T : Top K mg) : GV mg "MOST" (.int 999999999999) := T.int 8 (by kernel_rfl)
theorem Top.g_is_constant (T : Top K mg) : mg "is_constant" = some (.ref (He.ga K "is_constant")) := T.glo 9 (by kernel_rfl)
theorem Top.f_str (T : Top K mg) : mg "str" = none := T.free (f := .free "str") 10 (by kernel_rfl)
theorem Top.m_CAPITALS (T : Top K mg) : GV mg "CAPITALS" (.str "ABCDEFGHIJKLMNOPQRSTUVWXYZ") := T.str 11 (by kernel_rfl)
theorem Top.m_SMALL (T : Top K mg) : GV mg "SMALL" (.str "abcdefghijklmnopqrstuvwxyz") := T.str 12 (by kernel_rfl)
theorem Top.g_is_variable (T : Top K mg) : mg "is_variable" = some (.ref (He.ga K "is_variable")) := T.glo 13 (by kernel_rfl)
theorem Top.g_is_word (T : Top K mg) : mg "is_word" = some (.ref (He.ga K "is_word")) := T.glo 14 (by kernel_rfl)
theorem Top.g_is_mark (T : Top K mg) : mg "is_mark" = some (.ref (He.ga K "is_mark")) := T.glo 15 (by kernel_rfl)
theorem Top.g_is_name (T : Top K mg) : mg "is_name" = some (.ref (He.ga K "is_name")) := T.glo 16 (by kernel_rfl)
theorem Top.f_tuple (T : Top K mg) : mg "tuple" = none := T.free (f := .free "tuple") 17 (by kernel_rfl)
theorem Top.g_first_unsafe (T : Top K mg) : mg "first_unsafe" = some (.ref (He.ga K "first_unsafe")) := T.glo 18 (by kernel_rfl)
theorem Top.f_sorted (T : Top K mg) : mg "sorted" = none := T.free (f := .free "sorted") 19 (by kernel_rfl)
theorem Top.g_next_order (T : Top K mg) : mg "next_order" = some (.ref (He.ga K "next_order")) := T.glo 20 (by kernel_rfl)
theorem Top.m_MOST_BODY (T : Top K mg) : GV mg "MOST_BODY" (.int 5) := T.int 21 (by kernel_rfl)
theorem Top.f_range (T : Top K mg) : mg "range" = none := T.free (f := .free "range") 22 (by kernel_rfl)
theorem Top.g_safe_orders (T : Top K mg) : mg "safe_orders" = some (.ref (He.ga K "safe_orders")) := T.glo 23 (by kernel_rfl)
theorem Top.f_abs (T : Top K mg) : mg "abs" = none := T.free (f := .free "abs") 24 (by kernel_rfl)
theorem Top.g__law_flow (T : Top K mg) : mg "_law_flow" = some (.ref (He.ga K "_law_flow")) := T.glo 25 (by kernel_rfl)
theorem Top.g__law_draw (T : Top K mg) : mg "_law_draw" = some (.ref (He.ga K "_law_draw")) := T.glo 26 (by kernel_rfl)
theorem Top.g__law_kit (T : Top K mg) : mg "_law_kit" = some (.ref (He.ga K "_law_kit")) := T.glo 27 (by kernel_rfl)
theorem Top.g__law_term (T : Top K mg) : mg "_law_term" = some (.ref (He.ga K "_law_term")) := T.glo 28 (by kernel_rfl)
theorem Top.g__law_long_rule (T : Top K mg) : mg "_law_long_rule" = some (.ref (He.ga K "_law_long_rule")) := T.glo 29 (by kernel_rfl)
theorem Top.g__law_literal (T : Top K mg) : mg "_law_literal" = some (.ref (He.ga K "_law_literal")) := T.glo 30 (by kernel_rfl)
theorem Top.f_list (T : Top K mg) : mg "list" = none := T.free (f := .free "list") 31 (by kernel_rfl)
theorem Top.g__law_is_safe (T : Top K mg) : mg "_law_is_safe" = some (.ref (He.ga K "_law_is_safe")) := T.glo 32 (by kernel_rfl)
theorem Top.g__law_orders (T : Top K mg) : mg "_law_orders" = some (.ref (He.ga K "_law_orders")) := T.glo 33 (by kernel_rfl)
theorem Top.g__law_is_order (T : Top K mg) : mg "_law_is_order" = some (.ref (He.ga K "_law_is_order")) := T.glo 34 (by kernel_rfl)
theorem Top.g__law_got (T : Top K mg) : mg "_law_got" = some (.ref (He.ga K "_law_got")) := T.glo 35 (by kernel_rfl)
theorem Top.g_law (T : Top K mg) : mg "law" = some (.ref (He.ga K "law")) := T.glo 36 (by kernel_rfl)
theorem Top.g_FactsError (T : Top K mg) : mg "FactsError" = some (.ref (He.ga K "FactsError")) := T.glo 37 (by kernel_rfl)
theorem Top.g_BadName (T : Top K mg) : mg "BadName" = some (.ref (He.ga K "BadName")) := T.glo 38 (by kernel_rfl)
theorem Top.g_BadTerm (T : Top K mg) : mg "BadTerm" = some (.ref (He.ga K "BadTerm")) := T.glo 39 (by kernel_rfl)
theorem Top.g_BadRule (T : Top K mg) : mg "BadRule" = some (.ref (He.ga K "BadRule")) := T.glo 40 (by kernel_rfl)
theorem Top.g_Unsafe (T : Top K mg) : mg "Unsafe" = some (.ref (He.ga K "Unsafe")) := T.glo 41 (by kernel_rfl)
theorem Top.g_BadText (T : Top K mg) : mg "BadText" = some (.ref (He.ga K "BadText")) := T.glo 42 (by kernel_rfl)
theorem Top.g_WrongCount (T : Top K mg) : mg "WrongCount" = some (.ref (He.ga K "WrongCount")) := T.glo 43 (by kernel_rfl)
theorem Top.g_RingThroughNot (T : Top K mg) : mg "RingThroughNot" = some (.ref (He.ga K "RingThroughNot")) := T.glo 44 (by kernel_rfl)
theorem Top.g_BadLine (T : Top K mg) : mg "BadLine" = some (.ref (He.ga K "BadLine")) := T.glo 45 (by kernel_rfl)
theorem Top.g_NoRule (T : Top K mg) : mg "NoRule" = some (.ref (He.ga K "NoRule")) := T.glo 46 (by kernel_rfl)
theorem Top.g_BadOrder (T : Top K mg) : mg "BadOrder" = some (.ref (He.ga K "BadOrder")) := T.glo 47 (by kernel_rfl)
theorem Top.g_BadQuestion (T : Top K mg) : mg "BadQuestion" = some (.ref (He.ga K "BadQuestion")) := T.glo 48 (by kernel_rfl)
theorem Top.g_BadWhole (T : Top K mg) : mg "BadWhole" = some (.ref (He.ga K "BadWhole")) := T.glo 49 (by kernel_rfl)
theorem Top.g_NoCall (T : Top K mg) : mg "NoCall" = some (.ref (He.ga K "NoCall")) := T.glo 50 (by kernel_rfl)
theorem Top.g_NoRow (T : Top K mg) : mg "NoRow" = some (.ref (He.ga K "NoRow")) := T.glo 51 (by kernel_rfl)
theorem Top.g_TooLong (T : Top K mg) : mg "TooLong" = some (.ref (He.ga K "TooLong")) := T.glo 52 (by kernel_rfl)
theorem Top.g_BadRoom (T : Top K mg) : mg "BadRoom" = some (.ref (He.ga K "BadRoom")) := T.glo 53 (by kernel_rfl)
theorem Top.su_TooLong (T : Top K mg) : SupC K (He.ga K "TooLong") "length" := supCB_ok (T.sb 0 (by kernel_rfl))
theorem Top.ec_TooLong (T : Top K mg) : ExcC K (He.ga K "TooLong") := excCB_ok (T.sb 1 (by kernel_rfl))
theorem Top.in_TooLong (T : Top K mg) : PySem.W.findIn K (.ref (He.ga K "TooLong")) "__init__" = some (some (.ref (He.fAd K ("TooLong", some "__init__")))) ∧ PySem.W.typeIn K (.ref (He.fAd K ("TooLong", some "__init__"))) = some (.type "function") := initB_ok (T.sb 2 (by kernel_rfl))
theorem Top.ns_TooLong (T : Top K mg) : PySem.W.subIn K (.ref (He.ga K "TooLong")) (.type "StopIteration") = some false := nstopB_ok (T.sb 3 (by kernel_rfl))
theorem Top.em_TooLong (T : Top K mg) : PySem.W.exmOne K (.ref (He.ga K "TooLong")) (.ref (He.ga K "TooLong")) = some true := exmB_ok (T.sb 4 (by kernel_rfl))
theorem Top.sd_TooLong (T : Top K mg) : ∃ fd, SupD K (He.fAd K ("TooLong", some "__init__")) (He.ga K "TooLong") "__init__" "TooLong.__init__" (defArgs s_TooLong___init__) (defBody s_TooLong___init__) (defScope s_TooLong___init__) pfile fd := supD_ok (d := d_TooLong___init__) (T.says.defX 0 (by kernel_rfl)) rfl (T.sb 5 (by kernel_rfl))
theorem Top.ki_TooLong_FactsError (T : Top K mg) : PySem.W.kitOne K (.ref (He.ga K "TooLong")) (.ref (He.ga K "FactsError")) = some true := kitXB_ok (T.sb 6 (by kernel_rfl))
theorem Top.ki_TooLong_BadName (T : Top K mg) : PySem.W.kitOne K (.ref (He.ga K "TooLong")) (.ref (He.ga K "BadName")) = some false := kitXB_ok (T.sb 7 (by kernel_rfl))
theorem Top.ki_TooLong_BadTerm (T : Top K mg) : PySem.W.kitOne K (.ref (He.ga K "TooLong")) (.ref (He.ga K "BadTerm")) = some false := kitXB_ok (T.sb 8 (by kernel_rfl))
theorem Top.ki_TooLong_BadRule (T : Top K mg) : PySem.W.kitOne K (.ref (He.ga K "TooLong")) (.ref (He.ga K "BadRule")) = some false := kitXB_ok (T.sb 9 (by kernel_rfl))
theorem Top.ki_TooLong_Unsafe (T : Top K mg) : PySem.W.kitOne K (.ref (He.ga K "TooLong")) (.ref (He.ga K "Unsafe")) = some false := kitXB_ok (T.sb 10 (by kernel_rfl))
theorem Top.ki_TooLong_BadText (T : Top K mg) : PySem.W.kitOne K (.ref (He.ga K "TooLong")) (.ref (He.ga K "BadText")) = some false := kitXB_ok (T.sb 11 (by kernel_rfl))
theorem Top.ki_TooLong_WrongCount (T : Top K mg) : PySem.W.kitOne K (.ref (He.ga K "TooLong")) (.ref (He.ga K "WrongCount")) = some false := kitXB_ok (T.sb 12 (by kernel_rfl))
theorem Top.ki_TooLong_RingThroughNot (T : Top K mg) : PySem.W.kitOne K (.ref (He.ga K "TooLong")) (.ref (He.ga K "RingThroughNot")) = some false := kitXB_ok (T.sb 13 (by kernel_rfl))
theorem Top.ki_TooLong_BadLine (T : Top K mg) : PySem.W.kitOne K (.ref (He.ga K "TooLong")) (.ref (He.ga K "BadLine")) = some false := kitXB_ok (T.sb 14 (by kernel_rfl))
theorem Top.ki_TooLong_NoRule (T : Top K mg) : PySem.W.kitOne K (.ref (He.ga K "TooLong")) (.ref (He.ga K "NoRule")) = some false := kitXB_ok (T.sb 15 (by kernel_rfl))
theorem Top.ki_TooLong_BadOrder (T : Top K mg) : PySem.W.kitOne K (.ref (He.ga K "TooLong")) (.ref (He.ga K "BadOrder")) = some false := kitXB_ok (T.sb 16 (by kernel_rfl))
theorem Top.ki_TooLong_BadQuestion (T : Top K mg) : PySem.W.kitOne K (.ref (He.ga K "TooLong")) (.ref (He.ga K "BadQuestion")) = some false := kitXB_ok (T.sb 17 (by kernel_rfl))
theorem Top.ki_TooLong_BadWhole (T : Top K mg) : PySem.W.kitOne K (.ref (He.ga K "TooLong")) (.ref (He.ga K "BadWhole")) = some false := kitXB_ok (T.sb 18 (by kernel_rfl))
theorem Top.ki_TooLong_NoCall (T : Top K mg) : PySem.W.kitOne K (.ref (He.ga K "TooLong")) (.ref (He.ga K "NoCall")) = some false := kitXB_ok (T.sb 19 (by kernel_rfl))
theorem Top.ki_TooLong_NoRow (T : Top K mg) : PySem.W.kitOne K (.ref (He.ga K "TooLong")) (.ref (He.ga K "NoRow")) = some false := kitXB_ok (T.sb 20 (by kernel_rfl))
theorem Top.ki_TooLong_TooLong (T : Top K mg) : PySem.W.kitOne K (.ref (He.ga K "TooLong")) (.ref (He.ga K "TooLong")) = some true := kitXB_ok (T.sb 21 (by kernel_rfl))
theorem Top.ki_TooLong_BadRoom (T : Top K mg) : PySem.W.kitOne K (.ref (He.ga K "TooLong")) (.ref (He.ga K "BadRoom")) = some false := kitXB_ok (T.sb 22 (by kernel_rfl))
theorem Top.g_Literal (T : Top K mg) : mg "Literal" = some (.ref (He.ga K "Literal")) := T.glo 54 (by kernel_rfl)
theorem Top.mk_Literal (T : Top K mg) : Mk K (He.ga K "Literal") (He.ma K (He.ga K "Literal") "__init__") := He.mkr_ok (T.fa 55 (by kernel_rfl))
theorem Top.sc_Literal (T : Top K mg) : SlX.SCls K (He.ga K "Literal") := sclsB_ok (T.sb 23 (by kernel_rfl))
theorem Top.sl_Literal_name (T : Top K mg) : SlX.Slot1 K (He.ga K "Literal") "name" (He.ma K (He.ga K "Literal") "name") 0 := slotB_ok (by decide) (T.sb 24 (by kernel_rfl))
theorem Top.sl_Literal_negated (T : Top K mg) : SlX.Slot1 K (He.ga K "Literal") "negated" (He.ma K (He.ga K "Literal") "negated") 1 := slotB_ok (by decide) (T.sb 25 (by kernel_rfl))
theorem Top.sl_Literal_terms (T : Top K mg) : SlX.Slot1 K (He.ga K "Literal") "terms" (He.ma K (He.ga K "Literal") "terms") 2 := slotB_ok (by decide) (T.sb 26 (by kernel_rfl))
theorem Top.me_Literal___init__ (T : Top K mg) : Meth K (He.ga K "Literal") "__init__" (He.ma K (He.ga K "Literal") "__init__") := He.meth_ok (T.fa 56 (by kernel_rfl))
theorem Top.me_Literal_variables (T : Top K mg) : Meth K (He.ga K "Literal") "variables" (He.ma K (He.ga K "Literal") "variables") := He.meth_ok (T.fa 57 (by kernel_rfl))
theorem Top.g_Rule (T : Top K mg) : mg "Rule" = some (.ref (He.ga K "Rule")) := T.glo 58 (by kernel_rfl)
theorem Top.mk_Rule (T : Top K mg) : Mk K (He.ga K "Rule") (He.ma K (He.ga K "Rule") "__init__") := He.mkr_ok (T.fa 59 (by kernel_rfl))
theorem Top.cl_Rule (T : Top K mg) : Cls K (He.ga K "Rule") := He.cls_ok (T.fa 60 (by kernel_rfl))
theorem Top.na_Rule_body (T : Top K mg) : NoAttr K (He.ga K "Rule") "body" := He.noat_ok (T.fa 61 (by kernel_rfl))
theorem Top.na_Rule_head (T : Top K mg) : NoAttr K (He.ga K "Rule") "head" := He.noat_ok (T.fa 62 (by kernel_rfl))
theorem Top.me_Rule___init__ (T : Top K mg) : Meth K (He.ga K "Rule") "__init__" (He.ma K (He.ga K "Rule") "__init__") := He.meth_ok (T.fa 63 (by kernel_rfl))
theorem fd_has_only (T : Top K mg) : ∃ fd, FunD K "has_only" "has_only" (defArgs s_has_only) (defBody s_has_only) (defScope s_has_only) (d_has_only.dvs K) (d_has_only.kws K) (He.fAd K d_has_only.at_) fd := T.says.def_ 0 (d := d_has_only) (by kernel_rfl)
theorem fd_is_number (T : Top K mg) : ∃ fd, FunD K "is_number" "is_number" (defArgs s_is_number) (defBody s_is_number) (defScope s_is_number) (d_is_number.dvs K) (d_is_number.kws K) (He.fAd K d_is_number.at_) fd := T.says.def_ 1 (d := d_is_number) (by kernel_rfl)
theorem fd_is_constant (T : Top K mg) : ∃ fd, FunD K "is_constant" "is_constant" (defArgs s_is_constant) (defBody s_is_constant) (defScope s_is_constant) (d_is_constant.dvs K) (d_is_constant.kws K) (He.fAd K d_is_constant.at_) fd := T.says.def_ 2 (d := d_is_constant) (by kernel_rfl)
theorem fd_is_variable (T : Top K mg) : ∃ fd, FunD K "is_variable" "is_variable" (defArgs s_is_variable) (defBody s_is_variable) (defScope s_is_variable) (d_is_variable.dvs K) (d_is_variable.kws K) (He.fAd K d_is_variable.at_) fd := T.says.def_ 3 (d := d_is_variable) (by kernel_rfl)
theorem fd_is_word (T : Top K mg) : ∃ fd, FunD K "is_word" "is_word" (defArgs s_is_word) (defBody s_is_word) (defScope s_is_word) (d_is_word.dvs K) (d_is_word.kws K) (He.fAd K d_is_word.at_) fd := T.says.def_ 4 (d := d_is_word) (by kernel_rfl)
theorem fd_is_mark (T : Top K mg) : ∃ fd, FunD K "is_mark" "is_mark" (defArgs s_is_mark) (defBody s_is_mark) (defScope s_is_mark) (d_is_mark.dvs K) (d_is_mark.kws K) (He.fAd K d_is_mark.at_) fd := T.says.def_ 5 (d := d_is_mark) (by kernel_rfl)
theorem fd_is_name (T : Top K mg) : ∃ fd, FunD K "is_name" "is_name" (defArgs s_is_name) (defBody s_is_name) (defScope s_is_name) (d_is_name.dvs K) (d_is_name.kws K) (He.fAd K d_is_name.at_) fd := T.says.def_ 6 (d := d_is_name) (by kernel_rfl)
theorem fd_Literal___init__ (T : Top K mg) : ∃ fd, FunD K "__init__" "Literal.__init__" (defArgs s_Literal___init__) (defBody s_Literal___init__) (defScope s_Literal___init__) (d_Literal___init__.dvs K) (d_Literal___init__.kws K) (He.fAd K d_Literal___init__.at_) fd := T.says.def_ 7 (d := d_Literal___init__) (by kernel_rfl)
theorem fd_Literal_variables (T : Top K mg) : ∃ fd, FunD K "variables" "Literal.variables" (defArgs s_Literal_variables) (defBody s_Literal_variables) (defScope s_Literal_variables) (d_Literal_variables.dvs K) (d_Literal_variables.kws K) (He.fAd K d_Literal_variables.at_) fd := T.says.def_ 8 (d := d_Literal_variables) (by kernel_rfl)
theorem fd_first_unsafe (T : Top K mg) : ∃ fd, FunD K "first_unsafe" "first_unsafe" (defArgs s_first_unsafe) (defBody s_first_unsafe) (defScope s_first_unsafe) (d_first_unsafe.dvs K) (d_first_unsafe.kws K) (He.fAd K d_first_unsafe.at_) fd := T.says.def_ 9 (d := d_first_unsafe) (by kernel_rfl)
theorem fd_Rule___init__ (T : Top K mg) : ∃ fd, FunD K "__init__" "Rule.__init__" (defArgs s_Rule___init__) (defBody s_Rule___init__) (defScope s_Rule___init__) (d_Rule___init__.dvs K) (d_Rule___init__.kws K) (He.fAd K d_Rule___init__.at_) fd := T.says.def_ 10 (d := d_Rule___init__) (by kernel_rfl)
theorem fd_next_order (T : Top K mg) : ∃ fd, FunD K "next_order" "next_order" (defArgs s_next_order) (defBody s_next_order) (defScope s_next_order) (d_next_order.dvs K) (d_next_order.kws K) (He.fAd K d_next_order.at_) fd := T.says.def_ 11 (d := d_next_order) (by kernel_rfl)
theorem fd_safe_orders (T : Top K mg) : ∃ fd, FunD K "safe_orders" "safe_orders" (defArgs s_safe_orders) (defBody s_safe_orders) (defScope s_safe_orders) (d_safe_orders.dvs K) (d_safe_orders.kws K) (He.fAd K d_safe_orders.at_) fd := T.says.def_ 12 (d := d_safe_orders) (by kernel_rfl)
theorem fd__law_flow (T : Top K mg) : ∃ fd, FunD K "_law_flow" "_law_flow" (defArgs s__law_flow) (defBody s__law_flow) (defScope s__law_flow) (d__law_flow.dvs K) (d__law_flow.kws K) (He.fAd K d__law_flow.at_) fd := T.says.def_ 13 (d := d__law_flow) (by kernel_rfl)
theorem fd__law_draw (T : Top K mg) : ∃ fd, FunD K "_law_draw" "_law_draw" (defArgs s__law_draw) (defBody s__law_draw) (defScope s__law_draw) (d__law_draw.dvs K) (d__law_draw.kws K) (He.fAd K d__law_draw.at_) fd := T.says.def_ 14 (d := d__law_draw) (by kernel_rfl)
theorem fd__law_kit (T : Top K mg) : ∃ fd, FunD K "_law_kit" "_law_kit" (defArgs s__law_kit) (defBody s__law_kit) (defScope s__law_kit) (d__law_kit.dvs K) (d__law_kit.kws K) (He.fAd K d__law_kit.at_) fd := T.says.def_ 15 (d := d__law_kit) (by kernel_rfl)
theorem fd__law_term (T : Top K mg) : ∃ fd, FunD K "_law_term" "_law_term" (defArgs s__law_term) (defBody s__law_term) (defScope s__law_term) (d__law_term.dvs K) (d__law_term.kws K) (He.fAd K d__law_term.at_) fd := T.says.def_ 16 (d := d__law_term) (by kernel_rfl)
theorem fd__law_long_rule (T : Top K mg) : ∃ fd, FunD K "_law_long_rule" "_law_long_rule" (defArgs s__law_long_rule) (defBody s__law_long_rule) (defScope s__law_long_rule) (d__law_long_rule.dvs K) (d__law_long_rule.kws K) (He.fAd K d__law_long_rule.at_) fd := T.says.def_ 17 (d := d__law_long_rule) (by kernel_rfl)
theorem fd__law_literal (T : Top K mg) : ∃ fd, FunD K "_law_literal" "_law_literal" (defArgs s__law_literal) (defBody s__law_literal) (defScope s__law_literal) (d__law_literal.dvs K) (d__law_literal.kws K) (He.fAd K d__law_literal.at_) fd := T.says.def_ 18 (d := d__law_literal) (by kernel_rfl)
theorem fd__law_is_safe (T : Top K mg) : ∃ fd, FunD K "_law_is_safe" "_law_is_safe" (defArgs s__law_is_safe) (defBody s__law_is_safe) (defScope s__law_is_safe) (d__law_is_safe.dvs K) (d__law_is_safe.kws K) (He.fAd K d__law_is_safe.at_) fd := T.says.def_ 19 (d := d__law_is_safe) (by kernel_rfl)
theorem fd__law_orders (T : Top K mg) : ∃ fd, FunD K "_law_orders" "_law_orders" (defArgs s__law_orders) (defBody s__law_orders) (defScope s__law_orders) (d__law_orders.dvs K) (d__law_orders.kws K) (He.fAd K d__law_orders.at_) fd := T.says.def_ 20 (d := d__law_orders) (by kernel_rfl)
theorem fd__law_is_order (T : Top K mg) : ∃ fd, FunD K "_law_is_order" "_law_is_order" (defArgs s__law_is_order) (defBody s__law_is_order) (defScope s__law_is_order) (d__law_is_order.dvs K) (d__law_is_order.kws K) (He.fAd K d__law_is_order.at_) fd := T.says.def_ 21 (d := d__law_is_order) (by kernel_rfl)
theorem fd__law_got (T : Top K mg) : ∃ fd, FunD K "_law_got" "_law_got" (defArgs s__law_got) (defBody s__law_got) (defScope s__law_got) (d__law_got.dvs K) (d__law_got.kws K) (He.fAd K d__law_got.at_) fd := T.says.def_ 22 (d := d__law_got) (by kernel_rfl)
theorem fd_law (T : Top K mg) : ∃ fd, FunD K "law" "law" (defArgs s_law) (defBody s_law) (defScope s_law) (d_law.dvs K) (d_law.kws K) (He.fAd K d_law.at_) fd := T.says.def_ 23 (d := d_law) (by kernel_rfl)
end
end AF

namespace AF
open PySem PySem.Spec PyProof.Rows L2
/-! ### x, *rest = a list -/
section HeadStar
def gHeadStar (K : PySem.W.Frag) (t1 t2 : TG) : TG := fun v σ H Q => ∃ a x xs, v = .ref a ∧ SqL K H a (x :: xs) ∧ ∀ p, H p = none → t1 x σ (upd H p (.lst xs)) fun σ1 H1 => t2 (.ref p) σ1 H1 Q
theorem walks_rest {prog : Program} {w : World} {A : Around} {it l : Addr} {items : Array Value} (hh : A.handled = none) (hne : l ≠ it) :
    WalksS prog w A it [it, l] [it] (fun a b => b = a) (items.size - 1) (fun i v => items[i + 1]? = some v) (fun i s => s.heap.IsListIter it l (i + 1) ∧ PlainL s.heap l items) where
  sub := by simp
  grefl := fun _ => rfl
  gtrans := fun a b c h1 h2 => h2.trans h1
  frame := fun i s h' tk st _ k => ⟨st.1.at fun o e => k it (by simp) o e, st.2.at fun o e => k l (by simp) o e⟩
  item := fun i s Q E hi st hQ => by
    have hlt : i + 1 < items.size := by omega
    refine wpAny_pyNext_list_item st.1 st.2.isList (x := items[i + 1]) (by simp [hlt]) fun h' hit hs => ?_
    refine hQ _ _ (by simp [hlt]) ⟨hit, st.2.at fun o e => (hs.2 l hne).trans e⟩ ⟨fun b o hb e => (hs.2 b (by simpa using hb)).trans e, rfl, rfl, rfl, Nat.le_refl _⟩
  done := fun s Q E st hQ => by
    refine wpAny_pyNext_list_end hh st.1 st.2.isList (by rw [Array.getElem?_eq_none]; omega) fun h' he => ?_
    exact hQ _ ⟨fun b o hb e => he b o (by simpa using hb) e, rfl, rfl, rfl, Nat.le_refl _⟩
  self := fun i s Q E st hQ => PySem.wpAny_pyIter_listiter st.1 hQ
variable {X : Cx}
theorem pg_headstar {e1 e2 : Expr} {k : Nat} {p pos : Pos} {t1 t2 : TG} (hc : X.calm = true) (h1 : PG X e1 t1) (h2 : PG X e2 t2)
    (hs : assignEach [e1, .Starred e2 p] X.env = [(false, assign e1 X.env), (true, assign e2 X.env)] := by rfl) : PG X (.Tuple [e1, .Starred e2 p] k pos) (gHeadStar X.K t1 t2) := by
  refine ⟨fun pins s σ H v u Q I r hw => ?_⟩
  obtain ⟨a, x, xs, rfl, hq, hw⟩ := hw
  obtain rfl : u = .ref a := r
  obtain ⟨its, rv, pl, hz⟩ := I.list hq
  cases rv with
  | @cons _ ux _ uxs rx rr =>
  rw [PyProof.Rows.assign_Tuple]
  refine wpAny_bind (wpAny_standAt ?_)
  unfold unpack
  rw [hs]
  refine wpAny_bind (wpAny_holding ?_)
  show wpAny _ _ (unpackItems (.ref a) 2 (some 1)) _ _ s
  unfold unpackItems
  refine wpAny_bind ?_
  unfold notIterableAtAll
  refine wpAny_bind (wpAny_specialOf pl.isList.typeIs PySem.F.slot_list_iter.lookup ?_)
  refine wpAny_pure ?_
  simp only [Bool.false_eq_true, if_false]
  refine wpAny_bind (wpAny_holding (wpAny_pyIter_list pl.isList ?_))
  have hlt : a ≠ s.heap.objs.size := Nat.ne_of_lt pl.lt
  have pl1 : PlainL (s.heap.push { cls := .type "list_iterator", data := .fields #[.ref a, .int 0 0] }) a (ux :: uxs).toArray := pl.at fun o e => Heap.get?_push_of_some _ e
  have it1 : (s.heap.push { cls := .type "list_iterator", data := .fields #[.ref a, .int 0 0] }).IsListIter s.heap.objs.size a 0 := ⟨_, Heap.get?_push_size _ rfl, rfl, rfl⟩
  refine wpAny_bind (wpAny_holding ?_)
  show wpAny _ _ (draw (.ref s.heap.objs.size) 1) _ _ _
  unfold draw
  refine wpAny_bind (wpAny_pyNext_list_item it1 pl1.isList (x := ux) (by simp) fun h1' hit1 hs1 => ?_)
  refine wpAny_bind (wpAny_holding ?_)
  show wpAny _ _ (draw (.ref s.heap.objs.size) 0) _ _ _
  unfold draw
  refine wpAny_pure ?_
  refine wpAny_pure ?_
  rw [if_neg (show ¬ [ux].length < 1 from by simp)]
  have hlt1 : a ≠ s.heap.objs.size := hlt
  have k1 : ∀ b o, s.heap.get? b = some o → h1'.get? b = some o := fun b o e => (hs1.2 b (Nat.ne_of_lt (Heap.lt_size e))).trans (Heap.get?_push_of_some _ e)
  have pl2 : PlainL h1' a (ux :: uxs).toArray := pl.at fun o e => k1 a o e
  have hl : xs.length = uxs.length := rr.length
  have hsz : h1'.objs.size = s.heap.objs.size + 1 := by
    rw [hs1.1]
    exact Heap.size_push ..
  refine wpAny_bind (wpAny_holding ?_)
  refine wpAny_collect_iter (T := "list_iterator") (.inr (.inr (.inl rfl))) (walks_rest (items := (ux :: uxs).toArray) (by rw [show X.A.in1.handled = X.A.handled from rfl]; exact I.ok.hd hc) hlt) (fun i s st => st.1.typeIs) ⟨hit1, pl2⟩ ?_ (by simp) ?_ ?_
  · intro b hb
    have hb' : b = s.heap.objs.size ∨ b = a := by simpa using hb
    show b < h1'.objs.size
    rw [hsz]
    have := pl.lt
    rcases hb' with z | z
    · rw [z]; exact Nat.lt_succ_self _
    · rw [z]; exact Nat.lt_succ_of_lt this
  · intro s' acc mv itm
    have hacc : acc.toList = uxs := by
      apply List.ext_getElem?
      intro i
      have hs0 : acc.size = uxs.length := by rw [itm.1]; simp
      by_cases hi : i < acc.size
      · have h2 := itm.2 i acc[i] (by simp [hi])
        have e1 : acc.toList[i]? = some acc[i] := by simp [hi]
        rw [e1, ← h2]
        simp
      · rw [List.getElem?_eq_none (by simpa using hi), List.getElem?_eq_none (by omega)]
    rw [hacc]
    have k2 : ∀ b o, s.heap.get? b = some o → s'.heap.get? b = some o := fun b o e => mv.heap b o (by simpa using Nat.ne_of_lt (Heap.lt_size e)) (k1 b o e)
    obtain ⟨hp, gs, dr, tk, os⟩ := s'
    obtain ⟨_, mg, md, mo, mt⟩ := mv
    dsimp only at mg md mo mt k2
    subst mg md mo
    simp only [Nat.reduceSub, Nat.sub_zero, Nat.not_lt_zero, if_false, List.take_length, List.drop_length, List.append_nil]
    have I1 : Inv X pins σ H { s with heap := hp, toks := tk } := I.kept k2
    have hf : H hp.objs.size = none := I1.hok.fresh (Nat.le_refl _)
    refine wpAny_bind (PySem.wpAny_newList ?_ ?_)
    · refine wpAny_pure ?_
      have I2 : Inv X pins σ (upd H hp.objs.size (.lst xs)) { s with heap := hp.push { cls := .type "list", data := .seq uxs.toArray }, toks := tk } :=
        I1.laid (t' := tk) (fun b o e => Heap.get?_push_of_some _ e) (Nat.le_refl _) ⟨by simp only [List.length_cons] at hz; omega, uxs, 0, rr, Heap.get?_push_size _ rfl⟩
      show wpAny _ _ (assignInOrder [assign e1 X.env, assign e2 X.env] [ux, .ref hp.objs.size]) _ _ _
      refine assignInOrder_cons (thn (h1.run pins _ σ _ x ux _ I2 rx (hw _ hf)) fun _ s2 ⟨σ1, H1, I3, q1⟩ => ?_)
      refine assignInOrder_cons (thn (h2.run pins s2 σ1 H1 (.ref hp.objs.size) (.ref hp.objs.size) _ I3 rfl q1) fun _ s3 ⟨σ2, H2, I4, q2⟩ => ?_)
      exact assignInOrder_nil ⟨σ2, H2, I4, q2⟩
    · simp only [List.length_cons] at hz
      omega
  · simp only [List.length_cons] at hz
    show (ux :: uxs).toArray.size - 1 ≤ sizeLine
    rw [List.size_toArray, List.length_cons]
    omega
end HeadStar
/-! ### a list or a tuple, walked -/
section Seq
def SqB (b : Bool) (K : PySem.W.Frag) (H : Hp) (a : Addr) (xs : List V) : Prop := match b with
  | true => SqL K H a xs
  | false => SqT K H a xs
theorem sqT_same {K : PySem.W.Frag} {H H' : Hp} {a : Addr} {xs : List V} (e : Same H H') (h : SqT K H a xs) : SqT K H' a xs := by
  rcases h with (h | ⟨o, h⟩) | h
  · exact .inl (.inl (e _ _ h))
  · exact .inl (.inr ⟨o, e _ _ h⟩)
  · exact .inr h
theorem SqB.same {b : Bool} {K : PySem.W.Frag} {H H' : Hp} {a : Addr} {xs : List V} (e : Same H H') (h : SqB b K H a xs) : SqB b K H' a xs := by
  cases b with
  | true => exact e.seq h
  | false => exact sqT_same e h
theorem SqB.or {b : Bool} {K : PySem.W.Frag} {H : Hp} {a : Addr} {xs : List V} (h : SqB b K H a xs) : SqL K H a xs ∨ SqT K H a xs := by
  cases b with
  | true => exact .inl h
  | false => exact .inr h
theorem SqB.l {K : PySem.W.Frag} {H : Hp} {a : Addr} {xs : List V} (h : H a = some (.lst xs)) : SqB true K H a xs := .inl (.inl h)
theorem SqB.t {K : PySem.W.Frag} {H : Hp} {a : Addr} {xs : List V} (h : TupAt K H a xs) : SqB false K H a xs := h.sq
def iSeq (K : PySem.W.Frag) (tl : TE) : TI := fun σ H R => tl σ H fun x H1 => ∃ a xs b, x = .ref a ∧ SqB b K H1 a xs ∧ ∀ J G, Walk J xs.length G (YAt xs) → (∀ H', SqB b K H' a xs → G H') → R J H1
variable {X : Cx} {tg : Expr}
theorem pi_seq {l : Expr} {tl : TE} (hl : PE X l tl) : PI X tg l (iSeq X.K tl) := by
  refine ⟨fun pins s σ H R I h => ?_⟩
  refine thn (hl.run pins s σ H _ I h) fun v s1 ⟨x, H1, I1, r1, a, xs, b, e, hq, q⟩ => ?_
  subst e
  cases r1
  cases b with
  | true =>
    obtain ⟨its, rv, p, hz⟩ := I1.list hq
    refine wpAny_pyIter_list p.isList ?_
    refine ⟨s1.heap.objs.size, [s1.heap.objs.size], _, _, H1, rfl, I1.kept (t' := s1.toks) fun b o e => Heap.get?_push_of_some _ e, turn_list a _, ⟨_, Heap.get?_push_size _ rfl, rfl, rfl⟩, fun b hb => ?_, q _ _ walk_list fun _ z => z⟩
    have e : b = s1.heap.objs.size := by simpa using hb
    subst e
    exact I1.fpOk (Nat.le_refl _) (I1.hok.fresh (Nat.le_refl _))
  | false =>
    obtain ⟨its, rv, p, hz⟩ := I1.tuple hq
    refine wpAny_pyIter_tuple (show s1.heap.IsTuple a its.toArray from p) ?_
    refine ⟨s1.heap.objs.size, [s1.heap.objs.size], _, _, H1, rfl, I1.kept (t' := s1.toks) fun b o e => Heap.get?_push_of_some _ e, turn_tuple a _, ⟨_, Heap.get?_push_size _ rfl, rfl, rfl⟩, fun b hb => ?_, q _ _ walk_tup fun _ z => z⟩
    have e : b = s1.heap.objs.size := by simpa using hb
    subst e
    exact I1.fpOk (Nat.le_refl _) (I1.hok.fresh (Nat.le_refl _))
end Seq
/-- a list that is tracked, or a tuple -/
def SqC (K : PySem.W.Frag) (H : Hp) (a : Addr) (xs : List V) : Prop := H a = some (.lst xs) ∨ TupAt K H a xs
theorem TupAt.same {K : PySem.W.Frag} {H H' : Hp} {a : Addr} {xs : List V} (s : Same H H') (h : TupAt K H a xs) : TupAt K H' a xs := h.mono (.same s)
theorem SqC.same {K : PySem.W.Frag} {H H' : Hp} {a : Addr} {xs : List V} (s : Same H H') (h : SqC K H a xs) : SqC K H' a xs := by
  rcases h with h | h
  · exact .inl (s _ _ h)
  · exact .inr (h.same s)
theorem SqC.b {K : PySem.W.Frag} {H : Hp} {a : Addr} {xs : List V} (h : SqC K H a xs) : ∃ b, ∀ H', Same H H' → SqB b K H' a xs := by
  rcases h with h | h
  · exact ⟨true, fun H' s => .l (s _ _ h)⟩
  · exact ⟨false, fun H' s => .t (h.same s)⟩
section Flat
theorem inV_str (x : Str) (xs : List Str) : inV (.str x) (xs.map V.str) = decide (x ∈ xs) := by
  unfold inV
  induction xs with
  | nil => rfl
  | cons y r ih =>
    rw [List.map_cons, List.any_cons, ih]
    have e : eqV (.str y) (.str x) = decide (y = x) := by
      show _ = _
      by_cases h : y = x
      · subst h; simp [eqV]
      · simp [eqV, h]
    rw [e]
    by_cases h : x = y
    · subst h; simp
    · have h' : ¬ y = x := fun q => h q.symm
      simp [h, h']
theorem flat_strs (xs : List Str) : (xs.map V.str).all flatV = true := by
  rw [List.all_map]
  exact List.all_eq_true.mpr fun _ _ => rfl
end Flat
/-! ### rules that name the written part (within a comprehension) -/
section KK
theorem callR_K {X : Cx} {f : Value} {r : PySem.W.Frag → List V → Hp → VK → Prop} (K : PySem.W.Frag) (h : X.K = K) (c : CallR X f (r X.K)) : CallR X f (r K) := h ▸ c
theorem opR_K {X : Cx} {f : Value → Value → Sem Value} {r : PySem.W.Frag → R2} (K : PySem.W.Frag) (h : X.K = K) (c : OpR X f (r X.K)) : OpR X f (r K) := h ▸ c
theorem ixR_K {X : Cx} {r : PySem.W.Frag → R2} (K : PySem.W.Frag) (h : X.K = K) (c : IxR X (r X.K)) : IxR X (r K) := h ▸ c
theorem slR_K {X : Cx} {r : PySem.W.Frag → V → Option Int → Option Int → Hp → VK → Prop} (K : PySem.W.Frag) (h : X.K = K) (c : L2.SlR X (r X.K)) : L2.SlR X (r K) := h ▸ c
theorem pe_slK {X : Cx} {e : Expr} {f : Str} {pos : Pos} {ta : TE} (K : PySem.W.Frag) (h : X.K = K) (he : PE X e ta) (hb : attributeBase e f X.env (eval e X.env) = eval e X.env := by rfl) : PE X (.Attribute e f pos) (SlX.tSl K ta f) := h ▸ SlX.pe_sl he hb
theorem pe_fldK {X : Cx} {e : Expr} {f : Str} {pos : Pos} {ta : TE} (K : PySem.W.Frag) (h : X.K = K) (he : PE X e ta) (hb : attributeBase e f X.env (eval e X.env) = eval e X.env := by rfl) : PE X (.Attribute e f pos) (tFld K ta f) := h ▸ pe_fld he hb
end KK
def rLenQ (K : PySem.W.Frag) : List V → Hp → VK → Prop := fun xs H Q => ∃ p ys, xs = [.ref p] ∧ (SqL K H p ys ∨ SqT K H p ys) ∧ Q (.int ys.length) H
end AF
namespace AF
open PySem PySem.Spec PyProof.Rows L2
/-! ### texts: cutting at a sign, stripping -/
section Texts
abbrev cds (z : Str) : List Nat := z.cps.toList
def split1 (c : Nat) : List Nat → List (List Nat)
  | [] => [[]]
  | d :: r => if d = c then [] :: split1 c r else match split1 c r with
    | p :: ps => (d :: p) :: ps
    | [] => [[d]]
theorem split1_hit {c d : Nat} (r : List Nat) (h : d = c) : split1 c (d :: r) = [] :: split1 c r := by
  show (if d = c then [] :: split1 c r else _) = _
  rw [if_pos h]
theorem split1_miss {c d : Nat} (r : List Nat) (h : ¬ d = c) : split1 c (d :: r) = match split1 c r with
    | p :: ps => (d :: p) :: ps
    | [] => [[d]] := by
  show (if d = c then [] :: split1 c r else _) = _
  rw [if_neg h]
theorem len_cds (z : Str) : z.length = (cds z).length := TL.len_tl z
theorem split1_ne (c : Nat) (l : List Nat) : split1 c l ≠ [] := by
  cases l with
  | nil => simp [split1]
  | cons d r =>
    unfold split1
    split
    · simp
    · split <;> simp
theorem pre_one (c d : Nat) (r : List Nat) : TL.pre [c] (d :: r) = decide (d = c) := by
  unfold TL.pre
  show ([d] == [c]) = decide (d = c)
  by_cases h : d = c
  · subst h; simp
  · simp [h]
theorem spl_one (c : Nat) : ∀ (l acc : List Nat), TL.spl [c] 0 acc l = match split1 c l with
    | p :: ps => (acc ++ p) :: ps
    | [] => []
  | [], acc => by simp [TL.spl, split1]
  | d :: r, acc => by
    by_cases h : d = c
    · rw [TL.spl_hit (by rw [pre_one]; simp [h])]
      have e := spl_one c r []
      show acc :: TL.spl [c] 0 [] r = _
      rw [e, split1_hit r h]
      cases q : split1 c r with
      | nil => exact absurd q (split1_ne c r)
      | cons p ps => simp
    · rw [TL.spl_miss (by rw [pre_one]; simp [h]), spl_one c r (acc ++ [d]), split1_miss r h]
      cases q : split1 c r with
      | nil => exact absurd q (split1_ne c r)
      | cons p ps => simp
theorem split_sign (z : Str) (c : Nat) (hc : c < 256) : Txt.split z ⟨#[c]⟩ = (split1 c (cds z)).map SX.S := by
  have e := SX.split_S (a := cds z) (b := [c]) (by simp) (by simpa using hc)
  rw [SX.S_tl] at e
  have e2 : SX.S [c] = (⟨#[c]⟩ : Str) := rfl
  rw [← e2, e, spl_one]
  cases q : split1 c (cds z) with
  | nil => exact absurd q (split1_ne c _)
  | cons p ps => simp
theorem split1_len (c : Nat) : ∀ (l : List Nat), (∀ p ∈ split1 c l, p.length ≤ l.length) ∧ (split1 c l).length ≤ l.length + 1
  | [] => by simp [split1]
  | d :: r => by
    have ⟨ih1, ih2⟩ := split1_len c r
    unfold split1
    split
    · refine ⟨fun p hp => ?_, by simp only [List.length_cons]; omega⟩
      rcases List.mem_cons.mp hp with rfl | hp
      · simp
      · have := ih1 p hp; simp only [List.length_cons]; omega
    · cases q : split1 c r with
      | nil => simp
      | cons p0 ps =>
        rw [q] at ih1 ih2
        refine ⟨fun p hp => ?_, by simp only [List.length_cons] at ih2 ⊢; omega⟩
        rcases List.mem_cons.mp hp with rfl | hp
        · have := ih1 p0 List.mem_cons_self; simp only [List.length_cons]; omega
        · have := ih1 p (List.mem_cons_of_mem _ hp); simp only [List.length_cons]; omega
theorem take_len_takeWhile (g : Nat → Bool) (l : List Nat) : l.drop (l.takeWhile g).length = l.dropWhile g := by
  induction l with
  | nil => rfl
  | cons c r ih =>
    simp only [List.takeWhile_cons, List.dropWhile_cons]
    split
    · simpa using ih
    · rfl
theorem lstrip_codes (z y : Str) : cds (Txt.lstripChars z y) = (cds z).dropWhile y.cps.contains := by
  show cds (Txt.stripBy y.cps.contains true false z) = _
  have hlen : z.length = (cds z).length := TL.len_tl z
  unfold Txt.stripBy stripSame stripped
  have elo : stripLo y.cps.contains true z = ((cds z).takeWhile y.cps.contains).length := rfl
  have ehi : ∀ lo, stripHi y.cps.contains false z lo = z.length := fun _ => rfl
  rw [ehi, elo]
  by_cases h : ((((cds z).takeWhile y.cps.contains).length == 0) && (z.length == z.length)) = true
  · rw [if_pos h]
    have h1 : ((cds z).takeWhile y.cps.contains).length = 0 := by simpa using h
    rw [← take_len_takeWhile, h1, List.drop_zero]
  · rw [if_neg h]
    show (Builtin.Str.strSub z _ _).cps.toList = _
    rw [StrLaws.strSub_toList, ← take_len_takeWhile, hlen, List.take_of_length_le (by rw [List.length_drop]; exact Nat.le_refl _)]
theorem lstrip_len (z y : Str) : (Txt.lstripChars z y).length ≤ z.length := by
  rw [len_cds, len_cds z, lstrip_codes, ← take_len_takeWhile, List.length_drop]
  omega
end Texts
/-! ### names -/
section Names
def hasOnly (t cs : Str) : Bool := (cds t).all fun c => decide (c ∈ cds cs)
def sSMALL : Str := "abcdefghijklmnopqrstuvwxyz"
def sCAP : Str := "ABCDEFGHIJKLMNOPQRSTUVWXYZ"
def sDIG : Str := "0123456789"
/-- the first sign -/
def at0 (t : Str) : Str := match cds t with
  | c :: _ => ⟨#[c]⟩
  | [] => ⟨#[]⟩
def in0 (t cs : Str) : Bool := match cds t with
  | c :: _ => decide (c ∈ cds cs)
  | [] => false
def tail0 (t : Str) : Str := cutS t (some 1) none
def isNum (t : Str) (m : Int) : Bool := decide (1 ≤ (t.length : Int)) && (decide ((t.length : Int) ≤ m) && (hasOnly t sDIG && (decide (t = "0") || !decide (at0 t = "0"))))
def isConst : Key → Bool
  | .inl i => decide (0 ≤ i) && decide (i ≤ 999999999999)
  | .inr _ => false
def isVar : Key → Bool
  | .inl _ => false
  | .inr t => decide (1 ≤ (t.length : Int)) && (decide ((t.length : Int) ≤ 10) && (in0 t sCAP && hasOnly (tail0 t) ((sSMALL ++ sCAP) ++ sDIG)))
def isWord (t : Str) : Bool := decide (1 ≤ (t.length : Int)) && (decide ((t.length : Int) ≤ 12) && (!decide (t = "not") && (in0 t sSMALL && hasOnly (tail0 t) (sSMALL ++ sDIG))))
def isMark (t : Str) : Bool :=
  let rest := Txt.lstripChars t "bf"
  decide (rest = "") || (decide (rest = "?") || (match (split1 47 (cds rest)).map SX.S with
    | [a, b, c] => decide (a = "") && (isNum b 4 && isNum c 4)
    | _ => false))
def isName (z : Str) : Bool := match (split1 64 (cds z)).map SX.S with
  | w :: ms => isWord w && ms.all isMark
  | [] => false
theorem cut1_len (t : Str) : (tail0 t).length ≤ t.length := by
  unfold tail0 cutS
  rw [len_cds, len_cds t]
  show (List.take _ (List.drop _ (cds t))).length ≤ _
  rw [List.length_take, List.length_drop]
  omega
end Names
end AF
namespace AF
open PySem PySem.Spec PyProof.Rows L2
/-! ### literals, rules, bindings as plain data -/
section Data
structure Lit where
  name : Str
  terms : List Key
  neg : Bool
  deriving DecidableEq
structure Rul where
  head : Lit
  body : List Lit
  deriving DecidableEq
abbrev Bnd := List (Str × Int)
abbrev Row := List Int
def bget (b : Bnd) (x : Str) : Option Int := (b.find? fun p => decide (p.1 = x)).map (·.2)
def bv (b : Bnd) : List (Key × V) := b.map fun p => (.inr p.1, .int p.2)
def rv (r : Row) : List V := r.map V.int
def addVar (found : List Str) (t : Key) : List Str := match t with
  | .inl _ => found
  | .inr x => if x ∈ found then found else found ++ [x]
def varsOf (ts : List Key) : List Str := ts.foldl addVar []
def fillT (b : Bnd) : Key → Int
  | .inl i => i
  | .inr x => (bget b x).getD 0
def fillRow (ts : List Key) (b : Bnd) : Row := ts.map (fillT b)
def fitGo : List Key → Row → Bnd → Option Bnd
  | t :: ts, v :: r, e => match t with
    | .inl c => if c = v then fitGo ts r e else none
    | .inr x => match bget e x with
      | some u => if u = v then fitGo ts r e else none
      | none => fitGo ts r (e ++ [(x, v)])
  | _, _, e => some e
def fitRow (ts : List Key) (row : Row) (b : Bnd) : Option Bnd := if row.length = ts.length then fitGo ts row b else none
theorem find_bv (b : Bnd) (x : Str) : (bv b).find? (fun kv => decide (kv.1 = (Sum.inr x : Key))) = (b.find? fun p => decide (p.1 = x)).map fun p => ((Sum.inr p.1 : Key), V.int p.2) := by
  induction b with
  | nil => rfl
  | cons p r ih =>
    show List.find? _ (((Sum.inr p.1 : Key), V.int p.2) :: bv r) = _
    rw [List.find?_cons, List.find?_cons]
    rw [key_rr]
    cases decide (p.1 = x) with
    | true => rfl
    | false => exact ih
theorem valV_bv (b : Bnd) (x : Str) : valV (bv b) (.inr x) = (bget b x).map V.int := by
  unfold valV bget
  rw [find_bv, Option.map_map, Option.map_map]
  rfl
theorem any_bv (b : Bnd) (x : Str) : ((bv b).any fun kv => decide (kv.1 = (Sum.inr x : Key))) = (bget b x).isSome := by
  unfold bget
  rw [Option.isSome_map, List.isSome_find?]
  unfold bv
  rw [List.any_map]
  congr 1
  funext p
  exact key_rr p.1 x
theorem putK_bv {b : Bnd} {x : Str} (h : bget b x = none) (v : Int) : putK (bv b) (.inr x) (.int v) = bv (b ++ [(x, v)]) := by
  unfold putK
  rw [any_bv, h]
  rw [if_neg (by simp)]
  unfold bv
  rw [List.map_append]
  rfl
theorem bv_len (b : Bnd) : (bv b).length = b.length := by unfold bv; rw [List.length_map]
theorem fitGo_len : ∀ (ts : List Key) (r : Row) (e f : Bnd), fitGo ts r e = some f → f.length ≤ e.length + ts.length
  | [], r, e, f, h => by
    have : some e = some f := by simpa [fitGo] using h
    cases this
    omega
  | t :: ts, [], e, f, h => by
    have : some e = some f := by simpa [fitGo] using h
    cases this
    omega
  | .inl c :: ts, v :: r, e, f, h => by
    unfold fitGo at h
    dsimp only at h
    split at h
    · have := fitGo_len ts r e f h
      simp only [List.length_cons]; omega
    · cases h
  | .inr x :: ts, v :: r, e, f, h => by
    unfold fitGo at h
    dsimp only at h
    split at h
    · split at h
      · have := fitGo_len ts r e f h
        simp only [List.length_cons]; omega
      · cases h
    · have := fitGo_len ts r _ f h
      simp only [List.length_cons, List.length_append, List.length_nil] at this ⊢
      omega
theorem varsOf_len (ts : List Key) : (varsOf ts).length ≤ ts.length := by
  have h : ∀ (ts : List Key) (f : List Str), (ts.foldl addVar f).length ≤ f.length + ts.length := by
    intro ts
    induction ts with
    | nil => intro f; simp
    | cons t r ih =>
      intro f
      rw [List.foldl_cons]
      have h1 := ih (addVar f t)
      have h2 : (addVar f t).length ≤ f.length + 1 := by
        unfold addVar
        split
        · omega
        · split
          · omega
          · rw [List.length_append]; simp
      simp only [List.length_cons]
      omega
  have := h ts []
  simp only [List.length_nil, Nat.zero_add] at this
  exact this
/-! ### how they stand in the heap -/
def litS (z : Str) (t : Addr) (b : Bool) : List (Option V) := [some (.str z), some (.bl b), some (.ref t)]
def LitAt (K : PySem.W.Frag) (H : Hp) (v : V) (l : Lit) : Prop :=
  ∃ a dx t, v = .ref a ∧ H a = some (SlX.SlO a (He.ga K "Literal") dx (litS l.name t l.neg)) ∧ H dx = some (.xd []) ∧ TupAt K H t (l.terms.map kV)
theorem LitAt.mono {K : PySem.W.Frag} {H H' : Hp} {v : V} {l : Lit} (m : Imm K H H') (h : LitAt K H v l) : LitAt K H' v l := by
  obtain ⟨a, dx, t, e, h1, h2, h3⟩ := h
  exact ⟨a, dx, t, e, m _ _ (.lit _ _ _) h1, m _ _ .xd h2, h3.mono m⟩
theorem LitAt.same {K : PySem.W.Frag} {H H' : Hp} {v : V} {l : Lit} (s : Same H H') (h : LitAt K H v l) : LitAt K H' v l := h.mono (.same s)
/-- what the slots give -/
theorem LitAt.slt {K : PySem.W.Frag} {H : Hp} {a : Addr} {l : Lit} (h : LitAt K H (.ref a) l) : ∃ dx t, SlX.Slt H a (He.ga K "Literal") dx (litS l.name t l.neg) ∧ TupAt K H t (l.terms.map kV) := by
  obtain ⟨a', dx, t, e, h1, h2, h3⟩ := h
  cases e
  exact ⟨dx, t, .inr ⟨h1, h2⟩, h3⟩
/-- the same at every later heap -/
theorem LitAt.slts {K : PySem.W.Frag} {H : Hp} {a : Addr} {l : Lit} (h : LitAt K H (.ref a) l) : ∃ dx t, (∀ H', Imm K H H' → SlX.Slt H' a (He.ga K "Literal") dx (litS l.name t l.neg)) ∧ ∀ H', Imm K H H' → TupAt K H' t (l.terms.map kV) := by
  obtain ⟨a', dx, t, e, h1, h2, h3⟩ := h
  cases e
  exact ⟨dx, t, fun H' m => .inr ⟨m _ _ (.lit _ _ _) h1, m _ _ .xd h2⟩, fun H' m => h3.mono m⟩
theorem LitAt.ref {K : PySem.W.Frag} {H : Hp} {v : V} {l : Lit} (h : LitAt K H v l) : ∃ a, v = .ref a := let ⟨a, _, _, e, _⟩ := h; ⟨a, e⟩
theorem paired_at {α β : Type} {R : α → β → Prop} : ∀ {xs : List α} {ys : List β} {i : Nat} {x : α}, Paired R xs ys → xs[i]? = some x → ∃ y, ys[i]? = some y ∧ R x y
  | _, _, _, _, .nil, e => by simp at e
  | _, _, 0, _, .cons r _, e => by simp at e; subst e; exact ⟨_, rfl, r⟩
  | _, _, i + 1, x, .cons _ t, e => by
    obtain ⟨u, h1, h2⟩ := paired_at (i := i) (x := x) t (by simpa using e)
    exact ⟨u, by simpa using h1, h2⟩
theorem paired_at' {α β : Type} {R : α → β → Prop} : ∀ {xs : List α} {ys : List β} {i : Nat} {y : β}, Paired R xs ys → ys[i]? = some y → ∃ x, xs[i]? = some x ∧ R x y
  | _, _, _, _, .nil, e => by simp at e
  | _, _, 0, _, .cons r _, e => by simp at e; subst e; exact ⟨_, rfl, r⟩
  | _, _, i + 1, x, .cons _ t, e => by
    obtain ⟨u, h1, h2⟩ := paired_at' (i := i) (y := x) t (by simpa using e)
    exact ⟨u, by simpa using h1, h2⟩
theorem paired_imp {α β : Type} {F G : α → β → Prop} (f : ∀ a b, F a b → G a b) : ∀ {l₁ : List α} {l₂ : List β}, Paired F l₁ l₂ → Paired G l₁ l₂
  | _, _, .nil => .nil
  | _, _, .cons r t => .cons (f _ _ r) (paired_imp f t)
theorem paired_len {α β : Type} {R : α → β → Prop} : ∀ {xs : List α} {ys : List β}, Paired R xs ys → xs.length = ys.length
  | _, _, .nil => rfl
  | _, _, .cons _ t => congrArg (· + 1) (paired_len t)
theorem paired_snoc {α β : Type} {R : α → β → Prop} {x : α} {y : β} (r : R x y) : ∀ {xs : List α} {ys : List β}, Paired R xs ys → Paired R (xs ++ [x]) (ys ++ [y])
  | _, _, .nil => .cons r .nil
  | _, _, .cons q t => .cons q (paired_snoc r t)
theorem paired_map {α β : Type} {R : V → α → Prop} {f : β → V} {g : β → α} (h : ∀ b, R (f b) (g b)) : ∀ l : List β, Paired R (l.map f) (l.map g)
  | [] => .nil
  | b :: r => .cons (h b) (paired_map h r)
def RulAt (K : PySem.W.Frag) (H : Hp) (v : V) (r : Rul) : Prop :=
  ∃ a dx vh tb vs, v = .ref a ∧ H a = some (.ins (He.ga K "Rule") dx [("head", vh), ("body", .ref tb)]) ∧ LitAt K H vh r.head ∧ TupAt K H tb vs ∧ Paired (LitAt K H) vs r.body
theorem RulAt.mono {K : PySem.W.Frag} {H H' : Hp} {v : V} {r : Rul} (m : Imm K H H') (h : RulAt K H v r) : RulAt K H' v r := by
  obtain ⟨a, dx, vh, tb, vs, e, h1, h2, h3, h4⟩ := h
  exact ⟨a, dx, vh, tb, vs, e, m _ _ (.rule _ _) h1, h2.mono m, h3.mono m, paired_imp (fun _ _ q => q.mono m) h4⟩
end Data
end AF
namespace AF
open PySem PySem.Spec PyProof.Rows L2
/-! ### safety of a rule -/
section Safe
def fuBody (known : List Str) : List Lit → Option Str × List Str
  | [] => (none, known)
  | l :: ls => if l.neg then (match (varsOf l.terms).find? (fun x => decide (x ∉ known)) with
      | some x => (some x, known)
      | none => fuBody known ls) else fuBody (known ++ varsOf l.terms) ls
def firstUnsafe (h : Lit) (b : List Lit) : Option Str := match fuBody [] b with
  | (some x, _) => some x
  | (none, kn) => (varsOf h.terms).find? (fun x => decide (x ∉ kn))
def oV : Option Str → V
  | none => .non
  | some x => .str x
theorem fuBody_step {known : List Str} {b : List Lit} {i : Nat} {l : Lit} (h : b[i]? = some l) : fuBody known (b.drop i) = if l.neg then (match (varsOf l.terms).find? (fun x => decide (x ∉ known)) with
      | some x => (some x, known)
      | none => fuBody known (b.drop (i + 1))) else fuBody (known ++ varsOf l.terms) (b.drop (i + 1)) := by
  obtain ⟨h1, e1⟩ := List.getElem?_eq_some_iff.mp h
  rw [List.drop_eq_getElem_cons h1, e1]
  rfl
theorem find_step {α : Type} {p : α → Bool} {xs : List α} {i : Nat} {x : α} (h : xs[i]? = some x) : (xs.drop i).find? p = if p x then some x else (xs.drop (i + 1)).find? p := by
  obtain ⟨h1, e1⟩ := List.getElem?_eq_some_iff.mp h
  rw [List.drop_eq_getElem_cons h1, e1, List.find?_cons]
  cases p x <;> rfl
end Safe
end AF
namespace AF
open PySem PySem.Spec PyProof.Rows L2
/-! ### the names that the law draws -/
section Kit
theorem cds_app (a b : Str) : cds (a ++ b) = cds a ++ cds b := TL.tl_append a b
theorem cds_S (l : List Nat) : cds (SX.S l) = l := rfl
theorem cds_tail0 (t : Str) : cds (tail0 t) = (cds t).drop 1 := by
  have e : cds (tail0 t) = List.take (HT.sIx t.length t.length none - HT.sIx t.length 0 (some 1)) (List.drop (HT.sIx t.length 0 (some 1)) (cds t)) := rfl
  rw [e, len_cds]
  have h1 : HT.sIx (cds t).length (cds t).length none = (cds t).length := rfl
  have h2 : List.drop (HT.sIx (cds t).length 0 (some 1)) (cds t) = (cds t).drop 1 := by
    have h3 : HT.sIx (cds t).length 0 (some 1) = min 1 (cds t).length := by
      unfold HT.sIx
      simp
    rw [h3]
    cases cds t with
    | nil => rfl
    | cons a r =>
      rw [List.length_cons, Nat.min_eq_left (by omega)]
  rw [h2, h1]
  apply List.take_of_length_le
  rw [List.length_drop]
  unfold HT.sIx
  simp
  omega
def kitWords : List Str := ["b", "a", "nota", "c1", "ab", "zz9", "a0", "q"]
def kitMarks : List Str := ["", "@bf", "@b?", "@", "@@f/0/1"]
def FrontOk (f : Str) : Prop := (cds f).length ≤ 8 ∧ ∀ c ∈ cds f, c ∈ cds sSMALL
theorem in0_of {t cs : Str} (hn : 1 ≤ (cds t).length) (h : ∀ c, (cds t).head? = some c → c ∈ cds cs) : in0 t cs = true := by
  unfold in0
  cases e : cds t with
  | nil => rw [e] at hn; simp at hn
  | cons c r =>
    rw [e] at h
    exact decide_eq_true (h c rfl)
theorem isWord_of {t : Str} (h1 : 1 ≤ (cds t).length) (h2 : (cds t).length ≤ 12) (h3 : cds t ≠ cds ("not" : Str)) (h4 : ∀ c, (cds t).head? = some c → c ∈ cds sSMALL) (h5 : ∀ c ∈ (cds t).drop 1, c ∈ cds (sSMALL ++ sDIG)) : isWord t = true := by
  unfold isWord
  rw [len_cds]
  have e3 : ¬ t = "not" := fun e => h3 (by rw [e])
  have e5 : hasOnly (tail0 t) (sSMALL ++ sDIG) = true := by
    unfold hasOnly
    rw [cds_tail0]
    exact List.all_eq_true.mpr fun c hc => decide_eq_true (h5 c hc)
  rw [in0_of h1 h4, e5]
  have i1 : decide (1 ≤ ((cds t).length : Int)) = true := decide_eq_true (by omega)
  have i2 : decide (((cds t).length : Int) ≤ 12) = true := decide_eq_true (by omega)
  rw [i1, i2]
  simp [e3]
def wordFacts (w : Str) : Bool := decide (1 ≤ (cds w).length) && (decide ((cds w).length ≤ 4) && (decide ((cds w).getLast? ≠ some 116) && ((match (cds w).head? with | some c => decide (c ∈ cds sSMALL) | none => false) && ((cds w).all (fun c => decide (c ∈ cds (sSMALL ++ sDIG))) && decide (64 ∉ cds w)))))
theorem words_ok : kitWords.all wordFacts = true := by decide +kernel
theorem isWord_kit {f w : Str} (hf : FrontOk f) (hw : w ∈ kitWords) : isWord (f ++ w) = true := by
  have q := List.all_eq_true.mp words_ok w hw
  unfold wordFacts at q
  simp only [Bool.and_eq_true, decide_eq_true_eq] at q
  obtain ⟨q1, q2, q3, q4, q5, q6⟩ := q
  have sub : ∀ c, c ∈ cds sSMALL → c ∈ cds (sSMALL ++ sDIG) := fun c h => by rw [cds_app]; exact List.mem_append_left _ h
  have hne : cds w ≠ [] := by intro e; rw [e] at q1; simp at q1
  refine isWord_of ?_ ?_ ?_ ?_ ?_
  · rw [cds_app, List.length_append]; omega
  · rw [cds_app, List.length_append]; have := hf.1; omega
  · intro e
    rw [cds_app] at e
    have e2 := congrArg List.getLast? e
    rw [List.getLast?_append] at e2
    have : (cds ("not" : Str)).getLast? = some 116 := by decide +kernel
    rw [this] at e2
    cases h : (cds w).getLast? with
    | none => exact hne (List.getLast?_eq_none_iff.mp h)
    | some c =>
      rw [h] at e2 q3
      simp at e2
      exact q3 (by rw [e2])
  · intro c h
    rw [cds_app] at h
    cases e : cds f with
    | nil =>
      rw [e, List.nil_append] at h
      rw [h] at q4
      simpa using q4
    | cons d r =>
      rw [e] at h
      have h : d = c := by simpa using h
      exact hf.2 c (by rw [e, h]; exact List.mem_cons_self ..)
  · intro c h
    have h := List.mem_of_mem_drop h
    rw [cds_app] at h
    rcases List.mem_append.mp h with h | h
    · exact sub c (hf.2 c h)
    · have := List.all_eq_true.mp q5 c h
      simpa using this
theorem split1_app {c : Nat} : ∀ (l r : List Nat), c ∉ l → ∀ p ps, split1 c r = p :: ps → split1 c (l ++ r) = (l ++ p) :: ps := by
  intro l
  induction l with
  | nil => intro r _ p ps h; exact h
  | cons d l ih =>
    intro r hc p ps h
    have hd : ¬ d = c := fun e => hc (by rw [e]; exact List.mem_cons_self ..)
    have hl : c ∉ l := fun e => hc (List.mem_cons_of_mem _ e)
    rw [List.cons_append, split1_miss _ hd, ih r hl p ps h]
    rfl
def markFacts (m : Str) : Bool := match split1 64 (cds m) with
  | [] :: ps => (ps.map SX.S).all isMark && decide ((cds m).length ≤ 7)
  | _ => false
theorem marks_ok : kitMarks.all markFacts = true := by decide +kernel
theorem isName_kit {f w m : Str} (hf : FrontOk f) (hw : w ∈ kitWords) (hm : m ∈ kitMarks) : isName ((f ++ w) ++ m) = true := by
  have q := List.all_eq_true.mp words_ok w hw
  unfold wordFacts at q
  simp only [Bool.and_eq_true, decide_eq_true_eq] at q
  obtain ⟨q1, q2, q3, q4, q5, q6⟩ := q
  have h64 : 64 ∉ cds (f ++ w) := by
    rw [cds_app]
    intro h
    rcases List.mem_append.mp h with h | h
    · have := hf.2 _ h
      revert this
      decide +kernel
    · exact q6 h
  have qm := List.all_eq_true.mp marks_ok m hm
  unfold markFacts at qm
  split at qm
  · rename_i ps hs
    unfold isName
    rw [cds_app, split1_app _ _ h64 _ _ hs, List.append_nil]
    simp only [List.map_cons]
    have e : SX.S (cds (f ++ w)) = f ++ w := rfl
    rw [e, isWord_kit hf hw, (Bool.and_eq_true_iff.mp qm).1]
    rfl
  · cases qm
theorem kit_len {f w m : Str} (hf : FrontOk f) (hw : w ∈ kitWords) (hm : m ∈ kitMarks) : ((f ++ w) ++ m).length ≤ 19 := by
  have q := List.all_eq_true.mp words_ok w hw
  unfold wordFacts at q
  simp only [Bool.and_eq_true, decide_eq_true_eq] at q
  obtain ⟨q1, q2, _⟩ := q
  have qm := List.all_eq_true.mp marks_ok m hm
  unfold markFacts at qm
  have hm7 : (cds m).length ≤ 7 := by
    split at qm
    · exact of_decide_eq_true (Bool.and_eq_true_iff.mp qm).2
    · cases qm
  rw [len_cds, cds_app, cds_app, List.length_append, List.length_append]
  have := hf.1
  omega
theorem join_ones : ∀ (cs : List Nat), cds (Txt.join "" (cs.map fun c => (⟨#[c]⟩ : Str))) = cs := by
  intro cs
  rw [TL.join_eq]
  have e := TL.tl_join "" (cs.map fun c => (⟨#[c]⟩ : Str))
  have e0 : TL.tl ("" : Str) = [] := rfl
  rw [e0] at e
  have e1 : ∀ l : List Nat, TL.joinL [] (l.map fun c => [c]) = l := by
    intro l
    induction l with
    | nil => rfl
    | cons c r ih =>
      cases r with
      | nil => rfl
      | cons d r =>
        show [c] ++ ([] ++ TL.joinL [] ((d :: r).map fun c => [c])) = _
        rw [ih]
        rfl
  have e2 : (cs.map fun c => (⟨#[c]⟩ : Str)).map TL.tl = cs.map fun c => [c] := by
    rw [List.map_map]
    rfl
  rw [e2, e1] at e
  exact e
theorem S_cds (z : Str) : SX.S (cds z) = z := by
  cases z
  rfl
theorem app_nil (z : Str) : z ++ ("" : Str) = z := by
  have e : cds (z ++ ("" : Str)) = cds z := by
    rw [cds_app]
    show cds z ++ [] = cds z
    rw [List.append_nil]
  rw [← S_cds (z ++ ""), e, S_cds]
theorem ones_sum : ∀ (cs : List Nat), ((cs.map fun c => (⟨#[c]⟩ : Str)).map (·.length)).sum = cs.length
  | [] => rfl
  | c :: r => by
    rw [List.map_cons, List.map_cons, List.sum_cons, ones_sum r, List.length_cons]
    show 1 + r.length = _
    omega
def NameOk (x : Str) : Prop := isName x = true ∧ x.length ≤ 19
theorem name_ok {f w m : Str} (hf : FrontOk f) (hw : w ∈ kitWords) (hm : m ∈ kitMarks) : NameOk ((f ++ w) ++ m) := ⟨isName_kit hf hw hm, kit_len hf hw hm⟩
theorem name_ok0 {f w : Str} (hf : FrontOk f) (hw : w ∈ kitWords) : NameOk (f ++ w) := by
  have h := name_ok (m := "") hf hw (by decide +kernel)
  rw [app_nil] at h
  exact h
end Kit
end AF
namespace AF
open PySem PySem.Spec PyProof.Rows L2
/-! ### what is drawn: a list of ints that is used up -/
section Draws
def FlL (xs : List Int) : Prop := ∀ x ∈ xs, 0 ≤ x ∧ x < 1000000
def FlN (p : Addr) (n : Nat) (H : Hp) : Prop := ∃ xs : List Int, H p = some (.lst (xs.map V.int)) ∧ FlL xs ∧ xs.length ≤ n
def Fl (p : Addr) (H : Hp) : Prop := FlN p 100000 H
theorem FlN.same {p : Addr} {n : Nat} {H H' : Hp} (s : Same H H') (h : FlN p n H) : FlN p n H' := let ⟨xs, e, a, b⟩ := h; ⟨xs, s _ _ e, a, b⟩
theorem FlN.le {p : Addr} {n m : Nat} {H : Hp} (h : FlN p n H) (l : n ≤ m) : FlN p m H := let ⟨xs, e, a, b⟩ := h; ⟨xs, e, a, Nat.le_trans b l⟩
theorem Fl.same {p : Addr} {H H' : Hp} (s : Same H H') (h : Fl p H) : Fl p H' := FlN.same s h
/-- all but what stands at p stays -/
def But (p : Addr) (H H' : Hp) : Prop := ∀ a o, a ≠ p → H a = some o → H' a = some o
theorem But.refl {p : Addr} (H : Hp) : But p H H := fun _ _ _ h => h
theorem But.trans {p : Addr} {H H1 H2 : Hp} (a : But p H H1) (b : But p H1 H2) : But p H H2 := fun x o n h => b x o n (a x o n h)
theorem But.of {p : Addr} {H H' : Hp} (s : Same H H') : But p H H' := fun a o _ h => s a o h
theorem But.new {p q : Addr} {H : Hp} {o : HO} (h : H q = none) : But p H (upd H q o) := .of (same_new h)
theorem But.at_ {p q : Addr} {H0 H : Hp} {o : HO} (h : H0 q = none) (s : But p H0 H) : But p H0 (upd H q o) := fun a u n e => by
  rw [upd_ne (ne_of_none e h)]
  exact s a u n e
theorem But.self {p : Addr} {H0 H : Hp} {o : HO} (s : But p H0 H) : But p H0 (upd H p o) := fun a u n e => by
  rw [upd_ne n]
  exact s a u n e
theorem But.lst {p a : Addr} {H H' : Hp} {xs : List V} (s : But p H H') (n : a ≠ p) (h : H a = some (.lst xs)) : H' a = some (.lst xs) := s _ _ n h
theorem cut_ints (ns : List Int) (lo hi : Option Int) : ∃ cs : List Int, cutV (ns.map V.int) lo hi = cs.map V.int ∧ cs.length ≤ ns.length := by
  refine ⟨(ns.drop (HT.sIx (ns.map V.int).length 0 lo)).take (HT.sIx (ns.map V.int).length (ns.map V.int).length hi - HT.sIx (ns.map V.int).length 0 lo), ?_, ?_⟩
  · unfold cutV
    rw [List.map_take, List.map_drop]
  · rw [List.length_take, List.length_drop]
    omega
theorem int_at {xs : List Int} {i : Nat} {x : V} (h : (xs.map V.int)[i]? = some x) : ∃ t, xs[i]? = some t ∧ x = .int t := by
  rw [List.getElem?_map] at h
  cases e : xs[i]? with
  | none => rw [e] at h; cases h
  | some t => rw [e] at h; exact ⟨t, rfl, (Option.some.inj h).symm⟩
theorem FlN.put {p : Addr} {n : Nat} {H : Hp} {xs : List Int} {x : Int} (h : FlL xs) (l : xs.length < n) (h0 : 0 ≤ x) (h1 : x < 1000000) : FlN p n (upd H p (.lst (xs.map V.int ++ [.int x]))) := by
  refine ⟨xs ++ [x], by rw [List.map_append]; exact upd_same, fun y hy => ?_, by rw [List.length_append]; exact l⟩
  rcases List.mem_append.mp hy with z | z
  · exact h y z
  · rw [List.mem_singleton.mp z]
    exact ⟨h0, h1⟩
/-- a draw: an int below many -/
def sp_draw : Sp := fun vs H Q _ => ∃ (p : Addr) (m : Int), vs = [.ref p, .int m] ∧ Fl p H ∧ 0 < m ∧ ∀ r H', 0 ≤ r → r < m → Fl p H' → But p H H' → Q (.int r) H'
theorem atI_of {xs : List V} {i : Nat} {x : V} {j : Int} (h : xs[i]? = some x) (e : j = i) : atI xs j = some x := e ▸ atI_nat h
theorem same_none {H H' : Hp} {a : Addr} (s : Same H H') (h : H' a = none) : H a = none := by
  cases e : H a with
  | none => rfl
  | some o => rw [s _ _ e] at h; cases h
theorem but_none {H H' : Hp} {p a : Addr} (s : But p H H') (n : a ≠ p) (h : H' a = none) : H a = none := by
  cases e : H a with
  | none => rfl
  | some o => rw [s _ _ n e] at h; cases h
theorem Fl.ne {p q : Addr} {H : Hp} (h : Fl p H) (n : H q = none) : q ≠ p := fun e => by
  obtain ⟨xs, e2, _⟩ := h
  rw [e, e2] at n
  cases n
theorem Fl.new {p q : Addr} {H : Hp} {o : HO} (h : Fl p H) (n : H q = none) : Fl p (upd H q o) := h.same (same_new n)
theorem Fl.upd_ {p q : Addr} {H : Hp} {o : HO} (h : Fl p H) (n : q ≠ p) : Fl p (upd H q o) := by
  obtain ⟨xs, e, a, b⟩ := h
  exact ⟨xs, by rw [upd_ne n.symm]; exact e, a, b⟩
theorem lc_all {J : It} {n : Nat} {G : Hp → Prop} {Y : Nat → Hp → V → Hp → Prop} (w : Walk J n G Y) {g : TG} {tt : TT} {te : TE} {vs : List Nat} {σ : L2.St} {H1 : Hp} {D : Addr} {Qd : Hp → Prop} (p : Addr) (good : Nat → V → Prop) (hn : n ≤ sizeLine) (hD : H1 D = none) (hf : Fl p H1) (hG : ∀ H, But p H1 H → G H)
    (hs : ∀ i x H H', i < n → But p H1 H → Fl p H → Y i H x H' → ∀ (Q : VK) (N : Hp → Prop), (∀ v H4, good i v → Fl p H4 → But p H H4 → Q v H4) → g x (wipe σ vs) H' fun σ2 H2 => wipe σ2 vs = wipe σ vs ∧ tt σ2 H2 fun b H3 => if b = true then te σ2 H3 Q else N H3)
    (hd : ∀ H xs, But p H1 H → Fl p H → H D = some (.lst xs) → xs.length = n → (∀ i v, xs[i]? = some v → good i v) → Qd H) :
    ∃ W : Nat → Nat → Hp → Prop, (∃ m, W 0 m (upd H1 D (.lst []))) ∧ ∀ i m H, W i m H →
      (J.stop i H ∧ Qd H) ∨ (J.go i H ∧ ∃ Nx : Hp → Prop, (∀ H', Nx H' → ∃ m', m' < m ∧ W (i + 1) m' H') ∧ ∀ x H', J.yld i H x H' → g x (wipe σ vs) H' fun σ2 H2 => wipe σ2 vs = wipe σ vs ∧ tt σ2 H2 fun b H3 =>
        if b = true then te σ2 H3 fun y H4 => ∃ acc, H4 D = some (.lst acc) ∧ acc.length < sizeLine ∧ Nx (upd H4 D (.lst (acc ++ [y]))) else Nx H3) := by
  have hp := hf.ne hD
  refine lc_it w (fun i H => ∃ xs, But p H1 H ∧ Fl p H ∧ H D = some (.lst xs) ∧ xs.length = i ∧ ∀ j v, xs[j]? = some v → good j v) ⟨[], .new hD, hf.new hD, upd_same, rfl, fun j v h => by simp at h⟩ (fun i H _ q => ?_) (fun i x H H' hi q y => ?_) (fun H q => ?_)
  · obtain ⟨xs, b, _⟩ := q
    exact hG H b
  · obtain ⟨xs, b, f, hl, hlen, hgood⟩ := q
    refine hs i x H H' hi b f y _ _ fun v H4 gv f4 b4 => ?_
    refine ⟨xs, b4 _ _ hp hl, by omega, xs ++ [v], But.at_ hD (b.trans b4), f4.upd_ hp, upd_same, by rw [List.length_append, hlen]; rfl, fun j u hj => ?_⟩
    by_cases hji : j < xs.length
    · rw [List.getElem?_append_left hji] at hj
      exact hgood j u hj
    · rw [List.getElem?_append_right (by omega)] at hj
      have e : j - xs.length = 0 := by
        cases z : j - xs.length with
        | zero => rfl
        | succ k => rw [z] at hj; simp at hj
      rw [e] at hj
      have hu : v = u := by simpa using hj
      have ej : j = i := by omega
      rw [← hu, ej]
      exact gv
  · obtain ⟨xs, b, f, hl, hlen, hgood⟩ := q
    exact hd H xs b f hl hlen hgood
theorem atI_any {α : Type} (xs : List α) {j : Int} (h0 : 0 ≤ j) (h1 : j < xs.length) : ∃ x, x ∈ xs ∧ xs[j.toNat]? = some x ∧ atI xs j = some x := by
  have hj : j.toNat < xs.length := by omega
  have h : xs[j.toNat]? = some xs[j.toNat] := by simp [hj]
  refine ⟨xs[j.toNat], List.getElem_mem hj, h, ?_⟩
  have e : j = (j.toNat : Int) := by omega
  have q := atI_nat h
  rw [← e] at q
  exact q
theorem atI_in {α : Type} (xs : List α) (f : α → V) {j : Int} (h0 : 0 ≤ j) (h1 : j < xs.length) : ∃ x, x ∈ xs ∧ xs[j.toNat]? = some x ∧ atI (xs.map f) j = some (f x) := by
  have hj : j.toNat < xs.length := by omega
  refine ⟨xs[j.toNat], List.getElem_mem hj, by simp [hj], atI_of (i := j.toNat) ?_ (by omega)⟩
  rw [List.getElem?_map]
  simp [hj]
/-- a list whose items are all told by a predicate is one of such data -/
theorem list_of {α : Type} (f : α → V) (good : α → Prop) : ∀ (xs : List V), (∀ v ∈ xs, ∃ x, good x ∧ v = f x) → ∃ ys : List α, xs = ys.map f ∧ ∀ y ∈ ys, good y
  | [], _ => ⟨[], rfl, fun _ h => by simp at h⟩
  | v :: r, h => by
    obtain ⟨x, gx, ex⟩ := h v (List.mem_cons_self ..)
    obtain ⟨ys, e, g⟩ := list_of f good r fun u hu => h u (List.mem_cons_of_mem _ hu)
    refine ⟨x :: ys, by rw [List.map_cons, ex, e], fun y hy => ?_⟩
    rcases List.mem_cons.mp hy with z | z
    · rw [z]; exact gx
    · exact g y z
theorem list_at {α : Type} (f : α → V) (good : α → Prop) {xs : List V} (h : ∀ (i : Nat) (v : V), xs[i]? = some v → ∃ x, good x ∧ v = f x) : ∃ ys : List α, xs = ys.map f ∧ ∀ y ∈ ys, good y :=
  list_of f good xs fun v hv => by
    obtain ⟨i, hi⟩ := List.mem_iff_getElem?.mp hv
    exact h i v hi
end Draws
end AF
namespace AF
open PySem PySem.Spec PyProof.Rows L2
/-! ### the law's kit: names, sizes, levels, constants, variables -/
section KitData
structure Kit where
  names : List Str
  sizes : List Int
  levels : List Int
  pool : List Int
  vars : List Str
def varsA : List Str := ["X", "Y2", "Z", "Vb"]
def varsB : List Str := ["V", "VV", "Vv0", "V123456789"]
structure KitOk (k : Kit) : Prop where
  n4 : 4 ≤ k.names.length
  n8 : k.names.length ≤ 8
  nm : ∀ x ∈ k.names, isName x = true ∧ x.length ≤ 19
  s8 : k.sizes.length = 8
  sz : ∀ x ∈ k.sizes, 0 ≤ x ∧ x ≤ 3
  l8 : k.levels.length = 8
  lv : ∀ x ∈ k.levels, 0 ≤ x ∧ x ≤ 2
  p1 : 1 ≤ k.pool.length
  p4 : k.pool.length ≤ 4
  pl : ∀ x ∈ k.pool, 0 ≤ x ∧ x ≤ 999999999999
  vr : k.vars = varsA ∨ k.vars = varsB
def KitAt (p : Addr) (H : Hp) (a : Addr) (k : Kit) : Prop := ∃ a1 a2 a3 a4 a5, (a ≠ p ∧ a1 ≠ p ∧ a2 ≠ p ∧ a3 ≠ p ∧ a4 ≠ p ∧ a5 ≠ p) ∧ H a = some (.lst [.ref a1, .ref a2, .ref a3, .ref a4, .ref a5]) ∧ H a1 = some (.lst (k.names.map V.str)) ∧ H a2 = some (.lst (k.sizes.map V.int)) ∧ H a3 = some (.lst (k.levels.map V.int)) ∧ H a4 = some (.lst (k.pool.map V.int)) ∧ H a5 = some (.lst (k.vars.map V.str))
theorem KitAt.but {p : Addr} {H H' : Hp} {a : Addr} {k : Kit} (s : But p H H') (h : KitAt p H a k) : KitAt p H' a k :=
  let ⟨a1, a2, a3, a4, a5, ⟨n0, n1, n2, n3, n4, n5⟩, h0, h1, h2, h3, h4, h5⟩ := h
  ⟨a1, a2, a3, a4, a5, ⟨n0, n1, n2, n3, n4, n5⟩, s _ _ n0 h0, s _ _ n1 h1, s _ _ n2 h2, s _ _ n3 h3, s _ _ n4 h4, s _ _ n5 h5⟩
theorem vars_ok : (varsA ++ varsB).all (fun v => isVar (.inr v)) = true := by decide +kernel
theorem KitOk.var {k : Kit} (o : KitOk k) : ∀ v ∈ k.vars, isVar (.inr v) = true := by
  intro v hv
  have h := List.all_eq_true.mp vars_ok v
  rcases o.vr with e | e
  · rw [e] at hv; exact h (List.mem_append_left _ hv)
  · rw [e] at hv; exact h (List.mem_append_right _ hv)
theorem KitOk.v4 {k : Kit} (o : KitOk k) : k.vars.length = 4 := by
  rcases o.vr with e | e <;> rw [e] <;> rfl
theorem cutV_take {α : Type} (f : α → V) (xs : List α) (n : Nat) : cutV (xs.map f) none (some (n : Int)) = (xs.take n).map f := by
  unfold cutV
  have h1 : HT.sIx (xs.map f).length 0 none = 0 := rfl
  have h2 : HT.sIx (xs.map f).length (xs.map f).length (some (n : Int)) = min n xs.length := by
    unfold HT.sIx
    simp
    intro h
    omega
  rw [h1, h2, List.drop_zero, Nat.sub_zero, ← List.map_take]
  congr 1
  rcases Nat.le_total n xs.length with h | h
  · rw [Nat.min_eq_left h]
  · rw [Nat.min_eq_right h, List.take_of_length_le (Nat.le_refl _), List.take_of_length_le h]
theorem cutV_drop {α : Type} (f : α → V) (xs : List α) (n : Nat) : cutV (xs.map f) (some (n : Int)) none = (xs.drop n).map f := by
  unfold cutV
  have h1 : HT.sIx (xs.map f).length 0 (some (n : Int)) = min n xs.length := by
    unfold HT.sIx
    simp
    intro h
    omega
  have h2 : HT.sIx (xs.map f).length (xs.map f).length none = xs.length := by
    unfold HT.sIx
    simp
  rw [h1, h2, ← List.map_drop]
  rcases Nat.le_total n xs.length with h | h
  · rw [Nat.min_eq_left h, List.take_of_length_le (by rw [List.length_map, List.length_drop]; omega)]
  · rw [Nat.min_eq_right h, List.drop_of_length_le (Nat.le_refl _), List.drop_of_length_le h]
    simp
end KitData
end AF
namespace AF
open PySem PySem.Spec PyProof.Rows L2
/-! ### drawn literals: tuples (name, terms, sign) -/
section DrawnLits
/-- tuples stay -/
def Tp (H H' : Hp) : Prop := ∀ a xs, H a = some (.tup xs) → H' a = some (.tup xs)
theorem Tp.refl (H : Hp) : Tp H H := fun _ _ h => h
theorem Tp.trans {H H1 H2 : Hp} (a : Tp H H1) (b : Tp H1 H2) : Tp H H2 := fun x o h => b x o (a x o h)
theorem Tp.of {H H' : Hp} (s : Same H H') : Tp H H' := fun a o h => s a _ h
theorem But.tp {p : Addr} {H H' : Hp} (b : But p H H') (f : Fl p H) : Tp H H' := fun a xs h => b a _ (fun e => by
  obtain ⟨ys, e2, _⟩ := f
  rw [e, e2] at h
  cases h) h
theorem Tp.lst {H0 H : Hp} {q : Addr} {ys : List V} {o : HO} (s : Tp H0 H) (h : H q = some (.lst ys)) : Tp H0 (upd H q o) := fun a xs e => by
  have z := s a xs e
  rw [upd_ne (fun e2 => by rw [e2, h] at z; cases z)]
  exact z
def OneAt (H : Hp) (v : V) (l : Lit) : Prop := ∃ a t, v = .ref a ∧ H a = some (.tup [.str l.name, .ref t, .bl l.neg]) ∧ H t = some (.tup (l.terms.map kV))
theorem OneAt.tp {H H' : Hp} {v : V} {l : Lit} (s : Tp H H') (h : OneAt H v l) : OneAt H' v l := let ⟨a, t, e, h1, h2⟩ := h; ⟨a, t, e, s _ _ h1, s _ _ h2⟩
/-- a term that is drawn: of the pool, or a variable that is near -/
def TermOf (near : List Str) (t : Key) : Prop := (∃ c : Int, t = .inl c ∧ 0 ≤ c ∧ c ≤ 999999999999) ∨ ∃ z, t = .inr z ∧ z ∈ near
/-- what a drawn literal over a kit is -/
structure LitD (k : Kit) (l : Lit) : Prop where
  nm : l.name ∈ k.names
  ln : l.terms.length ≤ 3
  tm : ∀ t ∈ l.terms, TermOf k.vars t
theorem strsOf_mem {ts : List Key} {z : Str} : z ∈ ts.filterMap (fun t => match t with | .inr x => some x | .inl _ => none) ↔ Sum.inr z ∈ ts := by
  rw [List.mem_filterMap]
  constructor
  · rintro ⟨t, ht, e⟩
    cases t with
    | inl i => cases e
    | inr x =>
      have e : x = z := Option.some.inj e
      rw [← e]
      exact ht
  · intro h
    exact ⟨_, h, rfl⟩
def strsOf (ts : List Key) : List Str := ts.filterMap fun t => match t with
  | .inr x => some x
  | .inl _ => none
def strV : Key → Option V
  | .inr x => some (.str x)
  | .inl _ => none
theorem fm_strV : ∀ ts : List Key, ts.filterMap strV = (strsOf ts).map V.str
  | [] => rfl
  | .inl i :: r => fm_strV r
  | .inr x :: r => by
    show V.str x :: r.filterMap strV = _
    rw [fm_strV r]
    rfl
theorem strsOf_len (ts : List Key) : (strsOf ts).length ≤ ts.length := List.length_filterMap_le _ _
theorem mem_strsOf {ts : List Key} {z : Str} : z ∈ strsOf ts ↔ Sum.inr z ∈ ts := strsOf_mem
theorem mem_foldVar {z : Str} : ∀ (ts : List Key) (f : List Str), z ∈ ts.foldl addVar f ↔ z ∈ f ∨ Sum.inr z ∈ ts
  | [], f => by simp
  | t :: r, f => by
    rw [List.foldl_cons, mem_foldVar r]
    cases t with
    | inl i =>
      show z ∈ f ∨ _ ↔ _
      simp
    | inr x =>
      show z ∈ (if x ∈ f then f else f ++ [x]) ∨ _ ↔ _
      by_cases h : x ∈ f
      · rw [if_pos h]
        constructor
        · rintro (h1 | h1)
          · exact .inl h1
          · exact .inr (List.mem_cons_of_mem _ h1)
        · rintro (h1 | h1)
          · exact .inl h1
          · rcases List.mem_cons.mp h1 with e | e
            · have e : z = x := Sum.inr.inj e
              rw [e]
              exact .inl h
            · exact .inr e
      · rw [if_neg h]
        constructor
        · rintro (h1 | h1)
          · rcases List.mem_append.mp h1 with e | e
            · exact .inl e
            · rw [List.mem_singleton.mp e]
              exact .inr (List.mem_cons_self ..)
          · exact .inr (List.mem_cons_of_mem _ h1)
        · rintro (h1 | h1)
          · exact .inl (List.mem_append_left _ h1)
          · rcases List.mem_cons.mp h1 with e | e
            · have e : z = x := Sum.inr.inj e
              rw [e]
              exact .inl (List.mem_append_right _ (List.mem_singleton.mpr rfl))
            · exact .inr e
theorem mem_varsOf {ts : List Key} {z : Str} : z ∈ varsOf ts ↔ Sum.inr z ∈ ts := by
  unfold varsOf
  rw [mem_foldVar]
  simp
theorem fuBody_snoc : ∀ (b : List Lit) (l : Lit) (k0 kn : List Str), fuBody k0 b = (none, kn) → fuBody k0 (b ++ [l]) = fuBody kn [l]
  | [], l, k0, kn, h => by
    have h : (none, k0) = ((none : Option Str), kn) := h
    rw [List.nil_append, (Prod.mk.inj h).2]
  | c :: r, l, k0, kn, h => by
    rw [List.cons_append]
    unfold fuBody at h ⊢
    by_cases hn : c.neg = true
    · rw [if_pos hn] at h ⊢
      cases e : (varsOf c.terms).find? (fun x => decide (x ∉ k0)) with
      | some x => rw [e] at h; cases h
      | none =>
        rw [e] at h
        exact fuBody_snoc r l k0 kn h
    · rw [if_neg hn] at h ⊢
      exact fuBody_snoc r l _ kn h
structure RuleD (k : Kit) (h : Lit) (b : List Lit) : Prop where
  neg : h.neg = false
  hd : LitD k h
  bd : ∀ l ∈ b, LitD k l
  len : b.length ≤ 6
  safe : firstUnsafe h b = none
theorem paired_imp2 {α β : Type} {F G : α → β → Prop} {l₁ : List α} {l₂ : List β} (f : ∀ a b, F a b → G a b) (h : Paired F l₁ l₂) : Paired G l₁ l₂ := paired_imp f h
theorem find_none {p : Str → Bool} {xs : List Str} (h : ∀ x ∈ xs, p x = false) : xs.find? p = none := by
  rw [List.find?_eq_none]
  intro x hx
  rw [h x hx]
  simp
theorem tif_var {c : Bool} {σ : L2.St} {H : Hp} {Q : VK} {i j : Nat} {a b : Addr} (hi : σ[i]? = some (some (.ref a))) (hj : σ[j]? = some (some (.ref b))) (q : Q (.ref (if c = true then a else b)) H) : if c = true then tVar i σ H Q else tVar j σ H Q := by
  cases c with
  | true => exact ⟨_, hi, q⟩
  | false => exact ⟨_, hj, q⟩
end DrawnLits
end AF
namespace AF
open PySem PySem.Spec PyProof.Rows L2
section
variable {P : Program} {w : World} {K : PySem.W.Frag} {mg : Str → Option Value} {base : Heap}
/-! ### askedfacts.names -/
def sp_has_only : Sp := fun vs H Q _ => ∃ t cs : Str, vs = [.str t, .str cs] ∧ t.length ≤ 1000 ∧ ∀ H', Same H H' → Q (.bl (hasOnly t cs)) H'
theorem map_bl (t cs : Str) : (List.range t.cps.size).filterMap (fun i => (cds t)[i]?.bind fun c => some (V.bl (decide (c ∈ cds cs)))) = ((cds t).map fun c => decide (c ∈ cds cs)).map V.bl := by
  have e := range_fm (cds t) (fun c => some (V.bl (decide (c ∈ cds cs))))
  have e2 : (cds t).length = t.cps.size := Array.length_toList
  rw [e2] at e
  rw [e, List.map_map, ← List.filterMap_eq_map]
  rfl
theorem cal_has_only (T : Top K mg) : Cal P w K mg base 1 "has_only" sp_has_only [] := by
  obtain ⟨fd, F⟩ := fd_has_only T
  refine ⟨_, fd, _, [], F.ok sc_has_only (fun vs H Q E h => ?_) (fun cdv A outer s H vs Q E hr h => ?_), T.g_has_only, F.kp, F.bindsN (ps := ["text", "characters"]) (fun _ _ _ _ _ _ us hl => match us, hl with | [_, _], _ => rfl), .nil⟩
  · obtain ⟨t, cs, rfl, _⟩ := h
    rfl
  · obtain ⟨t, cs, rfl, hl, k⟩ := h
    refine ⟨_, PSs.nox (pss_one (ps_ret (pe_callB (cr_all rfl) (by rfl) T.f_all (by decide +kernel) (pa_cons (pe_lc (own := [("char", 2)]) rfl sc_has_only.nd (pi_str (pv 0)) (blkOk_by (own := [("char", 2)]) (N := N_has_only) (sc := defScope s_has_only) (by decide +kernel)) (fun _ _ _ _ _ => (pg_name (i := 2) sc_has_only.nd rfl (Or.inl rfl))) (fun _ _ _ _ _ => pts_nil) (fun _ _ _ _ _ => (pe_cmpR op_in_sign (pv 2) (pv 1) (by rfl)))) pa_nil)))), ?_⟩
    refine ⟨_, rfl, t, rfl, fun D hD => ?_⟩
    refine lc_fm walk_str (fun i => (cds t)[i]?.bind fun c => some (V.bl (decide (c ∈ cds cs)))) (Nat.le_trans hl (by decide)) hD (fun _ _ => trivial) (fun i x H1 H' hi s1 y Q' N' q n => ?_) (fun H2 s2 h2 => ?_)
    · obtain ⟨rfl, c, hc, rfl⟩ := y
      refine ⟨rfl, ?_⟩
      refine ⟨_, rfl, _, rfl, c, cs, rfl, rfl, ?_⟩
      refine q _ _ ?_ (Same.refl _)
      rw [show (cds t)[i]? = some c from by rw [← hc]; exact (Array.getElem?_toList).symm ▸ rfl]
      rfl
    · refine ⟨D, _, rfl, .inl (.inl (h2.trans (by rw [map_bl]))), ?_⟩
      have e : (((cds t).map fun c => decide (c ∈ cds cs)).all id) = hasOnly t cs := by
        rw [List.all_map]; rfl
      rw [e]
      exact k _ s2
theorem leaf {H : Hp} {Q : VK} {b c : Bool} (k : ∀ H', Same H H' → Q (.bl b) H') (e : b = c) : ∀ H', Same H H' → Q (.bl c) H' := e ▸ k
theorem small1 {n : Nat} (h : n ≤ 1000) : n ≤ sizeLine := Nat.le_trans h (by decide)
theorem at0_of {t : Str} (h : 1 ≤ (t.length : Int)) : ∃ c, atI t.cps.toList 0 = some c ∧ at0 t = ⟨#[c]⟩ ∧ ∀ cs, in0 t cs = decide (c ∈ cds cs) := by
  rw [len_cds] at h
  unfold at0 in0
  cases e : cds t with
  | nil => rw [e] at h; simp at h
  | cons c r => exact ⟨c, by rw [show t.cps.toList = c :: r from e]; exact atI_nat (j := 0) rfl, rfl, fun _ => rfl⟩
def sp_is_number : Sp := fun vs H Q _ => ∃ (t : Str) (m : Int), vs = [.str t, .int m] ∧ t.length ≤ 1000 ∧ ∀ H', Same H H' → Q (.bl (isNum t m)) H'
theorem cal_is_number (T : Top K mg) : Cal P w K mg base 2 "is_number" sp_is_number [] := by
  obtain ⟨fd, F⟩ := fd_is_number T
  refine ⟨_, fd, _, [], F.ok sc_is_number (fun vs H Q E h => ?_) (fun cdv A outer s H vs Q E hr h => ?_), T.g_is_number, F.kp, F.bindsN (ps := ["text", "most_digits"]) (fun _ _ _ _ _ _ us hl => match us, hl with | [_, _], _ => rfl), .nil⟩
  · obtain ⟨t, m, rfl, _⟩ := h
    rfl
  · obtain ⟨t, m, rfl, hl, k⟩ := h
    refine ⟨_, PSs.nox (pss_cons (ps_if (PW.pt (pw_or (pt_not (pt_chain op_le op_le pe_int (pe_callB call_len_str (by rfl) T.f_len (by decide +kernel) (pa_cons (pv 0) pa_nil)) (pv 1))) (pw_or1 (pt_not (pt_val (pe_c (cal_has_only T) hr (by decide) (by rfl) (pa_cons (pv 0) (pa_cons (pe_gv (by rfl) T.m_DIGITS) pa_nil)))))))) (pss_one (ps_ret pe_bl)) pss_nil)
    (pss_one (ps_ret (pe_or (pe_cmpR op_eq (pv 0) pe_str (nomark _)) (pe_one (pe_cmpR op_ne (pe_ix ix_str (pv 0) pe_int (fun _ _ => rfl)) pe_str (nomark _))))))), ?_⟩
    refine ⟨_, rfl, t, rfl, small1 hl, _, _, rfl, rfl, _, rfl, ?_⟩
    refine ite2 (fun h1 => ?_) (fun h1 => ?_)
    · have h1 := of_decide_eq_true h1
      refine ⟨_, rfl, _, _, rfl, rfl, _, rfl, ?_⟩
      refine ite2 (fun h2 => ?_) (fun h2 => ?_)
      · walk_at "ii"
        refine leaf k ?_ _ (Same.refl _)
        have h2 : ¬ ((t.length : Int) ≤ m) := by simpa using h2
        simp [isNum, h2]
      · have h2 : ((t.length : Int) ≤ m) := by simpa using h2
        refine ⟨_, rfl, t, sDIG, rfl, hl, fun H1 s1 => ?_⟩
        refine ⟨_, rfl, ?_⟩
        refine ite2 (fun h3 => ?_) (fun h3 => ?_)
        · refine leaf k ?_ _ s1
          have h3 : hasOnly t sDIG = false := by simpa using h3
          simp [isNum, h3]
        · have h3 : hasOnly t sDIG = true := by simpa using h3
          refine ⟨_, rfl, rfl, _, rfl, ?_⟩
          refine ite2 (fun h4 => ?_) (fun h4 => ?_)
          · refine leaf k ?_ _ s1
            have h4 : decide (t = "0") = true := by simpa using h4
            simp only [isNum, decide_eq_true h1, decide_eq_true h2, h3, Bool.true_and, h4, Bool.true_or]
          · obtain ⟨c, hc, e0, _⟩ := at0_of h1
            refine ⟨_, rfl, t, 0, c, rfl, rfl, small1 hl, hc, rfl, ?_⟩
            refine leaf k ?_ _ s1
            have h4 : ¬ t = "0" := by simpa using h4
            simp [isNum, h1, h2, h3, h4, e0]
    · refine ⟨_, rfl, ?_⟩
      walk_at "ii"
      refine leaf k ?_ _ (Same.refl _)
      have h1 : ¬ (1 ≤ (t.length : Int)) := by simpa using h1
      simp [isNum, h1]

theorem kV_ty {K : PySem.W.Frag} {H : Hp} (x : Key) : ∃ T, TyX K H (kV x) (.type T) ∧ T = (match x with | .inl _ => "int" | .inr _ => "str") := by
  cases x with
  | inl i => exact ⟨_, .base (.int i), rfl⟩
  | inr z => exact ⟨_, .base (.str z), rfl⟩
def sp_is_constant : Sp := fun vs H Q _ => ∃ x : Key, vs = [kV x] ∧ ∀ H', Same H H' → Q (.bl (isConst x)) H'
theorem cal_is_constant (T : Top K mg) : Cal P w K mg base 1 "is_constant" sp_is_constant [] := by
  obtain ⟨fd, F⟩ := fd_is_constant T
  refine ⟨_, fd, _, [], F.ok sc_is_constant (fun vs H Q E h => ?_) (fun cdv A outer s H vs Q E hr h => ?_), T.g_is_constant, F.kp, F.bindsN (ps := ["value"]) (fun _ _ _ _ _ _ us hl => match us, hl with | [_], _ => rfl), .nil⟩
  · obtain ⟨x, rfl, _⟩ := h
    rfl
  · obtain ⟨x, rfl, k⟩ := h
    refine ⟨_, PSs.nox (pss_cons (ps_if (PW.pt (pw_or (pt_not (pt_val (pe_callB call_isi (by rfl) T.f_isinstance (by decide +kernel) (pa_cons (pv 0) (pa_cons (pe_bltn (v := .ty "int") (u := .type "int") (by rfl) T.f_int (by decide +kernel) rfl) pa_nil))))) (pw_or1 (pt_val (pe_callB call_isi (by rfl) T.f_isinstance (by decide +kernel) (pa_cons (pv 0) (pa_cons (pe_bltn (v := .ty "bool") (u := .type "bool") (by rfl) T.f_bool (by decide +kernel) rfl) pa_nil))))))) (pss_one (ps_ret pe_bl)) pss_nil)
    (pss_one (ps_ret (pe_chain op_le op_le pe_int (pv 0) (pe_gv (by rfl) T.m_MOST))))), ?_⟩
    cases x with
    | inl i =>
      refine ⟨_, rfl, _, _, _, _, true, rfl, .ty _, .base (.int i), kit_ty (by decide +kernel), _, rfl, ?_⟩
      walk_at "ii"
      refine ⟨_, rfl, _, _, _, _, false, rfl, .ty _, .base (.int i), kit_ty (by decide +kernel), _, rfl, ?_⟩
      walk_at "ii"
      refine ⟨_, rfl, _, _, rfl, rfl, _, rfl, ?_⟩
      refine ite2 (fun h1 => ?_) (fun h1 => ?_)
      · refine ⟨_, _, rfl, rfl, ?_⟩
        refine leaf k ?_ _ (Same.refl _)
        simp only [isConst, h1, Bool.true_and]
      · refine leaf k ?_ _ (Same.refl _)
        have h1 : decide (0 ≤ i) = false := by simpa using h1
        simp only [isConst, h1, Bool.false_and]
    | inr z =>
      refine ⟨_, rfl, _, _, _, _, false, rfl, .ty _, .base (.str z), kit_ty (by decide +kernel), _, rfl, ?_⟩
      walk_at "ii"
      exact k _ (Same.refl _)
def sp_is_variable : Sp := fun vs H Q _ => ∃ x : Key, vs = [kV x] ∧ (∀ z, x = .inr z → z.length ≤ 1000) ∧ ∀ H', Same H H' → Q (.bl (isVar x)) H'
theorem cal_is_variable (T : Top K mg) : Cal P w K mg base 2 "is_variable" sp_is_variable [] := by
  obtain ⟨fd, F⟩ := fd_is_variable T
  refine ⟨_, fd, _, [], F.ok sc_is_variable (fun vs H Q E h => ?_) (fun cdv A outer s H vs Q E hr h => ?_), T.g_is_variable, F.kp, F.bindsN (ps := ["value"]) (fun _ _ _ _ _ _ us hl => match us, hl with | [_], _ => rfl), .nil⟩
  · obtain ⟨x, rfl, _⟩ := h
    rfl
  · obtain ⟨x, rfl, hl, k⟩ := h
    refine ⟨_, PSs.nox (pss_cons (ps_if (PW.pt (pw_or (pt_not (pt_val (pe_callB call_isi (by rfl) T.f_isinstance (by decide +kernel) (pa_cons (pv 0) (pa_cons (pe_bltn (v := .ty "str") (u := .type "str") (by rfl) T.f_str (by decide +kernel) rfl) pa_nil))))) (pw_or1 (pt_not (pt_chain op_le op_le pe_int (pe_callB call_len_str (by rfl) T.f_len (by decide +kernel) (pa_cons (pv 0) pa_nil)) pe_int))))) (pss_one (ps_ret pe_bl)) pss_nil)
    (pss_one (ps_ret (pe_and (pe_cmpR op_in_sign (pe_ix ix_str (pv 0) pe_int (fun _ _ => rfl)) (pe_gv (by rfl) T.m_CAPITALS) (by rfl)) (pe_one (pe_c (cal_has_only T) hr (by decide) (by rfl) (pa_cons (pe_slice sl_str (pv 0) (po_some pe_int) po_none) (pa_cons (pe_op op_add_str (pe_op op_add_str (pe_gv (by rfl) T.m_SMALL) (pe_gv (by rfl) T.m_CAPITALS)) (pe_gv (by rfl) T.m_DIGITS)) pa_nil)))))))), ?_⟩
    cases x with
    | inl i =>
      refine ⟨_, rfl, _, _, _, _, false, rfl, .ty _, .base (.int i), kit_ty (by decide +kernel), _, rfl, ?_⟩
      walk_at "ii"
      exact k _ (Same.refl _)
    | inr t =>
      have hl := hl t rfl
      refine ⟨_, rfl, _, _, _, _, true, rfl, .ty _, .base (.str t), kit_ty (by decide +kernel), _, rfl, ?_⟩
      walk_at "ii"
      refine ⟨_, rfl, t, rfl, small1 hl, _, _, rfl, rfl, _, rfl, ?_⟩
      refine ite2 (fun h1 => ?_) (fun h1 => ?_)
      · have h1 := of_decide_eq_true h1
        refine ⟨_, _, rfl, rfl, _, rfl, ?_⟩
        refine ite2 (fun h2 => ?_) (fun h2 => ?_)
        · refine leaf k ?_ _ (Same.refl _)
          have h2 : decide ((t.length : Int) ≤ 10) = false := by simpa using h2
          simp only [isVar, h2, Bool.false_and, Bool.and_false]
        · have h2 : decide ((t.length : Int) ≤ 10) = true := by simpa using h2
          obtain ⟨c, hc, _, e1⟩ := at0_of h1
          refine ⟨_, rfl, t, 0, c, rfl, rfl, small1 hl, hc, c, sCAP, rfl, rfl, _, rfl, ?_⟩
          have e1 := e1 sCAP
          refine ite2 (fun h3 => ?_) (fun h3 => ?_)
          · refine ⟨_, rfl, _, rfl, t, rfl, small1 hl, ?_⟩
            refine ⟨sSMALL, sCAP, rfl, rfl, by decide, sSMALL ++ sCAP, sDIG, rfl, rfl, by decide, tail0 t, (sSMALL ++ sCAP) ++ sDIG, rfl, Nat.le_trans (cut1_len t) hl, fun H1 s1 => ?_⟩
            refine leaf k ?_ _ s1
            simp only [isVar, decide_eq_true h1, h2, Bool.true_and, e1, h3]
          · refine leaf k ?_ _ (Same.refl _)
            have h3 : decide (c ∈ cds sCAP) = false := by simpa using h3
            simp only [isVar, e1, h3, Bool.false_and, Bool.and_false]
      · refine ⟨_, rfl, ?_⟩
        walk_at "ii"
        refine leaf k ?_ _ (Same.refl _)
        have h1 : decide (1 ≤ (t.length : Int)) = false := by simpa using h1
        simp only [isVar, h1, Bool.false_and]
def sp_is_word : Sp := fun vs H Q _ => ∃ t : Str, vs = [.str t] ∧ t.length ≤ 1000 ∧ ∀ H', Same H H' → Q (.bl (isWord t)) H'
theorem cal_is_word (T : Top K mg) : Cal P w K mg base 2 "is_word" sp_is_word [] := by
  obtain ⟨fd, F⟩ := fd_is_word T
  refine ⟨_, fd, _, [], F.ok sc_is_word (fun vs H Q E h => ?_) (fun cdv A outer s H vs Q E hr h => ?_), T.g_is_word, F.kp, F.bindsN (ps := ["text"]) (fun _ _ _ _ _ _ us hl => match us, hl with | [_], _ => rfl), .nil⟩
  · obtain ⟨t, rfl, _⟩ := h
    rfl
  · obtain ⟨t, rfl, hl, k⟩ := h
    refine ⟨_, PSs.nox (pss_cons (ps_if (PW.pt (pw_or (pt_not (pt_chain op_le op_le pe_int (pe_callB call_len_str (by rfl) T.f_len (by decide +kernel) (pa_cons (pv 0) pa_nil)) pe_int)) (pw_or1 (pt_cmpR op_eq (pv 0) pe_str (nomark _))))) (pss_one (ps_ret pe_bl)) pss_nil)
    (pss_one (ps_ret (pe_and (pe_cmpR op_in_sign (pe_ix ix_str (pv 0) pe_int (fun _ _ => rfl)) (pe_gv (by rfl) T.m_SMALL) (by rfl)) (pe_one (pe_c (cal_has_only T) hr (by decide) (by rfl) (pa_cons (pe_slice sl_str (pv 0) (po_some pe_int) po_none) (pa_cons (pe_op op_add_str (pe_gv (by rfl) T.m_SMALL) (pe_gv (by rfl) T.m_DIGITS)) pa_nil)))))))), ?_⟩
    refine ⟨_, rfl, t, rfl, small1 hl, _, _, rfl, rfl, _, rfl, ?_⟩
    refine ite2 (fun h1 => ?_) (fun h1 => ?_)
    · have h1 := of_decide_eq_true h1
      refine ⟨_, _, rfl, rfl, _, rfl, ?_⟩
      refine ite2 (fun h2 => ?_) (fun h2 => ?_)
      · walk_at "ii"
        refine leaf k ?_ _ (Same.refl _)
        have h2 : decide ((t.length : Int) ≤ 12) = false := by simpa using h2
        simp only [isWord, h2, Bool.false_and, Bool.and_false]
      · have h2 : decide ((t.length : Int) ≤ 12) = true := by simpa using h2
        refine ⟨_, rfl, rfl, _, rfl, ?_⟩
        refine ite2 (fun h3 => ?_) (fun h3 => ?_)
        · refine leaf k ?_ _ (Same.refl _)
          have h3 : decide (t = "not") = true := by simpa using h3
          simp only [isWord, h3, Bool.not_true, Bool.false_and, Bool.and_false]
        · have h3 : decide (t = "not") = false := by simpa using h3
          obtain ⟨c, hc, _, e1⟩ := at0_of h1
          refine ⟨_, rfl, t, 0, c, rfl, rfl, small1 hl, hc, c, sSMALL, rfl, rfl, _, rfl, ?_⟩
          have e1 := e1 sSMALL
          refine ite2 (fun h4 => ?_) (fun h4 => ?_)
          · refine ⟨_, rfl, _, rfl, t, rfl, small1 hl, ?_⟩
            refine ⟨sSMALL, sDIG, rfl, rfl, by decide, tail0 t, sSMALL ++ sDIG, rfl, Nat.le_trans (cut1_len t) hl, fun H1 s1 => ?_⟩
            refine leaf k ?_ _ s1
            simp only [isWord, decide_eq_true h1, h2, h3, Bool.not_false, Bool.true_and, e1, h4]
          · refine leaf k ?_ _ (Same.refl _)
            have h4 : decide (c ∈ cds sSMALL) = false := by simpa using h4
            simp only [isWord, e1, h4, Bool.false_and, Bool.and_false]
    · refine ⟨_, rfl, ?_⟩
      walk_at "ii"
      refine leaf k ?_ _ (Same.refl _)
      have h1 : decide (1 ≤ (t.length : Int)) = false := by simpa using h1
      simp only [isWord, h1, Bool.false_and]

theorem splits {z : Str} {c : Nat} (hc : c < 256) {b : Str} (hb : b = ⟨#[c]⟩) : Txt.split z b = (split1 c (cds z)).map SX.S := hb ▸ split_sign z c hc
theorem split_lens {z : Str} {c n : Nat} (h : z.length ≤ n) : ∀ p ∈ (split1 c (cds z)).map SX.S, p.length ≤ n := by
  intro p hp
  obtain ⟨l, hl, rfl⟩ := List.mem_map.mp hp
  rw [SX.S_len]
  exact Nat.le_trans ((split1_len c (cds z)).1 l hl) (by rw [← len_cds]; exact h)
def sp_is_mark : Sp := fun vs H Q _ => ∃ t : Str, vs = [.str t] ∧ t.length ≤ 1000 ∧ ∀ H', Same H H' → Q (.bl (isMark t)) H'
theorem cal_is_mark (T : Top K mg) : Cal P w K mg base 3 "is_mark" sp_is_mark [] := by
  obtain ⟨fd, F⟩ := fd_is_mark T
  refine ⟨_, fd, _, [], F.ok sc_is_mark (fun vs H Q E h => ?_) (fun cdv A outer s H vs Q E hr h => ?_), T.g_is_mark, F.kp, F.bindsN (ps := ["text"]) (fun _ _ _ _ _ _ us hl => match us, hl with | [_], _ => rfl), .nil⟩
  · obtain ⟨t, rfl, _⟩ := h
    rfl
  · obtain ⟨t, rfl, hl, k⟩ := h
    refine ⟨_, PSs.nox (pss_cons (ps_set (i := 1) sc_is_mark.nd rfl (Or.inl rfl) (pe_bm PySem.F.plainAttrs_str PySem.F.slot_str_lstrip PySem.F.type_str_lstrip mt_lstripChars (pv 0) (pa_cons pe_str pa_nil)))
    (pss_cons (ps_if (PW.pt (pw_or (pt_cmpR op_eq (pv 1) pe_str (nomark _)) (pw_or1 (pt_cmpR op_eq (pv 1) pe_str (nomark _))))) (pss_one (ps_ret pe_bl)) pss_nil)
    (pss_cons (ps_set (i := 2) sc_is_mark.nd rfl (Or.inl rfl) (pe_split (pv 1) pe_str))
    (pss_one (ps_ret (pe_and (pe_cmpR op_eq (pe_callB call_len_seq (by rfl) T.f_len (by decide +kernel) (pa_cons (pv 2) pa_nil)) pe_int (nomark _)) (pe_and (pe_cmpR op_eq (pe_ix ix_list (pv 2) pe_int (fun _ _ => rfl)) pe_str (nomark _)) (pe_and (pe_c (cal_is_number T) hr (by decide) (by rfl) (pa_cons (pe_ix ix_list (pv 2) pe_int (fun _ _ => rfl)) (pa_cons pe_int pa_nil))) (pe_one (pe_c (cal_is_number T) hr (by decide) (by rfl) (pa_cons (pe_ix ix_list (pv 2) pe_int (fun _ _ => rfl)) (pa_cons pe_int pa_nil)))))))))))), ?_⟩
    refine ⟨_, rfl, rfl, t, "bf", rfl, rfl, small1 hl, ?_⟩
    have hl2 : (Txt.lstripChars t "bf").length ≤ 1000 := Nat.le_trans (lstrip_len _ _) hl
    unfold isMark at k
    generalize Txt.lstripChars t "bf" = rest at k hl2
    refine ⟨_, rfl, rfl, _, rfl, ?_⟩
    refine ite2 (fun h1 => ?_) (fun h1 => ?_)
    · walk_at "ii"
      refine leaf k ?_ _ (Same.refl _)
      have h1 : decide (rest = "") = true := by simpa using h1
      simp only [h1, Bool.true_or]
    · have h1 : decide (rest = "") = false := by simpa using h1
      refine ⟨_, rfl, rfl, _, rfl, ?_⟩
      refine ite2 (fun h2 => ?_) (fun h2 => ?_)
      · refine leaf k ?_ _ (Same.refl _)
        have h2 : decide (rest = "?") = true := by simpa using h2
        simp only [h1, h2, Bool.true_or, Bool.or_true]
      · have h2 : decide (rest = "?") = false := by simpa using h2
        simp only [h1, h2, Bool.false_or] at k
        refine ⟨_, rfl, ⟨_, rfl⟩, rest, "/", rfl, rfl, rfl, Nat.le_trans (Nat.add_le_add_right hl2 2) (by decide), ?_⟩
        rw [splits (b := "/") (c := 47) (by decide) (by decide +kernel)]
        have hls := split_lens (c := 47) hl2
        have s0 : ∀ p, H p = none → Same H (upd H p (.lst (((split1 47 (cds rest)).map SX.S).map V.str))) := fun p hp => same_new hp
        generalize (split1 47 (cds rest)).map SX.S = ps at k hls s0
        intro p np
        refine ⟨_, rfl, p, _, rfl, .inl (.inl (.inl upd_same)), rfl, ?_⟩
        by_cases h3 : ps.length = 3
        · match ps, h3 with
          | [a, b, c], _ =>
          refine ⟨_, rfl, ?_⟩
          walk_at "ii"
          refine ⟨_, rfl, p, _, 0, _, rfl, rfl, .inl (.inl upd_same), atI_nat (j := 0) rfl, rfl, _, rfl, ?_⟩
          refine ite2 (fun h4 => ?_) (fun h4 => ?_)
          · have h4 : decide (a = "") = true := by simpa using h4
            refine ⟨_, rfl, p, _, 1, _, rfl, rfl, .inl (.inl upd_same), atI_nat (j := 1) rfl, b, 4, rfl, hls b (by simp), fun H1 s1 => ?_⟩
            refine ⟨_, rfl, ?_⟩
            refine ite2 (fun h5 => ?_) (fun h5 => ?_)
            · refine ⟨_, rfl, p, _, 2, _, rfl, rfl, .inl (.inl (s1 _ _ upd_same)), atI_nat (j := 2) rfl, c, 4, rfl, hls c (by simp), fun H2 s2 => ?_⟩
              refine leaf k ?_ _ (((s0 p np).trans s1).trans s2)
              simp only [h4, h5, Bool.true_and]
            · refine leaf k ?_ _ ((s0 p np).trans s1)
              have h5 : isNum b 4 = false := by simpa using h5
              simp only [h5, Bool.false_and, Bool.and_false]
          · refine leaf k ?_ _ (s0 p np)
            have h4 : decide (a = "") = false := by simpa using h4
            simp only [h4, Bool.false_and]
        · refine ⟨_, rfl, ?_⟩
          have e3 : decide (V.int ((ps.map V.str).length : Nat) = V.int 3) = false := by
            rw [decide_eq_false_iff_not]
            intro q
            rw [List.length_map] at q
            injection q with q
            omega
          rw [e3]
          walk_at "ii"
          refine leaf k ?_ _ (s0 p np)
          match ps, h3 with
          | [], _ => rfl
          | [_], _ => rfl
          | [_, _], _ => rfl
          | [_, _, _], h => exact absurd rfl h
          | _ :: _ :: _ :: _ :: _, _ => rfl
def sp_is_name : Sp := fun vs H Q _ => ∃ t : Str, vs = [.str t] ∧ t.length ≤ 1000 ∧ ∀ H', Same H H' → Q (.bl (isName t)) H'
theorem cal_is_name (T : Top K mg) : Cal P w K mg base 4 "is_name" sp_is_name [] := by
  obtain ⟨fd, F⟩ := fd_is_name T
  refine ⟨_, fd, _, [], F.ok sc_is_name (fun vs H Q E h => ?_) (fun cdv A outer s H vs Q E hr h => ?_), T.g_is_name, F.kp, F.bindsN (ps := ["value"]) (fun _ _ _ _ _ _ us hl => match us, hl with | [_], _ => rfl), .nil⟩
  · obtain ⟨t, rfl, _⟩ := h
    rfl
  · obtain ⟨t, rfl, hl, k⟩ := h
    refine ⟨_, PSs.nox (pss_cons (ps_if (pt_not (pt_val (pe_callB call_isi (by rfl) T.f_isinstance (by decide +kernel) (pa_cons (pv 0) (pa_cons (pe_bltn (v := .ty "str") (u := .type "str") (by rfl) T.f_str (by decide +kernel) rfl) pa_nil))))) (pss_one (ps_ret pe_bl)) pss_nil)
    (pss_cons (ps_asg (pe_split (pv 0) pe_str) (pg_headstar rfl (pg_name (i := 1) sc_is_name.nd rfl (Or.inl rfl)) (pg_name (i := 2) sc_is_name.nd rfl (Or.inl rfl))))
    (pss_one (ps_ret (pe_and (pe_c (cal_is_word T) hr (by decide) (by rfl) (pa_cons (pv 1) pa_nil)) (pe_one (pe_callB (cr_all rfl) (by rfl) T.f_all (by decide +kernel) (pa_cons (pe_lc (own := [("mark", 3)]) rfl sc_is_name.nd (pi_list (pv 2)) (blkOk_by (own := [("mark", 3)]) (N := N_is_name) (sc := defScope s_is_name) (by decide +kernel)) (fun _ _ _ _ _ => (pg_name (i := 3) sc_is_name.nd rfl (Or.inl rfl))) (fun _ _ _ _ _ => pts_nil) (fun _ _ _ _ _ => (pe_c (cal_is_mark T) hr (by decide) (by rfl) (pa_cons (pv 3) pa_nil)))) pa_nil)))))))), ?_⟩
    refine ⟨_, rfl, _, _, _, _, true, rfl, .ty _, .base (.str t), kit_ty (by decide +kernel), _, rfl, ?_⟩
    walk_at "ii"
    refine ⟨_, rfl, ⟨_, rfl⟩, t, "@", rfl, rfl, rfl, Nat.le_trans (Nat.add_le_add_right hl 2) (by decide), ?_⟩
    rw [splits (b := "@") (c := 64) (by decide) (by decide +kernel)]
    unfold isName at k
    have hls := split_lens (c := 64) hl
    have hn : (split1 64 (cds t)).length ≤ 1001 := Nat.le_trans (split1_len 64 (cds t)).2 (by rw [← len_cds]; omega)
    cases e : split1 64 (cds t) with
    | nil => exact absurd e (split1_ne _ _)
    | cons w ms =>
    rw [e] at k hls hn
    intro p np
    refine ⟨p, _, _, rfl, .inl (.inl upd_same), fun q nq => ?_⟩
    have s1 : Same H (upd (upd H p (.lst (((w :: ms).map SX.S).map V.str))) q (.lst ((ms.map SX.S).map V.str))) := (same_new np).trans (same_new nq)
    refine ⟨_, rfl, SX.S w, rfl, hls _ (by simp), fun H2 s2 => ?_⟩
    refine ⟨_, rfl, ?_⟩
    refine ite2 (fun h1 => ?_) (fun h1 => ?_)
    · have hq : H2 q = some (.lst ((ms.map SX.S).map V.str)) := s2 _ _ upd_same
      refine ⟨_, rfl, q, rfl, ⟨_, .inl (.inl hq)⟩, fun D hD => ?_⟩
      refine lc_fm walk_list (fun i => (ms.map SX.S)[i]?.map fun z => V.bl (isMark z)) ?_ hD (fun H3 s3 => .inl (.inl (s3 _ _ hq))) (fun i x H3 H' hi s3 y Q' N' qq nn => ?_) (fun H3 s3 h3 => ?_)
      · rw [List.length_map, List.length_map]
        exact Nat.le_trans (Nat.le_of_succ_le_succ hn) (by decide)
      · obtain ⟨rfl, hx⟩ := y
        rw [List.getElem?_map] at hx
        cases ez : (ms.map SX.S)[i]? with
        | none => rw [ez] at hx; cases hx
        | some z =>
          rw [ez] at hx
          obtain rfl : V.str z = x := Option.some.inj hx
          refine ⟨rfl, ?_⟩
          refine ⟨_, rfl, z, rfl, hls z (List.mem_cons_of_mem _ (List.mem_of_getElem? ez)), fun H4 s4 => ?_⟩
          refine qq _ _ ?_ s4
          rw [ez]
          rfl
      · refine ⟨D, ((ms.map SX.S).map isMark), rfl, .inl (.inl (h3.trans ?_)), ?_⟩
        · rw [range_map _ _ (by rw [List.length_map])]
          simp only [List.map_map]
          rfl
        · refine leaf k ?_ _ ((s1.trans s2).trans s3)
          show (isWord (SX.S w) && (ms.map SX.S).all isMark) = _
          rw [h1, Bool.true_and]
          simp only [List.all_map]
          rfl
    · refine leaf k ?_ _ (s1.trans s2)
      show (isWord (SX.S w) && (ms.map SX.S).all isMark) = _
      have h1 : isWord (SX.S w) = false := by simpa using h1
      rw [h1, Bool.false_and]
end
end AF
namespace AF
open PySem PySem.Spec PyProof.Rows L2
section
variable {P : Program} {w : World} {K : PySem.W.Frag} {mg : Str → Option Value} {base : Heap}
/-! ### askedfacts.literals -/
def LitOk (l : Lit) : Prop := isName l.name = true ∧ l.name.length ≤ 1000 ∧ (∀ t ∈ l.terms, isConst t = true ∨ isVar t = true) ∧ (∀ z, Sum.inr z ∈ l.terms → z.length ≤ 1000) ∧ l.terms.length ≤ 1000
def sp_Literal_init : Sp := fun vs H Q _ => ∃ (H0 : Hp) (a dx t : Addr) (l : Lit), vs = [.ref a, .str l.name, .ref t, .bl l.neg] ∧ H0 a = none ∧ H0 dx = none ∧ dx ≠ a ∧ H = upd (upd H0 dx (.own a)) a (.ins (He.ga K "Literal") dx []) ∧
  LitOk l ∧ SqC K H0 t (l.terms.map kV) ∧ ∀ H', Same H0 H' → LitAt K H' (.ref a) l → Q .non H'
theorem slH_keep {H0 H : Hp} {a C dx : Addr} {vs : List (Option V)} (ha : H0 a = none) (hd : H0 dx = none) (s : Same H0 H) : Same H0 (SlX.slH H a C dx vs) := fun b o e => by
  rw [SlX.slH_ne (ne_of_none e ha) (ne_of_none e hd)]
  exact s b o e
theorem slH_at {H : Hp} {a C dx : Addr} {vs : List (Option V)} : SlX.slH H a C dx vs a = some (SlX.SlO a C dx vs) := upd_same
theorem slH_dx {H : Hp} {a C dx : Addr} {vs : List (Option V)} (h : dx ≠ a) : SlX.slH H a C dx vs dx = some (.xd []) := by
  unfold SlX.slH
  rw [upd_ne h, upd_same]
theorem kV_at {ts : List Key} {i : Nat} {x : V} (h : (ts.map kV)[i]? = some x) : ∃ t, ts[i]? = some t ∧ x = kV t := by
  rw [List.getElem?_map] at h
  cases e : ts[i]? with
  | none => rw [e] at h; cases h
  | some t => rw [e] at h; exact ⟨t, rfl, (Option.some.inj h).symm⟩
theorem ok_Literal_init (T : Top K mg) {fd : FuncData} (F : FunD K "__init__" "Literal.__init__" (defArgs s_Literal___init__) (defBody s_Literal___init__) (defScope s_Literal___init__) (d_Literal___init__.dvs K) (d_Literal___init__.kws K) (He.fAd K d_Literal___init__.at_) fd) :
    FnOk P w K mg base CX0 5 (He.ma K (He.ga K "Literal") "__init__") fd ["self", "name", "terms", "negated"] (sp_Literal_init (K := K)) := by
  refine F.ok sc_Literal___init__ (fun vs H Q E h => ?_) (fun cdv A outer s H vs Q E hr h => ?_)
  · obtain ⟨_, _, _, _, _, rfl, _⟩ := h
    rfl
  · obtain ⟨H0, a, dx, t, l, rfl, ha, hd, hda, rfl, ⟨o1, o2, o3, o4, o5⟩, hq, k⟩ := h
    obtain ⟨b, hb⟩ := hq.b
    refine ⟨_, PSs.nox (pss_cons (ps_if (pt_not (pt_val (pe_c (cal_is_name T) hr (by decide) (by rfl) (pa_cons (pv 1) pa_nil)))) (pss_one ps_never) pss_nil)
    (pss_cons (ps_for PassesOwn.never rfl (pi_seq (pv 2)) (pg_name (i := 4) sc_Literal___init__.nd rfl (Or.inl rfl)) (pss_one (ps_if (PW.pt (pw_and (pt_not (pt_val (pe_c (cal_is_constant T) hr (by decide) (by rfl) (pa_cons (pv 4) pa_nil)))) (pw_and1 (pt_not (pt_val (pe_c (cal_is_variable T) hr (by decide) (by rfl) (pa_cons (pv 4) pa_nil))))))) (pss_one ps_never) pss_nil)))
    (pss_cons (SlX.ps_sl (pv 0) (pv 1))
    (pss_cons (SlX.ps_sl (pv 0) (pe_callTy call_tuple_of (by rfl) T.f_tuple (by decide +kernel) (pa_cons (pv 2) pa_nil)))
    (pss_one (SlX.ps_sl (pv 0) (pv 3))))))), ?_⟩
    have s0 : Same H0 (upd (upd H0 dx (.own a)) a (.ins (He.ga K "Literal") dx [])) := (same_new hd).trans (same_at (by rw [upd_ne hda.symm]; exact ha) (Same.refl _))
    have hin : (upd (upd H0 dx (.own a)) a (.ins (He.ga K "Literal") dx [])) a = some (.ins (He.ga K "Literal") dx []) := upd_same
    generalize upd (upd H0 dx (.own a)) a (.ins (He.ga K "Literal") dx []) = H at s0 hin
    refine ⟨_, rfl, l.name, rfl, o2, fun H1 s1 => ?_⟩
    refine ⟨_, rfl, ?_⟩
    rw [o1]
    walk_at "ii"
    refine ⟨_, rfl, t, _, b, rfl, hb _ (s0.trans s1), fun J G wk hG => ?_⟩
    refine for_it wk (fun i σ H2 => ∃ x, σ = [some (.ref a), some (.str l.name), some (.ref t), some (.bl l.neg), x] ∧ Same H1 H2) ⟨_, rfl, Same.refl _⟩ (fun i σ H2 _ p => ?_) (fun i x σ H2 H3 hi p y => ?_) (fun σ H2 p => ?_)
    · obtain ⟨_, _, s2⟩ := p
      exact hG _ (hb _ ((s0.trans s1).trans s2))
    · obtain ⟨x0, rfl, s2⟩ := p
      obtain ⟨rfl, hx⟩ := y
      obtain ⟨tm, ht, rfl⟩ := kV_at hx
      have hm := List.mem_of_getElem? ht
      refine ⟨_, rfl, tm, rfl, fun H4 s3 => ?_⟩
      refine ⟨_, rfl, ?_⟩
      refine ite2 (fun h1 => ?_) (fun h1 => ?_)
      · refine ⟨_, rfl, tm, rfl, fun z e => o4 z (e ▸ hm), fun H5 s4 => ?_⟩
        refine ⟨_, rfl, ?_⟩
        have hv : isVar tm = true := by
          rcases o3 tm hm with q | q
          · rw [q] at h1; cases h1
          · exact q
        rw [hv]
        walk_at "ii"
        exact ⟨_, rfl, (s2.trans s3).trans s4⟩
      · walk_at "ii"
        exact ⟨_, rfl, s2.trans s3⟩
    · obtain ⟨x0, rfl, s2⟩ := p
      have s3 : Same H0 H2 := (s0.trans s1).trans s2
      have hin2 : H2 a = some (.ins (He.ga K "Literal") dx []) := s2 _ _ (s1 _ _ hin)
      refine ⟨_, rfl, _, rfl, a, _, dx, _, [], 0, rfl, .inl ⟨hin2, rfl⟩, T.sc_Literal, T.sl_Literal_name, ?_⟩
      have s4 := slH_keep (C := He.ga K "Literal") (vs := SlX.putS 0 (.str l.name) []) ha hd s3
      have st4 : SlX.Slt (SlX.slH H2 a (He.ga K "Literal") dx (SlX.putS 0 (.str l.name) [])) a (He.ga K "Literal") dx (SlX.putS 0 (.str l.name) []) := SlX.slH_slt hda
      generalize SlX.slH H2 a (He.ga K "Literal") dx (SlX.putS 0 (.str l.name) []) = H4 at s4 st4
      have fin : ∀ (u : Addr) (H5 : Hp), Same H0 H5 → TupAt K H5 u (l.terms.map kV) → u ≠ a → u ≠ dx → SlX.Slt H5 a (He.ga K "Literal") dx (SlX.putS 0 (.str l.name) []) →
          Q .non (SlX.slH (SlX.slH H5 a (He.ga K "Literal") dx (SlX.putS 2 (.ref u) (SlX.putS 0 (.str l.name) []))) a (He.ga K "Literal") dx (SlX.putS 1 (.bl l.neg) (SlX.putS 2 (.ref u) (SlX.putS 0 (.str l.name) [])))) := by
        intro u H5 s5 hu n1 n2 _
        refine k _ (slH_keep ha hd (slH_keep ha hd s5)) ⟨a, dx, u, rfl, slH_at, slH_dx hda, ?_⟩
        rcases hu with hu | hu
        · left
          rw [SlX.slH_ne n1 n2, SlX.slH_ne n1 n2]
          exact hu
        · exact .inr hu
      refine ⟨_, rfl, ?_⟩
      have hq4 := hq.same s4
      rcases hq4 with h | h
      · refine ⟨t, _, rfl, .inl ⟨.inl (.inl h), fun u hu => ?_⟩⟩
        have na : u ≠ a := fun e => by
          subst e
          rcases st4 with ⟨z, _⟩ | ⟨z, _⟩
          · rw [z] at hu; cases hu
          · rw [z] at hu; cases hu
        have nd : u ≠ dx := fun e => by
          subst e
          rcases st4 with ⟨z, q⟩ | ⟨_, z⟩
          · cases q
          · rw [z] at hu; cases hu
        have st5 : SlX.Slt (upd H4 u (.tup (l.terms.map kV))) a (He.ga K "Literal") dx (SlX.putS 0 (.str l.name) []) := by
          rcases st4 with ⟨z, q⟩ | ⟨z1, z2⟩
          · cases q
          · exact .inr ⟨by rw [upd_ne na.symm]; exact z1, by rw [upd_ne nd.symm]; exact z2⟩
        refine ⟨_, rfl, a, _, dx, _, _, 2, rfl, st5, T.sc_Literal, T.sl_Literal_terms, ?_⟩
        refine ⟨_, rfl, _, rfl, a, _, dx, _, _, 1, rfl, SlX.slH_slt hda, T.sc_Literal, T.sl_Literal_negated, ?_⟩
        exact fin u _ (s4.trans (same_new hu)) (.inl upd_same) na nd st5
      · refine ⟨t, _, rfl, .inr ⟨h.sq, ?_⟩⟩
        refine ⟨_, rfl, a, _, dx, _, _, 2, rfl, st4, T.sc_Literal, T.sl_Literal_terms, ?_⟩
        refine ⟨_, rfl, _, rfl, a, _, dx, _, _, 1, rfl, SlX.slH_slt hda, T.sc_Literal, T.sl_Literal_negated, ?_⟩
        rcases h with h | h
        · have na : t ≠ a := fun e => by
            subst e
            rcases st4 with ⟨z, q⟩ | ⟨z, _⟩
            · cases q
            · rw [z] at h; cases h
          have nd : t ≠ dx := fun e => by
            subst e
            rcases st4 with ⟨z, q⟩ | ⟨_, z⟩
            · cases q
            · rw [z] at h; cases h
          exact fin t _ s4 (.inl h) na nd st4
        · refine k _ (slH_keep ha hd (slH_keep ha hd s4)) ⟨a, dx, t, rfl, slH_at, slH_dx hda, .inr h⟩

/-- Literal(name, terms, negated=b); Literal(name, terms) -/
theorem mk_Literal (T : Top K mg) : ∃ fd, FnOk P w K mg base CX0 5 (He.ma K (He.ga K "Literal") "__init__") fd ["self", "name", "terms", "negated"] (sp_Literal_init (K := K)) ∧
    KBn K fd ["self", "name", "terms", "negated"] 3 ["negated"] (fun us ws => us ++ ws) (fun vs zs => vs ++ zs) ∧ ∃ ds, Vals [V.bl false] ds ∧ Binds K fd ["self", "name", "terms", "negated"] ds := by
  obtain ⟨fd, F⟩ := fd_Literal___init__ T
  refine ⟨fd, ok_Literal_init T F, ?_, ?_⟩
  · obtain ⟨mv, h⟩ := F.kbinds0 (ps := ["self", "name", "terms", "negated"]) 3 ["negated"] [] (fun us _ ws => us ++ ws) (by intro h; cases h) (by simp) (fun r _ r' => r.append r')
      (fun D doc pm an cdv ct us mv ws h1 h2 h3 => match us, mv, ws, h1, h2, h3 with | [_, _, _], [], [_], _, _, _ => rfl)
    exact h
  · exact F.binds0 (ps := ["self", "name", "terms", "negated"]) 3 (by intro h; cases h) rfl
      (fun D doc pm an cdv ct us ks h1 h2 => match us, ks, h1, h2 with | [_, _, _], [_], _, _ => ⟨_, _, _, _, _, _, rfl, rfl, rfl⟩)
theorem lit_made {l : Lit} {t : Addr} {H : Hp} {Q : VK} {E : XK} (o : LitOk l) (q : SqC K H t (l.terms.map kV)) (k : ∀ p H', Same H H' → LitAt K H' (.ref p) l → Q (.ref p) H') :
    ∀ x dx, H x = none → H dx = none → dx ≠ x → sp_Literal_init (K := K) [.ref x, .str l.name, .ref t, .bl l.neg] (upd (upd H dx (.own x)) x (.ins (He.ga K "Literal") dx [])) (fun v H3 => v = .non ∧ Q (.ref x) H3) E :=
  fun x dx hx hd hn => ⟨H, x, dx, t, l, rfl, hx, hd, hn, rfl, o, q, fun H' s h => ⟨rfl, k x H' s h⟩⟩
/-- variables -/
def sp_variables : Sp := fun vs H Q _ => ∃ (a : Addr) (l : Lit), vs = [.ref a] ∧ LitAt K H (.ref a) l ∧ l.terms.length ≤ 1000 ∧ ∀ p H', Same H H' → H p = none → H' p = some (.lst ((varsOf l.terms).map V.str)) → Q (.ref p) H'
theorem foldl_take {α β : Type} {f : β → α → β} {b : β} {xs : List α} {i : Nat} {x : α} (h : xs[i]? = some x) : (xs.take (i + 1)).foldl f b = f ((xs.take i).foldl f b) x := by
  have hlt := (List.getElem?_eq_some_iff.mp h).1
  have e : xs[i] = x := (List.getElem?_eq_some_iff.mp h).2
  rw [List.take_succ_eq_append_getElem hlt, List.foldl_append, e]
  rfl
theorem addVar_len (ts : List Key) : ∀ f : List Str, (ts.foldl addVar f).length ≤ f.length + ts.length := by
  induction ts with
  | nil => intro f; simp
  | cons t r ih =>
    intro f
    rw [List.foldl_cons]
    have h1 := ih (addVar f t)
    have h2 : (addVar f t).length ≤ f.length + 1 := by
      unfold addVar
      split
      · omega
      · split
        · omega
        · rw [List.length_append]; simp
    simp only [List.length_cons]
    omega
theorem fnr_Literal_variables (T : Top K mg) : FnR P w K mg base CX0 1 (He.ma K (He.ga K "Literal") "variables") (sp_variables (K := K)) := by
  obtain ⟨fd, F⟩ := fd_Literal_variables T
  have b : Binds K fd ["self"] [] := F.bindsN (fun _ _ _ _ _ _ us hl => match us, hl with | [_], _ => rfl)
  refine (FnOk.raw (F.ok sc_Literal_variables (fun vs H Q E h => ?_) (fun cdv A outer s H vs Q E hr h => ?_)) b .nil).imp (fun vs H Q E h => by rw [List.append_nil]; exact h)
  · obtain ⟨a, l, rfl, _⟩ := h
    rfl
  · obtain ⟨a, l, rfl, ha, hl, k⟩ := h
    refine ⟨_, PSs.nox (pss_cons (ps_set (i := 1) sc_Literal_variables.nd rfl (Or.inl rfl) (pe_lst pa_nil))
    (pss_cons (ps_for PassesOwn.never rfl (pi_tup (SlX.pe_sl (pv 0))) (pg_name (i := 2) sc_Literal_variables.nd rfl (Or.inl rfl)) (pss_one (ps_if (PW.pt (pw_and (pt_val (pe_callB call_isi (by rfl) T.f_isinstance (by decide +kernel) (pa_cons (pv 2) (pa_cons (pe_bltn (v := .ty "str") (u := .type "str") (by rfl) T.f_str (by decide +kernel) rfl) pa_nil)))) (pw_and1 (pt_cmpR op_notIn_seq (pv 2) (pv 1) (by rfl))))) (pss_one (ps_expr (pe_bm PySem.F.plainAttrs_list PySem.F.slot_list_append PySem.F.type_list_append mt_append (pv 1) (pa_cons (pv 2) pa_nil)))) pss_nil)))
    (pss_one (ps_ret (pv 1))))), ?_⟩
    refine ⟨Nat.zero_le _, fun p np => ?_⟩
    have s0 := same_new (o := HO.lst []) np
    have hp0 : (upd H p (.lst [])) p = some (.lst (([] : List Str).map V.str)) := upd_same
    generalize upd H p (.lst []) = H0 at s0 hp0
    obtain ⟨dx, t, hs, ht⟩ := (ha.same s0).slt
    refine ⟨_, rfl, a, _, dx, _, _, 2, _, rfl, hs, T.sc_Literal, T.sl_Literal_terms, rfl, t, rfl, ⟨_, ht.sq⟩, ?_⟩
    refine for_it (walk_tup (xs := l.terms.map kV)) (fun i σ H1 => ∃ x, σ = [some (.ref a), some (.ref p), x] ∧ Same H H1 ∧ H1 p = some (.lst (((l.terms.take i).foldl addVar []).map V.str)) ∧ TupAt K H1 t (l.terms.map kV)) ⟨_, rfl, s0, hp0, ht⟩ (fun i σ H1 _ q => ?_) (fun i x σ H1 H2 hi q y => ?_) (fun σ H1 q => ?_)
    · obtain ⟨_, _, _, _, h⟩ := q
      exact h.sq
    · obtain ⟨x0, rfl, s1, h1, h2⟩ := q
      obtain ⟨rfl, hx⟩ := y
      obtain ⟨tm, ht, rfl⟩ := kV_at hx
      rw [foldl_take ht]
      have hlen : ((l.terms.take i).foldl addVar []).length < sizeLine := by
        have h1 := addVar_len (l.terms.take i) []
        rw [List.length_take] at h1
        simp only [List.length_nil, Nat.zero_add] at h1
        exact Nat.lt_of_le_of_lt (Nat.le_trans h1 (Nat.le_trans (Nat.min_le_right _ _) hl)) (by decide)
      generalize (l.terms.take i).foldl addVar [] = found at h1 hlen
      cases tm with
      | inl c =>
        refine ⟨_, rfl, _, _, _, _, false, rfl, .ty _, .base (.int c), kit_ty (by decide +kernel), _, rfl, ?_⟩
        walk_at "ii"
        exact ⟨_, rfl, s1, h1, h2⟩
      | inr z =>
        refine ⟨_, rfl, _, _, _, _, true, rfl, .ty _, .base (.str z), kit_ty (by decide +kernel), _, rfl, ?_⟩
        walk_at "ii"
        refine ⟨_, rfl, _, rfl, p, _, rfl, .inl (.inl (.inl h1)), rfl, flat_strs _, _, rfl, ?_⟩
        have ez : inV (V.str z) (found.map V.str) = decide (z ∈ found) := inV_str z found
        refine ite2 (fun hz => ?_) (fun hz => ?_)
        · have hz : (!inV (V.str z) (found.map V.str)) = true := hz
          rw [ez] at hz
          have hz : ¬ z ∈ found := by simpa using hz
          refine ⟨_, rfl, .inl ⟨rfl, _, .inl (.inl h1)⟩, _, rfl, p, _, _, rfl, rfl, h1, by rw [List.length_map]; exact hlen, ?_⟩
          refine ⟨_, rfl, same_at np s1, ?_, h2.mono (Imm.lst h1)⟩
          show _ = some (HO.lst ((if z ∈ found then found else found ++ [z]).map V.str))
          rw [if_neg hz, List.map_append]
          exact upd_same
        · have hz : ¬ (!inV (V.str z) (found.map V.str)) = true := hz
          rw [ez] at hz
          have hz : z ∈ found := by simpa using hz
          refine ⟨_, rfl, s1, ?_, h2⟩
          show _ = some (HO.lst ((if z ∈ found then found else found ++ [z]).map V.str))
          rw [if_pos hz]
          exact h1
    · obtain ⟨x0, rfl, s1, h1, h2⟩ := q
      refine ⟨_, rfl, k p _ s1 np ?_⟩
      rw [h1, List.length_map, List.take_length]
      rfl
end
end AF
namespace AF
open PySem PySem.Spec PyProof.Rows L2
section
variable {P : Program} {w : World} {K : PySem.W.Frag} {mg : Str → Option Value} {base : Heap}
/-! ### askedfacts.rules -/
def sp_first_unsafe : Sp := fun vs H Q _ => ∃ (vh : V) (t : Addr) (bs : List V) (h : Lit) (b : List Lit), vs = [vh, .ref t] ∧ LitAt K H vh h ∧ SqC K H t bs ∧ Paired (LitAt K H) bs b ∧ h.terms.length ≤ 1000 ∧ b.length ≤ 1000 ∧ (∀ l ∈ b, l.terms.length ≤ 1000) ∧
  ∀ H', Same H H' → Q (oV (firstUnsafe h b)) H'
theorem str_at {xs : List Str} {i : Nat} {x : V} (h : (xs.map V.str)[i]? = some x) : ∃ t, xs[i]? = some t ∧ x = .str t := by
  rw [List.getElem?_map] at h
  cases e : xs[i]? with
  | none => rw [e] at h; cases h
  | some t => rw [e] at h; exact ⟨t, rfl, (Option.some.inj h).symm⟩
theorem cal_first_unsafe (T : Top K mg) : Cal P w K mg base 2 "first_unsafe" (sp_first_unsafe (K := K)) [] := by
  obtain ⟨fd, F⟩ := fd_first_unsafe T
  refine ⟨_, fd, _, [], F.ok sc_first_unsafe (fun vs H Q E h => ?_) (fun cdv A outer s H vs Q E hr h => ?_), T.g_first_unsafe, F.kp, F.bindsN (ps := ["head", "body"]) (fun _ _ _ _ _ _ us hl => match us, hl with | [_, _], _ => rfl), .nil⟩
  · obtain ⟨_, _, _, _, _, rfl, _⟩ := h
    rfl
  · obtain ⟨vh, t, bs, h, b, rfl, hh, hb, hp, l1, l2, l3, k⟩ := h
    refine ⟨_, PSs.nox (pss_cons (ps_set (i := 2) sc_first_unsafe.nd rfl (Or.inl rfl) (pe_lst pa_nil))
    (pss_cons (ps_for PassesOwn.never rfl (pi_seq (pv 1)) (pg_name (i := 3) sc_first_unsafe.nd rfl (Or.inl rfl)) (pss_cons (ps_if (pt_not (pt_val (SlX.pe_sl (pv 3)))) (pss_cons (ps_expr (pe_bm PySem.F.plainAttrs_list PySem.F.slot_list_extend PySem.F.type_list_extend mt_extend (pv 2) (pa_cons (SlX.pe_methSl0 (pv 3) (T.sc_Literal) (T.me_Literal_variables) (fnr_Literal_variables T) (hr.mono (by decide)) pass0) pa_nil)))
    (pss_one ps_continue)) pss_nil)
    (pss_one (ps_for PassesOwn.never rfl (pi_list (SlX.pe_methSl0 (pv 3) (T.sc_Literal) (T.me_Literal_variables) (fnr_Literal_variables T) (hr.mono (by decide)) pass0)) (pg_name (i := 4) sc_first_unsafe.nd rfl (Or.inl rfl)) (pss_one (ps_if (pt_cmpR op_notIn_seq (pv 4) (pv 2) (by rfl)) (pss_one (ps_ret (pv 4))) pss_nil))))))
    (pss_cons (ps_for PassesOwn.never rfl (pi_list (SlX.pe_methSl0 (pv 0) (T.sc_Literal) (T.me_Literal_variables) (fnr_Literal_variables T) (hr.mono (by decide)) pass0)) (pg_name (i := 4) sc_first_unsafe.nd rfl (Or.inl rfl)) (pss_one (ps_if (pt_cmpR op_notIn_seq (pv 4) (pv 2) (by rfl)) (pss_one (ps_ret (pv 4))) pss_nil)))
    (pss_one (ps_ret pe_non))))), ?_⟩
    obtain ⟨ah, rfl⟩ := hh.ref
    obtain ⟨bb, hbb⟩ := hb.b
    refine ⟨Nat.zero_le _, fun p np => ?_⟩
    refine ⟨_, rfl, t, _, bb, rfl, hbb _ (same_new np), fun J G wk hG => ?_⟩
    have hbl : bs.length = b.length := paired_len hp
    refine for_it wk (fun i σ H1 => ∃ x3 x4 kn, σ = [some (.ref ah), some (.ref t), some (.ref p), x3, x4] ∧ Same H H1 ∧ H1 p = some (.lst (kn.map V.str)) ∧ kn.length ≤ 1000 * i ∧ fuBody [] b = fuBody kn (b.drop i))
      ⟨_, _, [], rfl, same_new np, upd_same, Nat.zero_le _, rfl⟩ (fun i σ H1 _ q => ?_) (fun i x σ H1 H2 hi q y => ?_) (fun σ H1 q => ?_)
    · obtain ⟨_, _, _, _, s1, _⟩ := q
      exact hG _ (hbb _ s1)
    · obtain ⟨x3, x4, kn, rfl, s1, h1, hk, hgo⟩ := q
      obtain ⟨rfl, hx⟩ := y
      obtain ⟨l, hl, hla⟩ := paired_at hp hx
      rw [fuBody_step hl] at hgo
      have hm := l3 l (List.mem_of_getElem? hl)
      obtain ⟨al, rfl⟩ := hla.ref
      obtain ⟨dx, tl, hs, htl⟩ := hla.slts
      have hib : i < b.length := by omega
      refine ⟨_, rfl, al, _, dx, _, _, 1, _, rfl, hs _ (.same s1), T.sc_Literal, T.sl_Literal_negated, rfl, _, rfl, ?_⟩
      refine ite2 (fun hn => ?_) (fun hn => ?_)
      · have hn : l.neg = false := by simpa using hn
        rw [hn] at hgo
        refine ⟨_, rfl, .inl ⟨rfl, _, .inl (.inl h1)⟩, ?_⟩
        refine ⟨_, rfl, al, dx, _, rfl, hs _ (.same s1), al, l, rfl, hla.same s1, hm, fun q H3 s3 hq h3 => ?_⟩
        have h13 := s3 _ _ h1
        have hkl : (varsOf l.terms).length ≤ 1000 := Nat.le_trans (varsOf_len _) hm
        refine ⟨p, q, _, _, rfl, rfl, h13, h3, ?_, ?_⟩
        · rw [List.length_map, List.length_map]
          have : 1000 * i ≤ 1000 * 1000 := Nat.mul_le_mul_left _ (by omega)
          exact Nat.le_trans (Nat.add_le_add (Nat.le_trans hk this) hkl) (by decide)
        · refine ⟨_, _, kn ++ varsOf l.terms, rfl, same_at np (s1.trans s3), by rw [List.map_append]; exact upd_same, ?_, hgo⟩
          rw [List.length_append]
          omega
      · have hn : l.neg = true := by simpa using hn
        rw [hn] at hgo
        refine ⟨_, rfl, al, dx, _, rfl, hs _ (.same s1), al, l, rfl, hla.same s1, hm, fun q H3 s3 hq h3 => ?_⟩
        refine ⟨q, rfl, ⟨_, .inl (.inl h3)⟩, ?_⟩
        have h13 := s3 _ _ h1
        refine for_it (walk_list (xs := (varsOf l.terms).map V.str)) (fun j σ H4 => ∃ y4, σ = [some (.ref ah), some (.ref t), some (.ref p), some (.ref al), y4] ∧ H4 = H3 ∧ (varsOf l.terms).find? (fun x => decide (x ∉ kn)) = ((varsOf l.terms).drop j).find? (fun x => decide (x ∉ kn)))
          ⟨_, rfl, rfl, rfl⟩ (fun j σ H4 _ q => ?_) (fun j y σ H4 H5 hj q y => ?_) (fun σ H4 q => ?_)
        · obtain ⟨_, _, rfl, _⟩ := q
          exact .inl (.inl h3)
        · obtain ⟨y4, rfl, rfl, hf⟩ := q
          obtain ⟨rfl, hy⟩ := y
          obtain ⟨z, hz, rfl⟩ := str_at hy
          rw [find_step hz] at hf
          refine ⟨_, rfl, _, rfl, p, _, rfl, .inl (.inl (.inl h13)), rfl, flat_strs _, _, rfl, ?_⟩
          have ez : inV (V.str z) (kn.map V.str) = decide (z ∈ kn) := inV_str z kn
          refine ite2 (fun hz => ?_) (fun hz => ?_)
          · have hz : (!inV (V.str z) (kn.map V.str)) = true := hz
            rw [ez] at hz
            have hz : decide (z ∉ kn) = true := by simpa using hz
            rw [if_pos hz] at hf
            rw [hf] at hgo
            refine ⟨_, rfl, ?_⟩
            have e : firstUnsafe h b = some z := by unfold firstUnsafe; rw [hgo]; rfl
            rw [e] at k
            exact k _ (s1.trans s3)
          · have hz : ¬ (!inV (V.str z) (kn.map V.str)) = true := hz
            rw [ez] at hz
            have hz : ¬ decide (z ∉ kn) = true := by simpa using hz
            rw [if_neg hz] at hf
            exact ⟨_, rfl, rfl, hf⟩
        · obtain ⟨y4, rfl, rfl, hf⟩ := q
          rw [List.length_map, List.drop_length] at hf
          rw [hf] at hgo
          exact ⟨_, _, kn, rfl, s1.trans s3, h13, Nat.le_trans hk (Nat.mul_le_mul_left _ (Nat.le_succ _)), hgo⟩
    · obtain ⟨x3, x4, kn, rfl, s1, h1, hk, hgo⟩ := q
      rw [hbl, List.drop_length] at hgo
      obtain ⟨dx, tl, hs, htl⟩ := hh.slts
      refine ⟨_, rfl, ah, dx, _, rfl, hs _ (.same s1), ah, h, rfl, hh.same s1, l1, fun q H3 s3 hq h3 => ?_⟩
      have h13 := s3 _ _ h1
      refine ⟨q, rfl, ⟨_, .inl (.inl h3)⟩, ?_⟩
      have e0 : firstUnsafe h b = (varsOf h.terms).find? (fun x => decide (x ∉ kn)) := by unfold firstUnsafe; rw [hgo]; rfl
      refine for_it (walk_list (xs := (varsOf h.terms).map V.str)) (fun j σ H4 => ∃ y4, σ = [some (.ref ah), some (.ref t), some (.ref p), x3, y4] ∧ H4 = H3 ∧ firstUnsafe h b = ((varsOf h.terms).drop j).find? (fun x => decide (x ∉ kn)))
        ⟨_, rfl, rfl, e0⟩ (fun j σ H4 _ q => ?_) (fun j y σ H4 H5 hj q y => ?_) (fun σ H4 q => ?_)
      · obtain ⟨_, _, rfl, _⟩ := q
        exact .inl (.inl h3)
      · obtain ⟨y4, rfl, rfl, hf⟩ := q
        obtain ⟨rfl, hy⟩ := y
        obtain ⟨z, hz, rfl⟩ := str_at hy
        rw [find_step hz] at hf
        refine ⟨_, rfl, _, rfl, p, _, rfl, .inl (.inl (.inl h13)), rfl, flat_strs _, _, rfl, ?_⟩
        have ez : inV (V.str z) (kn.map V.str) = decide (z ∈ kn) := inV_str z kn
        refine ite2 (fun hz => ?_) (fun hz => ?_)
        · have hz : (!inV (V.str z) (kn.map V.str)) = true := hz
          rw [ez] at hz
          have hz : decide (z ∉ kn) = true := by simpa using hz
          rw [if_pos hz] at hf
          refine ⟨_, rfl, ?_⟩
          rw [hf] at k
          exact k _ (s1.trans s3)
        · have hz : ¬ (!inV (V.str z) (kn.map V.str)) = true := hz
          rw [ez] at hz
          have hz : ¬ decide (z ∉ kn) = true := by simpa using hz
          rw [if_neg hz] at hf
          exact ⟨_, rfl, rfl, hf⟩
      · obtain ⟨y4, rfl, rfl, hf⟩ := q
        rw [List.length_map, List.drop_length] at hf
        rw [hf] at k
        exact k _ (s1.trans s3)
theorem hb_ : ¬ (("head" : Str) = "body") := by decide +kernel
theorem pf_rule (h b : V) : putF "body" b (putF "head" h []) = ([("head", h), ("body", b)] : List (Str × V)) := by
  show (if ("head" : Str) = "body" then [(("head" : Str), b)] else (("head" : Str), h) :: putF "body" b []) = _
  rw [if_neg hb_]
  rfl
def RulSafe (r : Rul) : Prop := r.head.neg = false ∧ firstUnsafe r.head r.body = none ∧ r.head.terms.length ≤ 1000 ∧ r.body.length ≤ 1000 ∧ ∀ l ∈ r.body, l.terms.length ≤ 1000
def sp_Rule_init : Sp := fun vs H Q _ => ∃ (H0 : Hp) (a dx t : Addr) (vh : V) (bs : List V) (r : Rul), vs = [.ref a, vh, .ref t] ∧ H0 a = none ∧ H0 dx = none ∧ dx ≠ a ∧ H = upd (upd H0 dx (.own a)) a (.ins (He.ga K "Rule") dx []) ∧
  LitAt K H0 vh r.head ∧ SqC K H0 t bs ∧ Paired (LitAt K H0) bs r.body ∧ RulSafe r ∧ ∀ H', Same H0 H' → RulAt K H' (.ref a) r → Q .non H'
theorem ok_Rule_init (T : Top K mg) {fd : FuncData} (F : FunD K "__init__" "Rule.__init__" (defArgs s_Rule___init__) (defBody s_Rule___init__) (defScope s_Rule___init__) (d_Rule___init__.dvs K) (d_Rule___init__.kws K) (He.fAd K d_Rule___init__.at_) fd) :
    FnOk P w K mg base CX0 3 (He.ma K (He.ga K "Rule") "__init__") fd ["self", "head", "body"] (sp_Rule_init (K := K)) := by
  refine F.ok sc_Rule___init__ (fun vs H Q E h => ?_) (fun cdv A outer s H vs Q E hr h => ?_)
  · obtain ⟨_, _, _, _, _, _, _, rfl, _⟩ := h
    rfl
  · obtain ⟨H0, a, dx, t, vh, bs, r, rfl, ha, hd, hda, rfl, hh, hb, hp, ⟨o1, o2, o3, o4, o5⟩, k⟩ := h
    refine ⟨_, PSs.nox (pss_cons (ps_if (pt_val (SlX.pe_sl (pv 1))) (pss_one ps_never) pss_nil)
    (pss_cons (ps_ifW (ptw_cmp op_notN (pew_named sc_Rule___init__.nd (i := 3) rfl (Or.inl rfl) (pew_of (pe_c (cal_first_unsafe T) hr (by decide) (by rfl) (pa_cons (pv 1) (pa_cons (pv 2) pa_nil))))) pe_non (nomark _)) (pss_one ps_never) pss_nil)
    (pss_cons (ps_fld (pv 0) (pv 1) rfl)
    (pss_one (ps_fld (pv 0) (pe_callTy call_tuple_of (by rfl) T.f_tuple (by decide +kernel) (pa_cons (pv 2) pa_nil)) rfl))))), ?_⟩
    have s0 : Same H0 (upd (upd H0 dx (.own a)) a (.ins (He.ga K "Rule") dx [])) := (same_new hd).trans (same_at (by rw [upd_ne hda.symm]; exact ha) (Same.refl _))
    have hin : (upd (upd H0 dx (.own a)) a (.ins (He.ga K "Rule") dx [])) a = some (.ins (He.ga K "Rule") dx []) := upd_same
    generalize upd (upd H0 dx (.own a)) a (.ins (He.ga K "Rule") dx []) = H at s0 hin
    obtain ⟨ah, rfl⟩ := hh.ref
    obtain ⟨hx, ht, hs, hts⟩ := hh.slts
    refine ⟨_, rfl, ah, _, hx, _, _, 1, _, rfl, hs _ (.same s0), T.sc_Literal, T.sl_Literal_negated, rfl, _, rfl, ?_⟩
    rw [o1]
    walk_at "ii"
    refine ⟨_, rfl, _, rfl, .ref ah, t, bs, r.head, r.body, rfl, hh.same s0, hb.same s0, paired_imp (fun _ _ q => q.same s0) hp, o3, o4, o5, fun H1 s1 => ?_⟩
    rw [o2]
    refine ⟨rfl, _, rfl, ?_⟩
    refine iteF ?_
    refine ⟨_, rfl, _, rfl, a, _, dx, _, rfl, s1 _ _ hin, T.cl_Rule, T.na_Rule_head, by decide, ?_⟩
    have s2 : Same H0 (upd H1 a (.ins (He.ga K "Rule") dx (putF "head" (.ref ah) []))) := same_at ha (s0.trans s1)
    have hin2 : (upd H1 a (.ins (He.ga K "Rule") dx (putF "head" (.ref ah) []))) a = some (.ins (He.ga K "Rule") dx (putF "head" (.ref ah) [])) := upd_same
    generalize upd H1 a (.ins (He.ga K "Rule") dx (putF "head" (.ref ah) [])) = H2 at s2 hin2
    have fin : ∀ (u : Addr) (H3 : Hp), Same H0 H3 → TupAt K H3 u bs → H3 a = some (.ins (He.ga K "Rule") dx (putF "head" (.ref ah) [])) → Q .non (upd H3 a (.ins (He.ga K "Rule") dx (putF "body" (.ref u) (putF "head" (.ref ah) [])))) := by
      intro u H3 s3 hu h3
      have s4 : Same H0 (upd H3 a (.ins (He.ga K "Rule") dx (putF "body" (.ref u) (putF "head" (.ref ah) [])))) := same_at ha s3
      refine k _ s4 ⟨a, dx, .ref ah, u, bs, rfl, by rw [upd_same, pf_rule], hh.same s4, ?_, paired_imp (fun _ _ q => q.same s4) hp⟩
      rcases hu with hu | hu
      · left
        rw [upd_ne (ne_of hu h3 (by intro q; cases q))]
        exact hu
      · exact .inr hu
    refine ⟨_, rfl, t, bs, rfl, ?_⟩
    rcases hb.same s2 with h | h
    · refine .inl ⟨.inl (.inl h), fun u hu => ?_⟩
      have h3 : (upd H2 u (.tup bs)) a = some (.ins (He.ga K "Rule") dx (putF "head" (.ref ah) [])) := same_new hu _ _ hin2
      exact ⟨_, rfl, a, _, dx, _, rfl, h3, T.cl_Rule, T.na_Rule_body, (by show 1 < 1000; decide), fin u _ (s2.trans (same_new hu)) (.inl upd_same) h3⟩
    · exact .inr ⟨h.sq, _, rfl, a, _, dx, _, rfl, hin2, T.cl_Rule, T.na_Rule_body, (by show 1 < 1000; decide), fin t _ s2 h hin2⟩
/-- Rule(head, body) -/
theorem mk_Rule (T : Top K mg) : Mak P w K mg base 3 "Rule" (He.ga K "Rule") (sp_Rule_init (K := K)) [] := by
  obtain ⟨fd, F⟩ := fd_Rule___init__ T
  obtain ⟨ds, hv, hb⟩ := F.binds1 (ps := ["self", "head", "body"]) 3 1 (by intro h; cases h) rfl (fun T0 kV doc pm an cdv ct us its h1 h2 => match us, its, h1, h2 with | [_, _, _], [_], _, _ => ⟨_, rfl, rfl⟩)
  exact ⟨_, fd, _, ds, T.mk_Rule, ok_Rule_init T F, T.g_Rule, hb, hv⟩
theorem rule_made {r : Rul} {vh : V} {t : Addr} {bs : List V} {H : Hp} {Q : VK} {E : XK} (hh : LitAt K H vh r.head) (q : SqC K H t bs) (hp : Paired (LitAt K H) bs r.body) (o : RulSafe r) (k : ∀ p H', Same H H' → RulAt K H' (.ref p) r → Q (.ref p) H') :
    ∀ x dx, H x = none → H dx = none → dx ≠ x → sp_Rule_init (K := K) (.ref x :: ([vh, .ref t] ++ [])) (upd (upd H dx (.own x)) x (.ins (He.ga K "Rule") dx [])) (fun v H3 => v = .non ∧ Q (.ref x) H3) E :=
  fun x dx hx hd hn => ⟨H, x, dx, t, vh, bs, r, rfl, hx, hd, hn, rfl, hh, q, hp, o, fun H' s h => ⟨rfl, k x H' s h⟩⟩
end
end AF
namespace AF
open PySem PySem.Spec PyProof.Rows L2
section
variable {P : Program} {w : World} {K : PySem.W.Frag} {mg : Str → Option Value} {base : Heap}
/-! ### the law's draws -/
theorem cal__law_draw (T : Top K mg) : Cal P w K mg base 1 "_law_draw" sp_draw [] := by
  obtain ⟨fd, F⟩ := fd__law_draw T
  refine ⟨_, fd, _, [], F.ok sc__law_draw (fun vs H Q E h => ?_) (fun cdv A outer s H vs Q E hr h => ?_), T.g__law_draw, F.kp, F.bindsN (ps := ["_law_flow_here", "_law_many"]) (fun _ _ _ _ _ _ us hl => match us, hl with | [_, _], _ => rfl), .nil⟩
  · obtain ⟨_, _, rfl, _⟩ := h
    rfl
  · obtain ⟨p, m, rfl, ⟨xs, hp, hx, hl⟩, hm, k⟩ := h
    refine ⟨_, PSs.nox (pss_cons (ps_if (pt_cmpR op_eq (pe_callB call_len_seq (by rfl) T.f_len (by decide +kernel) (pa_cons (pv 0) pa_nil)) pe_int (nomark _)) (pss_one (ps_ret pe_int)) pss_nil)
    (pss_one (ps_ret (pe_op op_mod (pe_callTy call_int1 (by rfl) T.f_int (by decide +kernel) (pa_cons (pe_bm0 PySem.F.plainAttrs_list PySem.F.slot_list_pop PySem.F.type_list_pop mt_pop (pv 0)) pa_nil)) (pv 1))))), ?_⟩
    refine ⟨_, rfl, p, _, rfl, .inl (.inl (.inl hp)), rfl, _, rfl, ?_⟩
    refine ite2 (fun h => ?_) (fun h => ?_)
    · exact k 0 H (Int.le_refl _) hm ⟨xs, hp, hx, hl⟩ (.refl _)
    · have hne : xs.length ≠ 0 := by
        intro z
        apply h
        rw [List.length_map, z]
        rfl
      obtain ⟨y, hy⟩ : ∃ y, xs[xs.length - 1]? = some y := ⟨xs[xs.length - 1], by simp⟩
      refine ⟨_, rfl, .inl ⟨rfl, _, .inl (.inl hp)⟩, p, _, .int y, rfl, rfl, hp, ?_, .inl ⟨y, rfl, _, rfl, y, m, rfl, rfl, hm, ?_⟩⟩
      · rw [List.length_map, List.getElem?_map, hy]
        rfl
      · refine k _ _ (Int.emod_nonneg _ (by omega)) (Int.emod_lt_of_pos _ hm) ⟨xs.dropLast, ?_, fun x hx' => hx x (List.dropLast_subset _ hx'), by rw [List.length_dropLast]; omega⟩ (But.self (.refl _))
        rw [upd_same]
        simp
def sp_flow : Sp := fun vs H Q _ => ∃ (a : Addr) (ns : List Int), vs = [.ref a] ∧ SqL K H a (ns.map V.int) ∧ ns.length ≤ 63 ∧ ∀ p H', Same H H' → H p = none → Fl p H' → Q (.ref p) H'
theorem cal__law_flow (T : Top K mg) : Cal P w K mg base 1 "_law_flow" (sp_flow (K := K)) [] := by
  obtain ⟨fd, F⟩ := fd__law_flow T
  refine ⟨_, fd, _, [], F.ok sc__law_flow (fun vs H Q E h => ?_) (fun cdv A outer s H vs Q E hr h => ?_), T.g__law_flow, F.kp, F.bindsN (ps := ["_law_script"]) (fun _ _ _ _ _ _ us hl => match us, hl with | [_], _ => rfl), .nil⟩
  · obtain ⟨_, _, rfl, _⟩ := h
    rfl
  · obtain ⟨a, ns, rfl, hs, hn, k⟩ := h
    refine ⟨_, PSs.nox (pss_cons (ps_set (i := 1) sc__law_flow.nd rfl (Or.inl rfl) (pe_lst pa_nil))
    (pss_cons (ps_set (i := 2) sc__law_flow.nd rfl (Or.inl rfl) (pe_slice sl_list (pv 0) po_none (po_some pe_int)))
    (pss_cons (ps_for PassesOwn.never rfl (pi_range1 rfl T.f_range (pa_cons (pe_callB call_len_seq (by rfl) T.f_len (by decide +kernel) (pa_cons (pv 2) pa_nil)) pa_nil)) (pg_name (i := 3) sc__law_flow.nd rfl (Or.inl rfl)) (pss_cons (ps_set (i := 4) sc__law_flow.nd rfl (Or.inl rfl) (pe_callB call_abs (by rfl) T.f_abs (by decide +kernel) (pa_cons (pe_ix ix_list (pv 2) (pv 3) (fun _ _ => rfl)) pa_nil)))
    (pss_one (ps_if (pt_cmpR op_ge (pv 4) (pe_op op_pow pe_int pe_int) (nomark _)) (pss_one (ps_for PassesOwn.never rfl (pi_range1 rfl T.f_range (pa_cons pe_int pa_nil)) (pg_name (i := 5) sc__law_flow.nd rfl (Or.inl rfl)) (pss_one (ps_if (pt_cmpR op_gt (pv 4) pe_int (nomark _)) (pss_cons (ps_expr (pe_bm PySem.F.plainAttrs_list PySem.F.slot_list_append PySem.F.type_list_append mt_append (pv 1) (pa_cons (pe_op op_mod (pe_callTy call_int1 (by rfl) T.f_int (by decide +kernel) (pa_cons (pv 4) pa_nil)) (pe_op op_pow pe_int pe_int)) pa_nil)))
    (pss_one (ps_set (i := 4) sc__law_flow.nd rfl (Or.inl rfl) (pe_op op_fdiv (pv 4) (pe_op op_pow pe_int pe_int))))) pss_nil)))) (pss_one (ps_for PassesOwn.never rfl (pi_range1 rfl T.f_range (pa_cons (pe_op op_add pe_int (pe_op op_fdiv pe_int (pe_callB call_len_seq (by rfl) T.f_len (by decide +kernel) (pa_cons (pv 2) pa_nil)))) pa_nil)) (pg_name (i := 5) sc__law_flow.nd rfl (Or.inl rfl)) (pss_cons (ps_set (i := 6) sc__law_flow.nd rfl (Or.inl rfl) (pe_op op_mod (pe_callTy call_int1 (by rfl) T.f_int (by decide +kernel) (pa_cons (pe_op op_add (pe_op op_add (pe_op op_mul (pe_op op_add (pv 4) pe_int) (pe_op op_add pe_int (pe_op op_mul pe_int (pv 5)))) (pe_op op_mul pe_int (pv 3))) (pe_callTy call_int1 (by rfl) T.f_int (by decide +kernel) (pa_cons (pe_cmpR op_lt (pe_ix ix_list (pv 2) (pv 3) (fun _ _ => rfl)) pe_int (nomark _)) pa_nil))) pa_nil)) pe_int))
    (pss_cons (ps_set (i := 6) sc__law_flow.nd rfl (Or.inl rfl) (pe_op op_mod (pe_callTy call_int1 (by rfl) T.f_int (by decide +kernel) (pa_cons (pe_op op_add (pe_op op_mul (pv 6) (pv 6)) (pe_op op_mul pe_int (pe_op op_add (pv 3) pe_int))) pa_nil)) pe_int))
    (pss_one (ps_expr (pe_bm PySem.F.plainAttrs_list PySem.F.slot_list_append PySem.F.type_list_append mt_append (pv 1) (pa_cons (pe_op op_mod (pe_op op_mod (pe_callTy call_int1 (by rfl) T.f_int (by decide +kernel) (pa_cons (pe_op op_mul (pv 6) (pe_op op_add (pv 6) pe_int)) pa_nil)) pe_int) (pe_op op_pow pe_int pe_int)) pa_nil))))))))))))
    (pss_one (ps_ret (pe_revL (pv 1))))))), ?_⟩
    refine ⟨Nat.zero_le _, fun p np => ?_⟩
    obtain ⟨cs, ec, lc⟩ := cut_ints ns none (some 63)
    refine ⟨_, rfl, _, rfl, a, _, rfl, (same_new np).seq hs, fun c nc => ?_⟩
    rw [ec]
    have s0 : Same H (upd (upd H p (.lst [])) c (.lst (cs.map V.int))) := (same_new np).trans (same_new nc)
    have hc0 : (upd (upd H p (.lst [])) c (.lst (cs.map V.int))) c = some (.lst (cs.map V.int)) := upd_same
    have hf0 : FlN p 0 (upd (upd H p (.lst [])) c (.lst (cs.map V.int))) := ⟨[], same_new nc _ _ upd_same, fun _ h => by simp at h, Nat.zero_le _⟩
    have hpc : c ≠ p := fun e => by rw [e, upd_same] at nc; cases nc
    generalize upd (upd H p (.lst [])) c (.lst (cs.map V.int)) = H1 at s0 hc0 hf0
    refine ⟨_, rfl, c, _, rfl, .inl (.inl (.inl hc0)), _, rfl, by rw [List.length_map]; omega, by rw [List.length_map]; omega, ?_⟩
    refine for_it walk_range (fun i σ H2 => ∃ x3 x4 x5 x6, σ = [some (.ref a), some (.ref p), some (.ref c), x3, x4, x5, x6] ∧ Same H H2 ∧ H2 c = some (.lst (cs.map V.int)) ∧ FlN p (301 * i) H2)
      ⟨_, _, _, _, rfl, s0, hc0, hf0⟩ (fun _ _ _ _ _ => True.intro) (fun i x σ H2 H3 hi q y => ?_) (fun σ H2 q => ?_)
    · obtain ⟨x3, x4, x5, x6, rfl, s2, hc, hf⟩ := q
      obtain ⟨rfl, rfl⟩ := y
      have hi : i < cs.length := by
        rw [List.length_map] at hi
        simpa using hi
      obtain ⟨z, hz⟩ : ∃ z, cs[i]? = some z := ⟨cs[i], by simp [hi]⟩
      have hz' : (cs.map V.int)[i]? = some (.int z) := by rw [List.getElem?_map, hz]; rfl
      have ha : atI (cs.map V.int) (0 + (i : Int)) = some (.int z) := atI_of hz' (by omega)
      have hsz : 0 ≤ (if z < 0 then -z else z) := by split <;> omega
      refine ⟨_, rfl, _, rfl, c, _, _, _, rfl, rfl, .inl (.inl hc), ha, z, rfl, ?_⟩
      have e6 : (10 : Int) ^ Int.toNat 6 = 1000000 := by decide
      have c6 : CPow 10 6 := ⟨by decide, by decide, by decide⟩
      generalize (if z < 0 then -z else z) = sz at hsz
      refine ⟨_, rfl, 10, 18, rfl, rfl, ⟨by decide, by decide, by decide⟩, _, _, rfl, rfl, _, rfl, ?_⟩
      refine ite2 (fun hge => ?_) (fun hge => ?_)
      · refine ⟨60, rfl, by decide, by decide, ?_⟩
        refine for_it walk_range (fun j σ H3 => ∃ s x5, σ = [some (.ref a), some (.ref p), some (.ref c), some (.int (0 + i)), some (.int s), x5, x6] ∧ 0 ≤ s ∧ Same H H3 ∧ H3 c = some (.lst (cs.map V.int)) ∧ FlN p (301 * i + j) H3)
          ⟨_, _, rfl, hsz, s2, hc, hf⟩ (fun _ _ _ _ _ => True.intro) (fun j x σ H3 H4 hj q y => ?_) (fun σ H3 q => ?_)
        · obtain ⟨s, x5, rfl, hs0, s3, hc3, ⟨xs, hf3, hx3, hl3⟩⟩ := q
          obtain ⟨rfl, rfl⟩ := y
          refine ⟨_, rfl, _, _, rfl, rfl, _, rfl, ?_⟩
          refine ite2 (fun h => ?_) (fun h => ?_)
          · refine ⟨_, rfl, .inl ⟨rfl, _, .inl (.inl hf3)⟩, _, rfl, .inl ⟨_, rfl, 10, 6, rfl, rfl, c6, _, _, rfl, rfl, by show (0 : Int) < 10 ^ Int.toNat 6; decide, p, _, _, rfl, rfl, hf3, by rw [List.length_map, sizeLine_eq]; omega, ?_⟩⟩
            refine ⟨_, rfl, 10, 6, rfl, rfl, c6, _, _, rfl, rfl, ⟨by show (0 : Int) < 10 ^ Int.toNat 6; decide, by show (10 : Int) ^ Int.toNat 6 < 1073741824; decide⟩, _, _, rfl, Int.ediv_nonneg hs0 (by decide), ?_, ?_, ?_⟩
            · exact same_at np s3
            · rw [upd_ne hpc]
              exact hc3
            · exact FlN.put hx3 (by omega) (Int.emod_nonneg _ (by decide)) (by rw [e6]; exact Int.emod_lt_of_pos _ (by decide))
          · exact ⟨_, _, rfl, hs0, s3, hc3, ⟨xs, hf3, hx3, by omega⟩⟩
        · obtain ⟨s, x5, rfl, hs0, s3, hc3, hf3⟩ := q
          exact ⟨_, _, _, _, rfl, s3, hc3, hf3.le (by have : Int.toNat 60 = 60 := rfl; omega)⟩
      · have hcl : ((cs.map V.int).length : Int) = cs.length := by rw [List.length_map]
        have hcp : (0 : Int) < cs.length := by omega
        refine ⟨_, rfl, c, _, rfl, .inl (.inl (.inl hc)), 300, _, rfl, rfl, ⟨by rw [hcl]; omega, by rw [hcl]; omega⟩, 1, _, rfl, rfl, _, rfl, ?_, ?_, ?_⟩
        · have := Int.ediv_nonneg (a := 300) (b := ((cs.map V.int).length : Int)) (by decide) (by omega)
          omega
        · have := Int.ediv_le_self (a := 300) ((cs.map V.int).length : Int) (by decide)
          omega
        have hb : (1 + 300 / ((cs.map V.int).length : Int)).toNat ≤ 301 := by
          have := Int.ediv_le_self (a := 300) ((cs.map V.int).length : Int) (by decide)
          omega
        generalize (1 + 300 / ((cs.map V.int).length : Int)).toNat = nn at hb
        refine for_it walk_range (fun j σ H3 => ∃ x5 x6, σ = [some (.ref a), some (.ref p), some (.ref c), some (.int (0 + i)), some (.int sz), x5, x6] ∧ Same H H3 ∧ H3 c = some (.lst (cs.map V.int)) ∧ FlN p (301 * i + j) H3)
          ⟨_, _, rfl, s2, hc, hf⟩ (fun _ _ _ _ _ => True.intro) (fun j x σ H3 H4 hj q y => ?_) (fun σ H3 q => ?_)
        · obtain ⟨x5, x6, rfl, s3, hc3, ⟨xs, hf3, hx3, hl3⟩⟩ := q
          obtain ⟨rfl, rfl⟩ := y
          refine ⟨_, rfl, sz, 17, rfl, rfl, _, rfl, 130, _, rfl, rfl, .inl ⟨by decide, by decide⟩, 48271, _, rfl, rfl, _, _, rfl, rfl, .inr ⟨by omega, by omega⟩, _, rfl, 7919, _, rfl, rfl, .inl ⟨by decide, by decide⟩, _, _, rfl, rfl,
            _, rfl, _, rfl, c, _, _, _, rfl, rfl, .inl (.inl hc3), ha, z, 0, rfl, rfl, .inr ⟨_, rfl, _, _, rfl, rfl, .inl ⟨_, rfl, _, _, rfl, rfl, by show (0 : Int) < 2147483647; decide, ?_⟩⟩⟩
          generalize hm1 : ((sz + 17) * (48271 + 130 * (0 + (j : Int))) + 7919 * (0 + (i : Int)) + (if decide (z < 0) = true then 1 else 0)) % 2147483647 = m1
          have b1 : 0 ≤ m1 ∧ m1 < 2147483647 := hm1 ▸ ⟨Int.emod_nonneg _ (by decide), Int.emod_lt_of_pos _ (by decide)⟩
          refine ⟨_, rfl, _, rfl, _, _, rfl, rfl, .inl ⟨by omega, by omega⟩, _, rfl, _, _, rfl, rfl, 69621, _, rfl, rfl, .inl ⟨by decide, by decide⟩, _, _, rfl, rfl, .inl ⟨_, rfl, _, _, rfl, rfl, by show (0 : Int) < 2147483629; decide, ?_⟩⟩
          generalize hm2 : (m1 * m1 + 69621 * (0 + (i : Int) + 1)) % 2147483629 = m2
          have b2 : 0 ≤ m2 ∧ m2 < 2147483629 := hm2 ▸ ⟨Int.emod_nonneg _ (by decide), Int.emod_lt_of_pos _ (by decide)⟩
          refine ⟨_, rfl, .inl ⟨rfl, _, .inl (.inl hf3)⟩, _, rfl, _, rfl, _, _, rfl, rfl, _, _, rfl, rfl, .inl ⟨by omega, by omega⟩, .inl ⟨_, rfl, _, _, rfl, rfl, by show (0 : Int) < 998244353; decide, 10, 6, rfl, rfl, c6, _, _, rfl, rfl, by show (0 : Int) < 10 ^ Int.toNat 6; decide,
            p, _, _, rfl, rfl, hf3, by rw [List.length_map, sizeLine_eq]; omega, ?_⟩⟩
          refine ⟨_, _, rfl, same_at np s3, ?_, ?_⟩
          · rw [upd_ne hpc]
            exact hc3
          · exact FlN.put hx3 (by omega) (Int.emod_nonneg _ (by decide)) (by rw [e6]; exact Int.emod_lt_of_pos _ (by decide))
        · obtain ⟨x5, x6, rfl, s3, hc3, hf3⟩ := q
          exact ⟨_, _, _, _, rfl, s3, hc3, hf3.le (by omega)⟩
    · obtain ⟨x3, x4, x5, x6, rfl, s2, hc, ⟨xs, hf, hx, hl⟩⟩ := q
      have hn63 : (Int.toNat ((cs.map V.int).length : Int)) = cs.length := by rw [List.length_map]; simp
      refine ⟨_, rfl, p, _, rfl, .inl (.inl hf), fun r nr => k r _ (s2.trans (same_new nr)) (same_none s2 nr) ⟨xs.reverse, by rw [upd_same, List.map_reverse], fun x hx' => hx x (List.mem_reverse.mp hx'), by rw [List.length_reverse]; omega⟩⟩
end
end AF
namespace AF
open PySem PySem.Spec PyProof.Rows L2
section
variable {P : Program} {w : World} {K : PySem.W.Frag} {mg : Str → Option Value} {base : Heap}
/-! ### the law's kit -/
def sp_kit : Sp := fun vs H Q _ => ∃ (p : Addr), vs = [.ref p] ∧ Fl p H ∧ ∀ a k H', KitOk k → KitAt p H' a k → Fl p H' → But p H H' → Q (.ref a) H'
theorem at8 : ∀ {j : Int} {n : Nat}, 0 ≤ j → j < 8 → n = 8 → j < (n : Int) := fun h0 h1 e => by omega
theorem cal__law_kit (T : Top K mg) : Cal P w K mg base 2 "_law_kit" sp_kit [] := by
  obtain ⟨fd, F⟩ := fd__law_kit T
  refine ⟨_, fd, _, [], F.ok sc__law_kit (fun vs H Q E h => ?_) (fun cdv A outer s H vs Q E hr h => ?_), T.g__law_kit, F.kp, F.bindsN (ps := ["_law_flow_here"]) (fun _ _ _ _ _ _ us hl => match us, hl with | [_], _ => rfl), .nil⟩
  · obtain ⟨_, rfl, _⟩ := h
    rfl
  · obtain ⟨p, rfl, f0, k⟩ := h
    refine ⟨_, PSs.nox (pss_cons (ps_set (i := 1) sc__law_kit.nd rfl (Or.inr rfl) (pe_lst (pa_cons pe_str (pa_cons pe_str (pa_cons pe_str (pa_cons pe_str (pa_cons pe_str (pa_cons pe_str (pa_cons pe_str (pa_cons pe_str pa_nil))))))))))
    (pss_cons (ps_set (i := 2) sc__law_kit.nd rfl (Or.inr rfl) (pe_join pe_str (pe_lc (own := [("_law_k", 12)]) rfl sc__law_kit.nd (pi_range1 rfl T.f_range (pa_cons (pe_c (cal__law_draw T) hr (by decide) (by rfl) (pa_cons (pv 0) (pa_cons pe_int pa_nil))) pa_nil)) (blkOk_by (own := [("_law_k", 12)]) (N := N__law_kit) (sc := defScope s__law_kit) (by decide +kernel)) (fun _ _ _ _ _ => (pg_name (i := 12) sc__law_kit.nd rfl (Or.inl rfl))) (fun _ _ _ _ _ => pts_nil) (fun _ _ _ _ _ => (pe_ix ix_str pe_str (pe_c (cal__law_draw T) hr (by decide) (by rfl) (pa_cons (pv 0) (pa_cons pe_int pa_nil))) (fun _ _ => rfl))))))
    (pss_cons (ps_set (i := 3) sc__law_kit.nd rfl (Or.inr rfl) (pe_c (cal__law_draw T) hr (by decide) (by rfl) (pa_cons (pv 0) (pa_cons pe_int pa_nil))))
    (pss_cons (ps_set (i := 4) sc__law_kit.nd rfl (Or.inr rfl) (pe_ix ix_list (pe_lst (pa_cons pe_int (pa_cons pe_int (pa_cons pe_int (pa_cons pe_int pa_nil))))) (pe_c (cal__law_draw T) hr (by decide) (by rfl) (pa_cons (pv 0) (pa_cons pe_int pa_nil))) (fun _ _ => rfl)))
    (pss_cons (ps_setLc (i := 5) (own := [("_law_k", 12)]) rfl sc__law_kit.nd rfl rfl (sw_true rfl rfl rfl (by decide +kernel)) (pi_range1 rfl T.f_range (pa_cons pe_int pa_nil)) (blkOk_by (own := [("_law_k", 12)]) (N := N__law_kit) (sc := defScope s__law_kit) (by decide +kernel)) (fun _ _ _ _ _ => (pg_name (i := 12) sc__law_kit.nd rfl (Or.inl rfl))) (fun _ _ _ _ _ => pts_nil) (fun _ _ _ _ _ => (pe_op op_add_str (pv 2) (pe_ix (ixR_K (r := rIxL) K rfl ix_list) (pv 1) (pe_op op_mod (pe_callTy call_int1 (by rfl) T.f_int (by decide +kernel) (pa_cons (pe_op op_add (pv 3) (pe_op op_mul (pv 4) (pv 12))) pa_nil)) pe_int) (fun _ _ => rfl)))))
    (pss_cons (ps_set (i := 6) sc__law_kit.nd rfl (Or.inl rfl) (pe_ix ix_list (pe_lst (pa_cons pe_str (pa_cons pe_str (pa_cons pe_str (pa_cons pe_str (pa_cons pe_str (pa_cons pe_str pa_nil))))))) (pe_c (cal__law_draw T) hr (by decide) (by rfl) (pa_cons (pv 0) (pa_cons pe_int pa_nil))) (fun _ _ => rfl)))
    (pss_cons (ps_set (i := 7) sc__law_kit.nd rfl (Or.inl rfl) (pe_ix ix_list (pe_lst (pa_cons pe_int (pa_cons pe_int pa_nil))) (pe_c (cal__law_draw T) hr (by decide) (by rfl) (pa_cons (pv 0) (pa_cons pe_int pa_nil))) (fun _ _ => rfl)))
    (C8.pss_cut (ps_if (pt_cmpR op_ne (pv 6) pe_str (nomark _)) (pss_one (ps_asg (pe_op op_add_str (pe_ix ix_list (pv 5) pe_int (fun _ _ => rfl)) (pv 6)) (pg_sub (pv 5) (pv 7) set_list))) pss_nil)
    (pss_cons (ps_set (i := 5) sc__law_kit.nd rfl (Or.inl rfl) (pe_slice sl_list (pv 5) po_none (po_some (pe_op op_add pe_int (pe_c (cal__law_draw T) hr (by decide) (by rfl) (pa_cons (pv 0) (pa_cons pe_int pa_nil)))))))
    (pss_cons (ps_setLc (i := 8) (own := [("_law_k", 12)]) rfl sc__law_kit.nd rfl rfl (sw_true rfl rfl rfl (by decide +kernel)) (pi_range1 rfl T.f_range (pa_cons pe_int pa_nil)) (blkOk_by (own := [("_law_k", 12)]) (N := N__law_kit) (sc := defScope s__law_kit) (by decide +kernel)) (fun _ _ _ _ _ => (pg_name (i := 12) sc__law_kit.nd rfl (Or.inl rfl))) (fun _ _ _ _ _ => pts_nil) (fun _ _ _ _ _ => (pe_ix (ixR_K (r := rIxL) K rfl ix_list) (pe_lst (pa_cons pe_int (pa_cons pe_int (pa_cons pe_int (pa_cons pe_int (pa_cons pe_int (pa_cons pe_int (pa_cons pe_int (pa_cons pe_int pa_nil))))))))) (pe_c (cal__law_draw T) hr (by decide) (by rfl) (pa_cons (pv 0) (pa_cons pe_int pa_nil))) (fun _ _ => rfl))))
    (pss_cons (ps_set (i := 7) sc__law_kit.nd rfl (Or.inl rfl) (pe_c (cal__law_draw T) hr (by decide) (by rfl) (pa_cons (pv 0) (pa_cons pe_int pa_nil))))
    (C8.pss_cut (ps_if (pt_cmpR op_eq (pe_c (cal__law_draw T) hr (by decide) (by rfl) (pa_cons (pv 0) (pa_cons pe_int pa_nil))) pe_int (nomark _)) (pss_one (ps_asg pe_int (pg_sub (pv 8) (pv 7) set_list))) pss_nil)
    (pss_cons (ps_setLc (i := 9) (own := [("_law_k", 12)]) rfl sc__law_kit.nd rfl rfl (sw_true rfl rfl rfl (by decide +kernel)) (pi_range1 rfl T.f_range (pa_cons pe_int pa_nil)) (blkOk_by (own := [("_law_k", 12)]) (N := N__law_kit) (sc := defScope s__law_kit) (by decide +kernel)) (fun _ _ _ _ _ => (pg_name (i := 12) sc__law_kit.nd rfl (Or.inl rfl))) (fun _ _ _ _ _ => pts_nil) (fun _ _ _ _ _ => (pe_c (cal__law_draw T) hr (by decide) (by rfl) (pa_cons (pv 0) (pa_cons pe_int pa_nil)))))
    (pss_cons (ps_set (i := 10) sc__law_kit.nd rfl (Or.inl rfl) (pe_lst (pa_cons pe_int (pa_cons pe_int (pa_cons (pe_c (cal__law_draw T) hr (by decide) (by rfl) (pa_cons (pv 0) (pa_cons pe_int pa_nil))) (pa_cons (pe_op op_add (pe_op op_mul (pe_c (cal__law_draw T) hr (by decide) (by rfl) (pa_cons (pv 0) (pa_cons (pe_op op_pow pe_int pe_int) pa_nil))) (pe_op op_pow pe_int pe_int)) (pe_c (cal__law_draw T) hr (by decide) (by rfl) (pa_cons (pv 0) (pa_cons (pe_op op_pow pe_int pe_int) pa_nil)))) pa_nil))))))
    (pss_cons (ps_set (i := 11) sc__law_kit.nd rfl (Or.inl rfl) (pe_ix ix_list (pe_lst (pa_cons (pe_lst (pa_cons pe_str (pa_cons pe_str (pa_cons pe_str (pa_cons pe_str pa_nil))))) (pa_cons (pe_lst (pa_cons pe_str (pa_cons pe_str (pa_cons pe_str (pa_cons pe_str pa_nil))))) pa_nil))) (pe_c (cal__law_draw T) hr (by decide) (by rfl) (pa_cons (pv 0) (pa_cons pe_int pa_nil))) (fun _ _ => rfl)))
    (pss_one (ps_ret (pe_lst (pa_cons (pv 5) (pa_cons (pv 8) (pa_cons (pv 9) (pa_cons (pe_slice sl_list (pv 10) (po_some (pe_c (cal__law_draw T) hr (by decide) (by rfl) (pa_cons (pv 0) (pa_cons pe_int pa_nil)))) po_none) (pa_cons (pv 11) pa_nil))))))))))))))))))))))), ?_⟩
    -- the words
    refine ⟨by rw [sizeLine_eq]; show 8 ≤ 16777216; decide, fun pw npw => ?_⟩
    have f1 : Fl p (upd H pw (.lst (kitWords.map V.str))) := f0.new npw
    have b1 : But p H (upd H pw (.lst (kitWords.map V.str))) := .new npw
    have w1 : (upd H pw (.lst (kitWords.map V.str))) pw = some (.lst (kitWords.map V.str)) := upd_same
    have pwp : pw ≠ p := f0.ne npw
    -- the front
    refine ⟨⟨_, rfl⟩, _, rfl, p, 9, rfl, f1, by decide, fun r H2 r0 r9 f2 b2 => ?_⟩
    refine ⟨r, rfl, by omega, by omega, fun D hD => ?_⟩
    refine lc_all walk_range p (fun _ v => ∃ c, c ∈ cds sSMALL ∧ v = .str ⟨#[c]⟩) (by rw [sizeLine_eq]; omega) hD f2 (fun _ _ => True.intro) (fun i x H3 H4 hi b3 f3 y QQ NN hq => ?_) (fun H3 xs b3 f3 h3 hlen hg => ?_)
    · obtain ⟨rfl, rfl⟩ := y
      refine ⟨rfl, _, rfl, p, 26, rfl, f3, by decide, fun c H5 c0 c1 f5 b5 => ?_⟩
      have h26 : (cds sSMALL).length = 26 := by decide +kernel
      obtain ⟨cc, hcc, _, hat⟩ := atI_any (cds sSMALL) c0 (by omega)
      exact ⟨_, c, cc, rfl, rfl, by decide +kernel, hat, hq _ _ ⟨cc, hcc, rfl⟩ f5 b5⟩
    obtain ⟨cs, rfl, hcs⟩ := list_at (fun c : Nat => V.str ⟨#[c]⟩) (fun c => c ∈ cds sSMALL) (fun i v e => let ⟨c, a, b⟩ := hg i v e; ⟨c, a, b⟩)
    rw [List.length_map] at hlen
    have hlen9 : cs.length ≤ 8 := by omega
    refine ⟨"", D, cs.map fun c => (⟨#[c]⟩ : Str), rfl, rfl, .inl (.inl (.inl (by rw [List.map_map]; exact h3))), ?_, ?_⟩
    · rw [ones_sum, List.length_map]
      show cs.length + cs.length * 0 ≤ _
      omega
    have hfr : FrontOk (Txt.join "" (cs.map fun c => (⟨#[c]⟩ : Str))) := by
      unfold FrontOk
      rw [join_ones]
      exact ⟨hlen9, hcs⟩
    have hfl : (Txt.join "" (cs.map fun c => (⟨#[c]⟩ : Str))).length ≤ 8 := by
      rw [len_cds]
      exact hfr.1
    generalize Txt.join "" (cs.map fun c => (⟨#[c]⟩ : Str)) = fr at hfr hfl
    have b4 : But p H H3 := (b1.trans b2).trans b3
    have w4 : H3 pw = some (.lst (kitWords.map V.str)) := b3 _ _ pwp (b2 _ _ pwp w1)
    -- start, step
    refine ⟨_, rfl, p, 8, rfl, f3, by decide, fun st H5 st0 st1 f5 b5 => ?_⟩
    refine ⟨by rw [sizeLine_eq]; show 4 ≤ 16777216; decide, fun pq npq => ⟨_, rfl, p, 4, rfl, f5.new npq, by decide, fun x H6 x0 x1 f6 b6 => ?_⟩⟩
    have pqp := f5.ne npq
    obtain ⟨sp, hsp, _, hat⟩ := atI_in ([1, 3, 5, 7] : List Int) V.int x0 x1
    refine ⟨pq, _, x, _, rfl, rfl, .inl (.inl (b6 _ _ pqp upd_same)), hat, ?_⟩
    have hsp7 : 0 ≤ sp ∧ sp ≤ 7 := by
      simp only [List.mem_cons, List.not_mem_nil, or_false] at hsp
      omega
    have b7 : But p H3 H6 := b5.trans ((But.new npq).trans b6)
    have w7 : H6 pw = some (.lst (kitWords.map V.str)) := b7 _ _ pwp w4
    have b7 : But p H H6 := b4.trans b7
    -- the names
    refine ⟨8, rfl, by decide, by decide, fun D hD => ?_⟩
    refine lc_all walk_range p (fun _ v => ∃ w, w ∈ kitWords ∧ v = .str (fr ++ w)) (by rw [sizeLine_eq]; show 8 ≤ 16777216; decide) hD f6 (fun _ _ => True.intro) (fun i x H3 H4 hi b8 f8 y QQ NN hq => ?_) (fun H8 xs b8 f8 h8 hlen hg => ?_)
    · obtain ⟨rfl, rfl⟩ := y
      obtain ⟨wd, hwd, _, hat⟩ := atI_in kitWords V.str (Int.emod_nonneg (st + sp * (0 + (i : Int))) (show (8 : Int) ≠ 0 by decide)) (Int.emod_lt_of_pos _ (show (0 : Int) < 8 by decide))
      have hwl : wd.length ≤ 4 := by
        have q := List.all_eq_true.mp words_ok wd hwd
        unfold wordFacts at q
        simp only [Bool.and_eq_true, decide_eq_true_eq] at q
        rw [len_cds]
        exact q.2.1
      refine ⟨rfl, _, rfl, _, rfl, _, rfl, _, rfl, _, rfl, _, _, rfl, rfl, .inl ⟨by omega, by omega⟩, _, _, rfl, rfl, .inl ⟨_, rfl, _, _, rfl, rfl, by show (0 : Int) < 8; decide, pw, _, _, _, rfl, rfl, .inl (.inl (b8 _ _ pwp w7)), hat, _, _, rfl, rfl, ?_, hq _ _ ⟨wd, hwd, rfl⟩ f8 (.refl _)⟩⟩
      rw [sizeLine_eq]
      omega
    have hlen8 : xs.length = 8 := hlen
    obtain ⟨ns, rfl, hns⟩ := list_at V.str (fun x => ∃ w, w ∈ kitWords ∧ x = fr ++ w) (xs := xs) (fun i v e => let ⟨c, a, b⟩ := hg i v e; ⟨_, ⟨c, a, rfl⟩, b⟩)
    rw [List.length_map] at hlen8
    have Dp := f6.ne hD
    have b9 := b7.trans b8
    -- the mark, the place
    refine ⟨by rw [sizeLine_eq]; show 6 ≤ 16777216; decide, fun pm npm => ⟨_, rfl, p, 6, rfl, f8.new npm, by decide, fun x H10 x0 x1 f10 b10 => ?_⟩⟩
    have pmp := f8.ne npm
    obtain ⟨mk, hmk, _, hat⟩ := atI_in (["", "", "@bf", "@b?", "@", "@@f/0/1"] : List Str) V.str x0 x1
    refine ⟨pm, _, x, _, rfl, rfl, .inl (.inl (b10 _ _ pmp upd_same)), hat, ?_⟩
    have hmk2 : mk ∈ kitMarks := (show ∀ m ∈ (["", "", "@bf", "@b?", "@", "@@f/0/1"] : List Str), m ∈ kitMarks from by decide +kernel) mk hmk
    refine ⟨by rw [sizeLine_eq]; show 2 ≤ 16777216; decide, fun pl npl => ⟨_, rfl, p, 2, rfl, f10.new npl, by decide, fun x H11 x0 x1 f11 b11 => ?_⟩⟩
    have plp := f10.ne npl
    obtain ⟨pc, hpc, _, hat⟩ := atI_in ([1, 4] : List Int) V.int x0 x1
    refine ⟨pl, _, x, _, rfl, rfl, .inl (.inl (b11 _ _ plp upd_same)), hat, ?_⟩
    have hpc4 : 0 ≤ pc ∧ pc ≤ 4 := by
      simp only [List.mem_cons, List.not_mem_nil, or_false] at hpc
      omega
    have b12 : But p H8 H11 := ((But.new npm).trans b10).trans ((But.new npl).trans b11)
    have h12 : H11 D = some (.lst (ns.map V.str)) := b12 _ _ Dp h8
    have b13 := b9.trans b12
    have hok : ∀ x ∈ ns, NameOk x := fun x hx => by
      obtain ⟨wd, hwd, rfl⟩ := hns x hx
      exact name_ok0 hfr hwd
    refine ⟨fun σ H' => ∃ (st sp : Int) (ns2 : List Str) (v12 : Option V), σ = [some (.ref p), some (.ref pw), some (.str fr), some (.int st), some (.int sp), some (.ref D), some (.str mk), some (.int pc), none, none, none, none, v12] ∧ Fl p H' ∧ But p H H' ∧ H' D = some (.lst (ns2.map V.str)) ∧ ns2.length = 8 ∧ ∀ x ∈ ns2, NameOk x, ?_, fun σ H12 hN => ?_⟩
    · refine ⟨_, rfl, rfl, _, rfl, ?_⟩
      refine ite2 (fun hmt => ?_) (fun hmt => ?_)
      · obtain ⟨n3, hn3, _, hat3⟩ := atI_in ns V.str (j := 3) (by decide) (by omega)
        have hn3' : NameOk (n3 ++ mk) := by
          obtain ⟨wd, hwd, rfl⟩ := hns n3 hn3
          exact name_ok hfr hwd hmk2
        have hix : ixN (ns.map V.str).length pc = some pc.toNat := by
          unfold ixN
          rw [List.length_map, if_pos hpc4.1, if_pos (by omega)]
        refine ⟨_, rfl, D, _, 3, _, rfl, rfl, .inl (.inl h12), hat3, _, rfl, _, _, rfl, rfl, ?_, _, rfl, _, rfl, D, _, pc, _, rfl, rfl, h12, hix, ?_⟩
        · have h1 := (hok n3 hn3).2
          have h2 : mk.length ≤ 7 := by
            have qm := List.all_eq_true.mp marks_ok mk hmk2
            unfold markFacts at qm
            rw [len_cds]
            split at qm
            · exact of_decide_eq_true (Bool.and_eq_true_iff.mp qm).2
            · cases qm
          rw [sizeLine_eq]
          omega
        · refine ⟨_, _, ns.set pc.toNat (n3 ++ mk), _, rfl, f11.upd_ Dp, But.at_ (but_none b7 Dp hD) b13, by rw [upd_same, List.map_set], by rw [List.length_set]; exact hlen8, fun x hx => ?_⟩
          rcases List.mem_or_eq_of_mem_set hx with h | h
          · exact hok x h
          · rw [h]; exact hn3'
      · exact ⟨_, _, ns, _, rfl, f11, b13, h12, hlen8, hok⟩
    clear b1 b4 b7 b8 b9 b12 b13 b2 b3 b5 b6 b10 b11 f1 f2 f3 f5 f6 f8 f10 f11 h3 h8 h12 w1 w4 w7 hg hns
    obtain ⟨st, sp, ns2, v12, rfl, f12, b12, h12, hl2, hok2⟩ := hN
    -- the names are cut
    refine ⟨_, rfl, _, rfl, p, 5, rfl, f12, by decide, fun r H13 r0 r1 f13 b13 => ⟨_, _, rfl, rfl, _, rfl, D, _, rfl, .inl (.inl (b13 _ _ Dp h12)), fun q nq => ?_⟩⟩
    have qp := f13.ne nq
    have e4 : (4 : Int) + r = ((4 + r.toNat : Nat) : Int) := by omega
    rw [e4, cutV_take]
    have h14 : (upd H13 q (.lst ((ns2.take (4 + r.toNat)).map V.str))) q = some (.lst ((ns2.take (4 + r.toNat)).map V.str)) := upd_same
    have f14 := f13.new (o := .lst ((ns2.take (4 + r.toNat)).map V.str)) nq
    have b14 : But p H (upd H13 q (.lst ((ns2.take (4 + r.toNat)).map V.str))) := (b12.trans b13).trans (.new nq)
    have hok3 : ∀ x ∈ ns2.take (4 + r.toNat), NameOk x := fun x hx => hok2 x (List.mem_of_mem_take hx)
    have hl3 : (ns2.take (4 + r.toNat)).length = 4 + r.toNat := by rw [List.length_take]; omega
    have hl4 : 4 ≤ (ns2.take (4 + r.toNat)).length ∧ (ns2.take (4 + r.toNat)).length ≤ 8 := by omega
    generalize ns2.take (4 + r.toNat) = nm at h14 f14 b14 hok3 hl4 ⊢
    generalize upd H13 q (.lst (nm.map V.str)) = H14 at h14 f14 b14 ⊢
    clear b12 b13 f12 f13 h12
    -- the sizes
    refine ⟨8, rfl, by decide, by decide, fun Ds hDs => ?_⟩
    refine lc_all walk_range p (fun _ v => ∃ x : Int, (0 ≤ x ∧ x ≤ 3) ∧ v = .int x) (by rw [sizeLine_eq]; show 8 ≤ 16777216; decide) hDs f14 (fun _ _ => True.intro) (fun i x H3 H4 hi b8 f8 y QQ NN hq => ?_) (fun H15 xs b15 f15 h15 hlen hg => ?_)
    · obtain ⟨rfl, rfl⟩ := y
      refine ⟨rfl, by rw [sizeLine_eq]; show 8 ≤ 16777216; decide, fun pq npq => ⟨_, rfl, p, 8, rfl, f8.new npq, by decide, fun x H6 x0 x1 f6 b6 => ?_⟩⟩
      obtain ⟨sz, hsz, _, hat⟩ := atI_in ([1, 2, 2, 1, 0, 2, 1, 2] : List Int) V.int x0 x1
      refine ⟨pq, _, x, _, rfl, rfl, .inl (.inl (b6 _ _ (f8.ne npq) upd_same)), hat, hq _ _ ⟨sz, ?_, rfl⟩ f6 ((But.new npq).trans b6)⟩
      simp only [List.mem_cons, List.not_mem_nil, or_false] at hsz
      omega
    have hlen8 : xs.length = 8 := hlen
    obtain ⟨sz, rfl, hsz⟩ := list_at V.int (fun x => 0 ≤ x ∧ x ≤ 3) (xs := xs) (fun i v e => hg i v e)
    rw [List.length_map] at hlen8
    have Dsp := f14.ne hDs
    have h15q : H15 q = some (.lst (nm.map V.str)) := b15 _ _ qp h14
    have b15' := b14.trans b15
    have nDs : H Ds = none := but_none b14 Dsp hDs
    have Dsq : Ds ≠ q := fun e => by rw [e, h14] at hDs; cases hDs
    -- the place, three columns
    refine ⟨_, rfl, p, 8, rfl, f15, by decide, fun pl H16 pl0 pl1 f16 b16 => ?_⟩
    refine ⟨fun σ H' => ∃ (fr : Str) (st sp : Int) (mk : Str) (pl : Int) (sz : List Int) (v12 : Option V), σ = [some (.ref p), some (.ref pw), some (.str fr), some (.int st), some (.int sp), some (.ref q), some (.str mk), some (.int pl), some (.ref Ds), none, none, none, v12] ∧
      Fl p H' ∧ But p H H' ∧ H' q = some (.lst (nm.map V.str)) ∧ H' Ds = some (.lst (sz.map V.int)) ∧ sz.length = 8 ∧ ∀ x ∈ sz, 0 ≤ x ∧ x ≤ 3, ?_, fun σ H17 hN => ?_⟩
    · refine ⟨_, rfl, p, 8, rfl, f16, by decide, fun x H17 x0 x1 f17 b17 => ⟨rfl, _, rfl, ?_⟩⟩
      have b17' := b15'.trans (b16.trans b17)
      have hq17 : H17 q = some (.lst (nm.map V.str)) := b17 _ _ qp (b16 _ _ qp h15q)
      have hs17 : H17 Ds = some (.lst (sz.map V.int)) := b17 _ _ Dsp (b16 _ _ Dsp h15)
      refine ite2 (fun ht => ?_) (fun ht => ?_)
      · have hix : ixN (sz.map V.int).length pl = some pl.toNat := by
          unfold ixN
          rw [List.length_map, if_pos pl0, if_pos (by omega)]
        refine ⟨_, rfl, _, rfl, Ds, _, pl, _, rfl, rfl, hs17, hix, ?_⟩
        refine ⟨_, _, _, _, _, sz.set pl.toNat 3, _, rfl, f17.upd_ Dsp, But.at_ nDs b17', by rw [upd_ne Dsq.symm]; exact hq17, by rw [upd_same, List.map_set], by rw [List.length_set]; exact hlen8, fun x hx => ?_⟩
        rcases List.mem_or_eq_of_mem_set hx with h | h
        · exact hsz x h
        · rw [h]; decide
      · exact ⟨_, _, _, _, _, sz, _, rfl, f17, b17', hq17, hs17, hlen8, hsz⟩
    clear b14 b15 b15' b16 f14 f15 f16 h14 h15 h15q hg hsz hlen8 hlen
    obtain ⟨fr, st, sp, mk, pl, sz, v12, rfl, f17, b17, hq17, hs17, hlen8, hsz⟩ := hN
    -- the levels
    refine ⟨8, rfl, by decide, by decide, fun Dl hDl => ?_⟩
    refine lc_all walk_range p (fun _ v => ∃ x : Int, (0 ≤ x ∧ x ≤ 2) ∧ v = .int x) (by rw [sizeLine_eq]; show 8 ≤ 16777216; decide) hDl f17 (fun _ _ => True.intro) (fun i x H3 H4 hi b8 f8 y QQ NN hq => ?_) (fun H18 xs b18 f18 h18 hlen hg => ?_)
    · obtain ⟨rfl, rfl⟩ := y
      exact ⟨rfl, _, rfl, p, 3, rfl, f8, by decide, fun x H6 x0 x1 f6 b6 => hq _ _ ⟨x, ⟨x0, by omega⟩, rfl⟩ f6 b6⟩
    have hlenL : xs.length = 8 := hlen
    obtain ⟨lv, rfl, hlv⟩ := list_at V.int (fun x => 0 ≤ x ∧ x ≤ 2) (xs := xs) (fun i v e => hg i v e)
    rw [List.length_map] at hlenL
    have Dlp := f17.ne hDl
    have e6 : (10 : Int) ^ Int.toNat 6 = 1000000 := by decide
    have c6 : CPow 10 6 := ⟨by decide, by decide, by decide⟩
    have p6 : (0 : Int) < 10 ^ Int.toNat 6 := by decide
    -- the constants
    refine ⟨_, rfl, p, 1000, rfl, f18, by decide, fun c1 H19 c10 c11 f19 b19 => ?_⟩
    refine ⟨_, rfl, 10, 6, rfl, rfl, c6, p, _, rfl, f19, p6, fun c2 H20 c20 c21 f20 b20 => ?_⟩
    refine ⟨10, 6, rfl, rfl, c6, _, _, rfl, rfl, .inl ⟨by omega, by omega⟩, ?_⟩
    refine ⟨_, rfl, 10, 6, rfl, rfl, c6, p, _, rfl, f20, p6, fun c3 H21 c30 c31 f21 b21 => ?_⟩
    refine ⟨_, _, rfl, rfl, by rw [sizeLine_eq]; show 4 ≤ 16777216; decide, fun pp npp => ?_⟩
    rw [e6] at *
    have hpl : ∀ x ∈ ([0, 999999999999, c1, c2 * 1000000 + c3] : List Int), 0 ≤ x ∧ x ≤ 999999999999 := by
      intro x hx
      simp only [List.mem_cons, List.not_mem_nil, or_false] at hx
      omega
    have hp22 : (upd H21 pp (.lst [.int 0, .int 999999999999, .int c1, .int (c2 * 1000000 + c3)])) pp = some (.lst (([0, 999999999999, c1, c2 * 1000000 + c3] : List Int).map V.int)) := upd_same
    generalize hpo : ([0, 999999999999, c1, c2 * 1000000 + c3] : List Int) = po at hpl hp22
    have hpo4 : po.length = 4 := by rw [← hpo]; rfl
    have f22 := f21.new (o := .lst [.int 0, .int 999999999999, .int c1, .int (c2 * 1000000 + c3)]) npp
    have b22 : But p H18 (upd H21 pp (.lst [.int 0, .int 999999999999, .int c1, .int (c2 * 1000000 + c3)])) := ((b19.trans b20).trans b21).trans (.new npp)
    have ppp := f21.ne npp
    generalize upd H21 pp (.lst [.int 0, .int 999999999999, .int c1, .int (c2 * 1000000 + c3)]) = H22 at hp22 f22 b22 ⊢
    -- the variables
    refine ⟨by rw [sizeLine_eq]; show 4 ≤ 16777216; decide, fun va nva => ⟨by rw [sizeLine_eq]; show 4 ≤ 16777216; decide, fun vb nvb => ⟨by rw [sizeLine_eq]; show 2 ≤ 16777216; decide, fun vl nvl => ?_⟩⟩⟩
    have fa := f22.new (o := .lst (varsA.map V.str)) nva
    have fb := fa.new (o := .lst (varsB.map V.str)) nvb
    have fl := fb.new (o := .lst [.ref va, .ref vb]) nvl
    have vap := f22.ne nva
    have vbp := fa.ne nvb
    have vlp := fb.ne nvl
    refine ⟨_, rfl, p, 2, rfl, fl, by decide, fun x H23 x0 x1 f23 b23 => ?_⟩
    have hva : H23 va = some (.lst (varsA.map V.str)) := b23 _ _ vap (same_new nvl _ _ (same_new nvb _ _ upd_same))
    have hvb : H23 vb = some (.lst (varsB.map V.str)) := b23 _ _ vbp (same_new nvl _ _ upd_same)
    have hvl : H23 vl = some (.lst [.ref va, .ref vb]) := b23 _ _ vlp upd_same
    have b24 : But p H22 H23 := (((But.new nva).trans (.new nvb)).trans (.new nvl)).trans b23
    obtain ⟨av, hav, _, hat⟩ := atI_in [va, vb] V.ref x0 x1
    have hvv : ∃ vs, (vs = varsA ∨ vs = varsB) ∧ H23 av = some (.lst (vs.map V.str)) := by
      simp only [List.mem_cons, List.not_mem_nil, or_false] at hav
      rcases hav with rfl | rfl
      · exact ⟨_, .inl rfl, hva⟩
      · exact ⟨_, .inr rfl, hvb⟩
    refine ⟨vl, _, x, _, rfl, rfl, .inl (.inl hvl), hat, ?_⟩
    obtain ⟨vs, hvs, hav2⟩ := hvv
    -- the kit
    refine ⟨_, rfl, _, rfl, _, rfl, _, rfl, _, rfl, p, 3, rfl, f23, by decide, fun d H25 d0 d1 f25 b25 => ⟨_, rfl, pp, _, rfl, .inl (.inl (b25 _ _ ppp (b24 _ _ ppp hp22))), fun pc npc => ⟨_, rfl, by rw [sizeLine_eq]; show 5 ≤ 16777216; decide, fun a na => ?_⟩⟩⟩
    have ed : d = ((d.toNat : Nat) : Int) := by omega
    rw [ed, cutV_drop]
    have avp : av ≠ p := by
      simp only [List.mem_cons, List.not_mem_nil, or_false] at hav
      rcases hav with rfl | rfl
      · exact vap
      · exact vbp
    have go : ∀ {z : Addr} {o : HO}, H25 z = some o → (upd (upd H25 pc (.lst ((po.drop d.toNat).map V.int))) a (.lst [.ref q, .ref Ds, .ref Dl, .ref pc, .ref av])) z = some o := fun hz => same_new (by rw [ed, cutV_drop] at na; exact na) _ _ (same_new npc _ _ hz)
    have bb : But p H17 H25 := b18.trans (b22.trans (b24.trans b25))
    have na' : (upd H25 pc (.lst ((po.drop d.toNat).map V.int))) a = none := by rw [ed, cutV_drop] at na; exact na
    refine k a ⟨nm, sz, lv, po.drop d.toNat, vs⟩ _ ⟨hl4.1, hl4.2, hok3, hlen8, hsz, hlenL, hlv, by show 1 ≤ (po.drop d.toNat).length; rw [List.length_drop]; omega, by show (po.drop d.toNat).length ≤ 4; rw [List.length_drop]; omega, fun x hx => hpl x (List.mem_of_mem_drop hx), hvs⟩
      ⟨q, Ds, Dl, pc, av, ⟨(f25.new npc).ne na', qp, Dsp, Dlp, f25.ne npc, avp⟩, upd_same, go (bb _ _ qp hq17), go (bb _ _ Dsp hs17), go ((b22.trans (b24.trans b25)) _ _ Dlp h18), same_new na' _ _ upd_same, go (b25 _ _ avp hav2)⟩ ((f25.new npc).new na') (((b17.trans bb).trans (.new npc)).trans (.new na'))
end
end AF
namespace AF
open PySem PySem.Spec PyProof.Rows L2
section
variable {P : Program} {w : World} {K : PySem.W.Frag} {mg : Str → Option Value} {base : Heap}
/-! ### the law's terms -/
def sp_term : Sp := fun vs H Q _ => ∃ (p a b : Addr) (near : List Str) (pool : List Int), vs = [.ref p, .ref a, .ref b] ∧ Fl p H ∧ a ≠ p ∧ b ≠ p ∧ H a = some (.lst (near.map V.str)) ∧ H b = some (.lst (pool.map V.int)) ∧ 1 ≤ pool.length ∧ (∀ c ∈ pool, 0 ≤ c ∧ c ≤ 999999999999) ∧
  ∀ t H', TermOf near t → Fl p H' → But p H H' → Q (kV t) H'
theorem cal__law_term (T : Top K mg) : Cal P w K mg base 2 "_law_term" sp_term [] := by
  obtain ⟨fd, F⟩ := fd__law_term T
  refine ⟨_, fd, _, [], F.ok sc__law_term (fun vs H Q E h => ?_) (fun cdv A outer s H vs Q E hr h => ?_), T.g__law_term, F.kp, F.bindsN (ps := ["_law_flow_here", "_law_near", "_law_pool"]) (fun _ _ _ _ _ _ us hl => match us, hl with | [_, _, _], _ => rfl), .nil⟩
  · obtain ⟨_, _, _, _, _, rfl, _⟩ := h
    rfl
  · obtain ⟨p, a, b, near, pool, rfl, f, hap, hbp, ha, hb, hp1, hpl, k⟩ := h
    refine ⟨_, PSs.nox (pss_cons (ps_if (PW.pt (pw_and (pt_cmpR op_gt (pe_callB call_len_seq (by rfl) T.f_len (by decide +kernel) (pa_cons (pv 1) pa_nil)) pe_int (nomark _)) (pw_and1 (pt_cmpR op_lt (pe_c (cal__law_draw T) hr (by decide) (by rfl) (pa_cons (pv 0) (pa_cons pe_int pa_nil))) pe_int (nomark _))))) (pss_one (ps_ret (pe_ix ix_list (pv 1) (pe_c (cal__law_draw T) hr (by decide) (by rfl) (pa_cons (pv 0) (pa_cons (pe_callB call_len_seq (by rfl) T.f_len (by decide +kernel) (pa_cons (pv 1) pa_nil)) pa_nil))) (fun _ _ => rfl)))) pss_nil)
    (pss_one (ps_ret (pe_ix ix_list (pv 2) (pe_c (cal__law_draw T) hr (by decide) (by rfl) (pa_cons (pv 0) (pa_cons (pe_callB call_len_seq (by rfl) T.f_len (by decide +kernel) (pa_cons (pv 2) pa_nil)) pa_nil))) (fun _ _ => rfl))))), ?_⟩
    have last : ∀ H1, Fl p H1 → But p H H1 → ∀ (r : Int) H2, 0 ≤ r → r < ((pool.map V.int).length : Int) → Fl p H2 → But p H1 H2 → ∃ v, atI (pool.map V.int) r = some v ∧ Q v H2 := by
      intro H1 f1 b1 r H2 r0 r1 f2 b2
      obtain ⟨c, hc, _, hat⟩ := atI_in pool V.int r0 (by rw [List.length_map] at r1; exact r1)
      exact ⟨_, hat, k (.inl c) _ (.inl ⟨c, rfl, hpl c hc⟩) f2 (b1.trans b2)⟩
    have hpos : (0 : Int) < ((pool.map V.int).length : Int) := by rw [List.length_map]; omega
    have fin : ∀ H1, Fl p H1 → But p H H1 → (∃ v, v = V.ref b ∧ True) := fun _ _ _ => ⟨_, rfl, True.intro⟩
    clear fin
    refine ⟨_, rfl, a, _, rfl, .inl (.inl (.inl ha)), _, _, rfl, rfl, _, rfl, ?_⟩
    refine ite2 (fun h1 => ?_) (fun h1 => ?_)
    · have hn : (0 : Int) < ((near.map V.str).length : Int) := of_decide_eq_true h1
      refine ⟨_, rfl, p, 6, rfl, f, by decide, fun r H1 r0 r1 f1 b1 => ⟨_, _, rfl, rfl, _, rfl, ?_⟩⟩
      refine ite2 (fun h2 => ?_) (fun h2 => ?_)
      · refine ⟨_, rfl, _, rfl, _, rfl, a, _, rfl, .inl (.inl (.inl (b1 _ _ hap ha))), p, _, rfl, f1, hn, fun r H2 r0 r1 f2 b2 => ?_⟩
        obtain ⟨z, hz, _, hat⟩ := atI_in near V.str r0 (by rw [List.length_map] at r1; exact r1)
        exact ⟨a, _, r, _, rfl, rfl, .inl (.inl (b2 _ _ hap (b1 _ _ hap ha))), hat, k (.inr z) _ (.inr ⟨z, rfl, hz⟩) f2 (b1.trans b2)⟩
      · refine ⟨_, rfl, _, rfl, _, rfl, b, _, rfl, .inl (.inl (.inl (b1 _ _ hbp hb))), p, _, rfl, f1, hpos, fun r H2 r0 r1 f2 b2 => ?_⟩
        obtain ⟨v, hat, q⟩ := last H1 f1 b1 r H2 r0 r1 f2 b2
        exact ⟨b, _, r, _, rfl, rfl, .inl (.inl (b2 _ _ hbp (b1 _ _ hbp hb))), hat, q⟩
    · walk_at "ii"
      refine ⟨_, rfl, _, rfl, _, rfl, b, _, rfl, .inl (.inl (.inl hb)), p, _, rfl, f, hpos, fun r H2 r0 r1 f2 b2 => ?_⟩
      obtain ⟨v, hat, q⟩ := last H f (.refl _) r H2 r0 r1 f2 b2
      exact ⟨b, _, r, _, rfl, rfl, .inl (.inl (b2 _ _ hbp hb)), hat, q⟩
end
end AF
namespace AF
open PySem PySem.Spec PyProof.Rows L2
section
variable {P : Program} {w : World} {K : PySem.W.Frag} {mg : Str → Option Value} {base : Heap}
/-! ### the law's rule -/
def sp_long : Sp := fun vs H Q _ => ∃ (p ak : Addr) (k : Kit), vs = [.ref p, .ref ak] ∧ Fl p H ∧ KitAt p H ak k ∧ KitOk k ∧
  ∀ a ah ab bs (h : Lit) (b : List Lit) H', H' a = some (.tup [.ref ah, .ref ab]) → OneAt H' (.ref ah) h → H' ab = some (.lst bs) → Paired (OneAt H') bs b → RuleD k h b → Fl p H' → But p H H' → Q (.ref a) H'
theorem cal__law_long_rule (T : Top K mg) : Cal P w K mg base 3 "_law_long_rule" sp_long [] := by
  obtain ⟨fd, F⟩ := fd__law_long_rule T
  refine ⟨_, fd, _, [], F.ok sc__law_long_rule (fun vs H Q E h => ?_) (fun cdv A outer s H vs Q E hr h => ?_), T.g__law_long_rule, F.kp, F.bindsN (ps := ["_law_flow_here", "_law_kit_here"]) (fun _ _ _ _ _ _ us hl => match us, hl with | [_, _], _ => rfl), .nil⟩
  · obtain ⟨_, _, _, rfl, _⟩ := h
    rfl
  · obtain ⟨p, ak, k, rfl, f0, ⟨a1, a2, a3, a4, a5, ⟨n0, n1, n2, n3, n4, n5⟩, h0, h1, h2, h3, h4, h5⟩, ok, fin⟩ := h
    refine ⟨_, PSs.nox (pss_cons (ps_asg (pv 1) (pg_lst (by rfl) (pgs_cons (pg_name (i := 2) sc__law_long_rule.nd rfl (Or.inl rfl)) (pgs_cons (pg_name (i := 3) sc__law_long_rule.nd rfl (Or.inl rfl)) (pgs_cons (pg_name (i := 4) sc__law_long_rule.nd rfl (Or.inl rfl)) (pgs_cons (pg_name (i := 5) sc__law_long_rule.nd rfl (Or.inr rfl)) (pgs_cons (pg_name (i := 6) sc__law_long_rule.nd rfl (Or.inl rfl)) pgs_nil)))))))
    (pss_cons (ps_set (i := 7) sc__law_long_rule.nd rfl (Or.inl rfl) (pe_lst pa_nil))
    (pss_cons (ps_set (i := 8) sc__law_long_rule.nd rfl (Or.inr rfl) (pe_lst pa_nil))
    (pss_cons (ps_for PassesOwn.never rfl (pi_range1 rfl T.f_range (pa_cons (pe_c (cal__law_draw T) hr (by decide) (by rfl) (pa_cons (pv 0) (pa_cons pe_int pa_nil))) pa_nil)) (pg_name (i := 9) sc__law_long_rule.nd rfl (Or.inl rfl)) (pss_cons (ps_set (i := 10) sc__law_long_rule.nd rfl (Or.inl rfl) (pe_cmpR op_eq (pe_c (cal__law_draw T) hr (by decide) (by rfl) (pa_cons (pv 0) (pa_cons pe_int pa_nil))) pe_int (nomark _)))
    (pss_cons (ps_set (i := 11) sc__law_long_rule.nd rfl (Or.inl rfl) (pe_c (cal__law_draw T) hr (by decide) (by rfl) (pa_cons (pv 0) (pa_cons (pe_callB call_len_seq (by rfl) T.f_len (by decide +kernel) (pa_cons (pv 2) pa_nil)) pa_nil))))
    (pss_cons (ps_set (i := 12) sc__law_long_rule.nd rfl (Or.inr rfl) (pe_ifExp (pt_val (pv 10)) (pv 8) (pv 6)))
    (pss_cons (ps_set (i := 13) sc__law_long_rule.nd rfl (Or.inl rfl) (pe_callTy call_tuple_of (by rfl) T.f_tuple (by decide +kernel) (pa_cons (pe_lc (own := [("_law_i", 15)]) rfl sc__law_long_rule.nd (pi_range1 rfl T.f_range (pa_cons (pe_ix ix_list (pv 3) (pv 11) (fun _ _ => rfl)) pa_nil)) (blkOk_by (own := [("_law_i", 15)]) (N := N__law_long_rule) (sc := defScope s__law_long_rule) (by decide +kernel)) (fun _ _ _ _ _ => (pg_name (i := 15) sc__law_long_rule.nd rfl (Or.inl rfl))) (fun _ _ _ _ _ => pts_nil) (fun _ _ _ _ _ => (pe_c (cal__law_term T) hr (by decide) (by rfl) (pa_cons (pv 0) (pa_cons (pv 12) (pa_cons (pv 5) pa_nil)))))) pa_nil)))
    (pss_cons (ps_expr (pe_bm PySem.F.plainAttrs_list PySem.F.slot_list_append PySem.F.type_list_append mt_append (pv 7) (pa_cons (pe_tup (pa_cons (pe_ix ix_list (pv 2) (pv 11) (fun _ _ => rfl)) (pa_cons (pv 13) (pa_cons (pv 10) pa_nil)))) pa_nil)))
    (pss_one (ps_if (pt_not (pt_val (pv 10))) (pss_one (ps_set (i := 8) sc__law_long_rule.nd rfl (Or.inr rfl) (pe_op op_cat (pv 8) (pe_lc (own := [("_law_term_here", 16)]) rfl sc__law_long_rule.nd (pi_tup (pv 13)) (blkOk_by (own := [("_law_term_here", 16)]) (N := N__law_long_rule) (sc := defScope s__law_long_rule) (by decide +kernel)) (fun _ _ _ _ _ => (pg_name (i := 16) sc__law_long_rule.nd rfl (Or.inl rfl))) (fun _ _ _ _ _ => (pts_one (pt_val (pe_callB (callR_K (r := rIsi) K rfl call_isi) (by rfl) T.f_isinstance (by decide +kernel) (pa_cons (pv 16) (pa_cons (pe_bltn (v := .ty "str") (u := .type "str") (by rfl) T.f_str (by decide +kernel) rfl) pa_nil)))))) (fun _ _ _ _ _ => (pv 16)))))) pss_nil))))))))
    (pss_cons (ps_set (i := 14) sc__law_long_rule.nd rfl (Or.inl rfl) (pe_callTy call_tuple_of (by rfl) T.f_tuple (by decide +kernel) (pa_cons (pe_lc (own := [("_law_i", 15)]) rfl sc__law_long_rule.nd (pi_range1 rfl T.f_range (pa_cons (pe_ix ix_list (pv 3) pe_int (fun _ _ => rfl)) pa_nil)) (blkOk_by (own := [("_law_i", 15)]) (N := N__law_long_rule) (sc := defScope s__law_long_rule) (by decide +kernel)) (fun _ _ _ _ _ => (pg_name (i := 15) sc__law_long_rule.nd rfl (Or.inl rfl))) (fun _ _ _ _ _ => pts_nil) (fun _ _ _ _ _ => (pe_c (cal__law_term T) hr (by decide) (by rfl) (pa_cons (pv 0) (pa_cons (pv 8) (pa_cons (pv 5) pa_nil)))))) pa_nil)))
    (pss_one (ps_ret (pe_tup (pa_cons (pe_tup (pa_cons (pe_ix ix_list (pv 2) pe_int (fun _ _ => rfl)) (pa_cons (pv 14) (pa_cons pe_bl pa_nil)))) (pa_cons (pv 7) pa_nil)))))))))), ?_⟩
    refine ⟨_, rfl, ak, _, rfl, .inl (.inl h0), rfl, _, _, rfl, _, _, rfl, _, _, rfl, _, _, rfl, _, _, rfl, rfl, ?_⟩
    refine ⟨Nat.zero_le _, fun pb npb => ⟨Nat.zero_le _, fun ps nps => ?_⟩⟩
    have f1 := f0.new (o := .lst []) npb
    have f2 := f1.new (o := .lst []) nps
    have b2 : But p H (upd (upd H pb (.lst [])) ps (.lst [])) := (But.new npb).trans (.new nps)
    have pbp := f0.ne npb
    have psp := f1.ne nps
    have psb : ps ≠ pb := fun e => by rw [e, upd_same] at nps; cases nps
    have hb2 : (upd (upd H pb (.lst [])) ps (.lst [])) pb = some (.lst []) := by rw [upd_ne psb.symm, upd_same]
    have hs2 : (upd (upd H pb (.lst [])) ps (.lst [])) ps = some (.lst []) := upd_same
    generalize upd (upd H pb (.lst [])) ps (.lst []) = H2 at f2 b2 hb2 hs2 ⊢
    refine ⟨_, rfl, p, 7, rfl, f2, by decide, fun r H3 r0 r7 f3 b3 => ⟨r, rfl, by omega, by omega, ?_⟩⟩
    have nm8 : (k.names.map V.str).length = k.names.length := List.length_map ..
    have term_at : ∀ {nr : Addr} {near : List Str} {H' : Hp}, But p H H' → nr ≠ p → H' nr = some (.lst (near.map V.str)) → Fl p H' → ∀ (Q' : VK) (E' : XK), (∀ t H'', TermOf near t → Fl p H'' → But p H' H'' → Q' (kV t) H'') → sp_term ([.ref p, .ref nr, .ref a4] ++ []) H' Q' E' :=
      fun {nr near H'} bb hn hh ff Q' E' q => ⟨p, nr, a4, near, k.pool, rfl, ff, hn, n4, hh, bb _ _ n4 h4, ok.p1, ok.pl, q⟩
    refine for_it walk_range (fun i σ H' => ∃ (bs : List V) (b : List Lit) (S kn : List Str) (ps : Addr) (x9 x10 x11 x12 x13 x14 x15 x16 : Option V), σ = [some (.ref p), some (.ref ak), some (.ref a1), some (.ref a2), some (.ref a3), some (.ref a4), some (.ref a5), some (.ref pb), some (.ref ps), x9, x10, x11, x12, x13, x14, x15, x16] ∧
      Fl p H' ∧ But p H H' ∧ H' pb = some (.lst bs) ∧ H' ps = some (.lst (S.map V.str)) ∧ ps ≠ pb ∧ ps ≠ p ∧ Paired (OneAt H') bs b ∧ b.length = i ∧ (∀ l ∈ b, LitD k l) ∧ fuBody [] b = (none, kn) ∧ (∀ z ∈ S, z ∈ kn ∧ z ∈ k.vars) ∧ S.length ≤ 3 * i)
      ⟨[], [], [], [], ps, _, _, _, _, _, _, _, _, rfl, f3, b2.trans b3, b3 _ _ pbp hb2, b3 _ _ psp hs2, psb, psp, .nil, rfl, fun _ h => by simp at h, rfl, fun _ h => by simp at h, Nat.zero_le _⟩ (fun _ _ _ _ _ => True.intro) (fun i x σ H4 H5 hi q y => ?_) (fun σ H4 q => ?_)
    · obtain ⟨bs, b, S, kn, ps, x9, x10, x11, x12, x13, x14, x15, x16, rfl, f4, b4, hpb, hps, psb, psp, pr, bl, bd, fu, sn, sl⟩ := q
      obtain ⟨rfl, rfl⟩ := y
      have hi6 : i < 6 := by omega
      have bsl : bs.length = i := by rw [paired_len pr, bl]
      -- the sign, the place
      refine ⟨_, rfl, p, 4, rfl, f4, by decide, fun bar H6 _ _ f6 b6 => ⟨rfl, ?_⟩⟩
      have b46 := b4.trans b6
      refine ⟨_, rfl, _, rfl, a1, _, rfl, .inl (.inl (.inl (b46 _ _ n1 h1))), p, _, rfl, f6, by rw [nm8]; have := ok.n4; omega, fun at_ H7 at0 at1 f7 b7 => ?_⟩
      rw [nm8] at at1
      have b47 := b46.trans b7
      have t7 := (b6.tp f4).trans (b7.tp f6)
      have hps7 := b7 _ _ psp (b6 _ _ psp hps)
      have hpb7 := b7 _ _ pbp (b6 _ _ pbp hpb)
      refine ⟨_, rfl, _, rfl, ?_⟩
      generalize decide (V.int bar = V.int 3) = bb
      refine tif_var (a := ps) (b := a5) rfl rfl ?_
      obtain ⟨near, hnr, hnp, hnS⟩ : ∃ near : List Str, H7 (if bb = true then ps else a5) = some (.lst (near.map V.str)) ∧ (if bb = true then ps else a5) ≠ p ∧ near = (if bb = true then S else k.vars) := by
        cases bb with
        | true => exact ⟨S, hps7, psp, rfl⟩
        | false => exact ⟨k.vars, b47 _ _ n5 h5, n5, rfl⟩
      generalize (if bb = true then ps else a5) = nr at hnr hnp ⊢
      -- the terms
      have n8 := ok.n8
      have s8 := ok.s8
      obtain ⟨sz, hsz, _, hat⟩ := atI_in k.sizes V.int at0 (by omega)
      have hsz3 := ok.sz sz hsz
      refine ⟨_, rfl, _, rfl, a2, _, at_, _, rfl, rfl, .inl (.inl (b47 _ _ n2 h2)), hat, sz, rfl, by omega, by omega, fun D hD => ?_⟩
      refine lc_all walk_range p (fun _ v => ∃ t, TermOf near t ∧ v = kV t) (by rw [sizeLine_eq]; omega) hD f7 (fun _ _ => True.intro) (fun j x H3 H8 hj b8 f8 y QQ NN hq => ?_) (fun H8 xs b8 f8 h8 hlen hg => ?_)
      · obtain ⟨rfl, rfl⟩ := y
        exact ⟨rfl, _, rfl, _, rfl, _, rfl, term_at (b47.trans b8) hnp (b8 _ _ hnp hnr) f8 _ E (fun t H'' ht ff bb => hq _ _ ⟨t, ht, rfl⟩ ff bb)⟩
      obtain ⟨ts, rfl, hts⟩ := list_at kV (fun t => TermOf near t) (xs := xs) (fun i v e => hg i v e)
      rw [List.length_map] at hlen
      have b48 := b47.trans b8
      have t8 := t7.trans (b8.tp f7)
      refine ⟨D, _, rfl, .inl ⟨.inl (.inl h8), fun tt ntt => ?_⟩⟩
      have f9 := f8.new (o := .tup (ts.map kV)) ntt
      have b9 : But p H8 (upd H8 tt (.tup (ts.map kV))) := .new ntt
      have b49 := b48.trans b9
      have t9 := t8.trans (b9.tp f8)
      have htt : (upd H8 tt (.tup (ts.map kV))) tt = some (.tup (ts.map kV)) := upd_same
      have hps9 := b9 _ _ psp (b8 _ _ psp hps7)
      have hpb9 := b9 _ _ pbp (b8 _ _ pbp hpb7)
      generalize upd H8 tt (.tup (ts.map kV)) = H9 at f9 b9 b49 t9 htt hps9 hpb9 ⊢
      -- the literal
      obtain ⟨nm, hnm, _, hatn⟩ := atI_in k.names V.str at0 (by omega)
      refine ⟨_, rfl, .inl ⟨rfl, _, .inl (.inl hpb9)⟩, _, rfl, _, rfl, a1, _, at_, _, rfl, rfl, .inl (.inl (b49 _ _ n1 h1)), hatn, _, rfl, _, rfl, by rw [sizeLine_eq]; show 3 ≤ 16777216; decide, fun ta nta => ?_⟩
      have f10 := f9.new (o := .tup [.str nm, .ref tt, .bl bb]) nta
      have b10 : But p H9 (upd H9 ta (.tup [.str nm, .ref tt, .bl bb])) := .new nta
      have b410 := b49.trans b10
      have t10 := t9.trans (b10.tp f9)
      have hta : (upd H9 ta (.tup [.str nm, .ref tt, .bl bb])) ta = some (.tup [.str nm, .ref tt, .bl bb]) := upd_same
      have hps10 := b10 _ _ psp hps9
      have hpb10 := b10 _ _ pbp hpb9
      have htt10 := (b10.tp f9) _ _ htt
      generalize upd H9 ta (.tup [.str nm, .ref tt, .bl bb]) = H10 at f10 b10 b410 t10 hta hps10 hpb10 htt10 ⊢
      refine ⟨pb, bs, .ref ta, rfl, rfl, hpb10, by rw [sizeLine_eq]; omega, ?_⟩
      have f11 := f10.upd_ (o := .lst (bs ++ [.ref ta])) pbp
      have b411 : But p H (upd H10 pb (.lst (bs ++ [.ref ta]))) := But.at_ npb b410
      have t11 := t10.trans ((Tp.refl H10).lst (o := .lst (bs ++ [.ref ta])) hpb10)
      have hta11 : (upd H10 pb (.lst (bs ++ [.ref ta]))) ta = some (.tup [.str nm, .ref tt, .bl bb]) := (Tp.refl H10).lst hpb10 _ _ hta
      have htt11 : (upd H10 pb (.lst (bs ++ [.ref ta]))) tt = some (.tup (ts.map kV)) := (Tp.refl H10).lst hpb10 _ _ htt10
      have hps11 : (upd H10 pb (.lst (bs ++ [.ref ta]))) ps = some (.lst (S.map V.str)) := by rw [upd_ne psb]; exact hps10
      have hpb11 : (upd H10 pb (.lst (bs ++ [.ref ta]))) pb = some (.lst (bs ++ [.ref ta])) := upd_same
      generalize upd H10 pb (.lst (bs ++ [.ref ta])) = H11 at f11 b411 t11 hta11 htt11 hps11 hpb11 ⊢
      have hvars : ∀ t ∈ ts, TermOf k.vars t := fun t ht => by
        rcases hts t ht with h | ⟨z, e, hz⟩
        · exact .inl h
        · refine .inr ⟨z, e, ?_⟩
          rw [hnS] at hz
          cases bb with
          | true => exact (sn z hz).2
          | false => exact hz
      have hln : ts.length ≤ 3 := by omega
      have one : OneAt H11 (.ref ta) ⟨nm, ts, bb⟩ := ⟨ta, tt, rfl, hta11, htt11⟩
      have pr11 : Paired (OneAt H11) (bs ++ [.ref ta]) (b ++ [⟨nm, ts, bb⟩]) := paired_snoc one (paired_imp (fun _ _ q => q.tp t11) pr)
      have bd11 : ∀ l ∈ b ++ [(⟨nm, ts, bb⟩ : Lit)], LitD k l := fun l hl => by
        rcases List.mem_append.mp hl with h | h
        · exact bd l h
        · rw [List.mem_singleton.mp h]
          exact ⟨hnm, hln, hvars⟩
      have fu11 := fuBody_snoc b ⟨nm, ts, bb⟩ [] kn fu
      refine ⟨_, rfl, _, rfl, ?_⟩
      cases bb with
      | true =>
        walk_at "ii"
        refine ⟨_, b ++ [⟨nm, ts, true⟩], S, kn, ps, _, _, _, _, _, _, _, _, rfl, f11, b411, hpb11, hps11, psb, psp, pr11, by rw [List.length_append, bl]; rfl, bd11, ?_, sn, by omega⟩
        rw [fu11]
        unfold fuBody
        rw [if_pos rfl, find_none]
        · rfl
        · intro z hz
          rcases hts _ (mem_varsOf.mp hz) with ⟨c, e, _⟩ | ⟨z', e, hz'⟩
          · cases e
          · obtain rfl : z = z' := Sum.inr.inj e
            rw [hnS] at hz'
            exact decide_eq_false (fun h => h (sn z hz').1)
      | false =>
        walk_at "ii"
        refine ⟨_, rfl, _, rfl, tt, rfl, ⟨_, .inl (.inl htt11)⟩, fun D2 hD2 => ?_⟩
        refine lc_fm (walk_tup (xs := ts.map kV)) (fun i => ts[i]?.bind strV) (by rw [List.length_map, sizeLine_eq]; omega) hD2 (fun H3 s3 => .inl (.inl (s3 _ _ htt11))) (fun j x H3 H' hj s3 y QQ NN hit miss => ?_) (fun H12 s12 h12 => ?_)
        · obtain ⟨rfl, hx⟩ := y
          rw [List.getElem?_map] at hx
          cases et : ts[j]? with
          | none => rw [et] at hx; cases hx
          | some t =>
            rw [et] at hx
            obtain rfl : kV t = x := Option.some.inj hx
            refine ⟨rfl, ?_⟩
            cases t with
            | inl c =>
              refine ⟨_, rfl, _, _, _, _, false, rfl, .ty _, .base (.int c), kit_ty (by decide +kernel), _, rfl, ?_⟩
              walk_at "ii"
              exact miss _ (by rw [et]; rfl) (Same.refl _)
            | inr z =>
              refine ⟨_, rfl, _, _, _, _, true, rfl, .ty _, .base (.str z), kit_ty (by decide +kernel), _, rfl, ?_⟩
              walk_at "ii"
              exact ⟨_, rfl, hit _ _ (by rw [et]; rfl) (Same.refl _)⟩
        · have e12 : (List.range (ts.map kV).length).filterMap (fun i => ts[i]?.bind strV) = (strsOf ts).map V.str := by
            rw [List.length_map, range_fm, fm_strV]
          rw [e12] at h12
          have f12 := f11.same s12
          have b412 := b411.trans (.of s12)
          have D2p := f11.ne hD2
          have sl2 := strsOf_len ts
          refine ⟨ps, D2, _, _, rfl, rfl, s12 _ _ hps11, h12, by rw [List.length_map, List.length_map, sizeLine_eq]; omega, fun q nq => ?_⟩
          have pr12 := paired_imp (fun _ _ q => OneAt.tp (Tp.of (s12.trans (same_new (o := .lst (S.map V.str ++ (strsOf ts).map V.str)) nq))) q) pr11
          have hpb12 := s12 _ _ hpb11
          refine ⟨_, b ++ [⟨nm, ts, false⟩], S ++ strsOf ts, kn ++ varsOf ts, q, _, _, _, _, _, _, _, _, rfl, f12.new nq, b412.trans (.new nq), same_new nq _ _ hpb12, by rw [upd_same, List.map_append], (fun e => by rw [e, hpb12] at nq; cases nq), f12.ne nq, pr12, by rw [List.length_append, bl]; rfl, bd11, ?_, ?_, by rw [List.length_append]; omega⟩
          · rw [fu11]
            rfl
          · intro z hz
            rcases List.mem_append.mp hz with h | h
            · exact ⟨List.mem_append_left _ (sn z h).1, (sn z h).2⟩
            · have hz2 := mem_strsOf.mp h
              refine ⟨List.mem_append_right _ (mem_varsOf.mpr hz2), ?_⟩
              rcases hvars _ hz2 with ⟨c, e, _⟩ | ⟨z', e, hz'⟩
              · cases e
              · rw [Sum.inr.inj e]
                exact hz'
    · obtain ⟨bs, b, S, kn, ps, x9, x10, x11, x12, x13, x14, x15, x16, rfl, f4, b4, hpb, hps, psb, psp, pr, bl, bd, fu, sn, sl⟩ := q
      have hn4 := ok.n4
      have s8 := ok.s8
      obtain ⟨sz, hsz, _, hat⟩ := atI_in k.sizes V.int (j := 3) (by decide) (by omega)
      have hsz3 := ok.sz sz hsz
      refine ⟨_, rfl, a2, _, 3, _, rfl, rfl, .inl (.inl (b4 _ _ n2 h2)), hat, sz, rfl, by omega, by omega, fun D hD => ?_⟩
      refine lc_all walk_range p (fun _ v => ∃ t, TermOf S t ∧ v = kV t) (by rw [sizeLine_eq]; omega) hD f4 (fun _ _ => True.intro) (fun j x H3 H8 hj b8 f8 y QQ NN hq => ?_) (fun H8 xs b8 f8 h8 hlen hg => ?_)
      · obtain ⟨rfl, rfl⟩ := y
        exact ⟨rfl, _, rfl, _, rfl, _, rfl, term_at (b4.trans b8) psp (b8 _ _ psp hps) f8 _ E (fun t H'' ht ff bb => hq _ _ ⟨t, ht, rfl⟩ ff bb)⟩
      obtain ⟨ts, rfl, hts⟩ := list_at kV (fun t => TermOf S t) (xs := xs) (fun i v e => hg i v e)
      rw [List.length_map] at hlen
      have b48 := b4.trans b8
      have t8 := b8.tp f4
      refine ⟨D, _, rfl, .inl ⟨.inl (.inl h8), fun tt ntt => ?_⟩⟩
      have s9 : Same H8 (upd H8 tt (.tup (ts.map kV))) := same_new ntt
      have htt : (upd H8 tt (.tup (ts.map kV))) tt = some (.tup (ts.map kV)) := upd_same
      generalize upd H8 tt (.tup (ts.map kV)) = H9 at s9 htt ⊢
      obtain ⟨nm, hnm, _, hatn⟩ := atI_in k.names V.str (j := 3) (by decide) (by omega)
      refine ⟨_, rfl, a1, _, 3, _, rfl, rfl, .inl (.inl (s9 _ _ (b48 _ _ n1 h1))), hatn, _, rfl, by rw [sizeLine_eq]; show 3 ≤ 16777216; decide, fun ta nta => ⟨_, rfl, by rw [sizeLine_eq]; show 2 ≤ 16777216; decide, fun tr ntr => ?_⟩⟩
      have s10 : Same H8 (upd H9 ta (.tup [.str nm, .ref tt, .bl false])) := s9.trans (same_new nta)
      have s11 : Same H8 (upd (upd H9 ta (.tup [.str nm, .ref tt, .bl false])) tr (.tup [.ref ta, .ref pb])) := s10.trans (same_new ntr)
      refine fin tr ta pb bs ⟨nm, ts, false⟩ b _ upd_same ⟨ta, tt, rfl, same_new ntr _ _ upd_same, same_new ntr _ _ (same_new nta _ _ htt)⟩ (s11 _ _ (b8 _ _ pbp hpb)) (paired_imp (fun _ _ q => (q.tp t8).tp (.of s11)) pr)
        ⟨rfl, ⟨hnm, by show ts.length ≤ 3; omega, fun t ht => ?_⟩, bd, by rw [bl]; omega, ?_⟩ (f8.same s11) (b48.trans (.of s11))
      · rcases hts t ht with h | ⟨z, e, hz⟩
        · exact .inl h
        · exact .inr ⟨z, e, (sn z hz).2⟩
      · unfold firstUnsafe
        rw [fu]
        refine find_none fun z hz => ?_
        rcases hts _ (mem_varsOf.mp hz) with ⟨c, e, _⟩ | ⟨z', e, hz'⟩
        · cases e
        · obtain rfl : z = z' := Sum.inr.inj e
          exact decide_eq_false (fun h => h (sn z hz').1)
end
end AF
namespace AF
open PySem PySem.Spec PyProof.Rows L2
/-! ### sorted of a tuple of ints -/
section SortTup
open SrtO PyProof.Rows in
theorem sorted_tup {prog : Program} {w : World} {A : Around} {E : Value → Shared → Prop} {s : Shared} {l : Addr} {vs : List Value} {ltv : Value → Value → Bool} {Q : Value → Shared → Prop} (O : Swo ltv) (ht : s.heap.IsTuple l vs.toArray) (hz : vs.length ≤ sizeLine)
    (hS : 2 ≤ vs.length → ∀ (h₁ : Heap) (a : Addr), SortableO prog w A.in1.in1 { s with heap := h₁ } a vs ltv)
    (h : ∀ (out : List Value) (h1 h' : Heap), Srtd ltv out → Stb ltv out vs → (∀ b o, s.heap.get? b = some o → h1.get? b = some o) → (∀ b o, h1.get? b = some o → h'.get? b = some o) → (∃ ep, h'.get? h1.objs.size = some (seqObj "list" out.toArray ep)) → Q (.ref h1.objs.size) { s with heap := h' }) :
    wpAny (model prog w) A (call (.builtin "sorted") [.ref l]) Q E s := by
  obtain ⟨o, ho, hc, n, hd⟩ := ht
  refine Calls.call_function_entry kind_sorted plain_sorted entry_sorted (args_sorted1 _) ?_
  unfold Builtin.«sorted»
  refine wpAny_bind (m := checkCount "sorted" 1 1 _) (wpAny_pure ?_)
  refine wpAny_bind (wpAny_collect_seq l (.inr rfl) ho hc hd (fun h1 k1 => ?_) (by rw [List.size_toArray]; exact hz))
  rw [List.toList_toArray] at *
  refine wpAny_bind (wpAny_newList ?_ hz)
  have hoL : (h1.push (seqObj "list" vs.toArray 0)).get? h1.objs.size = some (seqObj "list" vs.toArray 0) := Heap.get?_push_size _ rfl
  show wpAny _ _ _ _ _ { s with heap := h1.push (seqObj "list" vs.toArray 0) }
  refine wpAny_bind (wpAny_holding (wpAny_call_entry slot_list_sort ⟨_, hoL, rfl⟩ entry_list_sort (list_sort_ord O hoL hz (fun h2 => hS h2 _ _) fun out hs hb => ⟨_, rfl, ?_⟩) (args_list_sort _)))
  refine wpAny_pure ⟨_, rfl, h out _ _ hs hb k1 (fun b o e => ?_) (sortedHeap_at (vs := vs) (out := out.toArray) hoL)⟩
  have hlt : b < h1.objs.size := Heap.lt_size e
  have hlt2 : b < (h1.push (seqObj "list" vs.toArray 0)).objs.size := by rw [Heap.size_push]; exact Nat.lt_succ_of_lt hlt
  rw [sortedHeap_old (Nat.ne_of_lt hlt) hlt2]
  exact Heap.get?_push_of_some _ e
def rSortedIT (K : PySem.W.Frag) : List V → Hp → VK → Prop := fun vs H Q => ∃ (a : Addr) (ns : List Int), vs = [V.ref a] ∧ SqT K H a (ns.map V.int) ∧
  ∀ (ns' : List Int) (p : Addr), ns'.Perm ns → ns'.Pairwise (· ≤ ·) → H p = none → Q (.ref p) (upd H p (.lst (ns'.map V.int)))
theorem cr_sortedIT {X : Cx} : CallR X (.builtin "sorted") (rSortedIT X.K) := by
  intro pins s σ H vs us Q I r h
  obtain ⟨a, ns, rfl, hs, q⟩ := h
  obtain ⟨its, rv, hl, hz⟩ := I.tuple hs
  rw [Vals.ref1 r]
  have hi := rv.ints
  refine sorted_tup SrtO.swo_int hl (by rw [← rv.length]; exact hz) (fun h2 h₁ a' => SrtO.ints_sortable hi h2) fun out h1 h' k1 k2 ks kh ⟨ep, he'⟩ => ?_
  obtain ⟨k1', k2', k3'⟩ := SrtO.ints_out hi k1 k2
  have hlen : ((out.map SrtO.iv).map V.int).length ≤ sizeLine := by
    rw [List.length_map, k2'.length_eq]
    rw [List.length_map] at hz
    exact hz
  have I1 : Inv X pins σ H { s with heap := h1, toks := s.toks } := I.kept ks
  exact ⟨.ref _, upd H h1.objs.size (.lst ((out.map SrtO.iv).map V.int)), I1.laid (t' := s.toks) kh (Nat.le_refl _) ⟨hlen, out, ep, vals_of_ints k1', he'⟩, rfl, q _ _ k2' k3' (I1.hok.fresh (Nat.le_refl _))⟩
end SortTup
end AF
namespace AF
open PySem PySem.Spec PyProof.Rows L2
/-! ### orders: the next one -/
section Orders
def lastN (o : List Int) : Nat → Nat
  | 0 => 0
  | n + 1 => if o.getD (n + 1) 0 < o.getD n 0 then lastN o n else n + 1
def insI (x : Int) : List Int → List Int
  | [] => [x]
  | y :: r => if x ≤ y then x :: y :: r else y :: insI x r
def isort : List Int → List Int
  | [] => []
  | x :: r => insI x (isort r)
def idx (x : Int) : List Int → Nat
  | [] => 0
  | y :: r => if y = x then 0 else idx x r + 1
def nextRest (o : List Int) (l : Nat) : List Int := isort (o.drop l)
def nextFirst (o : List Int) (l : Nat) : Int := (nextRest o l).getD (idx (o.getD l 0) (nextRest o l) + 1) 0
def nextOrder (o : List Int) : Option (List Int) := match lastN o (o.length - 1) with
  | 0 => none
  | l + 1 => some (o.take l ++ (nextFirst o l :: (nextRest o l).eraseIdx (idx (nextFirst o l) (nextRest o l))))
def nextOk (o : List Int) : Bool := match lastN o (o.length - 1) with
  | 0 => true
  | l + 1 => decide (o.getD l 0 ∈ nextRest o l) && decide (idx (o.getD l 0) (nextRest o l) + 1 < (nextRest o l).length)
theorem idx_spec {x : Int} : ∀ {l : List Int}, x ∈ l → l[idx x l]? = some x ∧ ∀ m : Nat, m < idx x l → l[m]? ≠ some x
  | [], h => by simp at h
  | y :: r, h => by
    unfold idx
    by_cases e : y = x
    · rw [if_pos e]
      exact ⟨by rw [e]; rfl, fun m hm => absurd hm (Nat.not_lt_zero _)⟩
    · rw [if_neg e]
      have hr : x ∈ r := by
        rcases List.mem_cons.mp h with z | z
        · exact absurd z.symm e
        · exact z
      obtain ⟨h1, h2⟩ := idx_spec hr
      refine ⟨by rw [List.getElem?_cons_succ]; exact h1, fun m hm => ?_⟩
      cases m with
      | zero =>
        rw [List.getElem?_cons_zero]
        intro z
        exact e (Option.some.inj z)
      | succ m =>
        rw [List.getElem?_cons_succ]
        exact h2 m (by omega)
theorem insI_perm (x : Int) : ∀ l, (insI x l).Perm (x :: l)
  | [] => .refl _
  | y :: r => by
    unfold insI
    by_cases h : x ≤ y
    · rw [if_pos h]
    · rw [if_neg h]
      exact ((insI_perm x r).cons y).trans (List.Perm.swap x y r)
theorem isort_perm : ∀ l, (isort l).Perm l
  | [] => .refl _
  | x :: r => (insI_perm x (isort r)).trans ((isort_perm r).cons x)
theorem insI_sorted (x : Int) : ∀ l : List Int, l.Pairwise (· ≤ ·) → (insI x l).Pairwise (· ≤ ·)
  | [], _ => List.pairwise_singleton _ _
  | y :: r, h => by
    unfold insI
    have hy : ∀ z ∈ r, y ≤ z := fun z hz => List.rel_of_pairwise_cons h hz
    by_cases hx : x ≤ y
    · rw [if_pos hx]
      refine List.Pairwise.cons (fun z hz => ?_) h
      rcases List.mem_cons.mp hz with e | e
      · rw [e]; exact hx
      · exact Int.le_trans hx (hy z e)
    · rw [if_neg hx]
      refine List.Pairwise.cons (fun z hz => ?_) (insI_sorted x r (List.Pairwise.of_cons h))
      rcases List.mem_cons.mp ((insI_perm x r).mem_iff.mp hz) with e | e
      · rw [e]; omega
      · exact hy z e
theorem isort_sorted : ∀ l : List Int, (isort l).Pairwise (· ≤ ·)
  | [] => List.Pairwise.nil
  | x :: r => insI_sorted x _ (isort_sorted r)
theorem sorted_uniq : ∀ {a b : List Int}, a.Perm b → a.Pairwise (· ≤ ·) → b.Pairwise (· ≤ ·) → a = b
  | [], b, h, _, _ => (List.Perm.nil_eq h)
  | x :: a, [], h, _, _ => by
    have := h.length_eq
    simp at this
  | x :: a, y :: b, h, h1, h2 => by
    have e : x = y := by
      have hx : x ∈ y :: b := h.mem_iff.mp (List.mem_cons_self ..)
      have hy : y ∈ x :: a := h.mem_iff.mpr (List.mem_cons_self ..)
      have i1 : y ≤ x := by
        rcases List.mem_cons.mp hx with e | e
        · omega
        · exact List.rel_of_pairwise_cons h2 e
      have i2 : x ≤ y := by
        rcases List.mem_cons.mp hy with e | e
        · omega
        · exact List.rel_of_pairwise_cons h1 e
      omega
    subst e
    rw [sorted_uniq (List.Perm.cons_inv h) (List.Pairwise.of_cons h1) (List.Pairwise.of_cons h2)]
theorem sort_is {a b : List Int} (h : a.Perm b) (hs : a.Pairwise (· ≤ ·)) : a = isort b := sorted_uniq (h.trans (isort_perm b).symm) hs (isort_sorted b)
end Orders
end AF
namespace AF
open PySem PySem.Spec PyProof.Rows L2
/-! ### if, within a generator def -/
section GenIf
def tGIf (c : TT) (ta tb : TGn) : TGn := fun D ys σ H => c σ H fun b H1 => if b = true then ta D ys σ H1 else tb D ys σ H1
theorem gs_if {X : Cx} {test : Expr} {body orelse : List Stmt} {pos : Pos} {tc : TT} {ta tb : TGn} (hc : PT X test tc) (ha : GSs X body ta) (hb : GSs X orelse tb) : GS X (.If test body orelse pos) (tGIf tc ta tb) := by
  refine ⟨fun A S ip R n ys s₀ c fs K J gd lv s σ H D g hn k hI ht => ?_⟩
  obtain ⟨acc, cc, r, I⟩ := hI
  rw [arm_exec_If]
  refine seg_bind_wrap (m := standAt pos) (wpAny_standAt ?_)
  refine seg_bind_wrap (m := isTrue test X.env (eval test X.env)) ?_
  rw [g.over]
  refine wpAny_mono (hc.run _ s σ H _ I ht) (fun b s' hv => ?_) fun x s' hx => k.exc _ s₀ x s' hx
  obtain ⟨H1, I1, q⟩ := hv
  have G1 : GI X S ip ys σ H1 s' := ⟨acc, cc, r, I1⟩
  cases b with
  | true => exact ha.run A S ip R n ys s₀ c fs K J gd lv s' σ H1 D g hn k G1 q
  | false => exact hb.run A S ip R n ys s₀ c fs K J gd lv s' σ H1 D g hn k G1 q
end GenIf
end AF
namespace AF
open PySem PySem.Spec PyProof.Rows L2
section
variable {P : Program} {w : World} {K : PySem.W.Frag} {mg : Str → Option Value} {base : Heap}
/-! ### askedfacts.orders: next_order -/
theorem getD_at {o : List Int} {i : Nat} (h : i < o.length) : (o.map V.int)[i]? = some (.int (o.getD i 0)) := by
  rw [List.getElem?_map, List.getD_eq_getElem?_getD]
  simp [h]
theorem eqV_int (a b : Int) : eqV (.int a) (.int b) = decide (a = b) := by
  by_cases h : a = b
  · subst h; simp [eqV]
  · simp [eqV, h]
theorem flat_ints (xs : List Int) : (xs.map V.int).all flatV = true := by
  rw [List.all_map]
  exact List.all_eq_true.mpr fun _ _ => rfl
def sp_next : Sp := fun vs H Q _ => ∃ (a : Addr) (o : List Int), vs = [.ref a] ∧ TupAt K H a (o.map V.int) ∧ nextOk o = true ∧ o.length ≤ 1000 ∧ (nextOrder o = none → ∀ H', Same H H' → Q .non H') ∧
  ∀ o', nextOrder o = some o' → ∀ p H', Same H H' → H' p = some (.tup (o'.map V.int)) → Q (.ref p) H'
theorem cal_next_order (T : Top K mg) : Cal P w K mg base 1 "next_order" (sp_next (K := K)) [] := by
  obtain ⟨fd, F⟩ := fd_next_order T
  refine ⟨_, fd, _, [], F.ok sc_next_order (fun vs H Q E h => ?_) (fun cdv A outer s H vs Q E hr h => ?_), T.g_next_order, F.kp, F.bindsN (ps := ["order"]) (fun _ _ _ _ _ _ us hl => match us, hl with | [_], _ => rfl), .nil⟩
  · obtain ⟨_, _, rfl, _⟩ := h
    rfl
  · obtain ⟨a, o, rfl, ha, hok, hl, k0, k1⟩ := h
    refine ⟨_, PSs.nox (pss_cons (ps_set (i := 1) sc_next_order.nd rfl (Or.inl rfl) (pe_op op_sub (pe_callB call_len_seq (by rfl) T.f_len (by decide +kernel) (pa_cons (pv 0) pa_nil)) pe_int))
    (pss_cons (ps_while PassesOwn.never (PW.pt (pw_and (pt_cmpR op_ge (pv 1) pe_int (nomark _)) (pw_and1 (pt_cmpR op_gt (pe_ix ix_tup (pv 0) (pv 1) (fun _ _ => rfl)) (pe_ix ix_tup (pv 0) (pe_op op_add (pv 1) pe_int) (fun _ _ => rfl)) (nomark _))))) (pss_one (ps_aug (i := 1) sc_next_order.nd rfl (Or.inl rfl) pe_int ip_sub)))
    (pss_cons (ps_if (pt_cmpR op_lt (pv 1) pe_int (nomark _)) (pss_one (ps_ret pe_non)) pss_nil)
    (C8.pss_cut (ps_set (i := 2) sc_next_order.nd rfl (Or.inl rfl) (pe_callB cr_sortedIT (by rfl) T.f_sorted (by decide +kernel) (pa_cons (pe_slice sl_tupA (pv 0) (po_some (pv 1)) po_none) pa_nil)))
    (pss_cons (ps_set (i := 3) sc_next_order.nd rfl (Or.inl rfl) (pe_ix ix_list (pv 2) (pe_op op_add (pe_bm PySem.F.plainAttrs_list PySem.F.slot_list_index PySem.F.type_list_index mt_index (pv 2) (pa_cons (pe_ix ix_tup (pv 0) (pv 1) (fun _ _ => rfl)) pa_nil)) pe_int) (fun _ _ => rfl)))
    (pss_cons (ps_expr (pe_bm PySem.F.plainAttrs_list PySem.F.slot_list_remove PySem.F.type_list_remove mt_remove (pv 2) (pa_cons (pv 3) pa_nil)))
    (pss_one (ps_ret (pe_tup (StX.pa_star (pe_slice sl_tupA (pv 0) po_none (po_some (pv 1))) (pa_cons (pv 3) (StX.pa_star (pv 2) pa_nil)))))))))))), ?_⟩
    refine ⟨_, rfl, a, _, rfl, .inr ha.sq, _, _, rfl, rfl, ?_⟩
    refine ⟨fun m σ H' => ∃ v : Int, σ = [some (.ref a), some (.int v), none, none] ∧ H' = H ∧ (v = m - 1 ∨ (m = 0 ∧ v < 0)) ∧ m ≤ o.length - 1 ∧ lastN o m = lastN o (o.length - 1), ⟨o.length - 1, _, rfl, rfl, ?_, Nat.le_refl _, rfl⟩, ?_⟩
    · rw [List.length_map]
      omega
    rintro m σ H' ⟨v, rfl, rfl, hv, hm, hlast⟩
    refine ⟨_, rfl, _, _, rfl, rfl, _, rfl, ?_⟩
    have out : (m = 0 ∧ v < 0 ∨ ∃ n, m = n + 1 ∧ lastN o m = n + 1 ∧ v = n) → True := fun _ => True.intro
    clear out
    refine ite2 (fun h0 => ?_) (fun h0 => ?_)
    · have h0 : 0 ≤ v := of_decide_eq_true h0
      obtain ⟨n, rfl, hvn⟩ : ∃ n : Nat, m = n + 1 ∧ v = n := ⟨v.toNat, by omega, by omega⟩
      subst hvn
      have h1 := getD_at (o := o) (i := n) (by omega)
      have h2 := getD_at (o := o) (i := n + 1) (by omega)
      refine ⟨_, rfl, _, rfl, a, _, _, _, rfl, rfl, ha.sq, atI_of h1 rfl, _, rfl, _, rfl, _, 1, rfl, rfl, a, _, _, _, rfl, rfl, ha.sq, atI_of h2 (by omega), _, _, rfl, rfl, _, rfl, ?_⟩
      refine ite2 (fun h3 => ?_) (fun h3 => ?_)
      · have h3 : o.getD (n + 1) 0 < o.getD n 0 := of_decide_eq_true h3
        refine ⟨fun σ' H'' => ∃ v : Int, σ' = [some (.ref a), some (.int v), none, none] ∧ H'' = H' ∧ (v = n - 1 ∨ (n = 0 ∧ v < 0)) ∧ n ≤ o.length - 1 ∧ lastN o n = lastN o (o.length - 1), fun σ' H'' q => ⟨n, Nat.lt_succ_self n, q⟩, ?_⟩
        refine ⟨_, rfl, _, _, rfl, rfl, _, rfl, rfl, .inl rfl, by omega, ?_⟩
        rw [← hlast]
        show _ = (if o.getD (n + 1) 0 < o.getD n 0 then lastN o n else n + 1)
        rw [if_pos h3]
      · have h3 : ¬ o.getD (n + 1) 0 < o.getD n 0 := fun z => h3 (decide_eq_true z)
        have hl1 : lastN o (o.length - 1) = n + 1 := by
          rw [← hlast]
          show (if o.getD (n + 1) 0 < o.getD n 0 then lastN o n else n + 1) = n + 1
          rw [if_neg h3]
        refine ⟨_, rfl, _, _, rfl, rfl, _, rfl, ?_⟩
        refine ite2 (fun h4 => absurd (of_decide_eq_true h4) (by omega)) (fun _ => ?_)
        unfold nextOk at hok
        rw [hl1] at hok
        simp only [Bool.and_eq_true, decide_eq_true_eq] at hok
        obtain ⟨hin, hlt⟩ := hok
        have hno : nextOrder o = some (o.take n ++ (nextFirst o n :: (nextRest o n).eraseIdx (idx (nextFirst o n) (nextRest o n)))) := by
          unfold nextOrder
          rw [hl1]
        have k1 := k1 _ hno
        -- the rest, sorted
        have hnl : n < o.length := by omega
        have hdl : (o.drop n).length = o.length - n := List.length_drop ..
        refine ⟨fun σ' H2 => ∃ p, σ' = [some (.ref a), some (.int n), some (.ref p), none] ∧ H' p = none ∧ Same H' H2 ∧ H2 p = some (.lst ((nextRest o n).map V.int)), ?_, fun σ' H2 hN => ?_⟩
        · have e1 : cutV (o.map V.int) (some (n : Int)) none = (o.drop n).map V.int := cutV_drop V.int o n
          refine ⟨_, rfl, _, rfl, _, rfl, a, _, rfl, ha.sq, fun hw => ?_, fun hw t nt => ?_⟩
          · have hn0 : n = 0 := by
              have := hw.1
              unfold HT.sIx at this
              simp only [List.length_map] at this
              split at this <;> omega
            subst hn0
            refine ⟨a, o, rfl, ha.sq, fun ns' p hp hs np => ⟨p, rfl, np, same_new np, ?_⟩⟩
            rw [upd_same, sort_is hp hs]
            rfl
          · rw [e1]
            refine ⟨t, o.drop n, rfl, .inl (.inl upd_same), fun ns' p hp hs np => ⟨p, rfl, same_none (same_new nt) np, (same_new nt).trans (same_new np), ?_⟩⟩
            rw [upd_same, sort_is hp hs]
            rfl
        · obtain ⟨p, rfl, hpn, s2, h2⟩ := hN
          obtain ⟨i1, i2⟩ := idx_spec hin
          have hf : nextFirst o n ∈ nextRest o n := by
            unfold nextFirst
            rw [List.getD_eq_getElem?_getD, List.getElem?_eq_getElem hlt]
            exact List.getElem_mem hlt
          obtain ⟨f1, f2⟩ := idx_spec hf
          have hle : (nextRest o n).length ≤ 1000 := by
            unfold nextRest
            rw [(isort_perm _).length_eq, hdl]
            omega
          have ha2 := ha.same s2
          refine ⟨_, rfl, _, rfl, .inl ⟨rfl, _, .inl (.inl h2)⟩, _, rfl, _, rfl, a, _, _, _, rfl, rfl, ha2.sq, atI_of h1 rfl, p, _, _, idx (o.getD n 0) (nextRest o n), _, rfl, rfl, .inl (.inl h2), rfl, flat_ints _, by rw [List.getElem?_map, i1]; rfl, by rw [eqV_int]; simp, fun m z' hm hz => ?_, ?_⟩
          · obtain ⟨w', hw', rfl⟩ := int_at hz
            rw [eqV_int]
            exact decide_eq_false fun e => i2 m hm (by rw [hw', e])
          refine ⟨_, 1, rfl, rfl, p, _, _, _, rfl, rfl, .inl (.inl h2), atI_of (getD_at hlt) (by omega), ?_⟩
          have e2 : cutV (o.map V.int) none (some (n : Int)) = (o.take n).map V.int := cutV_take V.int o n
          have hp0 : H2 p = some (.lst ((nextRest o n).map V.int)) := h2
          refine ⟨_, rfl, .inl ⟨rfl, _, .inl (.inl h2)⟩, _, rfl, p, _, _, _, rfl, rfl, h2, f1, f2, ?_⟩
          have s3 : Same H' (upd H2 p (.lst (((nextRest o n).eraseIdx (idx (nextFirst o n) (nextRest o n))).map V.int))) := same_at hpn s2
          have h3' : (upd H2 p (.lst (((nextRest o n).eraseIdx (idx (nextFirst o n) (nextRest o n))).map V.int))) p = some (.lst (((nextRest o n).eraseIdx (idx (nextFirst o n) (nextRest o n))).map V.int)) := upd_same
          have ha3 := ha.same s3
          refine ⟨_, rfl, _, rfl, _, rfl, a, _, rfl, ha3.sq, fun hw => ?_, fun hw t nt => ?_⟩
          · exfalso
            have := hw.2
            unfold HT.sIx at this
            simp only [List.length_map] at this
            split at this <;> omega
          · rw [e2]
            have hre : ((nextRest o n).eraseIdx (idx (nextFirst o n) (nextRest o n))).length ≤ 1000 := Nat.le_trans (List.length_eraseIdx_le _ _) hle
            refine ⟨t, _, rfl, .inl (.inl (.inl upd_same)), _, rfl, _, rfl, p, _, rfl, .inr (.inl (.inl (same_new nt _ _ h3'))), ?_, fun q nq => ?_⟩
            · simp only [List.length_append, List.length_cons, List.length_map, List.length_nil, List.length_take]
              rw [sizeLine_eq]
              omega
            · refine k1 q _ (s3.trans ((same_new nt).trans (same_new nq))) ?_
              rw [upd_same]
              simp only [List.map_append, List.map_cons, List.append_assoc, List.append_nil, List.cons_append, List.nil_append]
              rfl
    · have hlz : nextOrder o = none := by
        have : ¬ 0 ≤ v := fun z => h0 (decide_eq_true z)
        have hm0 : m = 0 := by omega
        subst hm0
        unfold nextOrder
        rw [← hlast]
        rfl
      walk_at "ii"
      refine ⟨_, rfl, _, _, rfl, rfl, _, rfl, ?_⟩
      refine ite2 (fun _ => k0 hlz H' (Same.refl _)) (fun z => absurd (decide_eq_true (p := v < 0) ?_) z)
      have : ¬ 0 ≤ v := fun z => h0 (decide_eq_true z)
      omega
end
end AF
namespace AF
open PySem PySem.Spec PyProof.Rows L2
/-! ### orders: all of them -/
section AllOrders
def iterO : Nat → List Int → List (List Int)
  | 0, _ => []
  | k + 1, o => o :: (match nextOrder o with
    | none => []
    | some o' => iterO k o')
def chainOk (n : Nat) : Nat → List Int → Bool
  | 0, _ => false
  | k + 1, o => decide (o.length = n) && (o.all (fun i => decide (0 ≤ i) && decide (i < n)) && (nextOk o && (match nextOrder o with
    | none => true
    | some o' => chainOk n k o')))
def startO (n : Nat) : List Int := (List.range n).map fun (i : Nat) => (0 : Int) + (i : Int)
theorem chains_ok : (List.range 6).all (fun n => chainOk n 130 (startO n)) = true := by decide +kernel
def selB (b : List Lit) (o : List Int) : List Lit := o.map fun i => b.getD i.toNat ⟨"", [], false⟩
def safeO (r : Rul) (o : List Int) : Bool := decide (firstUnsafe r.head (selB r.body o) = none)
def safeOrders (r : Rul) : List (List Int) := (iterO 130 (startO r.body.length)).filter (safeO r)
theorem paired_sel {R : V → Lit → Prop} {bs : List V} {b : List Lit} (h : Paired R bs b) : ∀ o : List Int, (∀ i ∈ o, 0 ≤ i ∧ i < (b.length : Int)) → Paired R (o.filterMap fun z => bs[z.toNat]?) (selB b o)
  | [], _ => .nil
  | z :: o, ho => by
    have hz := ho z (List.mem_cons_self ..)
    have hl := paired_len h
    have hb : b[z.toNat]? = some b[z.toNat] := by simp
    obtain ⟨x, hx, rx⟩ := paired_at' h hb
    show Paired R ((z :: o).filterMap fun z => bs[z.toNat]?) (b.getD z.toNat _ :: selB b o)
    rw [List.filterMap_cons, hx]
    have e : b.getD z.toNat ⟨"", [], false⟩ = b[z.toNat] := by
      rw [List.getD_eq_getElem?_getD, hb]
      rfl
    rw [e]
    exact .cons rx (paired_sel h o fun i hi => ho i (List.mem_cons_of_mem _ hi))
end AllOrders
end AF
namespace AF
open PySem PySem.Spec PyProof.Rows L2
section
variable {P : Program} {w : World} {K : PySem.W.Frag} {mg : Str → Option Value} {base : Heap}
/-! ### askedfacts.orders: safe_orders -/
theorem xi_TooLong (T : Top K mg) (PP : SupP P pfile) : ∃ fd, FnOk P w K mg base CX0 1 (He.fAd K ("TooLong", some "__init__")) fd ["self", "length"] (spX (He.ga K "TooLong") "length") ∧ Binds K fd ["self", "length"] [] := by
  obtain ⟨fd, D⟩ := T.sd_TooLong
  exact ⟨fd, exinit_ok (CX := CX0) (pl := fun env => _) D sx_TooLong___init__ T.su_TooLong PP rfl rfl (by decide +kernel) (by decide +kernel) (by decide +kernel) (by decide +kernel) (fun base X G => PySem.W.mg_none_of X G T.su_TooLong.su) (fun env => rfl), D.binds (fun _ _ _ _ _ _ _ us hl => match us, hl with | [_, _], _ => rfl)⟩
theorem pm_TooLong {X : Cx} {j : Nat} {e : Expr} {es : List Expr} {ta : TA} {p pos : Pos} (T : Top X.K X.mg) (PP : SupP X.prog pfile) (hr : Room j X.A) (hj : 2 ≤ j) (ha : PA X (e :: es) ta) (hg : Gl X "TooLong" := by rfl)
    (he : starEach (e :: es) X.env = (false, eval e X.env) :: starEach es X.env := by rfl) (hpl : (backTo pos (starEach es X.env)).any (·.1) = false := by rfl) :
    PMk X (.Call (.Name "TooLong" p) (e :: es) [] pos) (tMkO (He.ga X.K "TooLong") (spX (He.ga X.K "TooLong") "length") [] ta) := by
  obtain ⟨fd, F, hb⟩ := xi_TooLong (P := X.prog) (w := X.w) (base := X.base) T PP
  exact pmk_oex T.su_TooLong.T T.in_TooLong.1 T.in_TooLong.2 F (hr.mono hj) hb .nil pass0 hg T.g_TooLong ha (by decide +kernel) he hpl
def OrdAt (K : PySem.W.Frag) (H : Hp) (v : V) (o : List Int) : Prop := ∃ a, v = .ref a ∧ TupAt K H a (o.map V.int)
theorem OrdAt.same {H H' : Hp} {v : V} {o : List Int} (s : Same H H') (h : OrdAt K H v o) : OrdAt K H' v o := let ⟨a, e, q⟩ := h; ⟨a, e, q.same s⟩
theorem RulAt.same {H H' : Hp} {v : V} {r : Rul} (s : Same H H') (h : RulAt K H v r) : RulAt K H' v r := h.mono (.same s)
def sp_safe : SpG := fun vs H Q E => ∃ (a : Addr) (r : Rul), vs = [.ref a] ∧ RulAt K H (.ref a) r ∧ r.head.terms.length ≤ 1000 ∧ r.body.length ≤ 1000 ∧ (∀ l ∈ r.body, l.terms.length ≤ 1000) ∧
  (5 < r.body.length → ∀ d H', H' d = some (.xd [("length", .int r.body.length)]) → E (.ref (He.ga K "TooLong")) (some d) H') ∧
  (r.body.length ≤ 5 → ∀ ys H', Same H H' → Paired (OrdAt K H') ys (safeOrders r) → Q ys H')
/-- the loop's word -/
def WS (K : PySem.W.Frag) (H : Hp) (a : Addr) (r : Rul) (m : Nat) (ys : List V) (σ : L2.St) (H' : Hp) : Prop := Same H H' ∧ ∃ x2, ((∃ tt o ds, σ = [some (.ref a), some (.ref tt), x2] ∧ H' tt = some (.tup (o.map V.int)) ∧ chainOk r.body.length m o = true ∧ ys.length ≤ 130 - m ∧ m ≤ 130 ∧ Paired (OrdAt K H') ys ds ∧ ds ++ (iterO m o).filter (safeO r) = safeOrders r) ∨
  (σ = [some (.ref a), some .non, x2] ∧ Paired (OrdAt K H') ys (safeOrders r)))
theorem gfn_safe (T : Top K mg) (PP : SupP P pfile) : ∃ fd, GFn P w K mg base 3 (He.ga K "safe_orders") fd ["rule"] (sp_safe (K := K)) ∧ Binds K fd ["rule"] [] := by
  obtain ⟨fd, F⟩ := fd_safe_orders T
  have FB : Binds K fd ["rule"] [] := F.bindsN (ps := ["rule"]) (fun _ _ _ _ _ _ us hl => match us, hl with | [_], _ => rfl)
  obtain ⟨oc, od, dV, kV, doc, pm, an, cdv, ct, osl, rfl, lk, hcd, _, _⟩ := F.ex
  refine ⟨_, gfn_of lk hcd sc_safe_orders (fun vs H Q E h => ?_) (fun A outer s H vs Q E pn hr h => ?_), FB⟩
  · obtain ⟨_, _, rfl, _⟩ := h
    rfl
  · obtain ⟨a, r, rfl, hr0, l1, l2, l3, kE, kQ⟩ := h
    refine ⟨_, (gss_cons (gs_ps (ps_if (pt_cmpR op_gt (pe_callB call_len_seq (by rfl) T.f_len (by decide +kernel) (pa_cons (pe_fld (pv 0) rfl) pa_nil)) (pe_gv (by rfl) T.m_MOST_BODY) (nomark _)) (pss_one (ps_raise rfl takes_gcx (pm_TooLong T PP hr (by decide) (pa_cons (pe_callB call_len_seq (by rfl) T.f_len (by decide +kernel) (pa_cons (pe_fld (pv 0) rfl) pa_nil)) pa_nil)))) pss_nil))
    (gss_cons (gs_ps (ps_set (i := 1) sc_safe_orders.nd rfl (Or.inl rfl) (pe_tupRg rfl (by rfl) T.f_tuple (prg_1 (by rfl) T.f_range (pe_callB call_len_seq (by rfl) T.f_len (by decide +kernel) (pa_cons (pe_fld (pv 0) rfl) pa_nil))))))
    (gss_cons (gs_while owns_gcx (pt_cmpR op_notN (pv 1) pe_non (nomark _)) (gss_cons (gs_if (pt_cmpR op_isN (pe_c (cal_first_unsafe T) hr (by decide) (by rfl) (pa_cons (pe_fld (pv 0) rfl) (pa_cons (pe_lc (own := [("at", 2)]) rfl sc_safe_orders.nd (pi_tup (pv 1)) (blkOk_by (own := [("at", 2)]) (N := N_safe_orders) (sc := defScope s_safe_orders) (by decide +kernel)) (fun _ _ _ _ _ => (pg_name (i := 2) sc_safe_orders.nd rfl (Or.inl rfl))) (fun _ _ _ _ _ => pts_nil) (fun _ _ _ _ _ => (pe_ix (ixR_K (r := rIxT) K rfl ix_tup) (pe_fldK K rfl (pv 0) rfl) (pv 2) (fun _ _ => rfl)))) pa_nil))) pe_non (nomark _)) (gss_cons (gs_yield (pv 1))
    gss_nil) gss_nil)
    (gss_cons (gs_ps (ps_set (i := 1) sc_safe_orders.nd rfl (Or.inl rfl) (pe_c (cal_next_order T) hr (by decide) (by rfl) (pa_cons (pv 1) pa_nil))))
    gss_nil)))
    gss_nil))), ?_⟩
    obtain ⟨a', dx, vh, tb, bs, e, ha, hh, hb, hp⟩ := hr0
    obtain rfl : a = a' := by cases e; rfl
    have hbl := paired_len hp
    refine ⟨_, rfl, a, _, dx, _, _, rfl, ha, T.cl_Rule, T.na_Rule_body, rfl, tb, _, rfl, .inr hb.sq, _, _, rfl, rfl, _, rfl, ?_⟩
    refine ite2 (fun h5 => ?_) (fun h5 => ?_)
    · have h5 : (5 : Int) < (bs.length : Int) := of_decide_eq_true h5
      refine ⟨_, rfl, a, _, dx, _, _, rfl, ha, T.cl_Rule, T.na_Rule_body, rfl, tb, _, rfl, .inr hb.sq, by show 1 ≤ 1000; decide, fun e ne => ⟨e, _, rfl, upd_same, fun dd n1 n2 => ⟨rfl, dd, _, upd_same, by rw [upd_ne n2, upd_same], by rw [upd_ne n2] at n1; exact n1, ?_⟩⟩⟩
      rw [hbl]
      exact kE (by omega) dd _ upd_same
    · have h5 : ¬ (5 : Int) < (bs.length : Int) := fun z => h5 (decide_eq_true z)
      have hn5 : r.body.length ≤ 5 := by omega
      refine ⟨_, rfl, a, _, dx, _, _, rfl, ha, T.cl_Rule, T.na_Rule_body, rfl, tb, _, rfl, .inr hb.sq, _, rfl, .of_le (by decide) (by omega) (by decide) (by omega), fun t nt => ?_⟩
      have hch : chainOk r.body.length 130 (startO r.body.length) = true := List.all_eq_true.mp chains_ok r.body.length (List.mem_range.mpr (by omega))
      have hst : rgV 0 (bs.length : Int) = (startO r.body.length).map V.int := by
        unfold rgV startO
        rw [hbl, List.map_map]
        have e : ((r.body.length : Int) - 0).toNat = r.body.length := by omega
        rw [e]
        rfl
      rw [hst]
      refine ⟨WS K H a r, ⟨130, same_new nt, _, .inl ⟨t, _, [], rfl, upd_same, hch, Nat.zero_le _, Nat.le_refl _, .nil, rfl⟩⟩, ?_⟩
      rintro m ys σ H' ⟨s1, x2, hW⟩
      rcases hW with ⟨tt, o, ds, rfl, htt, hco, hyl, hm, hpd, hds⟩ | ⟨rfl, hpd⟩
      · refine ⟨_, rfl, rfl, _, rfl, ?_⟩
        refine iteT ?_
        cases m with
        | zero => cases hco
        | succ m =>
        have hco2 := hco
        unfold chainOk at hco2
        simp only [Bool.and_eq_true, decide_eq_true_eq] at hco2
        obtain ⟨c1, c2, c3, c4⟩ := hco2
        have ho : ∀ i ∈ o, 0 ≤ i ∧ i < (r.body.length : Int) := fun i hi => by
          have q := List.all_eq_true.mp c2 i hi
          simpa using q
        refine ⟨WS K H a r m, fun ys' σ' H'' q => ⟨m, Nat.lt_succ_self m, q⟩, ?_⟩
        -- the next order
        have cont : ∀ (ys' : List V) (ds' : List (List Int)) (H3 : Hp), Same H' H3 → ys'.length ≤ 130 - m → Paired (OrdAt K H3) ys' ds' → ds' ++ (match nextOrder o with | none => ([] : List (List Int)) | some o' => iterO m o').filter (safeO r) = safeOrders r →
            sp_next (K := K) ([.ref tt] ++ []) H3 (fun v H4 => WS K H a r m ys' [some (.ref a), some v, x2] H4) E := by
          intro ys' ds' H3 s3 hl3 hp3 hd3
          refine ⟨tt, o, rfl, .inl (s3 _ _ htt), c3, by omega, fun hno H4 s4 => ⟨(s1.trans s3).trans s4, x2, .inr ⟨rfl, ?_⟩⟩, fun o' hno p H4 s4 hp => ⟨(s1.trans s3).trans s4, x2, .inl ⟨p, o', ds', rfl, hp, ?_, hl3, by omega, paired_imp (fun _ _ q => q.same s4) hp3, ?_⟩⟩⟩
          · rw [hno, List.filter_nil, List.append_nil] at hd3
            rw [← hd3]
            exact paired_imp (fun _ _ q => q.same s4) hp3
          · rw [hno] at c4
            exact c4
          · rw [hno] at hd3
            exact hd3
        refine ⟨_, rfl, a, _, dx, _, _, rfl, s1 _ _ ha, T.cl_Rule, T.na_Rule_head, rfl, _, rfl, tt, rfl, ⟨_, .inl (.inl htt)⟩, fun D hD => ?_⟩
        refine lc_fm (walk_tup (xs := o.map V.int)) (fun i => o[i]?.bind fun z => bs[z.toNat]?) (by rw [List.length_map, sizeLine_eq]; omega) hD (fun H3 s3 => .inl (.inl (s3 _ _ htt))) (fun j x H3 H4 hj s3 y QQ NN hit miss => ?_) (fun H3 s3 h3 => ?_)
        · obtain ⟨rfl, hx⟩ := y
          obtain ⟨z, hz, rfl⟩ := int_at hx
          have hzr := ho z (List.mem_of_getElem? hz)
          have hzl : z.toNat < bs.length := by omega
          refine ⟨rfl, _, rfl, a, _, dx, _, _, rfl, (s1.trans s3) _ _ ha, T.cl_Rule, T.na_Rule_body, rfl, _, rfl, tb, bs, z, bs[z.toNat], rfl, rfl, (hb.same (s1.trans s3)).sq, atI_of (i := z.toNat) (by simp [hzl]) (by omega), hit _ _ ?_ (Same.refl _)⟩
          rw [hz]
          simp [hzl]
        · have e3 : (List.range (o.map V.int).length).filterMap (fun i => o[i]?.bind fun z => bs[z.toNat]?) = o.filterMap fun z => bs[z.toNat]? := by
            rw [List.length_map, range_fm]
          rw [e3] at h3
          have s13 := s1.trans s3
          have hps := paired_sel hp o ho
          have hsl : (selB r.body o).length ≤ 1000 := by
            unfold selB
            rw [List.length_map]
            omega
          have hsm : ∀ l ∈ selB r.body o, l.terms.length ≤ 1000 := by
            intro l hl
            unfold selB at hl
            obtain ⟨z, hz, rfl⟩ := List.mem_map.mp hl
            have hzr := ho z hz
            rw [List.getD_eq_getElem?_getD]
            have hzl : z.toNat < r.body.length := by omega
            rw [List.getElem?_eq_getElem hzl]
            exact l3 _ (List.getElem_mem hzl)
          refine ⟨vh, D, _, r.head, selB r.body o, rfl, hh.same s13, .inl h3, paired_imp (fun _ _ q => q.same s13) hps, l1, hsl, hsm, fun H4 s4 => ⟨rfl, ?_⟩⟩
          have s14 := s3.trans s4
          have hit : iterO (m + 1) o = o :: (match nextOrder o with | none => ([] : List (List Int)) | some o' => iterO m o') := rfl
          rw [hit, List.filter_cons] at hds
          cases hfu : firstUnsafe r.head (selB r.body o) with
          | none =>
            have hsafe : safeO r o = true := by
              unfold safeO
              rw [hfu]
              rfl
            rw [hsafe, if_pos rfl] at hds
            refine ⟨_, rfl, ?_⟩
            refine iteT ?_
            refine ⟨by rw [sizeLine_eq]; omega, _, rfl, ?_⟩
            have hp4 : Paired (OrdAt K H4) (ys ++ [.ref tt]) (ds ++ [o]) := paired_snoc ⟨tt, rfl, .inl (s14 _ _ htt)⟩ (paired_imp (fun _ _ q => q.same s14) hpd)
            exact ⟨_, rfl, cont _ _ H4 s14 (by rw [List.length_append]; show ys.length + 1 ≤ _; omega) hp4 (by rw [List.append_assoc]; exact hds)⟩
          | some z =>
            have hsafe : safeO r o = false := by
              unfold safeO
              rw [hfu]
              rfl
            rw [hsafe, if_neg Bool.false_ne_true] at hds
            refine ⟨_, rfl, ?_⟩
            refine iteF ?_
            exact ⟨_, rfl, cont _ _ H4 s14 (by omega) (paired_imp (fun _ _ q => q.same s14) hpd) hds⟩
      · refine ⟨_, rfl, rfl, _, rfl, ?_⟩
        refine iteF ?_
        exact kQ hn5 ys H' s1 hpd
end
end AF
namespace AF
open PySem PySem.Spec PyProof.Rows L2
/-! ### the law's own orders -/
section LawOrders
def hasK (near : List Key) (z : Str) : Bool := near.any fun t => decide (t = Sum.inr z)
theorem hasK_iff {near : List Key} {z : Str} : hasK near z = true ↔ Sum.inr z ∈ near := by
  unfold hasK
  rw [List.any_eq_true]
  constructor
  · rintro ⟨t, ht, e⟩
    rw [← of_decide_eq_true e]
    exact ht
  · intro h
    exact ⟨_, h, decide_eq_true rfl⟩
def badV (near : List Key) : Key → Option V
  | .inl _ => none
  | .inr z => if hasK near z = true then none else some (.str z)
def lawSafe (b : List Lit) : List Int → List Key → Bool
  | [], _ => true
  | i :: o, near =>
    if (b.getD i.toNat ⟨"", [], false⟩).neg then (if 0 < ((b.getD i.toNat ⟨"", [], false⟩).terms.filterMap (badV near)).length then false else lawSafe b o near)
    else lawSafe b o (near ++ (b.getD i.toNat ⟨"", [], false⟩).terms)
theorem lawSafe_step {b : List Lit} {o : List Int} {i : Nat} {z : Int} {near : List Key} (h : o[i]? = some z) : lawSafe b (o.drop i) near =
    if (b.getD z.toNat ⟨"", [], false⟩).neg then (if 0 < ((b.getD z.toNat ⟨"", [], false⟩).terms.filterMap (badV near)).length then false else lawSafe b (o.drop (i + 1)) near)
    else lawSafe b (o.drop (i + 1)) (near ++ (b.getD z.toNat ⟨"", [], false⟩).terms) := by
  obtain ⟨h1, e1⟩ := List.getElem?_eq_some_iff.mp h
  rw [List.drop_eq_getElem_cons h1, e1]
  rfl
theorem inV_key (z : Str) (near : List Key) : inV (.str z) (near.map kV) = hasK near z := by
  unfold inV hasK
  rw [List.any_map]
  congr 1
  funext y
  cases y with
  | inl i =>
    show eqV (.int i) (.str z) = decide ((Sum.inl i : Key) = Sum.inr z)
    simp [eqV]
  | inr x =>
    show eqV (.str x) (.str z) = decide ((Sum.inr x : Key) = Sum.inr z)
    by_cases h : x = z
    · subst h; simp [eqV]
    · simp [eqV, h]
theorem flat_keys (xs : List Key) : (xs.map kV).all flatV = true := by
  rw [List.all_map]
  exact List.all_eq_true.mpr fun t _ => by cases t <;> rfl
end LawOrders
section LawPerms
def lgOne (n : Nat) (o : List Int) : List (List Int) := ((startO n).filter fun i => !o.elem i).map fun i => o ++ [i]
def lawLonger (n : Nat) (os : List (List Int)) : List (List Int) := os.flatMap (lgOne n)
def lawPerms (n : Nat) : Nat → List (List Int)
  | 0 => [[]]
  | k + 1 => lawLonger n (lawPerms n k)
def permsOk (n : Nat) : Bool := (List.range (n + 1)).all fun k => decide ((lawPerms n k).length ≤ 120) && (lawPerms n k).all fun o => decide (o.length = k) && o.all fun i => decide (0 ≤ i) && decide (i < n)
theorem perms_ok : (List.range 6).all permsOk = true := by decide +kernel
theorem perms_same : (List.range 6).all (fun n => decide (iterO 130 (startO n) = lawPerms n n)) = true := by decide +kernel
theorem inV_int (z : Int) (o : List Int) : inV (.int z) (o.map V.int) = o.elem z := by
  unfold inV
  rw [List.any_map, List.elem_eq_contains, List.contains_eq_any_beq]
  congr 1
  funext y
  show eqV (.int y) (.int z) = (z == y)
  by_cases h : y = z
  · subst h; simp [eqV]
  · have h' : ¬ z = y := fun q => h q.symm
    simp [eqV]
    rw [beq_false_of_ne h, beq_false_of_ne h']
theorem flatMap_take {α β : Type} {f : α → List β} {xs : List α} {i : Nat} {x : α} (h : xs[i]? = some x) : (xs.take (i + 1)).flatMap f = (xs.take i).flatMap f ++ f x := by
  have hlt := (List.getElem?_eq_some_iff.mp h).1
  have e : xs[i] = x := (List.getElem?_eq_some_iff.mp h).2
  rw [List.take_succ_eq_append_getElem hlt, List.flatMap_append, e]
  simp
theorem filter_take {α β : Type} {p : α → Bool} {f : α → β} {xs : List α} {i : Nat} {x : α} (h : xs[i]? = some x) : ((xs.take (i + 1)).filter p).map f = ((xs.take i).filter p).map f ++ (if p x = true then [f x] else []) := by
  have hlt := (List.getElem?_eq_some_iff.mp h).1
  have e : xs[i] = x := (List.getElem?_eq_some_iff.mp h).2
  rw [List.take_succ_eq_append_getElem hlt, List.filter_append, List.map_append, e]
  cases hp : p x <;> simp [hp]
theorem startO_at {n i : Nat} (h : i < n) : (startO n)[i]? = some (0 + (i : Int)) := by
  unfold startO
  rw [List.getElem?_map, List.getElem?_range h]
  rfl
theorem startO_len (n : Nat) : (startO n).length = n := by unfold startO; rw [List.length_map, List.length_range]
end LawPerms
end AF
namespace AF
open PySem PySem.Spec PyProof.Rows L2
section
variable {P : Program} {w : World} {K : PySem.W.Frag} {mg : Str → Option Value} {base : Heap}
/-! ### the law's literals -/
theorem varLen_ok : (varsA ++ varsB).all (fun v => decide (v.length ≤ 10)) = true := by decide +kernel
theorem litOk_of {k : Kit} {l : Lit} (o : KitOk k) (d : LitD k l) : LitOk l := by
  obtain ⟨h1, h2⟩ := o.nm _ d.nm
  have hv : ∀ z ∈ k.vars, z.length ≤ 10 := fun z hz => by
    have h := List.all_eq_true.mp varLen_ok z
    rcases o.vr with e | e
    · rw [e] at hz; exact of_decide_eq_true (h (List.mem_append_left _ hz))
    · rw [e] at hz; exact of_decide_eq_true (h (List.mem_append_right _ hz))
  refine ⟨h1, by omega, fun t ht => ?_, fun z hz => ?_, by have := d.ln; omega⟩
  · rcases d.tm t ht with ⟨c, e, c0, c1⟩ | ⟨z, e, hz⟩
    · rw [e]
      exact .inl (by show (decide (0 ≤ c) && decide (c ≤ 999999999999)) = true; rw [decide_eq_true c0, decide_eq_true c1]; rfl)
    · rw [e]
      exact .inr (o.var z hz)
  · rcases d.tm _ hz with ⟨c, e, _⟩ | ⟨y, e, hy⟩
    · cases e
    · rw [Sum.inr.inj e]
      have := hv y hy
      omega
def sp_lit : Sp := fun vs H Q _ => ∃ (v : V) (l : Lit), vs = [v] ∧ OneAt H v l ∧ LitOk l ∧ ∀ p H', Same H H' → LitAt K H' (.ref p) l → Q (.ref p) H'
theorem cal__law_literal (T : Top K mg) : Cal P w K mg base 7 "_law_literal" (sp_lit (K := K)) [] := by
  obtain ⟨fd, F⟩ := fd__law_literal T
  obtain ⟨fdL, FL, KL, _⟩ := mk_Literal (P := P) (w := w) (base := base) T
  refine ⟨_, fd, _, [], F.ok sc__law_literal (fun vs H Q E h => ?_) (fun cdv A outer s H vs Q E hr h => ?_), T.g__law_literal, F.kp, F.bindsN (ps := ["_law_one"]) (fun _ _ _ _ _ _ us hl => match us, hl with | [_], _ => rfl), .nil⟩
  · obtain ⟨_, _, rfl, _⟩ := h
    rfl
  · obtain ⟨v, l, rfl, ⟨a, t, rfl, ha, ht⟩, ok, k⟩ := h
    refine ⟨_, PSs.nox (pss_one (ps_ret (pe_makeN T.mk_Literal FL hr (by rfl) T.g_Literal KL pass0 (pa_cons (pe_ix ix_tup (pv 0) pe_int (fun _ _ => rfl)) (pa_cons (pe_ix ix_tup (pv 0) pe_int (fun _ _ => rfl)) pa_nil)) (pk_cons (pe_ix ix_tup (pv 0) pe_int (fun _ _ => rfl)) pk_nil)))), ?_⟩
    have sq : SqT K H a [.str l.name, .ref t, .bl l.neg] := .inl (.inl ha)
    refine ⟨_, rfl, a, _, 0, _, rfl, rfl, sq, atI_of (i := 0) rfl rfl, _, rfl, a, _, 1, _, rfl, rfl, sq, atI_of (i := 1) rfl rfl, _, rfl, a, _, 2, _, rfl, rfl, sq, atI_of (i := 2) rfl rfl, rfl, rfl, ?_⟩
    exact lit_made ok (.inr (.inl ht)) k
end
section
variable {P : Program} {w : World} {K : PySem.W.Frag} {mg : Str → Option Value} {base : Heap}
def sp_isafe : Sp := fun vs H Q _ => ∃ (pb t : Addr) (bs : List V) (b : List Lit) (o : List Int), vs = [.ref pb, .ref t] ∧ H pb = some (.lst bs) ∧ Paired (OneAt H) bs b ∧ TupAt K H t (o.map V.int) ∧ o.length ≤ 1000 ∧ (∀ l ∈ b, l.terms.length ≤ 3) ∧ (∀ i ∈ o, 0 ≤ i ∧ i < (b.length : Int)) ∧
  ∀ H', Same H H' → Q (.bl (lawSafe b o [])) H'
theorem cal__law_is_safe (T : Top K mg) : Cal P w K mg base 1 "_law_is_safe" (sp_isafe (K := K)) [] := by
  obtain ⟨fd, F⟩ := fd__law_is_safe T
  refine ⟨_, fd, _, [], F.ok sc__law_is_safe (fun vs H Q E h => ?_) (fun cdv A outer s H vs Q E hr h => ?_), T.g__law_is_safe, F.kp, F.bindsN (ps := ["_law_body", "_law_order"]) (fun _ _ _ _ _ _ us hl => match us, hl with | [_, _], _ => rfl), .nil⟩
  · obtain ⟨_, _, _, _, _, rfl, _⟩ := h
    rfl
  · obtain ⟨pb, t, bs, b, o, rfl, hb, pr, ht, ol, bl3, or_, k⟩ := h
    refine ⟨_, PSs.nox (pss_cons (ps_set (i := 2) sc__law_is_safe.nd rfl (Or.inr rfl) (pe_lst pa_nil))
    (pss_cons (ps_for PassesOwn.never rfl (pi_tup (pv 1)) (pg_name (i := 3) sc__law_is_safe.nd rfl (Or.inl rfl)) (pss_cons (ps_asg (pe_ix ix_list (pv 0) (pv 3) (fun _ _ => rfl)) (pg_tup (by rfl) (pgs_cons (pg_name (i := 4) sc__law_is_safe.nd rfl (Or.inl rfl)) (pgs_cons (pg_name (i := 5) sc__law_is_safe.nd rfl (Or.inl rfl)) (pgs_cons (pg_name (i := 6) sc__law_is_safe.nd rfl (Or.inl rfl)) pgs_nil)))))
    (pss_one (ps_if (pt_val (pv 6)) (pss_one (ps_if (pt_cmpR op_gt (pe_callB call_len_seq (by rfl) T.f_len (by decide +kernel) (pa_cons (pe_lc (own := [("_law_term_here", 7)]) rfl sc__law_is_safe.nd (pi_tup (pv 5)) (blkOk_by (own := [("_law_term_here", 7)]) (N := N__law_is_safe) (sc := defScope s__law_is_safe) (by decide +kernel)) (fun _ _ _ _ _ => (pg_name (i := 7) sc__law_is_safe.nd rfl (Or.inl rfl))) (fun _ _ _ _ _ => (pts_one (PW.pt (pw_and (pt_val (pe_callB (callR_K (r := rIsi) K rfl call_isi) (by rfl) T.f_isinstance (by decide +kernel) (pa_cons (pv 7) (pa_cons (pe_bltn (v := .ty "str") (u := .type "str") (by rfl) T.f_str (by decide +kernel) rfl) pa_nil)))) (pw_and1 (pt_cmpR (opR_K (r := fun K => rIn K true) K rfl op_notIn_seq) (pv 7) (pv 2) (by rfl))))))) (fun _ _ _ _ _ => (pv 7))) pa_nil)) pe_int (nomark _)) (pss_one (ps_ret pe_bl)) pss_nil)) (pss_one (ps_set (i := 2) sc__law_is_safe.nd rfl (Or.inr rfl) (pe_op op_cat (pv 2) (pe_callTy call_list_of (by rfl) T.f_list (by decide +kernel) (pa_cons (pv 5) pa_nil)))))))))
    (pss_one (ps_ret pe_bl)))), ?_⟩
    have hbl := paired_len pr
    refine ⟨Nat.zero_le _, fun pn npn => ?_⟩
    have s0 : Same H (upd H pn (.lst [])) := same_new npn
    refine ⟨_, rfl, t, rfl, ⟨_, (ht.same s0).sq⟩, ?_⟩
    refine for_it (walk_tup (xs := o.map V.int)) (fun i σ H' => ∃ (near : List Key) (pn : Addr) (x3 x4 x5 x6 x7 : Option V), σ = [some (.ref pb), some (.ref t), some (.ref pn), x3, x4, x5, x6, x7] ∧ Same H H' ∧ H' pn = some (.lst (near.map kV)) ∧ lawSafe b o [] = lawSafe b (o.drop i) near ∧ near.length ≤ 1000 * i)
      ⟨[], pn, _, _, _, _, _, rfl, s0, upd_same, rfl, Nat.zero_le _⟩ (fun i σ H' _ q => ?_) (fun i x σ H1 H2 hi q y => ?_) (fun σ H1 q => ?_)
    · obtain ⟨_, _, _, _, _, _, _, _, s1, _⟩ := q
      exact (ht.same s1).sq
    · obtain ⟨near, pn, x3, x4, x5, x6, x7, rfl, s1, hn, hs, hl⟩ := q
      obtain ⟨rfl, hx⟩ := y
      obtain ⟨z, hz, rfl⟩ := int_at hx
      rw [lawSafe_step hz] at hs
      have hzr := or_ z (List.mem_of_getElem? hz)
      have hzl : z.toNat < b.length := by omega
      have hbz : b[z.toNat]? = some (b.getD z.toNat ⟨"", [], false⟩) := by
        rw [List.getD_eq_getElem?_getD, List.getElem?_eq_getElem hzl]
        rfl
      generalize b.getD z.toNat ⟨"", [], false⟩ = l at hbz hs
      obtain ⟨v, hv, a1, tt, rfl, ha1, htt⟩ := paired_at' pr hbz
      have hl3 := bl3 l (List.mem_of_getElem? hbz)
      have hil : i < o.length := by rw [List.length_map] at hi; exact hi
      have ha1' := s1 _ _ ha1
      have htt' := s1 _ _ htt
      have hsq : SqT K H2 a1 [.str l.name, .ref tt, .bl l.neg] := .inl (.inl ha1')
      refine ⟨_, rfl, _, rfl, pb, _, z, _, rfl, rfl, .inl (.inl (s1 _ _ hb)), atI_of hv (by omega), a1, _, rfl, hsq, rfl, _, _, rfl, _, _, rfl, _, _, rfl, rfl, ?_⟩
      refine ⟨_, rfl, _, rfl, ?_⟩
      have hlen := hl
      cases hneg : l.neg with
      | true =>
        rw [hneg, if_pos rfl] at hs
        refine iteT ?_
        refine ⟨_, rfl, tt, rfl, ⟨_, .inl (.inl htt')⟩, fun D hD => ?_⟩
        refine lc_fm (walk_tup (xs := l.terms.map kV)) (fun i => l.terms[i]?.bind (badV near)) (by rw [List.length_map, sizeLine_eq]; omega) hD (fun H3 s3 => .inl (.inl (s3 _ _ htt'))) (fun j x H3 H4 hj s3 y QQ NN hit miss => ?_) (fun H3 s3 h3 => ?_)
        · obtain ⟨rfl, hx⟩ := y
          obtain ⟨tm, htm, rfl⟩ := kV_at hx
          refine ⟨rfl, ?_⟩
          cases tm with
          | inl c =>
            refine ⟨_, rfl, _, _, _, _, false, rfl, .ty _, .base (.int c), kit_ty (by decide +kernel), _, rfl, ?_⟩
            walk_at "ii"
            exact miss _ (by rw [htm]; rfl) (Same.refl _)
          | inr z =>
            refine ⟨_, rfl, _, _, _, _, true, rfl, .ty _, .base (.str z), kit_ty (by decide +kernel), _, rfl, ?_⟩
            refine iteT ?_
            refine ⟨_, rfl, _, rfl, pn, _, rfl, .inl (.inl (.inl (s3 _ _ hn))), rfl, flat_keys _, _, rfl, ?_⟩
            have ek : inV (kV (.inr z)) (near.map kV) = hasK near z := inV_key z near
            rw [ek]
            cases hk : hasK near z with
            | true =>
              refine iteF ?_
              refine miss _ ?_ (Same.refl _)
              rw [htm]
              show (if hasK near z = true then none else some (V.str z)) = none
              rw [hk]
              rfl
            | false =>
              refine iteT ?_
              refine ⟨_, rfl, hit _ _ ?_ (Same.refl _)⟩
              rw [htm]
              show (if hasK near z = true then none else some (V.str z)) = some (.str z)
              rw [hk]
              rfl
        · have e3 : (List.range (l.terms.map kV).length).filterMap (fun i => l.terms[i]?.bind (badV near)) = l.terms.filterMap (badV near) := by
            rw [List.length_map, range_fm]
          rw [e3] at h3
          refine ⟨D, _, rfl, .inl (.inl (.inl h3)), _, _, rfl, rfl, _, rfl, ?_⟩
          refine ite2 (fun h => ?_) (fun h => ?_)
          · have h : (0 : Int) < ((l.terms.filterMap (badV near)).length : Int) := of_decide_eq_true h
            rw [if_pos (by omega)] at hs
            rw [hs] at k
            exact k _ (s1.trans s3)
          · have h : ¬ (0 : Int) < ((l.terms.filterMap (badV near)).length : Int) := fun z => h (decide_eq_true z)
            rw [if_neg (by omega)] at hs
            exact ⟨near, pn, _, _, _, _, _, rfl, s1.trans s3, s3 _ _ hn, hs, by omega⟩
      | false =>
        rw [hneg, if_neg Bool.false_ne_true] at hs
        refine iteF ?_
        refine ⟨_, rfl, _, rfl, tt, _, rfl, .inr (.inl (.inl htt')), fun q nq => ?_⟩
        have s3 : Same H (upd H2 q (.lst (l.terms.map kV))) := s1.trans (same_new nq)
        refine ⟨pn, q, _, _, rfl, rfl, same_new nq _ _ hn, upd_same, by rw [List.length_map, List.length_map, sizeLine_eq]; have : 1000 * i ≤ 1000 * 1000 := Nat.mul_le_mul_left _ (by omega); omega, fun q2 nq2 => ?_⟩
        refine ⟨near ++ l.terms, q2, _, _, _, _, _, rfl, s3.trans (same_new nq2), by rw [upd_same, List.map_append], hs, by rw [List.length_append]; omega⟩
    · obtain ⟨near, pn, x3, x4, x5, x6, x7, rfl, s1, hn, hs, hl⟩ := q
      rw [List.length_map, List.drop_length] at hs
      rw [hs] at k
      exact k _ s1
end
end AF
namespace AF
open PySem PySem.Spec PyProof.Rows L2
section
variable {P : Program} {w : World} {K : PySem.W.Frag} {mg : Str → Option Value} {base : Heap}
theorem OrdAt.lst {H : Hp} {q : Addr} {ys : List V} {u : HO} {v : V} {o : List Int} (hq : H q = some (.lst ys)) (h : OrdAt K H v o) : OrdAt K (upd H q u) v o := by
  obtain ⟨a, e, h⟩ := h
  refine ⟨a, e, ?_⟩
  rcases h with h | h
  · left
    rw [upd_ne (fun e2 => by rw [e2, hq] at h; cases h)]
    exact h
  · exact .inr h
def sp_lorders : Sp := fun vs H Q _ => ∃ (pb : Addr) (bs : List V) (b : List Lit), vs = [.ref pb] ∧ H pb = some (.lst bs) ∧ Paired (OneAt H) bs b ∧ b.length ≤ 5 ∧ (∀ l ∈ b, l.terms.length ≤ 3) ∧
  ∀ p vs' H', Same H H' → H' p = some (.lst vs') → Paired (OrdAt K H') vs' ((lawPerms b.length b.length).filter fun o => lawSafe b o []) → Q (.ref p) H'
theorem cal__law_orders (T : Top K mg) : Cal P w K mg base 2 "_law_orders" (sp_lorders (K := K)) [] := by
  obtain ⟨fd, F⟩ := fd__law_orders T
  refine ⟨_, fd, _, [], F.ok sc__law_orders (fun vs H Q E h => ?_) (fun cdv A outer s H vs Q E hr h => ?_), T.g__law_orders, F.kp, F.bindsN (ps := ["_law_body"]) (fun _ _ _ _ _ _ us hl => match us, hl with | [_], _ => rfl), .nil⟩
  · obtain ⟨_, _, _, rfl, _⟩ := h
    rfl
  · obtain ⟨pb, bs, b, rfl, hb, pr, b5, bl3, kf⟩ := h
    refine ⟨_, PSs.nox (pss_cons (ps_set (i := 1) sc__law_orders.nd rfl (Or.inl rfl) (pe_lst (pa_cons (pe_tup pa_nil) pa_nil)))
    (pss_cons (ps_for PassesOwn.never rfl (pi_range1 rfl T.f_range (pa_cons (pe_callB call_len_seq (by rfl) T.f_len (by decide +kernel) (pa_cons (pv 0) pa_nil)) pa_nil)) (pg_name (i := 2) sc__law_orders.nd rfl (Or.inl rfl)) (pss_cons (ps_set (i := 3) sc__law_orders.nd rfl (Or.inl rfl) (pe_lst pa_nil))
    (pss_cons (ps_for PassesOwn.never rfl (pi_list (pv 1)) (pg_name (i := 4) sc__law_orders.nd rfl (Or.inl rfl)) (pss_one (ps_for PassesOwn.never rfl (pi_range1 rfl T.f_range (pa_cons (pe_callB call_len_seq (by rfl) T.f_len (by decide +kernel) (pa_cons (pv 0) pa_nil)) pa_nil)) (pg_name (i := 5) sc__law_orders.nd rfl (Or.inl rfl)) (pss_one (ps_if (pt_cmpR op_notIn_seq (pv 5) (pv 4) (by rfl)) (pss_one (ps_expr (pe_bm PySem.F.plainAttrs_list PySem.F.slot_list_append PySem.F.type_list_append mt_append (pv 3) (pa_cons (pe_op op_catA (pv 4) (pe_tup (pa_cons (pv 5) pa_nil))) pa_nil)))) pss_nil)))))
    (pss_one (ps_set (i := 1) sc__law_orders.nd rfl (Or.inl rfl) (pe_callTy call_list_of (by rfl) T.f_list (by decide +kernel) (pa_cons (pv 3) pa_nil)))))))
    (pss_one (ps_ret (pe_lc (own := [("_law_order", 4)]) rfl sc__law_orders.nd (pi_list (pv 1)) (blkOk_by (own := [("_law_order", 4)]) (N := N__law_orders) (sc := defScope s__law_orders) (by decide +kernel)) (fun _ _ _ _ _ => (pg_name (i := 4) sc__law_orders.nd rfl (Or.inl rfl))) (fun _ _ _ _ _ => (pts_one (pt_val (pe_c (cal__law_is_safe T) hr (by decide) (by rfl) (pa_cons (pv 0) (pa_cons (pv 4) pa_nil)))))) (fun _ _ _ _ _ => (pv 4))))))), ?_⟩
    have hbl := paired_len pr
    have hpo := List.all_eq_true.mp perms_ok b.length (List.mem_range.mpr (by omega))
    have hpk : ∀ k, k ≤ b.length → (lawPerms b.length k).length ≤ 120 ∧ ∀ o ∈ lawPerms b.length k, o.length = k ∧ ∀ i ∈ o, 0 ≤ i ∧ i < (b.length : Int) := by
      intro k hk
      have q := List.all_eq_true.mp hpo k (List.mem_range.mpr (by omega))
      obtain ⟨q1, q2⟩ := Bool.and_eq_true_iff.mp q
      refine ⟨of_decide_eq_true q1, fun o ho => ?_⟩
      obtain ⟨q3, q4⟩ := Bool.and_eq_true_iff.mp (List.all_eq_true.mp q2 o ho)
      refine ⟨of_decide_eq_true q3, fun i hi => ?_⟩
      have q5 := List.all_eq_true.mp q4 i hi
      simpa using q5
    refine ⟨Nat.zero_le _, fun t0 nt0 => ⟨by rw [sizeLine_eq]; show 1 ≤ 16777216; decide, fun po npo => ?_⟩⟩
    have s0 : Same H (upd (upd H t0 (.tup [])) po (.lst [.ref t0])) := (same_new nt0).trans (same_new npo)
    refine ⟨_, rfl, pb, _, rfl, .inl (.inl (.inl (s0 _ _ hb))), _, rfl, by omega, by omega, ?_⟩
    refine for_it walk_range (fun k σ H' => ∃ (po : Addr) (vs : List V) (x2 x3 x4 x5 : Option V), σ = [some (.ref pb), some (.ref po), x2, x3, x4, x5] ∧ Same H H' ∧ H' po = some (.lst vs) ∧ Paired (OrdAt K H') vs (lawPerms b.length k))
      ⟨po, _, _, _, _, _, rfl, s0, upd_same, .cons ⟨t0, rfl, .inl (same_new npo _ _ upd_same)⟩ .nil⟩ (fun _ _ _ _ _ => True.intro) (fun k x σ _ H1 hk q y => ?_) (fun σ H1 q => ?_)
    · obtain ⟨po, vs, x2, x3, x4, x5, rfl, s1, hpo, hpd⟩ := q
      obtain ⟨rfl, rfl⟩ := y
      have hk5 : k < b.length := by omega
      obtain ⟨lk, ok⟩ := hpk k (by omega)
      obtain ⟨lk1, _⟩ := hpk (k + 1) (by omega)
      have hvl := paired_len hpd
      refine ⟨Nat.zero_le _, fun pl npl => ?_⟩
      have hpo' : (upd H1 pl (.lst [])) po = some (.lst vs) := same_new npl _ _ hpo
      refine ⟨_, rfl, po, rfl, ⟨_, .inl (.inl hpo')⟩, ?_⟩
      refine for_it (walk_list (xs := vs)) (fun i σ H' => ∃ (ws : List V) (x4 x5 : Option V), σ = [some (.ref pb), some (.ref po), some (.int (0 + k)), some (.ref pl), x4, x5] ∧ Same H1 H' ∧ H' pl = some (.lst ws) ∧ Paired (OrdAt K H') ws (lawLonger b.length ((lawPerms b.length k).take i)) ∧ ws.length ≤ 5 * i)
        ⟨[], _, _, rfl, same_new npl, upd_same, by rw [List.take_zero]; exact .nil, Nat.zero_le _⟩ (fun i σ H' _ q => ?_) (fun i x σ _ H3 hi q y => ?_) (fun σ H3 q => ?_)
      · obtain ⟨_, _, _, _, s3, _⟩ := q
        exact .inl (.inl (s3 _ _ hpo))
      · obtain ⟨ws, x4, x5, rfl, s3, hpl, hws, wl⟩ := q
        obtain ⟨rfl, hx⟩ := y
        obtain ⟨o, ho, t, rfl, ht⟩ := paired_at hpd hx
        have hom := ok o (List.mem_of_getElem? ho)
        refine ⟨_, rfl, pb, _, rfl, .inl (.inl (.inl ((s1.trans s3) _ _ hb))), _, rfl, by omega, by omega, ?_⟩
        refine for_it walk_range (fun j σ H' => ∃ (ws : List V) (x5 : Option V), σ = [some (.ref pb), some (.ref po), some (.int (0 + k)), some (.ref pl), some (.ref t), x5] ∧ Same H1 H' ∧ H' pl = some (.lst ws) ∧
            Paired (OrdAt K H') ws (lawLonger b.length ((lawPerms b.length k).take i) ++ (((startO b.length).take j).filter fun i => !o.elem i).map fun i => o ++ [i]) ∧ ws.length ≤ 5 * i + j)
          ⟨ws, _, rfl, s3, hpl, by rw [List.take_zero]; show Paired _ _ (_ ++ []); rw [List.append_nil]; exact hws, by omega⟩ (fun _ _ _ _ _ => True.intro) (fun j x σ _ H5 hj q y => ?_) (fun σ H5 q => ?_)
        · obtain ⟨ws, x5, rfl, s5, hpl, hws, wl⟩ := q
          obtain ⟨rfl, rfl⟩ := y
          have hjl : j < b.length := by
            have : ((bs.length : Int)).toNat = b.length := by omega
            omega
          have hft := filter_take (p := fun i => !o.elem i) (f := fun i => o ++ [i]) (startO_at hjl)
          have ht5 := ht.same s5
          refine ⟨_, rfl, _, rfl, t, _, rfl, .inr ht5.sq, rfl, flat_ints _, _, rfl, ?_⟩
          have ek : (if true = true then !inV (V.int (0 + (j : Int))) (o.map V.int) else inV (V.int (0 + (j : Int))) (o.map V.int)) = !o.elem (0 + (j : Int)) := by rw [inV_int]; rfl
          rw [ek]
          cases hel : o.elem (0 + (j : Int)) with
          | true =>
            refine iteF ?_
            refine ⟨ws, _, rfl, s5, hpl, ?_, by omega⟩
            rw [hft, hel]
            show Paired _ _ (_ ++ (_ ++ []))
            rw [List.append_nil]
            exact hws
          | false =>
            refine iteT ?_
            refine ⟨_, rfl, .inl ⟨rfl, _, .inl (.inl hpl)⟩, _, rfl, _, rfl, by rw [sizeLine_eq]; show 1 ≤ 16777216; decide, fun q1 nq1 => ?_⟩
            have fin : ∀ (r0 : Addr) (H6 : Hp), Same H5 H6 → TupAt K H6 r0 ((o ++ [0 + (j : Int)]).map V.int) → ∃ l xs y, V.ref pl = .ref l ∧ [V.ref r0] = [y] ∧ H6 l = some (.lst xs) ∧ xs.length < sizeLine ∧
                ∃ (ws : List V) (x5 : Option V), [some (V.ref pb), some (.ref po), some (.int (0 + k)), some (.ref pl), some (.ref t), some (.int (0 + j))] = [some (.ref pb), some (.ref po), some (.int (0 + k)), some (.ref pl), some (.ref t), x5] ∧ Same H1 (upd H6 l (.lst (xs ++ [y]))) ∧ (upd H6 l (.lst (xs ++ [y]))) pl = some (.lst ws) ∧
                Paired (OrdAt K (upd H6 l (.lst (xs ++ [y])))) ws (lawLonger b.length ((lawPerms b.length k).take i) ++ (((startO b.length).take (j + 1)).filter fun i => !o.elem i).map fun i => o ++ [i]) ∧ ws.length ≤ 5 * i + (j + 1) := by
              intro r0 H6 s6 h0
              have hpl6 := s6 _ _ hpl
              have hi120 : i < 120 := by omega
              refine ⟨pl, ws, .ref r0, rfl, rfl, hpl6, by rw [sizeLine_eq]; omega, ws ++ [.ref r0], _, rfl, same_at npl (s5.trans s6), upd_same, ?_, by rw [List.length_append]; show ws.length + 1 ≤ _; omega⟩
              rw [hft, hel]
              show Paired _ _ (_ ++ (_ ++ [o ++ [0 + (j : Int)]]))
              rw [← List.append_assoc]
              exact paired_snoc (OrdAt.lst hpl6 ⟨r0, rfl, h0⟩) (paired_imp (fun _ _ q => OrdAt.lst hpl6 (q.same s6)) hws)
            have hq1 : (upd H5 q1 (.tup [.int (0 + (j : Int))])) q1 = some (.tup [.int (0 + (j : Int))]) := upd_same
            have st5 : SqT K (upd H5 q1 (.tup [.int (0 + (j : Int))])) t (o.map V.int) := (ht5.same (same_new nq1)).sq
            refine ⟨t, q1, _, _, rfl, rfl, st5, .inl (.inl hq1), by rw [List.length_map, sizeLine_eq]; show o.length + 1 ≤ _; omega, fun ho0 => ?_, fun _ h0 => absurd h0 (by simp), fun _ _ q2 nq2 => ?_⟩
            · have ho0 : o = [] := by simpa using ho0
              refine fin q1 _ (same_new nq1) (.inl ?_)
              rw [hq1, ho0]
              rfl
            · refine fin q2 _ ((same_new nq1).trans (same_new nq2)) (.inl ?_)
              rw [upd_same, List.map_append]
              rfl
        · obtain ⟨ws', x5, rfl, s5, hpl, hws, wl⟩ := q
          refine ⟨ws', _, _, rfl, s5, hpl, ?_, by omega⟩
          have e : ((bs.length : Int)).toNat = (startO b.length).length := by rw [startO_len, hbl]; rfl
          unfold lawLonger
          rw [flatMap_take ho]
          rw [e, List.take_length] at hws
          exact hws
      · obtain ⟨ws, x4, x5, rfl, s3, hpl, hws, wl⟩ := q
        have e : vs.length = (lawPerms b.length k).length := hvl
        rw [e, List.take_length] at hws
        refine ⟨_, rfl, pl, _, rfl, .inl (.inl (.inl hpl)), fun q nq => ?_⟩
        exact ⟨q, ws, _, _, _, _, rfl, (s1.trans s3).trans (same_new nq), upd_same, paired_imp (fun _ _ q => q.same (same_new nq)) hws⟩
    · obtain ⟨po, vs, x2, x3, x4, x5, rfl, s1, hpo, hpd⟩ := q
      have e : ((bs.length : Int)).toNat = b.length := by omega
      rw [e] at hpd
      obtain ⟨ln, on⟩ := hpk b.length (Nat.le_refl _)
      have hvl := paired_len hpd
      refine ⟨_, rfl, po, rfl, ⟨_, .inl (.inl hpo)⟩, fun D hD => ?_⟩
      refine lc_it (walk_list (xs := vs)) (fun i H' => ∃ acc, Same H1 H' ∧ H' D = some (.lst acc) ∧ acc.length ≤ i ∧ Paired (OrdAt K H') acc (((lawPerms b.length b.length).take i).filter fun o => lawSafe b o []))
        ⟨[], same_new hD, upd_same, Nat.zero_le _, by rw [List.take_zero]; exact .nil⟩ (fun i H' _ q => ?_) (fun i x _ H3 hi q y => ?_) (fun H3 q => ?_)
      · obtain ⟨_, s3, _⟩ := q
        exact .inl (.inl (s3 _ _ hpo))
      · obtain ⟨acc, s3, hD3, al, hac⟩ := q
        obtain ⟨rfl, hx⟩ := y
        obtain ⟨o, ho, t, rfl, ht⟩ := paired_at hpd hx
        have hom := on o (List.mem_of_getElem? ho)
        have s13 := s1.trans s3
        have hft := filter_take (p := fun o => lawSafe b o []) (f := fun o : List Int => o) ho
        simp only [List.map_id'] at hft
        refine ⟨rfl, _, rfl, _, rfl, pb, t, bs, b, o, rfl, s13 _ _ hb, paired_imp (fun _ _ q => q.tp (.of s13)) pr, ht.same s3, by omega, bl3, hom.2, fun H4 s4 => ⟨_, rfl, ?_⟩⟩
        have hD4 := s4 _ _ hD3
        have hal : acc.length < sizeLine := by
          rw [sizeLine_eq]
          omega
        cases hls : lawSafe b o [] with
        | true =>
          refine iteT ?_
          refine ⟨_, rfl, acc, hD4, hal, acc ++ [.ref t], same_at hD (s3.trans s4), upd_same, by rw [List.length_append]; show acc.length + 1 ≤ _; omega, ?_⟩
          rw [hft, hls]
          exact paired_snoc (OrdAt.lst hD4 ⟨t, rfl, (ht.same s3).same s4⟩) (paired_imp (fun _ _ q => OrdAt.lst hD4 (q.same s4)) hac)
        | false =>
          refine iteF ?_
          refine ⟨acc, s3.trans s4, hD4, by omega, ?_⟩
          rw [hft, hls]
          show Paired _ _ (_ ++ [])
          rw [List.append_nil]
          exact paired_imp (fun _ _ q => q.same s4) hac
      · obtain ⟨acc, s3, hD3, al, hac⟩ := q
        have e : vs.length = (lawPerms b.length b.length).length := hvl
        rw [e, List.take_length] at hac
        exact kf D acc H3 (s1.trans s3) hD3 hac
end
end AF
namespace AF
open PySem PySem.Spec PyProof.Rows L2
section
variable {P : Program} {w : World} {K : PySem.W.Frag} {mg : Str → Option Value} {base : Heap}
/-! ### the law asks safe_orders -/
theorem takesF {X : Cx} : Takes X (fun _ _ _ _ => False) := fun _ _ x => by
  obtain ⟨_, _, _, _, _, _, _, _, _, _, _, _, _, _, _, _, z⟩ := x
  exact z.elim
def sp_got : Sp := fun vs H Q _ => ∃ (a : Addr) (r : Rul), vs = [.ref a] ∧ RulAt K H (.ref a) r ∧ r.head.terms.length ≤ 1000 ∧ r.body.length ≤ 1000 ∧ (∀ l ∈ r.body, l.terms.length ≤ 1000) ∧
  (5 < r.body.length → ∀ p H', H' p = some (.tup [.int r.body.length, .bl true, .bl false, .bl false]) → Q (.ref p) H') ∧
  (r.body.length ≤ 5 → ∀ ys p H', Same H H' → H' p = some (.lst ys) → Paired (OrdAt K H') ys (safeOrders r) → Q (.ref p) H')
theorem nostop_TooLong (T : Top K mg) {W : WX} {n : Nat} : NoStop K (fun cls d H' => cls = .ref (He.ga K "TooLong") ∧ ∀ σ : L2.St, σ.length = n → W cls d σ H') := fun cls d H' h => by
  rw [h.1]
  exact T.ns_TooLong
theorem cal__law_got (T : Top K mg) (PP : SupP P pfile) : Cal P w K mg base 7 "_law_got" (sp_got (K := K)) [] := by
  obtain ⟨fd, F⟩ := fd__law_got T
  obtain ⟨fdG, GF, GB⟩ := gfn_safe (P := P) (w := w) (base := base) T PP
  obtain ⟨_, FG⟩ := fd_safe_orders T
  refine ⟨_, fd, _, [], F.ok sc__law_got (fun vs H Q E h => ?_) (fun cdv A outer s H vs Q E hr h => ?_), T.g__law_got, F.kp, F.bindsN (ps := ["_law_rule"]) (fun _ _ _ _ _ _ us hl => match us, hl with | [_], _ => rfl), .nil⟩
  · obtain ⟨_, _, rfl, _⟩ := h
    rfl
  · obtain ⟨a, r, rfl, hr0, l1, l2, l3, k5, k6⟩ := h
    refine ⟨_, PSs.nox (pss_cons (ps_set (i := 1) sc__law_got.nd rfl (Or.inl rfl) pe_non)
    (pss_cons (ps_try_as (i := 2) (Wout := fun _ _ _ _ => False) rfl rfl sc__law_got.nd rfl rfl ⟨rfl, by decide +kernel, Or.inl T.g_TooLong⟩ takesF (fun W pn xe tk _ => (pss_one (ps_set (i := 1) sc__law_got.nd rfl (Or.inl rfl) (pe_listG (pgen_call GF (hr.mono (by decide)) (by rfl) T.g_safe_orders FG.kp GB .nil (pa_cons (pv 0) pa_nil)) (passAll (n := 3) tk rfl) (nostop_TooLong T) (hr.mono (by decide)) (by rfl) T.f_list (by decide +kernel))))) (fun a oe cls d pn hz hf => (pss_cons (ps_set (i := 1) sc__law_got.nd rfl (Or.inl rfl) (pe_tup (pa_cons (pe_xf (ExcC.xf T.ec_TooLong) T.su_TooLong.no hz hf (pv 2)) (pa_cons (pe_callB (callR_K (r := fun K => rIsX K (He.ga K "TooLong") a cls d) K rfl (call_isX T.ec_TooLong hz hf)) (by rfl) T.f_isinstance (by decide +kernel) (pa_cons (pv 2) (pa_cons (pe_glob (v := .ref (He.ga K "FactsError")) (by rfl) T.g_FactsError rfl) pa_nil))) pa_nil))))
    (pss_cons (ps_set (i := 1) sc__law_got.nd rfl (Or.inl rfl) (pe_op (opR_K (r := rCatA) K rfl op_catA) (pv 1) (pe_tup (pa_cons (pe_callB (callR_K (r := fun K => rIsX K (He.ga K "TooLong") a cls d) K rfl (call_isX T.ec_TooLong hz hf)) (by rfl) T.f_isinstance (by decide +kernel) (pa_cons (pv 2) (pa_cons (pe_tup (pa_cons (pe_glob (v := .ref (He.ga K "BadName")) (by rfl) T.g_BadName rfl) (pa_cons (pe_glob (v := .ref (He.ga K "BadTerm")) (by rfl) T.g_BadTerm rfl) (pa_cons (pe_glob (v := .ref (He.ga K "BadRule")) (by rfl) T.g_BadRule rfl) (pa_cons (pe_glob (v := .ref (He.ga K "Unsafe")) (by rfl) T.g_Unsafe rfl) (pa_cons (pe_glob (v := .ref (He.ga K "BadText")) (by rfl) T.g_BadText rfl) (pa_cons (pe_glob (v := .ref (He.ga K "WrongCount")) (by rfl) T.g_WrongCount rfl) (pa_cons (pe_glob (v := .ref (He.ga K "RingThroughNot")) (by rfl) T.g_RingThroughNot rfl) (pa_cons (pe_glob (v := .ref (He.ga K "BadLine")) (by rfl) T.g_BadLine rfl) pa_nil))))))))) pa_nil))) pa_nil))))
    (pss_one (ps_set (i := 1) sc__law_got.nd rfl (Or.inl rfl) (pe_op (opR_K (r := rCatA) K rfl op_catA) (pv 1) (pe_tup (pa_cons (pe_callB (callR_K (r := fun K => rIsX K (He.ga K "TooLong") a cls d) K rfl (call_isX T.ec_TooLong hz hf)) (by rfl) T.f_isinstance (by decide +kernel) (pa_cons (pv 2) (pa_cons (pe_tup (pa_cons (pe_glob (v := .ref (He.ga K "NoRule")) (by rfl) T.g_NoRule rfl) (pa_cons (pe_glob (v := .ref (He.ga K "BadOrder")) (by rfl) T.g_BadOrder rfl) (pa_cons (pe_glob (v := .ref (He.ga K "BadQuestion")) (by rfl) T.g_BadQuestion rfl) (pa_cons (pe_glob (v := .ref (He.ga K "BadWhole")) (by rfl) T.g_BadWhole rfl) (pa_cons (pe_glob (v := .ref (He.ga K "NoCall")) (by rfl) T.g_NoCall rfl) (pa_cons (pe_glob (v := .ref (He.ga K "NoRow")) (by rfl) T.g_NoRow rfl) (pa_cons (pe_glob (v := .ref (He.ga K "BadRoom")) (by rfl) T.g_BadRoom rfl) pa_nil)))))))) pa_nil))) pa_nil)))))))))
    (pss_one (ps_ret (pv 1))))), ?_⟩
    refine ⟨_, rfl, a, r, rfl, hr0, l1, l2, l3, fun h5 d H' hd => ⟨rfl, fun σ hσ => ⟨true, T.em_TooLong, fun _ e ne => ?_, fun q => Bool.noConfusion q⟩⟩, fun h5 ys H' s1 hp p np => ?_⟩
    · obtain ⟨x, y, z, rfl⟩ : ∃ x y z, σ = [x, y, z] := by
        match σ, hσ with
        | [x, y, z], _ => exact ⟨x, y, z, rfl⟩
      refine ⟨_, rfl, rfl, rfl, d, _, _, rfl, hd, rfl, _, rfl, rfl, .ref (He.ga K "FactsError"), true, rfl, ⟨d, _, rfl, hd⟩, .inl ⟨_, .own _, T.ki_TooLong_FactsError⟩, by rw [sizeLine_eq]; show 2 ≤ 16777216; decide, fun p1 n1 => ?_⟩
      have hd1 : (upd H' p1 (.tup [.int r.body.length, .bl true])) d = some (.xd [("length", .int r.body.length)]) := same_new n1 _ _ hd
      have hp1 : (upd H' p1 (.tup [.int r.body.length, .bl true])) p1 = some (.tup [.int r.body.length, .bl true]) := upd_same
      generalize upd H' p1 (.tup [.int r.body.length, .bl true]) = H1 at hd1 hp1 ⊢
      refine ⟨_, rfl, _, rfl, by rw [sizeLine_eq]; show 8 ≤ 16777216; decide, fun t1 m1 => ⟨rfl, .ref t1, false, rfl, ⟨d, _, rfl, same_new m1 _ _ hd1⟩, .inr ⟨t1, _, _, rfl, upd_same, .cons (.own _) (.cons (.own _) (.cons (.own _) (.cons (.own _) (.cons (.own _) (.cons (.own _) (.cons (.own _) (.cons (.own _) .nil))))))), ?_⟩, ?_⟩⟩
      · exact kitAny_cons T.ki_TooLong_BadName (fun _ => kitAny_cons T.ki_TooLong_BadTerm (fun _ => kitAny_cons T.ki_TooLong_BadRule (fun _ => kitAny_cons T.ki_TooLong_Unsafe (fun _ => kitAny_cons T.ki_TooLong_BadText (fun _ => kitAny_cons T.ki_TooLong_WrongCount (fun _ => kitAny_cons T.ki_TooLong_RingThroughNot (fun _ => kitAny_cons T.ki_TooLong_BadLine (fun _ => kitAny_nil) (fun q => Bool.noConfusion q)) (fun q => Bool.noConfusion q)) (fun q => Bool.noConfusion q)) (fun q => Bool.noConfusion q)) (fun q => Bool.noConfusion q)) (fun q => Bool.noConfusion q)) (fun q => Bool.noConfusion q)) (fun q => Bool.noConfusion q)
      have hd2 := same_new (o := .tup [.ref (He.ga K "BadName"), .ref (He.ga K "BadTerm"), .ref (He.ga K "BadRule"), .ref (He.ga K "Unsafe"), .ref (He.ga K "BadText"), .ref (He.ga K "WrongCount"), .ref (He.ga K "RingThroughNot"), .ref (He.ga K "BadLine")]) m1 _ _ hd1
      have hp2 := same_new (o := .tup [.ref (He.ga K "BadName"), .ref (He.ga K "BadTerm"), .ref (He.ga K "BadRule"), .ref (He.ga K "Unsafe"), .ref (He.ga K "BadText"), .ref (He.ga K "WrongCount"), .ref (He.ga K "RingThroughNot"), .ref (He.ga K "BadLine")]) m1 _ _ hp1
      generalize upd H1 t1 _ = H2 at hd2 hp2 ⊢
      refine ⟨by rw [sizeLine_eq]; show 1 ≤ 16777216; decide, fun q1 k1 => ⟨p1, q1, _, _, rfl, rfl, .inl (.inl (same_new k1 _ _ hp2)), .inl (.inl upd_same), by rw [sizeLine_eq]; show 2 + 1 ≤ 16777216; decide, fun h => absurd h (by simp), fun _ h => absurd h (by simp), fun _ _ p3 n3 => ?_⟩⟩
      have hd3 := same_new (o := .tup ([.int r.body.length, .bl true] ++ [.bl false])) n3 _ _ (same_new k1 _ _ hd2)
      have hp3 : (upd (upd H2 q1 (.tup [.bl false])) p3 (.tup ([.int r.body.length, .bl true] ++ [.bl false]))) p3 = some (.tup ([.int r.body.length, .bl true] ++ [.bl false])) := upd_same
      generalize upd (upd H2 q1 _) p3 _ = H3 at hd3 hp3 ⊢
      refine ⟨_, rfl, _, rfl, by rw [sizeLine_eq]; show 7 ≤ 16777216; decide, fun t2 m2 => ⟨rfl, .ref t2, false, rfl, ⟨d, _, rfl, same_new m2 _ _ hd3⟩, .inr ⟨t2, _, _, rfl, upd_same, .cons (.own _) (.cons (.own _) (.cons (.own _) (.cons (.own _) (.cons (.own _) (.cons (.own _) (.cons (.own _) .nil)))))), ?_⟩, ?_⟩⟩
      · exact kitAny_cons T.ki_TooLong_NoRule (fun _ => kitAny_cons T.ki_TooLong_BadOrder (fun _ => kitAny_cons T.ki_TooLong_BadQuestion (fun _ => kitAny_cons T.ki_TooLong_BadWhole (fun _ => kitAny_cons T.ki_TooLong_NoCall (fun _ => kitAny_cons T.ki_TooLong_NoRow (fun _ => kitAny_cons T.ki_TooLong_BadRoom (fun _ => kitAny_nil) (fun q => Bool.noConfusion q)) (fun q => Bool.noConfusion q)) (fun q => Bool.noConfusion q)) (fun q => Bool.noConfusion q)) (fun q => Bool.noConfusion q)) (fun q => Bool.noConfusion q)) (fun q => Bool.noConfusion q)
      have hp4 := same_new (o := .tup [.ref (He.ga K "NoRule"), .ref (He.ga K "BadOrder"), .ref (He.ga K "BadQuestion"), .ref (He.ga K "BadWhole"), .ref (He.ga K "NoCall"), .ref (He.ga K "NoRow"), .ref (He.ga K "BadRoom")]) m2 _ _ hp3
      refine ⟨by rw [sizeLine_eq]; show 1 ≤ 16777216; decide, fun q2 k2 => ⟨p3, q2, _, _, rfl, rfl, .inl (.inl (same_new k2 _ _ hp4)), .inl (.inl upd_same), by rw [sizeLine_eq]; show 3 + 1 ≤ 16777216; decide, fun h => absurd h (by simp), fun _ h => absurd h (by simp), fun _ _ p4 n4 => ?_⟩⟩
      exact ⟨_, rfl, k5 h5 p4 _ upd_same⟩
    · refine ⟨_, rfl, k6 h5 ys p _ (s1.trans (same_new np)) upd_same (paired_imp (fun _ _ q => q.same (same_new np)) hp)⟩
end
end AF
namespace AF
open PySem PySem.Spec PyProof.Rows L2
section
variable {P : Program} {w : World} {K : PySem.W.Frag} {mg : Str → Option Value} {base : Heap}
def sp_isorder : Sp := fun vs H Q _ => ∃ (v : V) (o : List Int), vs = [v] ∧ OrdAt K H v o ∧ o.length ≤ 1000 ∧ ∀ H', Same H H' → Q (.bl true) H'
theorem tupTy {H : Hp} {a : Addr} {xs : List V} (h : TupAt K H a xs) : TyX K H (.ref a) (.type "tuple") := by
  rcases h with h | ⟨o, its, n, hk, hc, _⟩
  · exact .base (.tup h)
  · exact .kTuple hk hc
theorem cal__law_is_order (T : Top K mg) : Cal P w K mg base 1 "_law_is_order" (sp_isorder (K := K)) [] := by
  obtain ⟨fd, F⟩ := fd__law_is_order T
  refine ⟨_, fd, _, [], F.ok sc__law_is_order (fun vs H Q E h => ?_) (fun cdv A outer s H vs Q E hr h => ?_), T.g__law_is_order, F.kp, F.bindsN (ps := ["_law_order"]) (fun _ _ _ _ _ _ us hl => match us, hl with | [_], _ => rfl), .nil⟩
  · obtain ⟨_, _, rfl, _⟩ := h
    rfl
  · obtain ⟨v, o, rfl, ⟨t, rfl, ht⟩, ol, k⟩ := h
    refine ⟨_, PSs.nox (pss_cons (ps_if (pt_not (pt_val (pe_callB call_isi (by rfl) T.f_isinstance (by decide +kernel) (pa_cons (pv 0) (pa_cons (pe_bltn (v := .ty "tuple") (u := .type "tuple") (by rfl) T.f_tuple (by decide +kernel) rfl) pa_nil))))) (pss_one (ps_ret pe_bl)) pss_nil)
    (pss_one (ps_ret (pe_cmpR op_eq (pe_callB call_len_seq (by rfl) T.f_len (by decide +kernel) (pa_cons (pe_lc (own := [("_law_at", 1)]) rfl sc__law_is_order.nd (pi_tup (pv 0)) (blkOk_by (own := [("_law_at", 1)]) (N := N__law_is_order) (sc := defScope s__law_is_order) (by decide +kernel)) (fun _ _ _ _ _ => (pg_name (i := 1) sc__law_is_order.nd rfl (Or.inl rfl))) (fun _ _ _ _ _ => (pts_one (PW.pt (pw_or (pt_not (pt_val (pe_callB (callR_K (r := rIsi) K rfl call_isi) (by rfl) T.f_isinstance (by decide +kernel) (pa_cons (pv 1) (pa_cons (pe_bltn (v := .ty "int") (u := .type "int") (by rfl) T.f_int (by decide +kernel) rfl) pa_nil))))) (pw_or1 (pt_val (pe_callB (callR_K (r := rIsi) K rfl call_isi) (by rfl) T.f_isinstance (by decide +kernel) (pa_cons (pv 1) (pa_cons (pe_bltn (v := .ty "bool") (u := .type "bool") (by rfl) T.f_bool (by decide +kernel) rfl) pa_nil))))))))) (fun _ _ _ _ _ => (pv 1))) pa_nil)) pe_int (nomark _))))), ?_⟩
    refine ⟨_, rfl, _, _, _, _, true, rfl, .ty _, tupTy ht, kit_ty (by decide +kernel), _, rfl, ?_⟩
    walk_at "ii"
    refine ⟨_, rfl, t, rfl, ⟨_, ht.sq⟩, fun D hD => ?_⟩
    refine lc_fm (walk_tup (xs := o.map V.int)) (fun _ => none) (by rw [List.length_map, sizeLine_eq]; omega) hD (fun H3 s3 => (ht.same s3).sq) (fun j x _ H4 hj s3 y QQ NN hit miss => ?_) (fun H3 s3 h3 => ?_)
    · obtain ⟨rfl, hx⟩ := y
      obtain ⟨z, hz, rfl⟩ := int_at hx
      refine ⟨rfl, _, rfl, _, _, _, _, true, rfl, .ty _, .base (.int z), kit_ty (by decide +kernel), _, rfl, ?_⟩
      refine iteF ?_
      refine ⟨_, rfl, _, _, _, _, false, rfl, .ty _, .base (.int z), kit_ty (by decide +kernel), _, rfl, ?_⟩
      refine iteF ?_
      exact miss _ rfl (Same.refl _)
    · have e : (List.range (o.map V.int).length).filterMap (fun _ => (none : Option V)) = [] := by
        rw [List.filterMap_eq_nil_iff]
        intro _ _
        rfl
      rw [e] at h3
      exact ⟨D, _, rfl, .inl (.inl (.inl h3)), rfl, k _ s3⟩
end
end AF
namespace AF
open PySem PySem.Spec PyProof.Rows L2
/-! ### lists of orders compared; the plain law -/
section OrdData
def ordD (o : List Int) : PyData := .tuple (o.map .int)
def ordsD (os : List (List Int)) : PyData := .list (os.map ordD)
theorem ints_lay : ∀ o : List Int, PyData.canLayAll0 (o.map .int) = true
  | [] => by simp [PyData.canLayAll0]
  | z :: r => by simp [PyData.canLayAll0, PyData.canLay0, ints_lay r]
theorem ints_depth : ∀ o : List Int, PyData.depthAll (o.map .int) ≤ 1
  | [] => by simp [PyData.depthAll]
  | z :: r => by
    have h := ints_depth r
    simp only [List.map_cons, PyData.depthAll, PyData.depth]
    omega
theorem ordD_lay (o : List Int) : (ordD o).canLay0 = true := by
  show PyData.canLay0 (.tuple (o.map .int)) = true
  simp only [PyData.canLay0]
  exact ints_lay o
theorem ordD_depth (o : List Int) : (ordD o).depth ≤ 2 := by
  have h := ints_depth o
  show PyData.depth (.tuple (o.map .int)) ≤ 2
  simp only [PyData.depth]
  omega
theorem ords_lay : ∀ os : List (List Int), PyData.canLayAll0 (os.map ordD) = true
  | [] => by simp [PyData.canLayAll0]
  | z :: zs => by simp [PyData.canLayAll0, ordD_lay z, ords_lay zs]
theorem ords_depth : ∀ os : List (List Int), PyData.depthAll (os.map ordD) ≤ 2
  | [] => by simp [PyData.depthAll]
  | z :: zs => by
    have h1 := ords_depth zs
    have h2 := ordD_depth z
    simp only [List.map_cons, PyData.depthAll]
    omega
theorem ordsD_lay (os : List (List Int)) : (ordsD os).canLay0 = true := by
  show PyData.canLay0 (.list (os.map ordD)) = true
  simp only [PyData.canLay0]
  exact ords_lay os
theorem ordsD_shaped (os : List (List Int)) : SeqAt.shaped (ordsD os) = true := by
  have h1 := ords_depth os
  have h2 : PyData.depth (.list (os.map ordD)) ≤ 64 := by
    simp only [PyData.depth]
    omega
  show (PyData.canLay0 (.list (os.map ordD)) && decide (PyData.depth (.list (os.map ordD)) ≤ 64)) = true
  rw [Bool.and_eq_true]
  exact ⟨ordsD_lay os, decide_eq_true h2⟩
theorem dpInts {K : PySem.W.Frag} {H : Hp} : ∀ o : List Int, DpAll K H (o.map V.int) (o.map .int)
  | [] => .nil
  | z :: r => .cons (.int z) (dpInts r)
def permsAll (n : Nat) : Bool := (lawPerms n n).all fun o => (List.range n).all fun i => o.elem (0 + (i : Int))
theorem perms_all : (List.range 6).all permsAll = true := by decide +kernel
theorem fu_spec : ∀ (ls : List Lit) (kn kn' : List Str), fuBody kn ls = (none, kn') → ∀ z, z ∈ kn' ↔ z ∈ kn ∨ ∃ l ∈ ls, l.neg = false ∧ Sum.inr z ∈ l.terms
  | [], kn, kn', h, z => by
    have h : ((none : Option Str), kn) = (none, kn') := h
    rw [(Prod.mk.inj h).2]
    simp
  | l :: r, kn, kn', h, z => by
    unfold fuBody at h
    by_cases hn : l.neg = true
    · rw [if_pos hn] at h
      cases e : (varsOf l.terms).find? (fun x => decide (x ∉ kn)) with
      | some x => rw [e] at h; cases h
      | none =>
        rw [e] at h
        rw [fu_spec r kn kn' h z]
        constructor
        · rintro (h1 | ⟨m, hm, h2⟩)
          · exact .inl h1
          · exact .inr ⟨m, List.mem_cons_of_mem _ hm, h2⟩
        · rintro (h1 | ⟨m, hm, h2, h3⟩)
          · exact .inl h1
          · rcases List.mem_cons.mp hm with e2 | e2
            · rw [e2, hn] at h2; cases h2
            · exact .inr ⟨m, e2, h2, h3⟩
    · have hn' : l.neg = false := by simpa using hn
      rw [if_neg hn] at h
      rw [fu_spec r _ kn' h z]
      constructor
      · rintro (h1 | ⟨m, hm, h2⟩)
        · rcases List.mem_append.mp h1 with h1 | h1
          · exact .inl h1
          · exact .inr ⟨l, List.mem_cons_self .., hn', mem_varsOf.mp h1⟩
        · exact .inr ⟨m, List.mem_cons_of_mem _ hm, h2⟩
      · rintro (h1 | ⟨m, hm, h2, h3⟩)
        · exact .inl (List.mem_append_left _ h1)
        · rcases List.mem_cons.mp hm with e2 | e2
          · rw [e2] at h3
            exact .inl (List.mem_append_right _ (mem_varsOf.mpr h3))
          · exact .inr ⟨m, e2, h2, h3⟩
theorem bad_iff {kn : List Str} {near : List Key} (hk : ∀ z, z ∈ kn ↔ (Sum.inr z : Key) ∈ near) (ts : List Key) : 0 < (ts.filterMap (badV near)).length ↔ ∃ z, (Sum.inr z : Key) ∈ ts ∧ z ∉ kn := by
  rw [List.length_pos_iff_exists_mem]
  constructor
  · rintro ⟨v, hv⟩
    obtain ⟨t, ht, e⟩ := List.mem_filterMap.mp hv
    cases t with
    | inl i => cases e
    | inr z =>
      refine ⟨z, ht, fun h => ?_⟩
      have e : (if hasK near z = true then none else some (V.str z)) = some v := e
      rw [if_pos (hasK_iff.mpr ((hk z).mp h))] at e
      cases e
  · rintro ⟨z, hz, hn⟩
    refine ⟨.str z, List.mem_filterMap.mpr ⟨_, hz, ?_⟩⟩
    show (if hasK near z = true then none else some (V.str z)) = some (.str z)
    rw [if_neg (fun h => hn ((hk z).mpr (hasK_iff.mp h)))]
theorem law_fu (b : List Lit) : ∀ (o : List Int) (kn : List Str) (near : List Key), (∀ z, z ∈ kn ↔ (Sum.inr z : Key) ∈ near) → ((fuBody kn (selB b o)).1 = none ↔ lawSafe b o near = true)
  | [], kn, near, _ => by
    show (none : Option Str) = none ↔ true = true
    simp
  | i :: o, kn, near, hk => by
    show (fuBody kn (b.getD i.toNat ⟨"", [], false⟩ :: selB b o)).1 = none ↔ _
    unfold fuBody lawSafe
    generalize b.getD i.toNat ⟨"", [], false⟩ = l
    have hb := bad_iff hk l.terms
    by_cases hn : l.neg = true
    · rw [if_pos hn, if_pos hn]
      cases e : (varsOf l.terms).find? (fun x => decide (x ∉ kn)) with
      | some x =>
        have hx : decide (x ∉ kn) = true := List.find?_some (p := fun x => decide (x ∉ kn)) e
        have hm := List.mem_of_find?_eq_some e
        rw [if_pos (hb.mpr ⟨x, mem_varsOf.mp hm, of_decide_eq_true hx⟩)]
        simp
      | none =>
        rw [if_neg]
        · exact law_fu b o kn near hk
        · intro h
          obtain ⟨z, hz, hzn⟩ := hb.mp h
          have q := List.find?_eq_none.mp e z (mem_varsOf.mpr hz)
          exact q (decide_eq_true hzn)
    · rw [if_neg hn, if_neg hn]
      refine law_fu b o _ _ fun z => ?_
      rw [List.mem_append, List.mem_append, hk z, mem_varsOf]
theorem plain_law {h : Lit} {b : List Lit} (hs : firstUnsafe h b = none) (h5 : b.length ≤ 5) : safeOrders ⟨h, b⟩ = (lawPerms b.length b.length).filter fun o => lawSafe b o [] := by
  have hp := of_decide_eq_true (List.all_eq_true.mp perms_same b.length (List.mem_range.mpr (by omega)))
  unfold safeOrders
  show (iterO 130 (startO b.length)).filter _ = _
  rw [hp]
  refine List.filter_congr fun o ho => ?_
  have hall := List.all_eq_true.mp (List.all_eq_true.mp (List.all_eq_true.mp perms_all b.length (List.mem_range.mpr (by omega))) o ho)
  have hl := law_fu b o [] [] (fun z => by simp)
  unfold safeO firstUnsafe
  show decide ((match fuBody [] (selB b o) with | (some x, _) => some x | (none, kn) => (varsOf h.terms).find? (fun x => decide (x ∉ kn))) = none) = lawSafe b o []
  cases hf : fuBody [] (selB b o) with
  | mk a kn' =>
    rw [hf] at hl
    cases a with
    | some x =>
      have : ¬ lawSafe b o [] = true := fun z => by
        have := hl.mpr z
        cases this
      have : lawSafe b o [] = false := by simpa using this
      rw [this]
      simp
    | none =>
      rw [hl.mp rfl]
      refine decide_eq_true ?_
      unfold firstUnsafe at hs
      cases hf0 : fuBody [] b with
      | mk a0 kn0 =>
        rw [hf0] at hs
        cases a0 with
        | some x => cases hs
        | none =>
          show (varsOf h.terms).find? (fun x => decide (x ∉ kn')) = none
          refine find_none fun z hz => decide_eq_false fun hzn => hzn ?_
          have q := List.find?_eq_none.mp hs z hz
          have hz0 : z ∈ kn0 := by
            by_cases hc : z ∈ kn0
            · exact hc
            · exact absurd (decide_eq_true hc) q
          rcases (fu_spec b [] kn0 hf0 z).mp hz0 with h1 | ⟨l, hl1, hl2, hl3⟩
          · simp at h1
          · refine (fu_spec _ [] kn' hf z).mpr (.inr ⟨l, ?_, hl2, hl3⟩)
            obtain ⟨i, hi⟩ := List.mem_iff_getElem?.mp hl1
            have hil := (List.getElem?_eq_some_iff.mp hi).1
            have hio := hall i (List.mem_range.mpr hil)
            refine List.mem_map.mpr ⟨0 + (i : Int), List.elem_iff.mp hio, ?_⟩
            have e : (0 + (i : Int)).toNat = i := by omega
            rw [e, List.getD_eq_getElem?_getD, hi]
            rfl
end OrdData
end AF
namespace AF
open PySem PySem.Spec PyProof.Rows L2
section
variable {P : Program} {w : World} {K : PySem.W.Frag} {mg : Str → Option Value} {base : Heap}
/-! ### the law -/
theorem dpOrds {H : Hp} : ∀ {vs : List V} {os : List (List Int)}, Paired (OrdAt K H) vs os → DpAll K H vs (os.map ordD)
  | _, _, .nil => .nil
  | _, _, .cons ⟨a, e, q⟩ t => by
    rw [List.map_cons, e]
    exact .cons (.tup q.sq (dpInts _)) (dpOrds t)
def sp_law : Sp := fun vs H Q _ => ∃ (a : Addr) (ns : List Int), vs = [.ref a] ∧ SqL K H a (ns.map V.int) ∧ ns.length ≤ 63 ∧ ∀ H', Q (.bl true) H'
theorem ok_law (T : Top K mg) (PP : SupP P pfile) {fd : FuncData} (F : FunD K "law" "law" (defArgs s_law) (defBody s_law) (defScope s_law) (d_law.dvs K) (d_law.kws K) (He.fAd K d_law.at_) fd) : FnOk P w K mg base CX0 8 (He.fAd K d_law.at_) fd ["_law_script"] (sp_law (K := K)) := by
  refine F.ok sc_law (fun vs H Q E h => ?_) (fun cdv A outer s H vs Q E hr h => ?_)
  · obtain ⟨_, _, rfl, _⟩ := h
    rfl
  · obtain ⟨a, ns, rfl, hs, hn, k⟩ := h
    refine ⟨_, PSs.nox (pss_cons (ps_set (i := 1) sc_law.nd rfl (Or.inl rfl) (pe_c (cal__law_flow T) hr (by decide) (by rfl) (pa_cons (pv 0) pa_nil)))
    (pss_cons (ps_set (i := 2) sc_law.nd rfl (Or.inl rfl) (pe_c (cal__law_kit T) hr (by decide) (by rfl) (pa_cons (pv 1) pa_nil)))
    (pss_cons (ps_asg (pe_c (cal__law_long_rule T) hr (by decide) (by rfl) (pa_cons (pv 1) (pa_cons (pv 2) pa_nil))) (pg_tup (by rfl) (pgs_cons (pg_name (i := 3) sc_law.nd rfl (Or.inl rfl)) (pgs_cons (pg_name (i := 4) sc_law.nd rfl (Or.inl rfl)) pgs_nil))))
    (pss_cons (ps_set (i := 5) sc_law.nd rfl (Or.inl rfl) (pe_mk (mk_Rule T) hr (by decide) (by rfl) (pa_cons (pe_c (cal__law_literal T) hr (by decide) (by rfl) (pa_cons (pv 3) pa_nil)) (pa_cons (pe_lc (own := [("_law_one", 9)]) rfl sc_law.nd (pi_list (pv 4)) (blkOk_by (own := [("_law_one", 9)]) (N := N_law) (sc := defScope s_law) (by decide +kernel)) (fun _ _ _ _ _ => (pg_name (i := 9) sc_law.nd rfl (Or.inl rfl))) (fun _ _ _ _ _ => pts_nil) (fun _ _ _ _ _ => (pe_c (cal__law_literal T) hr (by decide) (by rfl) (pa_cons (pv 9) pa_nil)))) pa_nil))))
    (pss_cons (ps_if (pt_cmpR op_gt (pe_callB call_len_seq (by rfl) T.f_len (by decide +kernel) (pa_cons (pv 4) pa_nil)) pe_int (nomark _)) (pss_one (ps_ret (pe_cmpR (op_eqD hr.units) (pe_c (cal__law_got T PP) hr (by decide) (by rfl) (pa_cons (pv 5) pa_nil)) (pe_tup (pa_cons pe_int (pa_cons pe_bl (pa_cons pe_bl (pa_cons pe_bl pa_nil))))) (nomark _)))) pss_nil)
    (pss_cons (ps_set (i := 6) sc_law.nd rfl (Or.inl rfl) (pe_c (cal__law_orders T) hr (by decide) (by rfl) (pa_cons (pv 4) pa_nil)))
    (pss_cons (ps_for PassesOwn.never rfl (pi_range1 rfl T.f_range (pa_cons pe_int pa_nil)) (pg_name (i := 7) sc_law.nd rfl (Or.inl rfl)) (pss_cons (ps_set (i := 8) sc_law.nd rfl (Or.inl rfl) (pe_c (cal__law_got T PP) hr (by decide) (by rfl) (pa_cons (pv 5) pa_nil)))
    (pss_one (ps_if (PW.pt (pw_or (pt_not (pt_val (pe_callB call_isi (by rfl) T.f_isinstance (by decide +kernel) (pa_cons (pv 8) (pa_cons (pe_bltn (v := .ty "list") (u := .type "list") (by rfl) T.f_list (by decide +kernel) rfl) pa_nil))))) (pw_or (pt_cmpR op_gt (pe_callB call_len_seq (by rfl) T.f_len (by decide +kernel) (pa_cons (pe_lc (own := [("_law_order", 10)]) rfl sc_law.nd (pi_list (pv 8)) (blkOk_by (own := [("_law_order", 10)]) (N := N_law) (sc := defScope s_law) (by decide +kernel)) (fun _ _ _ _ _ => (pg_name (i := 10) sc_law.nd rfl (Or.inl rfl))) (fun _ _ _ _ _ => (pts_one (pt_not (pt_val (pe_c (cal__law_is_order T) hr (by decide) (by rfl) (pa_cons (pv 10) pa_nil)))))) (fun _ _ _ _ _ => (pv 10))) pa_nil)) pe_int (nomark _)) (pw_or1 (pt_cmpR (op_neD hr.units) (pv 8) (pv 6) (nomark _)))))) (pss_one (ps_ret pe_bl)) pss_nil))))
    (pss_one (ps_ret pe_bl))))))))), ?_⟩
    refine ⟨_, rfl, a, ns, rfl, hs, hn, fun p H1 s1 np f1 => ?_⟩
    refine ⟨_, rfl, p, rfl, f1, fun ak kt H2 ok ka f2 b2 => ?_⟩
    refine ⟨_, rfl, _, rfl, p, ak, kt, rfl, f2, ka, ok, fun tr ah ab bs h b H3 htr hah hab hpr hrd f3 b3 => ?_⟩
    refine ⟨tr, _, rfl, .inl (.inl htr), rfl, _, _, rfl, _, _, rfl, rfl, ?_⟩
    -- the rule
    have lo : ∀ l, LitD kt l → LitOk l := fun l d => litOk_of ok d
    refine ⟨_, rfl, .ref ah, h, rfl, hah, lo h hrd.hd, fun ph H4 s4 hlh => ?_⟩
    refine ⟨_, rfl, ab, rfl, ⟨_, .inl (.inl (s4 _ _ hab))⟩, fun D hD => ?_⟩
    have hbl := paired_len hpr
    have b6 := hrd.len
    refine lc_it (walk_list (xs := bs)) (fun i H' => ∃ acc, Same H4 H' ∧ H' D = some (.lst acc) ∧ acc.length = i ∧ Paired (LitAt K H') acc (b.take i)) ⟨[], same_new hD, upd_same, rfl, by rw [List.take_zero]; exact .nil⟩ (fun i H' _ q => ?_) (fun i x _ H5 hi q y => ?_) (fun H5 q => ?_)
    · obtain ⟨_, s5, _⟩ := q
      exact .inl (.inl (s5 _ _ (s4 _ _ hab)))
    · obtain ⟨acc, s5, h5, al, hac⟩ := q
      obtain ⟨rfl, hx⟩ := y
      obtain ⟨l, hl, hone⟩ := paired_at hpr hx
      have s45 := s4.trans s5
      have htk : b.take (i + 1) = b.take i ++ [l] := by
        obtain ⟨e1, e2⟩ := List.getElem?_eq_some_iff.mp hl
        rw [List.take_succ_eq_append_getElem e1, e2]
      refine ⟨rfl, _, rfl, x, l, rfl, hone.tp (.of s45), lo l (hrd.bd l (List.mem_of_getElem? hl)), fun pl H6 s6 hlit => ?_⟩
      have h6 := s6 _ _ h5
      refine ⟨acc, h6, by rw [sizeLine_eq]; omega, acc ++ [.ref pl], same_at hD (s5.trans s6), upd_same, by rw [List.length_append, al]; rfl, ?_⟩
      rw [htk]
      exact paired_snoc (hlit.mono (Imm.lst h6)) (paired_imp (fun _ _ q => (q.same s6).mono (Imm.lst h6)) hac)
    obtain ⟨acc, s5, h5, al, hac⟩ := q
    have etk : b.take bs.length = b := by rw [hbl, List.take_length]
    rw [etk] at hac
    have hl3 : ∀ l ∈ b, l.terms.length ≤ 3 := fun l hl => (hrd.bd l hl).ln
    have hh3 : h.terms.length ≤ 3 := hrd.hd.ln
    refine fun pr dxr m1 m2 m3 => ⟨H5, pr, dxr, D, .ref ph, acc, ⟨h, b⟩, rfl, m1, m2, m3, rfl, hlh.same s5, .inl h5, hac, ⟨hrd.neg, hrd.safe, by show h.terms.length ≤ 1000; omega, by show b.length ≤ 1000; omega, fun l hl => by have := hl3 l hl; omega⟩, fun H6 s6 hru => ⟨rfl, ?_⟩⟩
    have s46 : Same H3 H6 := (s4.trans s5).trans s6
    have hab6 := s46 _ _ hab
    refine ⟨_, rfl, ab, _, rfl, .inl (.inl (.inl hab6)), _, _, rfl, rfl, _, rfl, ?_⟩
    have c1 : h.terms.length ≤ 1000 := by omega
    have c2 : b.length ≤ 1000 := by omega
    have c3 : ∀ l ∈ b, l.terms.length ≤ 1000 := fun l hl => by have := hl3 l hl; omega
    refine ite2 (fun hg => ?_) (fun hg => ?_)
    · have hg : (5 : Int) < (bs.length : Int) := of_decide_eq_true hg
      have e6 : b.length = 6 := by omega
      refine ⟨_, rfl, pr, ⟨h, b⟩, rfl, hru, c1, c2, c3, fun _ p' H7 hp' => ?_, fun h5 => absurd h5 (by show ¬ b.length ≤ 5; omega)⟩
      refine ⟨by rw [sizeLine_eq]; show 4 ≤ 16777216; decide, fun q nq => ?_⟩
      have hp7 : (upd H7 q (.tup [.int 6, .bl true, .bl false, .bl false])) p' = some (.tup [.int 6, .bl true, .bl false, .bl false]) := by
        have e7 : ((⟨h, b⟩ : Rul).body.length : Int) = 6 := by show ((b.length : Nat) : Int) = 6; omega
        rw [e7] at hp'
        exact same_new nq _ _ hp'
      have all4 : ∀ {H' : Hp}, DpAll K H' [.int 6, .bl true, .bl false, .bl false] [.int 6, .bool true, .bool false, .bool false] := .cons (.int 6) (.cons (.bl true) (.cons (.bl false) (.cons (.bl false) .nil)))
      refine ⟨_, _, .tup (.inl (.inl hp7)) all4, .tup (.inl (.inl upd_same)) all4, by decide +kernel, by decide +kernel, ?_⟩
      have e : PyData.eqv (.tuple [.int 6, .bool true, .bool false, .bool false]) (.tuple [.int 6, .bool true, .bool false, .bool false]) = true := by decide +kernel
      rw [e]
      exact k _
    · have hg : ¬ (5 : Int) < (bs.length : Int) := fun z => hg (decide_eq_true z)
      have b5 : b.length ≤ 5 := by omega
      have hpl := plain_law hrd.safe b5
      refine ⟨_, rfl, ab, bs, b, rfl, hab6, paired_imp (fun _ _ q => q.tp (.of s46)) hpr, b5, hl3, fun pd dvs H7 s7 hpd hdv => ?_⟩
      rw [← hpl] at hdv
      have hol : ∀ o ∈ safeOrders ⟨h, b⟩, o.length ≤ 1000 := fun o ho => by
        rw [hpl] at ho
        have q := List.all_eq_true.mp (List.all_eq_true.mp perms_ok b.length (List.mem_range.mpr (by omega))) b.length (List.mem_range.mpr (by omega))
        have q2 := List.all_eq_true.mp (Bool.and_eq_true_iff.mp q).2 o (List.mem_filter.mp ho).1
        have q3 := of_decide_eq_true (Bool.and_eq_true_iff.mp q2).1
        omega
      refine ⟨2, rfl, by decide, by decide, ?_⟩
      refine for_it walk_range (fun i σ H' => ∃ x7 x8 x9 x10, σ = [some (.ref a), some (.ref p), some (.ref ak), some (.ref ah), some (.ref ab), some (.ref pr), some (.ref pd), x7, x8, x9, x10] ∧ Same H7 H') ⟨_, _, _, _, rfl, Same.refl _⟩ (fun _ _ _ _ _ => True.intro) (fun i x σ _ H8 hi q y => ?_) (fun σ H8 q => ?_)
      · obtain ⟨x7, x8, x9, x10, rfl, s8⟩ := q
        obtain ⟨rfl, rfl⟩ := y
        refine ⟨_, rfl, pr, ⟨h, b⟩, rfl, RulAt.same (s7.trans s8) hru, c1, c2, c3, fun h6 => absurd h6 (by show ¬ 5 < b.length; omega), fun _ ys pg H9 s9 hpg hys => ?_⟩
        refine ⟨_, rfl, _, _, _, _, true, rfl, .ty _, .base (.lst hpg), kit_ty (by decide +kernel), _, rfl, ?_⟩
        refine iteF ?_
        refine ⟨_, rfl, pg, rfl, ⟨_, .inl (.inl hpg)⟩, fun D hD => ?_⟩
        have hyl := paired_len hys
        have hos : (safeOrders ⟨h, b⟩).length ≤ 130 := by
          rw [hpl]
          have q := List.all_eq_true.mp (List.all_eq_true.mp perms_ok b.length (List.mem_range.mpr (by omega))) b.length (List.mem_range.mpr (by omega))
          have q3 := of_decide_eq_true (Bool.and_eq_true_iff.mp q).1
          have q4 := List.length_filter_le (fun o => lawSafe b o []) (lawPerms b.length b.length)
          omega
        refine lc_fm (walk_list (xs := ys)) (fun _ => none) (by rw [sizeLine_eq]; omega) hD (fun H10 s10 => .inl (.inl (s10 _ _ hpg))) (fun j x _ H10 hj s10 y QQ NN hit miss => ?_) (fun H10 s10 h10 => ?_)
        · obtain ⟨rfl, hx⟩ := y
          obtain ⟨o, ho, hord⟩ := paired_at hys hx
          refine ⟨rfl, _, rfl, x, o, rfl, hord.same s10, hol o (List.mem_of_getElem? ho), fun H11 s11 => ⟨_, rfl, ?_⟩⟩
          refine iteF ?_
          exact miss _ rfl s11
        · have e : (List.range ys.length).filterMap (fun _ => (none : Option V)) = [] := by
            rw [List.filterMap_eq_nil_iff]
            intro _ _
            rfl
          rw [e] at h10
          refine ⟨D, _, rfl, .inl (.inl (.inl h10)), _, _, rfl, rfl, _, rfl, ?_⟩
          refine iteF ?_
          have s79 := (s8.trans s9).trans s10
          refine ⟨_, rfl, _, rfl, ordsD (safeOrders ⟨h, b⟩), ordsD (safeOrders ⟨h, b⟩), .lst (.inl (.inl (s10 _ _ hpg))) (dpOrds (paired_imp (fun _ _ q => q.same s10) hys)), .lst (.inl (.inl (s79 _ _ hpd))) (dpOrds (paired_imp (fun _ _ q => q.same s79) hdv)), ordsD_shaped _, ordsD_shaped _, _, rfl, ?_⟩
          rw [PySem.SeqAt.eqv_refl _ (ordsD_lay _)]
          refine iteF ?_
          exact ⟨_, _, _, _, rfl, s79⟩
      · exact k _
end
end AF
namespace AF
open PySem PySem.Spec PyProof.Rows L2
abbrev RR : PySem.W.OpenRow := PySem.W.OpenLaw.row PySem.Challenge.rw_askedfacts_k61_safe_orders
abbrev hk : PySem.W.Hook := hookM fbA fnl exl
def ob (s : PySem.W.SharedT) : AlM := obsMG fbA fnl exl (HandSHeadRun.getT s)
theorem ob_eq (s : PySem.W.SharedT) : ob s = hk.obs s.abs := obsMG_eq (HandSHeadRun.getT_eq s)
def loose : List PySem.Str := (["_wall", "FactsError", "BadName", "BadTerm", "BadRule", "Unsafe", "BadText", "WrongCount", "RingThroughNot", "BadLine", "NoRule", "BadOrder", "BadQuestion", "BadWhole", "NoCall", "NoRow", "TooLong", "BadRoom", "MOST", "SMALL"] : List PySem.Str) ++ (["CAPITALS", "DIGITS", "has_only", "is_number", "is_constant", "is_variable", "is_word", "is_mark", "is_name", "SIGNS", "read_term", "Literal", "first_unsafe", "Rule", "MOST_BODY", "next_order", "safe_orders", "_law_flow", "_law_draw", "_law_kit"] : List PySem.Str) ++ (["_law_term", "_law_long_rule", "_law_literal", "_law_is_safe", "_law_orders", "_law_is_order", "_law_got"] : List PySem.Str)
abbrev Run0 (w : World) : Prop := HandSHeadRun.RunEq RR (PySem.W.view RR.prog [53]) hk ob 20000 loose w
theorem runF (w : World) : Run0 (w.withFollow "special-get-raises" false) := by
  intro os
  kernel_rfl
theorem runT (w : World) : Run0 (w.withFollow "special-get-raises" true) := by
  intro os
  kernel_rfl
theorem run (w : World) : Run0 w := PySem.W.byRow2 "special-get-raises" (P := Run0) runF runT w
theorem top_of {K : PySem.W.Frag} {h : Heap} {mg : Str → Option Value} (X : K.In h) (G : h.Ns mainGlobals mg) (c : SaysM fbA fnl exl K) : Top K mg :=
  ⟨c, fun _ _ e => PySem.W.mg_of X G e, fun _ e => PySem.W.mg_none_of X G e⟩
end AF

namespace AF
open PySem PySem.Spec PyProof.Rows L2
theorem facts_k61 {w : World} {K : PySem.W.Frag} {h : Heap} {mg : Str → Option Value} {f : Addr} (X : K.In h) (G : h.Ns mainGlobals mg) (hfa : mg ("law" : Str) = some (.ref f)) (c : SaysM fbA fnl exl K) :
    ∃ fd : FuncData, (∀ (s : Shared) (v : Value), BindsTo s fd ⟨[v], []⟩ [("_law_script", v)]) ∧ ∀ base : Heap, K.In base → base.Ns mainGlobals mg → FnOk (PySem.Challenge.rw_askedfacts_k61_safe_orders).prog w K mg base CX0 8 f fd ["_law_script"] (sp_law (K := K)) := by
  have T : Top K mg := top_of X G c
  obtain ⟨fd, F⟩ := fd_law T
  have e := hfa.symm.trans T.g_law
  cases e
  have PP : SupP (PySem.Challenge.rw_askedfacts_k61_safe_orders).prog pfile := ⟨by kernel_rfl, by kernel_rfl⟩
  have b := FunD.bindsA (ps := ["_law_script"]) F fun _ _ _ _ _ _ us hl => match us, hl with | [_], _ => rfl
  exact ⟨fd, fun s v => b s [v] rfl, fun base _ _ => ok_law T PP F⟩
end AF
open PySem PySem.W PySem.Calls PyProof.Rows
theorem PySem.Challenge.cw_askedfacts_k61_safe_orders_holds : PySem.Challenge.rw_askedfacts_k61_safe_orders.Holds := by
  w_on; o_law
  refine HandSHeadRun.head_any (r := OpenLaw.row PySem.Challenge.rw_askedfacts_k61_safe_orders) (q := view (OpenLaw.row PySem.Challenge.rw_askedfacts_k61_safe_orders).prog [53]) (H := AF.hk) (ob := AF.ob) (M := 20000) (loose := AF.loose) (d := HandSHeadRun.topDef (OpenLaw.row PySem.Challenge.rw_askedfacts_k61_safe_orders).prog 53) (kwd := []) AF.ob_eq
    (by kernel_rfl) (fun s => by kernel_rfl) AF.run (by kernel_rfl) (by kernel_rfl) (by kernel_rfl) (by rfl) (by first | assumption | decide +kernel) (by decide +kernel) ⟨rfl, rfl, rfl, rfl, rfl, by decide +kernel⟩ ?hw ?hc
  case hw => w_witness2
  case hc =>
    refine L2.walk_ofE (l := PySem.Challenge.rw_askedfacts_k61_safe_orders) (n := 63) (k := 8) (x := "_law_script") (CX := L2.CX0) rfl (by decide) (by kernel_rfl) ⟨rfl, by decide, by decide⟩ ?F (fun _ _ _ _ z => z)
    intro w mg fa h Y G hmg0
    obtain ⟨K, KX, c⟩ := Y
    have hmg : mg ("law" : PySem.Str) = some (.ref fa) := by
      have e : (HandSHeadRun.topDef (OpenLaw.row PySem.Challenge.rw_askedfacts_k61_safe_orders).prog 53).name = ("law" : PySem.Str) := by kernel_rfl
      rw [← e]
      exact hmg0
    obtain ⟨fd, hb, hF⟩ := AF.facts_k61 (w := w) KX G hmg c
    exact ⟨K, fd, AF.sp_law (K := K), KX, hb, fun H a ns hl _ hS => ⟨a, ns, rfl, hS, hl, fun _ => rfl⟩, hF⟩
