import PyProof.Rows.All
import Wide.All
import OpenK.AllK
import Wide.FinOn
import HandS.ForMost
import HandS.ForExc
import HandS.Defaults
import HandS.CallSlots
import HandS.Wide
import HandS.EndTab
import HandS.HeadHook4
import HandS.Head2
import HandS.ExcInit
import HandS.ExcField
import HandS.ExcIs
import HandS.IsInst
import HandS.TupAny
import HandS.DeepEq
import HandS.Style
import KE.DataFind
import PyProof.ReprReads
import PyProof.ReprRoads
import HandS.RaiseMore
import HandS.TryOnly
import HandS.ExcCtx
import HandS.HotCalls
import HandS.Dict
import HandS.Head0
import HandS.Head1
import HandS.HeadEnd
import HandS.HeadHook1
import HandS.HeadHook2
import HandS.HeadHook3
import HandS.TryMany
import HandS.ExcInitHot
import HandS.Comp
import HandS.List
import HandS.Text
import PyProof.RulesMatch
import HandS.FStr
import HandS.Codes
import HandS.New0
import KE.GoesEnum
import HandS.SortKw
import HandS.More
import KE.GoesMore
import HandS.DictTup
import HandS.SortRule
import HandS.Iter
import KE.KDictPairs
import KE.SortData
import HandS.Conv
import HandS.SetKeys
import HandS.SetBool
import HandS.ExcValue
import PyProof.Rows.RuleDivmod
import PySem.Challenge.RW_layertrees_k37_test_pixels
set_option Elab.async false
set_option linter.all false
set_option maxRecDepth 100000
set_option maxHeartbeats 4000000
/-! SE0: values; what the head tells, as Booleans. -/
namespace SE
open PySem PySem.Spec PyProof.Rows L2
/-- a value: a tree of what never changes; loc l is the l-th object that may change -/
inductive D where
  | non | bl (b : Bool) | int (i : Int) | str (x : Str)
  | tup (xs : List D) | lst (xs : List D) | ro (xs : List D) | dct (kvs : List (Key × D))
  | loc (l : Nat)
  /-- a built-in type; a class or a def of the text, by its global name -/
  | ty (n : String) | gl (x : Str)
  /-- an exception object of the text: the name of its class, its own fields -/
  | err (cls : Str) (fs : List (Str × D))
  /-- a lambda that was handed on: the slots of the def that made it -/
  | clo (ρ : List (Option D))
  /-- an object of a class of the text that nothing here changes: the class's name, its own fields -/
  | obj (cls : Str) (fs : List (Str × D))
deriving Inhabited

/-! ### what the top says of an exception's class -/
/-- the built-in class behind an own exception -/
inductive EB where
  | ve | le | ae
def EB.n : EB → String
  | .ve => "ValueError"
  | .le => "LookupError"
  | .ae => "ArithmeticError"
def EB.new : EB → String
  | .ve => "ValueError.__new__"
  | .le => "LookupError.__new__"
  | .ae => "ArithmeticError.__new__"
def EB.ini : EB → String
  | .ve => "ValueError.__init__"
  | .le => "LookupError.__init__"
  | .ae => "ArithmeticError.__init__"
def EB.tail (b : EB) : List Value := [.type b.n, .type "Exception", .type "BaseException", .type "object"]
/-- own classes, then the built-in one's mro -/
def tailG (b : EB) : List Value → Bool
  | .ref _ :: r => tailG b r
  | l => l == b.tail
def oexB1 (b : EB) (K : PySem.W.Frag) (C : Addr) : Bool := match K.lookup C with
  | some ⟨.type t, _, .cls cd, sl⟩ => decide (t = "type") && (match cd.mro, sl.toList with
    | .ref C' :: bm, [_, _, _, _, some (.builtin n), _] => decide (C' = C) && (decide (n = b.new) && (!cd.hasDel && (tailG b bm && cd.hasDict)))
    | _, _ => false)
  | _ => false
def oexB (K : PySem.W.Frag) (C : Addr) : Bool := (oexB1 .ve K C || (oexB1 .le K C || oexB1 .ae K C)) && (decide (PySem.W.findIn K (.ref C) "__setattr__" = some (some (.builtin "object.__setattr__"))) && (decide (PySem.W.subIn K (.ref C) (.type "BaseException") = some true) && (decide (PySem.W.typeIn K (.ref C) = some (.type "type")) && PySem.W.keepIn K (.ref C))))
/-- one without an __init__ of its own -/
def err0B (K : PySem.W.Frag) (c : Str) : Bool := (PySem.W.excIn K (He.ga K c) EB.ve.tail EB.ve.new || (PySem.W.excIn K (He.ga K c) EB.le.tail EB.le.new || PySem.W.excIn K (He.ga K c) EB.ae.tail EB.ae.new)) && PySem.W.keepIn K (.ref (He.ga K c))
def errB (K : PySem.W.Frag) (c fld : Str) : Bool := oexB K (He.ga K c) && (decide (PySem.W.findIn K (.ref (He.ga K c)) "__init__" = some (some (.ref (He.ma K (He.ga K c) "__init__")))) && (decide (PySem.W.typeIn K (.ref (He.ma K (He.ga K c) "__init__")) = some (.type "function")) && decide (PySem.W.findIn K (.ref (He.ga K c)) fld = some none)))
/-- a class, its bases of the text, its built-in bases -/
structure ClsE where
  c : Str
  ups : List Str
  bs : List String
structure CT where
  es : List ClsE
  ns : List Str
  ts : List String
def clsInit : Stmt → Stmt
  | .ClassDef _ _ _ (st :: _) _ _ _ _ _ _ _ => st
  | x => x
/-- a class whose objects object's own __init__ makes; a method of it -/
def mk0B (K : PySem.W.Frag) (c : Str) : Bool := PySem.W.makesIn K (He.ga K c) && (decide (PySem.W.findIn K (.ref (He.ga K c)) "__init__" = some (some (.builtin "object.__init__"))) && (PySem.W.keepIn K (.ref (He.ga K c)) && (decide (PySem.W.mroIn K (He.ga K c) (.type "object") = some true) &&
  (PySem.W.plainGet K (He.ga K c) Str.empty && (PySem.W.hasDictIn K (He.ga K c) && (PySem.W.plainOver K (He.ga K c) && decide (PySem.W.findIn K (.ref (He.ga K c)) "__setattr__" = some (some (.builtin "object.__setattr__")))))))))
def methB (K : PySem.W.Frag) (c m : Str) : Bool := decide (PySem.W.findIn K (.ref (He.ga K c)) m = some (some (.ref (He.ma K (He.ga K c) m)))) && (PySem.W.isFn K (.ref (He.ma K (He.ga K c) m)) && PySem.W.keepIn K (.ref (He.ma K (He.ga K c) m)))
def clsDef (n : Nat) : Stmt → Stmt
  | .ClassDef _ _ _ body _ _ _ _ _ _ _ => body.getD n (.Pass ⟨0, 0, 0, 0⟩)
  | x => x
def atB (K : PySem.W.Frag) (cs : List Str) (f : Str) : Bool := cs.all fun c => xfB K (He.ga K c) && decide (PySem.W.findIn K (.ref (He.ga K c)) f = some none)
def excB (K : PySem.W.Frag) (D : Addr) : Bool := decide (PySem.W.findIn K (.ref D) "__getattribute__" = some (some (.builtin "BaseException.__getattribute__"))) && (decide (PySem.W.findIn K (.ref D) "__getattr__" = some none) && (decide (PySem.W.subIn K (.ref D) (.type "BaseException") = some true) &&
  (PySem.W.hasDictIn K D && (decide (PySem.W.findIn K (.ref D) "__class__" = some (some (.builtin "object.__class__"))) && (decide (PySem.W.specialIn K (.builtin "object.__class__") "__get__" = some (some (.builtin "getset_descriptor.__get__"))) && (decide (PySem.W.takesIn K (.builtin "object.__class__") = some true) && decide (PySem.W.mroIn K D (.type "object") = some true)))))))
def ctB (K : PySem.W.Frag) (ct : CT) : Bool := ct.es.all fun e => excB K (He.ga K e.c) && ((ct.ns.all fun T => decide (PySem.W.kitOne K (.ref (He.ga K e.c)) (.ref (He.ga K T)) = some (e.ups.contains T))) && ct.ts.all fun T => decide (PySem.W.kitOne K (.ref (He.ga K e.c)) (.type T) = some (e.bs.contains T)))
def mtL (l : List (Str × Bool)) : Str → Option Bool := fun c => l.lookup c
def mtB (K : PySem.W.Frag) (l : List (Str × Bool)) (as : List Str) : Bool := l.all fun q => match as with
  | [a] => decide (PySem.W.exmOne K (.ref (He.ga K q.1)) (.ref (He.ga K a)) = some q.2)
  | as => decide (PySem.W.exmAny K (.ref (He.ga K q.1)) (as.map fun a => .ref (He.ga K a)) = some q.2)
mutual
def datB (K : PySem.W.Frag) : D → Value → Bool
  | .non, .none => true
  | .bl b, .bool c => decide (b = c)
  | .int i, .int j _ => decide (i = j)
  | .str x, .str y _ => decide (x = y)
  | .tup ds, .ref a => (match K.lookup a with
    | some ⟨cl, _, .seq its _, _⟩ => decide (cl = .type "tuple") && (decide (its.size ≤ sizeLine) && datLB K ds its.toList)
    | _ => false)
  | _, _ => false
def datLB (K : PySem.W.Frag) : List D → List Value → Bool
  | [], [] => true
  | d :: ds, v :: vs => datB K d v && datLB K ds vs
  | _, _ => false
end
def conB (K : PySem.W.Frag) (x : Str) (d : D) : Bool := match PySem.W.nsIn K mainGlobals x with
  | some (some u) => datB K d u
  | _ => false
def entB (K : PySem.W.Frag) : List DictEntry → List (Str × D) → Bool
  | [], [] => true
  | e :: es, (k, d) :: r => (match e.key with
    | .str y _ => decide (y = k)
    | _ => false) && (datB K d e.val && entB K es r)
  | _, _ => false
def kdB (K : PySem.W.Frag) (x : Str) (kvs : List (Str × D)) : Bool := match K.lookup (He.ga K x) with
  | some ⟨_, _, .dict es _, _⟩ => entB K es.toList kvs
  | _ => false
/-! ### the Hook -/
def sysB (g : Addr → Option Obj) : Bool := match g sysModules with
  | some ⟨_, _, .dict _ _, _⟩ => true
  | _ => false
theorem sysB_ok {g : Addr → Option Obj} (h : sysB g = true) : ∃ oS esS epS, g sysModules = some oS ∧ oS.data = .dict esS epS := by
  unfold sysB at h
  split at h
  · rename_i e
    exact ⟨_, _, _, e, rfl⟩
  · cases h
structure SaysY (fa : List He.Fa) (fn : List He.DefD) (tf : List He.Defn) (ex : PySem.W.Frag → Bool) (w : World) (h : Heap) (K : PySem.W.Frag) : Prop where
  x : He.SaysX fa fn [] tf ex w h K
  sys : ∃ oS esS epS, h.get? sysModules = some oS ∧ oS.data = .dict esS epS
def hookY (n : Nat) (fa : List He.Fa) (fn : List He.DefD) (tf : List He.Defn) (ex : PySem.W.Frag → Bool) : PySem.W.Hook where
  α := He.AlX × Bool
  obs := fun s => (He.obsX n fa fn [] tf ex s.heap.get?, sysB s.heap.get?)
  val := fun w => (He.valX fn [] w, true)
  says := fun w h => ∃ K : PySem.W.Frag, K.In h ∧ SaysY fa fn tf ex w h K
  of := fun _ _ e => ⟨_, He.frT_in, He.saysX_of (congrArg Prod.fst e), sysB_ok (congrArg Prod.snd e)⟩
  keeps := fun _ _ _ ⟨K, hK, c⟩ k => ⟨K, PySem.W.Frag.In.keeps hK k, ⟨c.x.t, c.x.more, c.x.hd, c.x.out, fun p hp => k _ _ (c.x.empty p hp)⟩, let ⟨o, es, ep, e, d⟩ := c.sys; ⟨o, es, ep, k _ _ e, d⟩⟩
def obsY (n : Nat) (fa : List He.Fa) (fn : List He.DefD) (tf : List He.Defn) (ex : PySem.W.Frag → Bool) (g : Addr → Option Obj) : He.AlX × Bool := (He.obsX n fa fn [] tf ex g, sysB g)
theorem obsY_eq {n : Nat} {fa : List He.Fa} {fn : List He.DefD} {tf : List He.Defn} {ex : PySem.W.Frag → Bool} {g : Addr → Option Obj} {s : Shared} (h : ∀ a, g a = s.heap.get? a) : obsY n fa fn tf ex g = (hookY n fa fn tf ex).obs s := by
  have e : g = s.heap.get? := funext h
  rw [e]
  rfl
/-! ### the run's equation in parts: each part runs the head anew, the kernel keeps less at once -/
section
variable {σ α β : Type} {x : Option σ}
theorem map_pair {f : σ → α} {g : σ → β} {u : α} {v : β} (h1 : x.map f = some u) (h2 : x.map g = some v) : x.map (fun s => (f s, g s)) = some (u, v) := by
  cases x with
  | none => cases h1
  | some s =>
    have e1 : f s = u := Option.some.inj h1
    have e2 : g s = v := Option.some.inj h2
    show some (f s, g s) = _
    rw [e1, e2]
theorem map_and {f g : σ → Bool} (h1 : x.map f = some true) (h2 : x.map g = some true) : x.map (fun s => f s && g s) = some true := by
  cases x with
  | none => cases h1
  | some s =>
    have e1 : f s = true := Option.some.inj h1
    have e2 : g s = true := Option.some.inj h2
    show some (f s && g s) = _
    rw [e1, e2]
    rfl
theorem map_cut {f : σ → List Bool} (n : Nat) (h1 : x.map (fun s => ((f s).take n).all id) = some true) (h2 : x.map (fun s => ((f s).drop n).all id) = some true) : x.map (fun s => (f s).all id) = some true := by
  cases x with
  | none => cases h1
  | some s =>
    have e1 : ((f s).take n).all id = true := Option.some.inj h1
    have e2 : ((f s).drop n).all id = true := Option.some.inj h2
    show some ((f s).all id) = _
    rw [← List.take_append_drop n (f s), List.all_append, e1, e2]
    rfl
theorem map_obsD {k : σ → PySem.W.Frag} {fa fb : List He.Fa} {fn fm : List He.DefD} (h1 : x.map (fun s => He.obsD fa fn (k s)) = some (He.valD fn)) (h2 : x.map (fun s => He.obsD fb fm (k s)) = some (He.valD fm)) : x.map (fun s => He.obsD (fa ++ fb) (fn ++ fm) (k s)) = some (He.valD (fn ++ fm)) := by
  cases x with
  | none => cases h1
  | some s =>
    have e1 : He.obsD fa fn (k s) = He.valD fn := Option.some.inj h1
    have e2 : He.obsD fb fm (k s) = He.valD fm := Option.some.inj h2
    show some (He.obsD (fa ++ fb) (fn ++ fm) (k s)) = _
    congr 1
    have a1 := congrArg Prod.fst e1
    have a2 := congrArg Prod.snd e1
    have b1 := congrArg Prod.fst e2
    have b2 := congrArg Prod.snd e2
    have c1 : ((fa.all fun f => f.ok (k s)) && fn.all fun d => d.ok (k s)) = true := a1
    have d1 : ((fb.all fun f => f.ok (k s)) && fm.all fun d => d.ok (k s)) = true := b1
    have c2 : (fn.map fun d => He.fnW (k s) d.at_) = fn.map He.DefD.val := a2
    have d2 : (fm.map fun d => He.fnW (k s) d.at_) = fm.map He.DefD.val := b2
    obtain ⟨p1, p2⟩ := Bool.and_eq_true_iff.mp c1
    obtain ⟨q1, q2⟩ := Bool.and_eq_true_iff.mp d1
    show (((fa ++ fb).all fun f => f.ok (k s)) && (fn ++ fm).all fun d => d.ok (k s), (fn ++ fm).map fun d => He.fnW (k s) d.at_) = (true, (fn ++ fm).map He.DefD.val)
    rw [List.all_append, List.all_append, p1, p2, q1, q2, List.map_append, List.map_append, c2, d2]
    rfl
end
section
open PySem.W PySem.Calls HandSHeadRun
/-- the run that the parts look at -/
noncomputable abbrev runO (R : OpenRow) (M : Nat) (w : World) (os : OsState) : Option SharedT := endF (stepQ (denQ tabQ) R.prog w) M R.prog w os
noncomputable abbrev runK (n : Nat) (s : SharedT) : PySem.W.Frag := He.frT (getT s) (He.asD (getT s) n)
theorem run_of {R : OpenRow} {q : Program} {n M : Nat} {fa : List He.Fa} {fn : List He.DefD} {tf : List He.Defn} {ex : PySem.W.Frag → Bool} {loose : List PySem.Str} {w : World}
    (hL : ∀ os, (runO R M w os).map (fun s => looksF R.prog (boot_heap w.params) s.abs) = some true)
    (hS : ∀ os, (runO R M w os).map (fun s => seenQ q loose (importedModules R.prog.main.body) (fun s => xlAt q [] s && recOk R.toRowW.records s) s.abs) = some (openGood q loose))
    (hD : ∀ os, (runO R M w os).map (fun s => He.obsD fa fn (runK n s)) = some (He.valD fn))
    (hE : ∀ os, (runO R M w os).map (fun s => ex (runK n s)) = some true)
    (hT : ∀ os, (runO R M w os).map (fun s => He.tabsB (getT s) tf (runK n s)) = some true)
    (hY : ∀ os, (runO R M w os).map (fun s => sysB (getT s)) = some true) :
    RunEq R q (hookY n fa fn tf ex) (fun s => obsY n fa fn tf ex (getT s)) M loose w := fun os => by
  have hX : (runO R M w os).map (fun s => ((He.obsD fa fn (runK n s), ([] : List (Option (List (Option (Str × Int)))))), (ex (runK n s) && He.tabsB (getT s) tf (runK n s)))) = some ((He.valD fn, []), true) :=
    map_pair (f := fun s => (He.obsD fa fn (runK n s), ([] : List (Option (List (Option (Str × Int))))))) (map_pair (g := fun _ => []) (hD os) (by
      have := hL os
      cases h : runO R M w os with
      | none => rw [h] at this; cases this
      | some s => rfl)) (map_and (hE os) (hT os))
  exact map_pair (hL os) (map_pair (hS os) (map_pair hX (hY os)))
end
/-! ### fewer objects: what these names hold, what the deep ones of them lead to -/
def growQ (g : Addr → Option Obj) : Nat → List Addr → List Addr → List Addr
  | 0, _, seen => seen
  | n + 1, fr, seen => (fun fr' => growQ g n fr' (seen ++ fr')) (((fr.flatMap fun a => match g a with
    | some o => He.refsD o
    | none => []).eraseDups).filter fun a => !seen.contains a)
def asP (n : Nat) (deep flat : List Str) (g : Addr → Option Obj) : List Addr :=
  (fun (K0 : PySem.W.Frag) => (fun (ds fs : List Addr) => growQ g n ds (mainGlobals :: (ds ++ fs))) (deep.map (He.ga K0)) (flat.map (He.ga K0))) (He.frT g [mainGlobals])
def obsP (as : (Addr → Option Obj) → List Addr) (fa : List He.Fa) (fn : List He.DefD) (tf : List He.Defn) (ex : PySem.W.Frag → Bool) (g : Addr → Option Obj) : He.AlX := (He.obsT fa fn [] (He.frT g (as g)), ex (He.frT g (as g)) && He.tabsB g tf (He.frT g (as g)))
theorem saysP_of {as : (Addr → Option Obj) → List Addr} {fa : List He.Fa} {fn : List He.DefD} {tf : List He.Defn} {ex : PySem.W.Frag → Bool} {w : World} {h : Heap} (e : obsP as fa fn tf ex h.get? = He.valX fn [] w) : He.SaysX fa fn [] tf ex w h (He.frT h.get? (as h.get?)) := by
  have e1 : He.obsT fa fn [] (He.frT h.get? (as h.get?)) = He.valT fn [] w := congrArg (fun z : He.AlX => z.1) e
  have e2 : (ex (He.frT h.get? (as h.get?)) && He.tabsB h.get? tf (He.frT h.get? (as h.get?))) = true := congrArg (fun z : He.AlX => z.2) e
  obtain ⟨h1, h2⟩ := Bool.and_eq_true_iff.mp e2
  have key : ∀ p ∈ tf, PySem.W.codeHdIn (He.frT h.get? (as h.get?)) (He.cT (He.frT h.get? (as h.get?)) p).1 (He.cT (He.frT h.get? (as h.get?)) p).2 = true ∧ ∃ o, h.get? (He.cT (He.frT h.get? (as h.get?)) p).2 = some o ∧ He.emptyTab o = true := fun p hp => by
    obtain ⟨h3, h4⟩ := Bool.and_eq_true_iff.mp (List.all_eq_true.mp h2 p hp)
    refine ⟨h3, ?_⟩
    cases q : h.get? (He.cT (He.frT h.get? (as h.get?)) p).2 with
    | none =>
      rw [q] at h4
      cases h4
    | some o =>
      rw [q] at h4
      exact ⟨o, rfl, h4⟩
  exact ⟨e1, h1, fun p hp => (key p hp).1, fun p hp => by
    obtain ⟨_, o, q, z⟩ := key p hp
    exact He.frT_none q z, fun p hp => by
    obtain ⟨_, o, q, z⟩ := key p hp
    rw [q, He.emptyTab_eq z]⟩
def hookP (as : (Addr → Option Obj) → List Addr) (fa : List He.Fa) (fn : List He.DefD) (tf : List He.Defn) (ex : PySem.W.Frag → Bool) : PySem.W.Hook where
  α := He.AlX × Bool
  obs := fun s => (obsP as fa fn tf ex s.heap.get?, sysB s.heap.get?)
  val := fun w => (He.valX fn [] w, true)
  says := fun w h => ∃ K : PySem.W.Frag, K.In h ∧ SaysY fa fn tf ex w h K
  of := fun _ _ e => ⟨_, He.frT_in, saysP_of (congrArg Prod.fst e), sysB_ok (congrArg Prod.snd e)⟩
  keeps := fun _ _ _ ⟨K, hK, c⟩ k => ⟨K, PySem.W.Frag.In.keeps hK k, ⟨c.x.t, c.x.more, c.x.hd, c.x.out, fun p hp => k _ _ (c.x.empty p hp)⟩, let ⟨o, es, ep, e, d⟩ := c.sys; ⟨o, es, ep, k _ _ e, d⟩⟩
def obsZ (as : (Addr → Option Obj) → List Addr) (fa : List He.Fa) (fn : List He.DefD) (tf : List He.Defn) (ex : PySem.W.Frag → Bool) (g : Addr → Option Obj) : He.AlX × Bool := (obsP as fa fn tf ex g, sysB g)
theorem obsZ_eq {as : (Addr → Option Obj) → List Addr} {fa : List He.Fa} {fn : List He.DefD} {tf : List He.Defn} {ex : PySem.W.Frag → Bool} {g : Addr → Option Obj} {s : Shared} (h : ∀ a, g a = s.heap.get? a) : obsZ as fa fn tf ex g = (hookP as fa fn tf ex).obs s := by
  have e : g = s.heap.get? := funext h
  rw [e]
  rfl
section
open PySem.W PySem.Calls HandSHeadRun
noncomputable abbrev runP (as : (Addr → Option Obj) → List Addr) (s : SharedT) : PySem.W.Frag := He.frT (getT s) (as (getT s))
theorem run_ofP {R : OpenRow} {q : Program} {as : (Addr → Option Obj) → List Addr} {M : Nat} {fa : List He.Fa} {fn : List He.DefD} {tf : List He.Defn} {ex : PySem.W.Frag → Bool} {loose : List PySem.Str} {w : World}
    (hL : ∀ os, (runO R M w os).map (fun s => looksF R.prog (boot_heap w.params) s.abs) = some true)
    (hS : ∀ os, (runO R M w os).map (fun s => seenQ q loose (importedModules R.prog.main.body) (fun s => xlAt q [] s && recOk R.toRowW.records s) s.abs) = some (openGood q loose))
    (hD : ∀ os, (runO R M w os).map (fun s => He.obsD fa fn (runP as s)) = some (He.valD fn))
    (hE : ∀ os, (runO R M w os).map (fun s => ex (runP as s)) = some true)
    (hT : ∀ os, (runO R M w os).map (fun s => He.tabsB (getT s) tf (runP as s)) = some true)
    (hY : ∀ os, (runO R M w os).map (fun s => sysB (getT s)) = some true) :
    RunEq R q (hookP as fa fn tf ex) (fun s => obsZ as fa fn tf ex (getT s)) M loose w := fun os => by
  have hX : (runO R M w os).map (fun s => ((He.obsD fa fn (runP as s), ([] : List (Option (List (Option (Str × Int)))))), (ex (runP as s) && He.tabsB (getT s) tf (runP as s)))) = some ((He.valD fn, []), true) :=
    map_pair (f := fun s => (He.obsD fa fn (runP as s), ([] : List (Option (List (Option (Str × Int))))))) (map_pair (g := fun _ => []) (hD os) (by
      have := hL os
      cases h : runO R M w os with
      | none => rw [h] at this; cases this
      | some s => rfl)) (map_and (hE os) (hT os))
  exact map_pair (hL os) (map_pair (hS os) (map_pair hX (hY os)))
end
/-! ### .. with written dicts -/
structure SaysYT (fa : List He.Fa) (fn : List He.DefD) (ts : List He.Tab) (tf : List He.Defn) (ex : PySem.W.Frag → Bool) (w : World) (h : Heap) (K : PySem.W.Frag) : Prop where
  x : He.SaysX fa fn ts tf ex w h K
  sys : ∃ oS esS epS, h.get? sysModules = some oS ∧ oS.data = .dict esS epS
def obsPT (as : (Addr → Option Obj) → List Addr) (fa : List He.Fa) (fn : List He.DefD) (ts : List He.Tab) (tf : List He.Defn) (ex : PySem.W.Frag → Bool) (g : Addr → Option Obj) : He.AlX := (He.obsT fa fn ts (He.frT g (as g)), ex (He.frT g (as g)) && He.tabsB g tf (He.frT g (as g)))
theorem saysPT_of {as : (Addr → Option Obj) → List Addr} {fa : List He.Fa} {fn : List He.DefD} {ts : List He.Tab} {tf : List He.Defn} {ex : PySem.W.Frag → Bool} {w : World} {h : Heap} (e : obsPT as fa fn ts tf ex h.get? = He.valX fn ts w) : He.SaysX fa fn ts tf ex w h (He.frT h.get? (as h.get?)) := by
  have e1 : He.obsT fa fn ts (He.frT h.get? (as h.get?)) = He.valT fn ts w := congrArg (fun z : He.AlX => z.1) e
  have e2 : (ex (He.frT h.get? (as h.get?)) && He.tabsB h.get? tf (He.frT h.get? (as h.get?))) = true := congrArg (fun z : He.AlX => z.2) e
  obtain ⟨h1, h2⟩ := Bool.and_eq_true_iff.mp e2
  have key : ∀ p ∈ tf, PySem.W.codeHdIn (He.frT h.get? (as h.get?)) (He.cT (He.frT h.get? (as h.get?)) p).1 (He.cT (He.frT h.get? (as h.get?)) p).2 = true ∧ ∃ o, h.get? (He.cT (He.frT h.get? (as h.get?)) p).2 = some o ∧ He.emptyTab o = true := fun p hp => by
    obtain ⟨h3, h4⟩ := Bool.and_eq_true_iff.mp (List.all_eq_true.mp h2 p hp)
    refine ⟨h3, ?_⟩
    cases q : h.get? (He.cT (He.frT h.get? (as h.get?)) p).2 with
    | none =>
      rw [q] at h4
      cases h4
    | some o =>
      rw [q] at h4
      exact ⟨o, rfl, h4⟩
  exact ⟨e1, h1, fun p hp => (key p hp).1, fun p hp => by
    obtain ⟨_, o, q, z⟩ := key p hp
    exact He.frT_none q z, fun p hp => by
    obtain ⟨_, o, q, z⟩ := key p hp
    rw [q, He.emptyTab_eq z]⟩
def hookPT (as : (Addr → Option Obj) → List Addr) (fa : List He.Fa) (fn : List He.DefD) (ts : List He.Tab) (tf : List He.Defn) (ex : PySem.W.Frag → Bool) : PySem.W.Hook where
  α := He.AlX × Bool
  obs := fun s => (obsPT as fa fn ts tf ex s.heap.get?, sysB s.heap.get?)
  val := fun w => (He.valX fn ts w, true)
  says := fun w h => ∃ K : PySem.W.Frag, K.In h ∧ SaysYT fa fn ts tf ex w h K
  of := fun _ _ e => ⟨_, He.frT_in, saysPT_of (congrArg Prod.fst e), sysB_ok (congrArg Prod.snd e)⟩
  keeps := fun _ _ _ ⟨K, hK, c⟩ k => ⟨K, PySem.W.Frag.In.keeps hK k, ⟨c.x.t, c.x.more, c.x.hd, c.x.out, fun p hp => k _ _ (c.x.empty p hp)⟩, let ⟨o, es, ep, e, d⟩ := c.sys; ⟨o, es, ep, k _ _ e, d⟩⟩
def obsZT (as : (Addr → Option Obj) → List Addr) (fa : List He.Fa) (fn : List He.DefD) (ts : List He.Tab) (tf : List He.Defn) (ex : PySem.W.Frag → Bool) (g : Addr → Option Obj) : He.AlX × Bool := (obsPT as fa fn ts tf ex g, sysB g)
theorem obsZT_eq {as : (Addr → Option Obj) → List Addr} {fa : List He.Fa} {fn : List He.DefD} {ts : List He.Tab} {tf : List He.Defn} {ex : PySem.W.Frag → Bool} {g : Addr → Option Obj} {s : Shared} (h : ∀ a, g a = s.heap.get? a) : obsZT as fa fn ts tf ex g = (hookPT as fa fn ts tf ex).obs s := by
  have e : g = s.heap.get? := funext h
  rw [e]
  rfl
section
open PySem.W PySem.Calls HandSHeadRun
theorem run_ofPT {R : OpenRow} {q : Program} {as : (Addr → Option Obj) → List Addr} {M : Nat} {fa : List He.Fa} {fn : List He.DefD} {ts : List He.Tab} {tf : List He.Defn} {ex : PySem.W.Frag → Bool} {loose : List PySem.Str} {w : World}
    (hL : ∀ os, (runO R M w os).map (fun s => looksF R.prog (boot_heap w.params) s.abs) = some true)
    (hS : ∀ os, (runO R M w os).map (fun s => seenQ q loose (importedModules R.prog.main.body) (fun s => xlAt q [] s && recOk R.toRowW.records s) s.abs) = some (openGood q loose))
    (hD : ∀ os, (runO R M w os).map (fun s => He.obsD fa fn (runP as s)) = some (He.valD fn))
    (hE : ∀ os, (runO R M w os).map (fun s => ex (runP as s)) = some true)
    (hT : ∀ os, (runO R M w os).map (fun s => He.tabsB (getT s) tf (runP as s)) = some true)
    (hB : ∀ os, (runO R M w os).map (fun s => ts.map fun t => He.dicW (runP as s) (t.1 (runP as s))) = some (ts.map fun t => some (He.keysIn w.params t.2)))
    (hY : ∀ os, (runO R M w os).map (fun s => sysB (getT s)) = some true) :
    RunEq R q (hookPT as fa fn ts tf ex) (fun s => obsZT as fa fn ts tf ex (getT s)) M loose w := fun os => by
  have hX : (runO R M w os).map (fun s => ((He.obsD fa fn (runP as s), (ts.map fun t => He.dicW (runP as s) (t.1 (runP as s)))), (ex (runP as s) && He.tabsB (getT s) tf (runP as s)))) = some ((He.valD fn, ts.map fun t => some (He.keysIn w.params t.2)), true) :=
    map_pair (f := fun s => (He.obsD fa fn (runP as s), (ts.map fun t => He.dicW (runP as s) (t.1 (runP as s))))) (map_pair (hD os) (hB os)) (map_and (hE os) (hT os))
  exact map_pair (hL os) (map_pair (hS os) (map_pair hX (hY os)))
end
end SE

namespace Zk37
open PySem PySem.Spec PyProof.Rows L2 SE
def topS (i : Nat) : Stmt := PySem.Challenge.pw_layertrees_k37_test_pixels.main.body.getD i (.Pass ⟨0, 0, 0, 0⟩)
abbrev s_is_integer : Stmt := topS 39
abbrev s_common_divisor : Stmt := topS 40
abbrev s_lowest : Stmt := topS 41
abbrev s_is_less : Stmt := topS 42
abbrev s_is_ratio : Stmt := topS 43
abbrev s_is_share : Stmt := topS 44
abbrev s_is_pixel : Stmt := topS 49
abbrev s_is_kind : Stmt := topS 50
abbrev s_check_pixel : Stmt := topS 51
abbrev s_check_kind : Stmt := topS 52
abbrev s_is_let : Stmt := topS 53
abbrev s_has_kind : Stmt := topS 54
abbrev s_kind_tests : Stmt := topS 57
abbrev s_test_pixels : Stmt := topS 58
abbrev s__law_cell : Stmt := topS 60
abbrev s__law_pool : Stmt := topS 61
abbrev s__law_take : Stmt := topS 62
abbrev s__law_pick : Stmt := topS 63
abbrev s__law_low : Stmt := topS 64
abbrev s__law_add : Stmt := topS 65
abbrev s__law_less : Stmt := topS 66
abbrev s__law_lattice : Stmt := topS 67
abbrev s__law_kind : Stmt := topS 68
abbrev s__law_field : Stmt := topS 69
abbrev s__law_caught : Stmt := topS 70
abbrev s__law_told_right : Stmt := topS 71
abbrev s__law_refused_right : Stmt := topS 72
abbrev s__law_right : Stmt := topS 73
abbrev s_law : Stmt := topS 74
abbrev s_InvalidKind : Stmt := clsInit (topS 5)
abbrev s_InvalidNumber : Stmt := clsInit (topS 8)
abbrev s_InvalidPixel : Stmt := clsInit (topS 3)
/-! ### classes, tables -/
def atc : List Str := ["InvalidKind", "InvalidNumber", "InvalidPixel"]
def ct : CT := ⟨[⟨"InvalidKind", ["InvalidKind", "InputError"], ["ValueError"]⟩, ⟨"InvalidNumber", ["InvalidNumber", "InputError"], ["ValueError"]⟩, ⟨"InvalidPixel", ["InvalidPixel", "InputError"], ["ValueError"]⟩], "Busy" :: "Closed" :: "InputError" :: "InvalidForm" :: "InvalidKind" :: "InvalidKinds" :: "InvalidLayers" :: "InvalidLine" :: "InvalidMode" :: "InvalidName" :: "InvalidNumber" :: "InvalidOption" :: "InvalidPath" :: "InvalidPixel" :: "InvalidRows" :: "InvalidShare" :: "InvalidSpot" :: "InvalidSpots" :: "InvalidStrokes" :: "InvalidTable" :: "InvalidText" :: "InvalidTree" :: "InvalidTrees" :: "LimitError" :: "MissingSpot" :: "NotALayer" :: "NotAPicture" :: "NotAStack" :: "NothingToUndo" :: "StateError" :: "TooMany" :: "UnknownPicture" :: "UsedOften" :: "WrongKind" :: "WrongSize" :: [], "ArithmeticError" :: "LookupError" :: "ValueError" :: []⟩
def mtl_0 : List (Str × Bool) := [("InvalidKind", true), ("InvalidNumber", true), ("InvalidPixel", true)]
abbrev mt_0 : Str → Option Bool := mtL mtl_0
def cs (K : PySem.W.Frag) : List (Addr × Addr) := [He.cT K ("_law_refused_right", none)]
def TT (K : PySem.W.Frag) : List (Addr × Str) := [((He.cT K ("_law_refused_right", none)).2, ("_law_refused_right" : Str) ++ ".<locals>." ++ "<lambda>")]
def c_CLEAR : D := (.tup [(.tup [(.int 0), (.int 1)]), (.tup [(.int 0), (.int 1)])])
def c_KINDS : D := (.tup [(.str "free"), (.str "solid"), (.str "cutout"), (.str "white"), (.str "stencil")])
def c_MAX_NODES : D := (.int 200)
def c_ONE : D := (.tup [(.int 1), (.int 1)])
def c_WHITE : D := (.tup [(.tup [(.int 1), (.int 1)]), (.tup [(.int 1), (.int 1)])])
def c_ZERO : D := (.tup [(.int 0), (.int 1)])
def tsD : List He.Tab := []
def fx (K : PySem.W.Frag) : List Bool := [errB K "InvalidKind" "kind", errB K "InvalidNumber" "number", errB K "InvalidPixel" "value", atB K atc "form", atB K atc "index", atB K atc "kind", atB K atc "limit", atB K atc "line", atB K atc "mode", atB K atc "name", atB K atc "number", atB K atc "path", atB K atc "spot", atB K atc "table", atB K atc "text", atB K atc "value", ctB K ct, mtB K mtl_0 ["InputError", "StateError", "LimitError"], conB K "CLEAR" c_CLEAR, conB K "KINDS" c_KINDS, conB K "MAX_NODES" c_MAX_NODES, conB K "ONE" c_ONE, conB K "WHITE" c_WHITE, conB K "ZERO" c_ZERO, decide (((TT K).map (·.1)).Nodup), (K.lookup sysModules).isNone]
def ex (K : PySem.W.Frag) : Bool := (fx K).all id
def e_is_integer : He.DefD := ⟨("is_integer", none), "is_integer", "is_integer", defArgs s_is_integer, defBody s_is_integer, defScope s_is_integer, [], []⟩
def e_common_divisor : He.DefD := ⟨("common_divisor", none), "common_divisor", "common_divisor", defArgs s_common_divisor, defBody s_common_divisor, defScope s_common_divisor, [], []⟩
def e_lowest : He.DefD := ⟨("lowest", none), "lowest", "lowest", defArgs s_lowest, defBody s_lowest, defScope s_lowest, [], []⟩
def e_is_less : He.DefD := ⟨("is_less", none), "is_less", "is_less", defArgs s_is_less, defBody s_is_less, defScope s_is_less, [], []⟩
def e_is_ratio : He.DefD := ⟨("is_ratio", none), "is_ratio", "is_ratio", defArgs s_is_ratio, defBody s_is_ratio, defScope s_is_ratio, [], []⟩
def e_is_share : He.DefD := ⟨("is_share", none), "is_share", "is_share", defArgs s_is_share, defBody s_is_share, defScope s_is_share, [], []⟩
def e_is_pixel : He.DefD := ⟨("is_pixel", none), "is_pixel", "is_pixel", defArgs s_is_pixel, defBody s_is_pixel, defScope s_is_pixel, [], []⟩
def e_is_kind : He.DefD := ⟨("is_kind", none), "is_kind", "is_kind", defArgs s_is_kind, defBody s_is_kind, defScope s_is_kind, [], []⟩
def e_check_pixel : He.DefD := ⟨("check_pixel", none), "check_pixel", "check_pixel", defArgs s_check_pixel, defBody s_check_pixel, defScope s_check_pixel, [], []⟩
def e_check_kind : He.DefD := ⟨("check_kind", none), "check_kind", "check_kind", defArgs s_check_kind, defBody s_check_kind, defScope s_check_kind, [], []⟩
def e_is_let : He.DefD := ⟨("is_let", none), "is_let", "is_let", defArgs s_is_let, defBody s_is_let, defScope s_is_let, [], []⟩
def e_has_kind : He.DefD := ⟨("has_kind", none), "has_kind", "has_kind", defArgs s_has_kind, defBody s_has_kind, defScope s_has_kind, [], []⟩
def e_kind_tests : He.DefD := ⟨("kind_tests", none), "kind_tests", "kind_tests", defArgs s_kind_tests, defBody s_kind_tests, defScope s_kind_tests, [], []⟩
def e_test_pixels : He.DefD := ⟨("test_pixels", none), "test_pixels", "test_pixels", defArgs s_test_pixels, defBody s_test_pixels, defScope s_test_pixels, [], []⟩
def e__law_cell : He.DefD := ⟨("_law_cell", none), "_law_cell", "_law_cell", defArgs s__law_cell, defBody s__law_cell, defScope s__law_cell, [], []⟩
def e__law_pool : He.DefD := ⟨("_law_pool", none), "_law_pool", "_law_pool", defArgs s__law_pool, defBody s__law_pool, defScope s__law_pool, [], []⟩
def e__law_take : He.DefD := ⟨("_law_take", none), "_law_take", "_law_take", defArgs s__law_take, defBody s__law_take, defScope s__law_take, [], []⟩
def e__law_pick : He.DefD := ⟨("_law_pick", none), "_law_pick", "_law_pick", defArgs s__law_pick, defBody s__law_pick, defScope s__law_pick, [], []⟩
def e__law_low : He.DefD := ⟨("_law_low", none), "_law_low", "_law_low", defArgs s__law_low, defBody s__law_low, defScope s__law_low, [], []⟩
def e__law_add : He.DefD := ⟨("_law_add", none), "_law_add", "_law_add", defArgs s__law_add, defBody s__law_add, defScope s__law_add, [], []⟩
def e__law_less : He.DefD := ⟨("_law_less", none), "_law_less", "_law_less", defArgs s__law_less, defBody s__law_less, defScope s__law_less, [], []⟩
def e__law_lattice : He.DefD := ⟨("_law_lattice", none), "_law_lattice", "_law_lattice", defArgs s__law_lattice, defBody s__law_lattice, defScope s__law_lattice, [], []⟩
def e__law_kind : He.DefD := ⟨("_law_kind", none), "_law_kind", "_law_kind", defArgs s__law_kind, defBody s__law_kind, defScope s__law_kind, [], []⟩
def e__law_field : He.DefD := ⟨("_law_field", none), "_law_field", "_law_field", defArgs s__law_field, defBody s__law_field, defScope s__law_field, [], []⟩
def e__law_caught : He.DefD := ⟨("_law_caught", none), "_law_caught", "_law_caught", defArgs s__law_caught, defBody s__law_caught, defScope s__law_caught, [], []⟩
def e__law_told_right : He.DefD := ⟨("_law_told_right", none), "_law_told_right", "_law_told_right", defArgs s__law_told_right, defBody s__law_told_right, defScope s__law_told_right, [], []⟩
def e__law_refused_right : He.DefD := ⟨("_law_refused_right", none), "_law_refused_right", "_law_refused_right", defArgs s__law_refused_right, defBody s__law_refused_right, defScope s__law_refused_right, [], []⟩
def e__law_right : He.DefD := ⟨("_law_right", none), "_law_right", "_law_right", defArgs s__law_right, defBody s__law_right, defScope s__law_right, [], []⟩
def e_law : He.DefD := ⟨("law", none), "law", "law", defArgs s_law, defBody s_law, defScope s_law, [], []⟩
def e_InvalidKind : He.DefD := ⟨("InvalidKind", some "__init__"), "__init__", "InvalidKind.__init__", defArgs s_InvalidKind, defBody s_InvalidKind, defScope s_InvalidKind, [], []⟩
def e_InvalidNumber : He.DefD := ⟨("InvalidNumber", some "__init__"), "__init__", "InvalidNumber.__init__", defArgs s_InvalidNumber, defBody s_InvalidNumber, defScope s_InvalidNumber, [], []⟩
def e_InvalidPixel : He.DefD := ⟨("InvalidPixel", some "__init__"), "__init__", "InvalidPixel.__init__", defArgs s_InvalidPixel, defBody s_InvalidPixel, defScope s_InvalidPixel, [], []⟩
def fn_0 : List He.DefD := [e_is_integer, e_common_divisor, e_lowest, e_is_less, e_is_ratio, e_is_share, e_is_pixel, e_is_kind, e_check_pixel, e_check_kind, e_is_let, e_has_kind, e_kind_tests, e_test_pixels, e__law_cell, e__law_pool, e__law_take, e__law_pick, e__law_low, e__law_add, e__law_less, e__law_lattice, e__law_kind, e__law_field, e__law_caught, e__law_told_right, e__law_refused_right, e__law_right, e_law, e_InvalidKind, e_InvalidNumber, e_InvalidPixel]
def fn : List He.DefD := (fn_0)
def fa_0 : List He.Fa := .glo "is_integer" :: .glo "common_divisor" :: .glo "lowest" :: .glo "is_less" :: .glo "is_ratio" :: .glo "is_share" :: .glo "is_pixel" :: .glo "is_kind" :: .glo "check_pixel" :: .glo "check_kind" :: .glo "is_let" :: .glo "has_kind" :: .glo "kind_tests" :: .glo "test_pixels" :: .glo "_law_cell" :: .glo "_law_pool" :: .glo "_law_take" :: .glo "_law_pick" :: .glo "_law_low" :: .glo "_law_add" :: .glo "_law_less" :: .glo "_law_lattice" :: .glo "_law_kind" :: .glo "_law_field" :: .glo "_law_caught" :: .glo "_law_told_right" :: .glo "_law_refused_right" :: .glo "_law_right" :: .glo "law" :: .glo "Busy" :: .glo "Closed" :: .glo "InputError" :: .glo "InvalidForm" :: .glo "InvalidKind" :: .glo "InvalidKinds" :: .glo "InvalidLayers" :: .glo "InvalidLine" :: .glo "InvalidMode" :: .glo "InvalidName" :: .glo "InvalidNumber" :: .glo "InvalidOption" :: .glo "InvalidPath" :: .glo "InvalidPixel" :: .glo "InvalidRows" :: .glo "InvalidShare" :: .glo "InvalidSpot" :: .glo "InvalidSpots" :: .glo "InvalidStrokes" :: .glo "InvalidTable" :: .glo "InvalidText" :: .glo "InvalidTree" :: .glo "InvalidTrees" :: .glo "LimitError" :: .glo "MissingSpot" :: .glo "NotALayer" :: .glo "NotAPicture" :: .glo "NotAStack" :: .glo "NothingToUndo" :: .glo "StateError" :: .glo "TooMany" :: .glo "UnknownPicture" :: .glo "UsedOften" :: .glo "WrongKind" :: .glo "WrongSize" :: .free "ArithmeticError" :: .free "LookupError" :: .free "ValueError" :: .free "abs" :: .free "all" :: .free "bool" :: .free "divmod" :: .free "int" :: .free "isinstance" :: .free "len" :: .free "max" :: .free "min" :: .free "range" :: .free "repr" :: .free "str" :: .free "tuple" :: []
def fa : List He.Fa := (fa_0)
abbrev R : PySem.W.OpenRow := PySem.W.OpenLaw.row PySem.Challenge.rw_layertrees_k37_test_pixels
def tf : List He.Defn := [("_law_refused_right", none)]
def dpN : List Str := "is_integer" :: "common_divisor" :: "lowest" :: "is_less" :: "is_ratio" :: "is_share" :: "is_pixel" :: "is_kind" :: "check_pixel" :: "check_kind" :: "is_let" :: "has_kind" :: "kind_tests" :: "test_pixels" :: "_law_cell" :: "_law_pool" :: "_law_take" :: "_law_pick" :: "_law_low" :: "_law_add" :: "_law_less" :: "_law_lattice" :: "_law_kind" :: "_law_field" :: "_law_caught" :: "_law_told_right" :: "_law_refused_right" :: "_law_right" :: "law" :: "CLEAR" :: "KINDS" :: "MAX_NODES" :: "ONE" :: "WHITE" :: "ZERO" :: "InputError" :: "InvalidKind" :: "InvalidNumber" :: "InvalidPixel" :: []
def flN : List Str := "Busy" :: "Closed" :: "InvalidForm" :: "InvalidKinds" :: "InvalidLayers" :: "InvalidLine" :: "InvalidMode" :: "InvalidName" :: "InvalidOption" :: "InvalidPath" :: "InvalidRows" :: "InvalidShare" :: "InvalidSpot" :: "InvalidSpots" :: "InvalidStrokes" :: "InvalidTable" :: "InvalidText" :: "InvalidTree" :: "InvalidTrees" :: "LimitError" :: "MissingSpot" :: "NotALayer" :: "NotAPicture" :: "NotAStack" :: "NothingToUndo" :: "StateError" :: "TooMany" :: "UnknownPicture" :: "UsedOften" :: "WrongKind" :: "WrongSize" :: []
abbrev asZ : (Addr → Option Obj) → List Addr := asP 4 dpN flN
abbrev hk : PySem.W.Hook := hookPT asZ fa fn tsD tf ex
def ob (s : PySem.W.SharedT) : He.AlX × Bool := obsZT asZ fa fn tsD tf ex (HandSHeadRun.getT s)
theorem ob_eq (s : PySem.W.SharedT) : ob s = hk.obs s.abs := obsZT_eq (HandSHeadRun.getT_eq s)
def loose : List Str := "InputError" :: "InvalidShare" :: "InvalidPixel" :: "InvalidName" :: "InvalidKind" :: "InvalidKinds" :: "InvalidMode" :: "InvalidNumber" :: "InvalidTree" :: "InvalidTrees" :: "InvalidPath" :: "InvalidSpot" :: "InvalidSpots" :: "InvalidTable" :: "InvalidForm" :: "InvalidRows" :: "InvalidOption" :: "InvalidLayers" :: "InvalidStrokes" :: "InvalidText" :: "InvalidLine" :: "NotAPicture" :: "NotALayer" :: "NotAStack" :: "StateError" :: "UnknownPicture" :: "MissingSpot" :: "UsedOften" :: "WrongKind" :: "WrongSize" :: "Busy" :: "Closed" :: "NothingToUndo" :: "LimitError" :: "TooMany" :: "ZERO" :: "ONE" :: "is_integer" :: "common_divisor" :: "lowest" :: "is_less" :: "is_ratio" :: "is_share" :: "CLEAR" :: "WHITE" :: "KINDS" :: "is_pixel" :: "is_kind" :: "check_pixel" :: "check_kind" :: "is_let" :: "has_kind" :: "MAX_NODES" :: "kind_tests" :: "test_pixels" :: "_law_cell" :: "_law_pool" :: "_law_take" :: "_law_pick" :: "_law_low" :: "_law_add" :: "_law_less" :: "_law_lattice" :: "_law_kind" :: "_law_field" :: "_law_caught" :: "_law_told_right" :: "_law_refused_right" :: "_law_right" :: []
open PySem PySem.W PySem.Calls PyProof.Rows HandSHeadRun in
theorem run_a (w : World) (os : OsState) : (runO R 16000 w os).map (fun s => (looksF R.prog (boot_heap w.params) s.abs, (seenQ (PySem.W.view R.prog [74]) loose (importedModules R.prog.main.body) (fun s => xlAt (PySem.W.view R.prog [74]) [] s && recOk R.toRowW.records s) s.abs, sysB (getT s)))) = some (true, (openGood (PySem.W.view R.prog [74]) loose, true)) := by
  kernel_rfl
open PySem PySem.W PySem.Calls PyProof.Rows HandSHeadRun in
theorem run_d0 (w : World) (os : OsState) : (runO R 16000 w os).map (fun s => He.obsD fa_0 fn_0 (runP asZ s)) = some (He.valD fn_0) := by
  kernel_rfl
open PySem PySem.W PySem.Calls PyProof.Rows HandSHeadRun in
theorem run_e (w : World) (os : OsState) : (runO R 16000 w os).map (fun s => (ex (runP asZ s), He.tabsB (getT s) tf (runP asZ s))) = some (true, true) := by
  kernel_rfl
open PySem PySem.W PySem.Calls PyProof.Rows HandSHeadRun in
theorem run_b (w : World) (os : OsState) : (runO R 16000 w os).map (fun s => (tsD.map fun t => He.dicW (runP asZ s) (t.1 (runP asZ s)))) = some (tsD.map fun t => some (He.keysIn w.params t.2)) := by
  kernel_rfl
theorem fst_of {σ α β : Type} {x : Option σ} {f : σ → α} {g : σ → β} {u : α} {v : β} (h : x.map (fun s => (f s, g s)) = some (u, v)) : x.map f = some u ∧ x.map g = some v := by
  cases x with
  | none => cases h
  | some s =>
    have e := Option.some.inj h
    exact ⟨congrArg some (congrArg Prod.fst e), congrArg some (congrArg Prod.snd e)⟩
theorem run (w : World) : HandSHeadRun.RunEq R (PySem.W.view R.prog [74]) hk ob 16000 loose w :=
  run_ofPT (fun os => (fst_of (run_a w os)).1) (fun os => (fst_of (fst_of (run_a w os)).2).1) (fun os => run_d0 w os) (fun os => (fst_of (run_e w os)).1) (fun os => (fst_of (run_e w os)).2) (fun os => run_b w os) (fun os => (fst_of (fst_of (run_a w os)).2).2)
end Zk37

/-! SE1: values as trees, a store of labels, and computations over them; what ties them to the abstract heap of the hand layer. -/
namespace SE
open PySem PySem.Spec PyProof.Rows L2

/-- the exception that is handled here; the tables of code objects, by their names -/
structure Gs where
  cur : Option (Addr × Obj)
  lam : Option (Addr × Addr × Str × L2.St)
  T : List (Addr × Str)
structure Gx where
  K : PySem.W.Frag
  mg : Str → Option Value
  s : Gs
  P : Program
  w : World
/-- no exception is handled -/
def Gs.off (s : Gs) : Gs := ⟨none, none, s.T⟩
abbrev Gx.off (G : Gx) : Gx := ⟨G.K, G.mg, G.s.off, G.P, G.w⟩
/-- what stands at a label -/
inductive MO where
  | lst (xs : List D)
  /-- a dict whose keys are tuples of ints and texts -/
  | dT (kvs : List (List Key × D))
  /-- .. that nothing changes any more -/
  | fT (kvs : List (List Key × D))
deriving Inhabited
abbrev Mem := List MO
abbrev Ev := List (Option D)
/-- an exception: the name of its class, its fields -/
structure Ex where
  cls : Str
  fs : List (Str × D)
inductive Res (α : Type) where
  | ok (a : α) (μ : Mem)
  | exc (e : Ex) (μ : Mem)
  | bad
abbrev M (α : Type) := Mem → Res α
namespace M
def pure {α : Type} (a : α) : M α := fun μ => .ok a μ
def bind {α β : Type} (m : M α) (k : α → M β) : M β := fun μ => match m μ with
  | .ok a μ' => k a μ'
  | .exc e μ' => .exc e μ'
  | .bad => .bad
def bad {α : Type} : M α := fun _ => .bad
def raise {α : Type} (e : Ex) : M α := fun μ => .exc e μ
end M
instance : Monad M where
  pure := M.pure
  bind := M.bind

/-! ### the ties -/
/-- the addresses of the labels; addresses that are hidden: what is under way -/
structure Lab where
  l : List Addr
  h : List Addr
instance : Membership Addr Lab := ⟨fun φ a => a ∈ φ.l ∨ a ∈ φ.h⟩
/-- a tuple, a list that nothing here changes: tracked outside of the labels, or written at the top -/
def SqTz (K : PySem.W.Frag) (φ : Lab) (H : Hp) (a : Addr) (vs : List V) : Prop := (Rd H a (.tup vs) ∧ a ∉ φ) ∨ SqT K (fun _ => none) a vs
def SqLz (K : PySem.W.Frag) (φ : Lab) (H : Hp) (a : Addr) (vs : List V) : Prop := (Rd H a (.lst vs) ∧ a ∉ φ) ∨ SqL K (fun _ => none) a vs
theorem SqTz.t {K : PySem.W.Frag} {φ : Lab} {H : Hp} {a : Addr} {vs : List V} (h : SqTz K φ H a vs) : SqT K H a vs := by
  rcases h with ⟨h, _⟩ | h
  · exact .inl h
  · rcases h with h | h
    · rcases h with h | ⟨o, h⟩ <;> cases h
    · exact .inr h
theorem SqLz.t {K : PySem.W.Frag} {φ : Lab} {H : Hp} {a : Addr} {vs : List V} (h : SqLz K φ H a vs) : SqL K H a vs := by
  rcases h with ⟨h, _⟩ | h
  · exact .inl h
  · rcases h with h | h
    · rcases h with h | ⟨o, h⟩ <;> cases h
    · exact .inr h

mutual
/-- what is taken out of a suite holds no exception -/
def noErr : D → Bool
  | .tup xs => noErrL xs
  | .lst xs => noErrL xs
  | .ro xs => noErrL xs
  | .dct kvs => noErrK kvs
  | .err _ _ => false
  | .clo _ => false
  | .obj _ fs => noErrF fs
  | _ => true
def noErrL : List D → Bool
  | [] => true
  | d :: ds => noErr d && noErrL ds
def noErrK : List (Key × D) → Bool
  | [] => true
  | (_, d) :: ds => noErr d && noErrK ds
def noErrF : List (Str × D) → Bool
  | [] => true
  | (_, d) :: ds => noErr d && noErrF ds
end
/-- of slots -/
def noErrE : List (Option D) → Bool
  | [] => true
  | some d :: r => noErr d && noErrE r
  | none :: r => noErrE r
theorem Gx.off_eq {G : Gx} (h : G.s.off = G.s) : G.off = G := by
  obtain ⟨K, mg, s, P, w⟩ := G
  show Gx.mk K mg s.off P w = _
  rw [show s.off = s from h]
/-- an exception object: the handled one, one that was made as a value -/
def ErrAt (G : Gx) (φ : Lab) (H : Hp) (a : Addr) (oe : Obj) : Prop := G.s.cur = some (a, oe) ∨ ∃ u, H a = some (.frz oe u) ∧ a ∉ φ
/-- its class -/
structure ErrC (G : Gx) (c : Str) (C : Addr) (oe : Obj) : Prop where
  cls : oe.cls = .ref C
  mg : G.mg c = some (.ref C)
  fields : ∃ us, oe.data = .fields us
mutual
inductive Rp (G : Gx) (φ : Lab) (H : Hp) : D → V → Prop
  | non : Rp G φ H .non .non
  | bl (b : Bool) : Rp G φ H (.bl b) (.bl b)
  | int (i : Int) : Rp G φ H (.int i) (.int i)
  | str (x : Str) : Rp G φ H (.str x) (.str x)
  | tup {a : Addr} {vs : List V} {ds : List D} : SqTz G.K φ H a vs → RpL G φ H ds vs → Rp G φ H (.tup ds) (.ref a)
  | lst {a : Addr} {vs : List V} {ds : List D} : H a = some (.lst vs) → a ∉ φ → RpL G φ H ds vs → Rp G φ H (.lst ds) (.ref a)
  | ro {a : Addr} {vs : List V} {ds : List D} : SqLz G.K φ H a vs → RpL G φ H ds vs → Rp G φ H (.ro ds) (.ref a)
  | dct {a : Addr} {vs : List (Key × V)} {ds : List (Key × D)} : H a = some (.dK vs) → a ∉ φ → RpK G φ H ds vs → Rp G φ H (.dct ds) (.ref a)
  | loc {a : Addr} {l : Nat} : φ.l[l]? = some a → Rp G φ H (.loc l) (.ref a)
  | ty (n : String) : Rp G φ H (.ty n) (.ty n)
  | gl {x : Str} {a : Addr} : G.mg x = some (.ref a) → Rp G φ H (.gl x) (.ref a)
  | err {c : Str} {C a d : Addr} {oe : Obj} {fs : List (Str × D)} {vs : List (Str × V)} : ErrAt G φ H a oe → ErrC G c C oe → oe.dict = some d → H d = some (.xd vs) → d ∉ φ → RpF G φ H fs vs → Rp G φ H (.err c fs) (.ref a)
  | err0 {c : Str} {C a : Addr} {oe : Obj} : ErrAt G φ H a oe → ErrC G c C oe → oe.dict = none → Rp G φ H (.err c []) (.ref a)
  | clo {f c : Addr} {q : Str} {σ : L2.St} {ρ : List (Option D)} : G.s.lam = some (f, c, q, σ) → H c = some (LamX.CodeO c q) → c ∉ φ → noErrE ρ = true → RpE G φ H ρ σ → Rp G φ H (.clo ρ) (.ref f)
  | obj {c : Str} {C a d : Addr} {fs : List (Str × D)} {vs : List (Str × V)} : G.mg c = some (.ref C) → H a = some (.ins C d vs) → a ∉ φ → RpF G φ H fs vs → Rp G φ H (.obj c fs) (.ref a)
inductive RpL (G : Gx) (φ : Lab) (H : Hp) : List D → List V → Prop
  | nil : RpL G φ H [] []
  | cons {d : D} {v : V} {ds : List D} {vs : List V} : Rp G φ H d v → RpL G φ H ds vs → RpL G φ H (d :: ds) (v :: vs)
inductive RpK (G : Gx) (φ : Lab) (H : Hp) : List (Key × D) → List (Key × V) → Prop
  | nil : RpK G φ H [] []
  | cons {k : Key} {d : D} {v : V} {ds : List (Key × D)} {vs : List (Key × V)} : Rp G φ H d v → RpK G φ H ds vs → RpK G φ H ((k, d) :: ds) ((k, v) :: vs)
/-- an object's fields -/
inductive RpF (G : Gx) (φ : Lab) (H : Hp) : List (Str × D) → List (Str × V) → Prop
  | nil : RpF G φ H [] []
  | cons {k : Str} {d : D} {v : V} {ds : List (Str × D)} {vs : List (Str × V)} : Rp G φ H d v → RpF G φ H ds vs → RpF G φ H ((k, d) :: ds) ((k, v) :: vs)
/-- slots -/
inductive RpE (G : Gx) (φ : Lab) (H : Hp) : List (Option D) → List (Option V) → Prop
  | nil : RpE G φ H [] []
  | no {o : Option V} {ρ : List (Option D)} {σ : List (Option V)} : RpE G φ H ρ σ → RpE G φ H (none :: ρ) (o :: σ)
  | so {d : D} {v : V} {ρ : List (Option D)} {σ : List (Option V)} : Rp G φ H d v → RpE G φ H ρ σ → RpE G φ H (some d :: ρ) (some v :: σ)
end

/-- the heap grows: new labels at new places, all else that is tracked stands -/
structure Grow (φ : Lab) (H : Hp) (φ' : Lab) (H' : Hp) : Prop where
  ex : ∃ ψ, φ'.l = φ.l ++ ψ ∧ ∀ a ∈ ψ, ∀ u, H a = some u → ∃ ps, u = .tbl ps
  hx : ∀ a ∈ φ'.h, a ∉ φ.h → ∀ u, H a = some u → ∃ ps, u = .tbl ps
  hs : ∀ a ∈ φ.h, a ∈ φ'.h
  kp : ∀ b o, H b = some o → b ∉ φ.l → (∀ ps, o ≠ .tbl ps) → H' b = some o
  dm : ∀ b u, H b = some u → (∀ ps, u ≠ .tbl ps) → ∃ v, H' b = some v ∧ ∀ ps, v ≠ .tbl ps
  kf : ∀ b o u, H b = some (.frz o u) → H' b = some (.frz o u)
/-- as far as the ties go: what is hidden may be written -/
structure Gw (φ : Lab) (H : Hp) (φ' : Lab) (H' : Hp) : Prop where
  ex : ∃ ψ, φ'.l = φ.l ++ ψ
  out : ∀ {a : Addr} {u : HO}, H a = some u → (∀ ps, u ≠ .tbl ps) → a ∉ φ → a ∉ φ'
  st : ∀ b o, H b = some o → b ∉ φ → (∀ ps, o ≠ .tbl ps) → H' b = some o
theorem Grow.st {φ φ' : Lab} {H H' : Hp} (g : Grow φ H φ' H') (b : Addr) (o : HO) (h : H b = some o) (n : b ∉ φ) (t : ∀ ps, o ≠ .tbl ps) : H' b = some o := g.kp b o h (fun z => n (.inl z)) t
theorem Grow.refl (φ : Lab) (H : Hp) : Grow φ H φ H := ⟨⟨[], by simp, fun _ h => nomatch h⟩, fun _ h n => absurd h n, fun _ h => h, fun _ _ h _ _ => h, fun _ u h t => ⟨u, h, t⟩, fun _ _ _ h => h⟩
theorem Grow.outL {φ φ' : Lab} {H H' : Hp} (g : Grow φ H φ' H') {a : Addr} {u : HO} (h : H a = some u) (t : ∀ ps, u ≠ .tbl ps) (n : a ∉ φ.l) : a ∉ φ'.l := by
  obtain ⟨ψ, e, hn⟩ := g.ex
  rw [e]
  intro hm
  rcases List.mem_append.mp hm with z | z
  · exact n z
  · obtain ⟨ps, e⟩ := hn a z u h
    exact t ps e
theorem Grow.out {φ φ' : Lab} {H H' : Hp} (g : Grow φ H φ' H') {a : Addr} {u : HO} (h : H a = some u) (t : ∀ ps, u ≠ .tbl ps) (n : a ∉ φ) : a ∉ φ' := by
  rintro (z | z)
  · exact g.outL h t (fun z => n (.inl z)) z
  · obtain ⟨ps, e⟩ := g.hx a z (fun z => n (.inr z)) u h
    exact t ps e
theorem Grow.w {φ φ' : Lab} {H H' : Hp} (g : Grow φ H φ' H') : Gw φ H φ' H' := ⟨let ⟨ψ, e, _⟩ := g.ex; ⟨ψ, e⟩, fun h t n => g.out h t n, g.st⟩
theorem Grow.trans {φ φ1 φ2 : Lab} {H H1 H2 : Hp} (g : Grow φ H φ1 H1) (g' : Grow φ1 H1 φ2 H2) : Grow φ H φ2 H2 := by
  obtain ⟨ψ, e, hn⟩ := g.ex
  obtain ⟨ψ', e', hn'⟩ := g'.ex
  refine ⟨⟨ψ ++ ψ', by rw [e', e, List.append_assoc], fun a ha u hu => ?_⟩, fun a ha na u hu => ?_, fun a h => g'.hs a (g.hs a h), fun b o h n t => ?_, fun b u h t => ?_, fun b o u h => g'.kf b o u (g.kf b o u h)⟩
  · rcases List.mem_append.mp ha with z | z
    · exact hn a z u hu
    · refine Classical.byContradiction fun c => ?_
      obtain ⟨v, hv, tv⟩ := g.dm a u hu fun ps q => c ⟨ps, q⟩
      obtain ⟨ps, q⟩ := hn' a z v hv
      exact tv ps q
  · refine Classical.byContradiction fun c => ?_
    by_cases z : a ∈ φ1.h
    · exact c (g.hx a z na u hu)
    · obtain ⟨v, hv, tv⟩ := g.dm a u hu fun ps q => c ⟨ps, q⟩
      obtain ⟨ps, q⟩ := g'.hx a ha z v hv
      exact tv ps q
  · exact g'.kp b o (g.kp b o h n t) (g.outL h t n) t
  · obtain ⟨v, hv, tv⟩ := g.dm b u h t
    exact g'.dm b v hv tv
theorem Rd.growW {φ φ' : Lab} {H H' : Hp} (g : Gw φ H φ' H') {a : Addr} {u : HO} (r : Rd H a u) (n : a ∉ φ) (t : ∀ ps, u ≠ .tbl ps) : Rd H' a u ∧ a ∉ φ' := by
  rcases r with r | ⟨o, r⟩
  · exact ⟨.inl (g.st _ _ r n t), g.out r t n⟩
  · exact ⟨.inr ⟨o, g.st _ _ r n fun _ z => nomatch z⟩, g.out r (fun _ z => nomatch z) n⟩
theorem SqTz.growW {K : PySem.W.Frag} {φ φ' : Lab} {H H' : Hp} (g : Gw φ H φ' H') {a : Addr} {vs : List V} (h : SqTz K φ H a vs) : SqTz K φ' H' a vs := by
  rcases h with ⟨r, n⟩ | h
  · exact .inl (Rd.growW g r n fun _ z => nomatch z)
  · exact .inr h
theorem SqLz.growW {K : PySem.W.Frag} {φ φ' : Lab} {H H' : Hp} (g : Gw φ H φ' H') {a : Addr} {vs : List V} (h : SqLz K φ H a vs) : SqLz K φ' H' a vs := by
  rcases h with ⟨r, n⟩ | h
  · exact .inl (Rd.growW g r n fun _ z => nomatch z)
  · exact .inr h
theorem ErrAt.growW {G : Gx} {φ φ' : Lab} {H H' : Hp} {a : Addr} {oe : Obj} (g : Gw φ H φ' H') (h : ErrAt G φ H a oe) : ErrAt G φ' H' a oe := by
  rcases h with h | ⟨u, h, n⟩
  · exact .inl h
  · exact .inr ⟨u, g.st _ _ h n (fun _ z => nomatch z), g.out h (fun _ z => nomatch z) n⟩
section
variable {G : Gx} {φ φ' : Lab} {H H' : Hp}
mutual
theorem Rp.growW (g : Gw φ H φ' H') : ∀ {d : D} {v : V}, Rp G φ H d v → Rp G φ' H' d v
  | _, _, .non => .non
  | _, _, .bl b => .bl b
  | _, _, .int i => .int i
  | _, _, .str x => .str x
  | _, _, .tup h r => .tup (h.growW g) (RpL.growW g r)
  | _, _, .lst h n r => .lst (g.st _ _ h n fun _ z => nomatch z) (g.out h (fun _ z => nomatch z) n) (RpL.growW g r)
  | _, _, .ro h r => .ro (h.growW g) (RpL.growW g r)
  | _, _, .dct h n r => .dct (g.st _ _ h n fun _ z => nomatch z) (g.out h (fun _ z => nomatch z) n) (RpK.growW g r)
  | _, _, .loc h => .loc (by
      obtain ⟨ψ, e⟩ := g.ex
      rw [e]
      obtain ⟨hl, _⟩ := List.getElem?_eq_some_iff.mp h
      rw [List.getElem?_append_left hl]
      exact h)
  | _, _, .ty n => .ty n
  | _, _, .gl h => .gl h
  | _, _, .err ha hc hd hx hn r => .err (ha.growW g) hc hd (g.st _ _ hx hn fun _ z => nomatch z) (g.out hx (fun _ z => nomatch z) hn) (RpF.growW g r)
  | _, _, .err0 ha hc hd => .err0 (ha.growW g) hc hd
  | _, _, .clo hl hc no hn r => .clo hl (g.st _ _ hc no LamX.codeO_ne) (g.out hc LamX.codeO_ne no) hn (RpE.growW g r)
  | _, _, .obj hm h n r => .obj hm (g.st _ _ h n fun _ z => nomatch z) (g.out h (fun _ z => nomatch z) n) (RpF.growW g r)
theorem RpL.growW (g : Gw φ H φ' H') : ∀ {ds : List D} {vs : List V}, RpL G φ H ds vs → RpL G φ' H' ds vs
  | _, _, .nil => .nil
  | _, _, .cons r t => .cons (Rp.growW g r) (RpL.growW g t)
theorem RpK.growW (g : Gw φ H φ' H') : ∀ {ds : List (Key × D)} {vs : List (Key × V)}, RpK G φ H ds vs → RpK G φ' H' ds vs
  | _, _, .nil => .nil
  | _, _, .cons r t => .cons (Rp.growW g r) (RpK.growW g t)
theorem RpF.growW (g : Gw φ H φ' H') : ∀ {ds : List (Str × D)} {vs : List (Str × V)}, RpF G φ H ds vs → RpF G φ' H' ds vs
  | _, _, .nil => .nil
  | _, _, .cons r t => .cons (Rp.growW g r) (RpF.growW g t)
theorem RpE.growW (g : Gw φ H φ' H') : ∀ {ρ : List (Option D)} {σ : List (Option V)}, RpE G φ H ρ σ → RpE G φ' H' ρ σ
  | _, _, .nil => .nil
  | _, _, .no t => .no (RpE.growW g t)
  | _, _, .so r t => .so (Rp.growW g r) (RpE.growW g t)
end
section
variable {G : Gx} {φ φ' : Lab} {H H' : Hp}
theorem SqTz.grow {K : PySem.W.Frag} (g : Grow φ H φ' H') {a : Addr} {vs : List V} (h : SqTz K φ H a vs) : SqTz K φ' H' a vs := SqTz.growW g.w h
theorem SqLz.grow {K : PySem.W.Frag} (g : Grow φ H φ' H') {a : Addr} {vs : List V} (h : SqLz K φ H a vs) : SqLz K φ' H' a vs := SqLz.growW g.w h
theorem ErrAt.grow {a : Addr} {oe : Obj} (g : Grow φ H φ' H') (h : ErrAt G φ H a oe) : ErrAt G φ' H' a oe := ErrAt.growW g.w h
theorem Rp.grow (g : Grow φ H φ' H') {d : D} {v : V} (h : Rp G φ H d v) : Rp G φ' H' d v := Rp.growW g.w h
theorem RpL.grow (g : Grow φ H φ' H') {ds : List D} {vs : List V} (h : RpL G φ H ds vs) : RpL G φ' H' ds vs := RpL.growW g.w h
theorem RpK.grow (g : Grow φ H φ' H') {ds : List (Key × D)} {vs : List (Key × V)} (h : RpK G φ H ds vs) : RpK G φ' H' ds vs := RpK.growW g.w h
theorem RpF.grow (g : Grow φ H φ' H') {ds : List (Str × D)} {vs : List (Str × V)} (h : RpF G φ H ds vs) : RpF G φ' H' ds vs := RpF.growW g.w h
theorem RpE.grow (g : Grow φ H φ' H') {ρ : List (Option D)} {σ : List (Option V)} (h : RpE G φ H ρ σ) : RpE G φ' H' ρ σ := RpE.growW g.w h
end
/-- more is known -/
structure Gs.Le (s t : Gs) : Prop where
  cur : ∀ p, s.cur = some p → t.cur = some p
  lam : ∀ p, s.lam = some p → t.lam = some p
theorem Gs.off_le (s : Gs) : s.off.Le s := ⟨fun _ h => (by cases h), fun _ h => (by cases h)⟩
section
variable {K : PySem.W.Frag} {mg : Str → Option Value} {s t : Gs} {P : Program} {w : World}
theorem ErrAt.up (l : s.Le t) {a : Addr} {oe : Obj} (h : ErrAt ⟨K, mg, s, P, w⟩ φ H a oe) : ErrAt ⟨K, mg, t, P, w⟩ φ H a oe := by
  rcases h with h | h
  · exact .inl (l.cur _ h)
  · exact .inr h
mutual
theorem Rp.up (l : s.Le t) : ∀ {d : D} {v : V}, Rp ⟨K, mg, s, P, w⟩ φ H d v → Rp ⟨K, mg, t, P, w⟩ φ H d v
  | _, _, .non => .non
  | _, _, .bl b => .bl b
  | _, _, .int i => .int i
  | _, _, .str x => .str x
  | _, _, .tup h r => .tup h (RpL.up l r)
  | _, _, .lst h n r => .lst h n (RpL.up l r)
  | _, _, .ro h r => .ro h (RpL.up l r)
  | _, _, .dct h n r => .dct h n (RpK.up l r)
  | _, _, .loc h => .loc h
  | _, _, .ty n => .ty n
  | _, _, .gl h => .gl h
  | _, _, .err ha hc hd hx hn r => .err (ha.up l) ⟨hc.cls, hc.mg, hc.fields⟩ hd hx hn (RpF.up l r)
  | _, _, .err0 ha hc hd => .err0 (ha.up l) ⟨hc.cls, hc.mg, hc.fields⟩ hd
  | _, _, .clo hl hc no hn r => .clo (l.lam _ hl) hc no hn (RpE.up l r)
  | _, _, .obj hm h n r => .obj hm h n (RpF.up l r)
theorem RpL.up (l : s.Le t) : ∀ {ds : List D} {vs : List V}, RpL ⟨K, mg, s, P, w⟩ φ H ds vs → RpL ⟨K, mg, t, P, w⟩ φ H ds vs
  | _, _, .nil => .nil
  | _, _, .cons r t => .cons (Rp.up l r) (RpL.up l t)
theorem RpK.up (l : s.Le t) : ∀ {ds : List (Key × D)} {vs : List (Key × V)}, RpK ⟨K, mg, s, P, w⟩ φ H ds vs → RpK ⟨K, mg, t, P, w⟩ φ H ds vs
  | _, _, .nil => .nil
  | _, _, .cons r t => .cons (Rp.up l r) (RpK.up l t)
theorem RpF.up (l : s.Le t) : ∀ {ds : List (Str × D)} {vs : List (Str × V)}, RpF ⟨K, mg, s, P, w⟩ φ H ds vs → RpF ⟨K, mg, t, P, w⟩ φ H ds vs
  | _, _, .nil => .nil
  | _, _, .cons r t => .cons (Rp.up l r) (RpF.up l t)
theorem RpE.up (l : s.Le t) : ∀ {ρ : List (Option D)} {σ : List (Option V)}, RpE ⟨K, mg, s, P, w⟩ φ H ρ σ → RpE ⟨K, mg, t, P, w⟩ φ H ρ σ
  | _, _, .nil => .nil
  | _, _, .no t => .no (RpE.up l t)
  | _, _, .so r t => .so (Rp.up l r) (RpE.up l t)
end
end
theorem Rp.on {d : D} {v : V} (h : Rp G.off φ H d v) : Rp G φ H d v := Rp.up (s := G.s.off) (t := G.s) G.s.off_le h
theorem RpL.on {ds : List D} {vs : List V} (h : RpL G.off φ H ds vs) : RpL G φ H ds vs := RpL.up (s := G.s.off) (t := G.s) G.s.off_le h
theorem RpF.on {ds : List (Str × D)} {vs : List (Str × V)} (h : RpF G.off φ H ds vs) : RpF G φ H ds vs := RpF.up (s := G.s.off) (t := G.s) G.s.off_le h
mutual
theorem Rp.out : ∀ {d : D} {v : V}, Rp G φ H d v → noErr d = true → Rp G.off φ H d v
  | _, _, .non, _ => .non
  | _, _, .bl b, _ => .bl b
  | _, _, .int i, _ => .int i
  | _, _, .str x, _ => .str x
  | _, _, .tup h r, k => .tup h (RpL.out r k)
  | _, _, .lst h n r, k => .lst h n (RpL.out r k)
  | _, _, .ro h r, k => .ro h (RpL.out r k)
  | _, _, .dct h n r, k => .dct h n (RpK.out r k)
  | _, _, .loc h, _ => .loc h
  | _, _, .ty n, _ => .ty n
  | _, _, .gl h, _ => .gl h
  | _, _, .err _ _ _ _ _ _, k => by cases k
  | _, _, .err0 _ _ _, k => by cases k
  | _, _, .clo _ _ _ _ _, k => by cases k
  | _, _, .obj hm h n r, k => .obj hm h n (RpF.out r k)
theorem RpL.out : ∀ {ds : List D} {vs : List V}, RpL G φ H ds vs → noErrL ds = true → RpL G.off φ H ds vs
  | _, _, .nil, _ => .nil
  | _, _, .cons r t, k => .cons (Rp.out r (Bool.and_eq_true_iff.mp k).1) (RpL.out t (Bool.and_eq_true_iff.mp k).2)
theorem RpK.out : ∀ {ds : List (Key × D)} {vs : List (Key × V)}, RpK G φ H ds vs → noErrK ds = true → RpK G.off φ H ds vs
  | _, _, .nil, _ => .nil
  | _, _, .cons r t, k => .cons (Rp.out r (Bool.and_eq_true_iff.mp k).1) (RpK.out t (Bool.and_eq_true_iff.mp k).2)
theorem RpF.out : ∀ {ds : List (Str × D)} {vs : List (Str × V)}, RpF G φ H ds vs → noErrF ds = true → RpF G.off φ H ds vs
  | _, _, .nil, _ => .nil
  | _, _, .cons r t, k => .cons (Rp.out r (Bool.and_eq_true_iff.mp k).1) (RpF.out t (Bool.and_eq_true_iff.mp k).2)
end
theorem RpE.out : ∀ {ρ : List (Option D)} {σ : List (Option V)}, RpE G φ H ρ σ → noErrE ρ = true → RpE G.off φ H ρ σ
  | _, _, .nil, _ => .nil
  | _, _, .no t, k => .no (RpE.out t k)
  | _, _, .so r t, k => .so (Rp.out r (Bool.and_eq_true_iff.mp k).1) (RpE.out t (Bool.and_eq_true_iff.mp k).2)
theorem RpL.length : ∀ {ds : List D} {vs : List V}, RpL G φ H ds vs → ds.length = vs.length
  | _, _, .nil => rfl
  | _, _, .cons _ t => congrArg Nat.succ t.length
theorem RpL.append : ∀ {ds es : List D} {vs ws : List V}, RpL G φ H ds vs → RpL G φ H es ws → RpL G φ H (ds ++ es) (vs ++ ws)
  | _, _, _, _, .nil, s => s
  | _, _, _, _, .cons r t, s => .cons r (t.append s)
theorem RpL.get : ∀ {ds : List D} {vs : List V} {i : Nat} {d : D}, RpL G φ H ds vs → ds[i]? = some d → ∃ v, vs[i]? = some v ∧ Rp G φ H d v
  | _, _, _, _, .nil, e => by simp at e
  | _, _, 0, _, .cons r _, e => by simp at e; subst e; exact ⟨_, rfl, r⟩
  | _, _, i + 1, d, .cons _ t, e => by
    obtain ⟨v, h1, h2⟩ := RpL.get (i := i) (d := d) t (by simpa using e)
    exact ⟨v, by simpa using h1, h2⟩
theorem RpL.getV : ∀ {ds : List D} {vs : List V} {i : Nat} {v : V}, RpL G φ H ds vs → vs[i]? = some v → ∃ d, ds[i]? = some d ∧ Rp G φ H d v
  | _, _, _, _, .nil, e => by simp at e
  | _, _, 0, _, .cons r _, e => by simp at e; subst e; exact ⟨_, rfl, r⟩
  | _, _, i + 1, v, .cons _ t, e => by
    obtain ⟨d, h1, h2⟩ := RpL.getV (i := i) (v := v) t (by simpa using e)
    exact ⟨d, by simpa using h1, h2⟩
theorem RpL.set : ∀ {ds : List D} {vs : List V} {d : D} {v : V} (i : Nat), Rp G φ H d v → RpL G φ H ds vs → RpL G φ H (ds.set i d) (vs.set i v)
  | _, _, _, _, _, _, .nil => .nil
  | _, _, _, _, 0, r, .cons _ t => .cons r t
  | _, _, _, _, i + 1, r, .cons q t => .cons q (t.set i r)
theorem RpL.take : ∀ {ds : List D} {vs : List V} (n : Nat), RpL G φ H ds vs → RpL G φ H (ds.take n) (vs.take n)
  | _, _, 0, _ => .nil
  | _, _, _ + 1, .nil => .nil
  | _, _, n + 1, .cons r t => .cons r (t.take n)
theorem RpL.drop : ∀ {ds : List D} {vs : List V} (n : Nat), RpL G φ H ds vs → RpL G φ H (ds.drop n) (vs.drop n)
  | _, _, 0, r => r
  | _, _, _ + 1, .nil => .nil
  | _, _, n + 1, .cons _ t => t.drop n
theorem RpK.length : ∀ {ds : List (Key × D)} {vs : List (Key × V)}, RpK G φ H ds vs → ds.length = vs.length
  | _, _, .nil => rfl
  | _, _, .cons _ t => congrArg Nat.succ t.length

/-- the labels' objects: a dict by its entries -/
def dctO (P : Program) (w : World) (a : Addr) (xs : List (List Key × Addr × Value)) : HO := .ext fun h => ∃ o es ep, h.get? a = some o ∧ o.ExactDict ∧ o.data = .dict es ep ∧ es.toList = xs.map (entryOfKey (tupleKind (mixKind P w)))
inductive RpT (G : Gx) (φ : Lab) (H : Hp) : List (List Key × D) → List (List Key × Addr × Value) → Prop
  | nil : RpT G φ H [] []
  | cons {k : List Key} {q : Addr} {d : D} {v : V} {u : Value} {ds : List (List Key × D)} {xs : List (List Key × Addr × Value)} : SqTz G.K φ H q (k.map kV) → Rp G φ H d v → RelV v u → RpT G φ H ds xs → RpT G φ H ((k, d) :: ds) ((k, q, u) :: xs)
theorem RpT.growW {φ' : Lab} {H' : Hp} (g : Gw φ H φ' H') : ∀ {ds : List (List Key × D)} {xs : List (List Key × Addr × Value)}, RpT G φ H ds xs → RpT G φ' H' ds xs
  | _, _, .nil => .nil
  | _, _, .cons h r v t => .cons (h.growW g) (r.growW g) v (t.growW g)
def MOR (G : Gx) (φ : Lab) (H : Hp) : MO → Addr → Prop
  | .lst xs, a => ∃ vs, H a = some (.lst vs) ∧ RpL G.off φ H xs vs
  | .dT kvs, a => ∃ xs, H a = some (dctO G.P G.w a xs) ∧ (a == sysModules) = false ∧ kvs.length ≤ sizeLine ∧ (kvs.map (·.1)).Nodup ∧ RpT G.off φ H kvs xs
  | .fT kvs, a => ∃ xs, (∃ o, H a = some (.frz o (dctO G.P G.w a xs))) ∧ (a == sysModules) = false ∧ kvs.length ≤ sizeLine ∧ (kvs.map (·.1)).Nodup ∧ RpT G.off φ H kvs xs
theorem MOR.growW {φ' : Lab} {H' : Hp} {o : MO} {a : Addr} (m : MOR G φ H o a) (g : Gw φ H φ' H') (k : ∀ u, H a = some u → (∀ ps, u ≠ .tbl ps) → H' a = some u) : MOR G φ' H' o a := by
  cases o with
  | lst xs =>
    obtain ⟨vs, h1, h2⟩ := m
    exact ⟨vs, k _ h1 (fun _ z => nomatch z), h2.growW g⟩
  | dT kvs =>
    obtain ⟨xs, h1, h2, h3, h4, h5⟩ := m
    exact ⟨xs, k _ h1 (fun _ z => (by unfold dctO at z; cases z)), h2, h3, h4, h5.growW g⟩
  | fT kvs =>
    obtain ⟨xs, ⟨o, h1⟩, h2, h3, h4, h5⟩ := m
    exact ⟨xs, ⟨o, k _ h1 (fun _ z => nomatch z)⟩, h2, h3, h4, h5.growW g⟩
/-- what may stand at a label -/
structure Live (a : Addr) (u : HO) : Prop where
  nt : ∀ ps, u ≠ .tbl ps
  nf : ∀ o, u ≠ .frz o (.own 0)
  nc : ∀ q, u ≠ LamX.CodeO a q
theorem live_lst {a : Addr} {vs : List V} : Live a (.lst vs) := by
  refine ⟨fun _ z => (nomatch z), fun _ z => (nomatch z), fun q z => ?_⟩
  unfold LamX.CodeO at z
  cases z
theorem live_frz {a : Addr} {o : Obj} {u : HO} (h : u ≠ .own 0) : Live a (.frz o u) := by
  refine ⟨fun _ z => (nomatch z), fun _ z => h (HO.frz.inj z).2, fun q z => ?_⟩
  unfold LamX.CodeO at z
  cases z
theorem heap_at (a : Addr) (o : Obj) (no : ∀ x y z, o ≠ ⟨x, y, .freed, z⟩) : ∃ h : Heap, h.get? a = some o := by
  refine ⟨⟨(Array.replicate a default).push o, {}⟩, ?_⟩
  unfold Heap.get?
  have e : ((Array.replicate a (default : Obj)).push o)[a]? = some o := by
    have e0 : a = (Array.replicate a (default : Obj)).size := by simp
    conv => lhs; arg 2; rw [e0]
    exact Array.getElem?_push_size
  show (match ((Array.replicate a (default : Obj)).push o)[a]? with
    | some ⟨_, _, .freed, _⟩ => none
    | o => o) = some o
  rw [e]
  split
  · rename_i x y z h
    exact absurd (Option.some.inj h) (no _ _ _)
  · rfl
theorem live_dct {P : Program} {w : World} {a : Addr} {xs : List (List Key × Addr × Value)} : Live a (dctO P w a xs) := by
  refine ⟨fun _ z => (by unfold dctO at z; cases z), fun _ z => (by unfold dctO at z; cases z), fun q z => ?_⟩
  unfold dctO LamX.CodeO at z
  obtain ⟨h, e⟩ := heap_at a ⟨.none, none, .fields #[.none, .str q default], #[]⟩ (fun _ _ _ z => by cases z)
  have z1 := HO.ext.inj z
  have z2 := congrFun z1 h
  have z3 : ∃ (oc : Obj) (vs : Array Value) (t : Tok), h.get? a = some oc ∧ oc.data = .fields vs ∧ vs[1]? = some (.str q t) := ⟨_, _, _, e, rfl, rfl⟩
  rw [← z2] at z3
  obtain ⟨o, es, ep, e1, _, e3, _⟩ := z3
  rw [e] at e1
  cases e1
  cases e3
theorem MOR.live {o : MO} {a : Addr} (m : MOR G φ H o a) : ∃ u, H a = some u ∧ Live a u := by
  cases o with
  | lst xs =>
    obtain ⟨vs, h1, _⟩ := m
    exact ⟨_, h1, live_lst⟩
  | dT kvs =>
    obtain ⟨xs, h1, _⟩ := m
    exact ⟨_, h1, live_dct⟩
  | fT kvs =>
    obtain ⟨xs, ⟨o, h1⟩, _⟩ := m
    exact ⟨_, h1, live_frz (fun z => by unfold dctO at z; cases z)⟩
/-- what may be hidden: a list, a dict, a set under way -/
def Hid (a : Addr) (u : HO) : Prop := ((∃ vs, u = .lst vs) ∨ ∃ kvs, u = .dK kvs) ∨ ∃ F : Heap → Prop, u = .ext F ∧ ∀ h, F h → ∃ o es ep t, h.get? a = some o ∧ o.data = .set es ep t
theorem Hid.live {a : Addr} {u : HO} (h : Hid a u) : Live a u := by
  rcases h with (⟨vs, rfl⟩ | ⟨kvs, rfl⟩) | ⟨F, rfl, hF⟩
  · exact live_lst
  · refine ⟨fun _ z => (nomatch z), fun _ z => (nomatch z), fun q z => ?_⟩
    unfold LamX.CodeO at z
    cases z
  · refine ⟨fun _ z => (nomatch z), fun _ z => (nomatch z), fun q z => ?_⟩
    unfold LamX.CodeO at z
    obtain ⟨h, e⟩ := heap_at a ⟨.none, .none, .fields #[.none, .str q default], #[]⟩ (fun _ _ _ z => by cases z)
    have z2 := congrFun (HO.ext.inj z) h
    have z3 : ∃ (oc : Obj) (vs : Array Value) (t : Tok), h.get? a = some oc ∧ oc.data = .fields vs ∧ vs[1]? = some (.str q t) := ⟨_, _, _, e, rfl, rfl⟩
    rw [← z2] at z3
    obtain ⟨o, es, ep, t, e1, e3⟩ := hF h z3
    rw [e] at e1
    cases e1
    cases e3
theorem Hid.nf {a : Addr} {u : HO} (h : Hid a u) (o : Obj) (v : HO) : u ≠ .frz o v := by
  rcases h with (⟨vs, rfl⟩ | ⟨kvs, rfl⟩) | ⟨F, rfl, hF⟩ <;> exact fun z => nomatch z
theorem Hid.nd {a : Addr} {u : HO} (h : Hid a u) {P : Program} {w : World} {xs : List (List Key × Addr × Value)} : u ≠ dctO P w a xs := by
  rcases h with (⟨vs, rfl⟩ | ⟨kvs, rfl⟩) | ⟨F, rfl, hF⟩
  · intro z
    unfold dctO at z
    cases z
  · intro z
    unfold dctO at z
    cases z
  · intro z
    unfold dctO at z
    obtain ⟨h, e⟩ := heap_at a ⟨.type "dict", .none, .dict (xs.map (entryOfKey (tupleKind (mixKind P w)))).toArray 0, #[]⟩ (fun _ _ _ z => by cases z)
    have z2 := congrFun (HO.ext.inj z) h
    have z3 : ∃ o es ep, h.get? a = some o ∧ o.ExactDict ∧ o.data = .dict es ep ∧ es.toList = xs.map (entryOfKey (tupleKind (mixKind P w))) := ⟨_, _, _, e, ⟨rfl, rfl, rfl⟩, rfl, by simp⟩
    rw [← z2] at z3
    obtain ⟨o, es, ep, t, e1, e3⟩ := hF h z3
    rw [e] at e1
    cases e1
    cases e3
structure MemR (G : Gx) (φ : Lab) (μ : Mem) (H : Hp) : Prop where
  tb : LamX.Tabs G.s.T H
  sm : ∃ o, H sysModules = some (.frz o (.own 0))
  len : φ.l.length = μ.length
  nd : φ.l.Nodup
  at_ : ∀ (l : Nat) (o : MO), μ[l]? = some o → ∃ a, φ.l[l]? = some a ∧ MOR G φ H o a
  hd : ∀ a ∈ φ.h, ∃ u, H a = some u ∧ Hid a u
def EvR (G : Gx) (φ : Lab) (H : Hp) (ρ : Ev) (σ : L2.St) : Prop := ρ.length = σ.length ∧ ∀ (i : Nat) (d : D), ρ[i]? = some (some d) → ∃ v, σ[i]? = some (some v) ∧ Rp G φ H d v
theorem EvR.growW {ρ : Ev} {σ : L2.St} (g : Gw φ H φ' H') (h : EvR G φ H ρ σ) : EvR G φ' H' ρ σ := ⟨h.1, fun i d e => by
  obtain ⟨v, h1, h2⟩ := h.2 i d e
  exact ⟨v, h1, h2.growW g⟩⟩
theorem EvR.grow {ρ : Ev} {σ : L2.St} (g : Grow φ H φ' H') (h : EvR G φ H ρ σ) : EvR G φ' H' ρ σ := h.growW g.w
theorem EvR.set {ρ : Ev} {σ : L2.St} {d : D} {v : V} (i : Nat) (h : EvR G φ H ρ σ) (r : Rp G φ H d v) : EvR G φ H (ρ.set i (some d)) (σ.set i (some v)) := by
  refine ⟨by simp [h.1], fun j e hj => ?_⟩
  by_cases hij : i = j
  · subst hij
    have hl : i < ρ.length := by
      have := (List.getElem?_eq_some_iff.mp hj).1
      simpa using this
    rw [List.getElem?_set_self hl] at hj
    cases hj
    exact ⟨v, by rw [List.getElem?_set_self (by rw [← h.1]; exact hl)], r⟩
  · rw [List.getElem?_set_ne hij] at hj
    obtain ⟨u, h1, h2⟩ := h.2 j e hj
    exact ⟨u, by rw [List.getElem?_set_ne hij]; exact h1, h2⟩
theorem EvR.forget {ρ : Ev} {σ : L2.St} (i : Nat) (o : Option V) (h : EvR G φ H ρ σ) : EvR G φ H (ρ.set i none) (σ.set i o) := by
  refine ⟨by simp [h.1], fun j e hj => ?_⟩
  by_cases hij : i = j
  · subst hij
    have hl : i < ρ.length := by
      have := (List.getElem?_eq_some_iff.mp hj).1
      simpa using this
    rw [List.getElem?_set_self hl] at hj
    cases hj
  · rw [List.getElem?_set_ne hij] at hj
    obtain ⟨u, h1, h2⟩ := h.2 j e hj
    exact ⟨u, by rw [List.getElem?_set_ne hij]; exact h1, h2⟩

theorem EvR.e : ∀ {ρ : Ev} {σ : L2.St}, EvR G φ H ρ σ → RpE G φ H ρ σ
  | [], [], _ => .nil
  | [], _ :: _, h => by cases h.1
  | _ :: _, [], h => by cases h.1
  | o :: ρ, p :: σ, h => by
    have t : EvR G φ H ρ σ := ⟨Nat.succ.inj h.1, fun i d e => h.2 (i + 1) d e⟩
    cases o with
    | none => exact .no t.e
    | some d =>
      obtain ⟨v, h1, h2⟩ := h.2 0 d rfl
      cases h1
      exact .so h2 t.e
theorem RpE.ev : ∀ {ρ : Ev} {σ : L2.St}, RpE G φ H ρ σ → EvR G φ H ρ σ
  | _, _, .nil => ⟨rfl, fun i d e => by simp at e⟩
  | _, _, .no t => ⟨congrArg Nat.succ t.ev.1, fun i d e => by
      cases i with
      | zero => cases e
      | succ i => exact t.ev.2 i d e⟩
  | _, _, .so r t => ⟨congrArg Nat.succ t.ev.1, fun i d e => by
      cases i with
      | zero => cases e; exact ⟨_, rfl, r⟩
      | succ i => exact t.ev.2 i d e⟩
/-- an exception of the text: its class, its own dict's fields -/
def ExR (G : Gx) (φ : Lab) (H : Hp) (e : Ex) (cls : Value) (dd : Option Addr) : Prop :=
  (∃ C, cls = .ref C ∧ G.mg e.cls = some cls) ∧ ((e.fs = [] ∧ dd = none) ∨ ∃ d vs, dd = some d ∧ H d = some (.xd vs) ∧ d ∉ φ ∧ RpF G.off φ H e.fs vs)
end

/-! ### what a computation promises -/
section
variable (G : Gx)
/-- how a result is told: a value's tie, a row's, a truth's -/
abbrev Tie (α ν : Type) := Lab → Hp → α → ν → Prop
abbrev tieD : Tie D V := Rp G
abbrev tieL : Tie (List D) (List V) := RpL G
def tieB : Tie Bool Bool := fun _ _ b c => c = b
def Post {α ν : Type} (T : Tie α ν) (φ : Lab) (H : Hp) (r : Res α) (Q : ν → Hp → Prop) (E : XK) : Prop := match r with
  | .ok d μ' => ∀ φ' H' v, Grow φ H φ' H' → MemR G φ' μ' H' → T φ' H' d v → Q v H'
  | .exc e μ' => ∀ φ' H' cls dd, Grow φ H φ' H' → MemR G φ' μ' H' → ExR G φ' H' e cls dd → E cls dd H'
  | .bad => False
def tG {α ν : Type} (T : Tie α ν) (W : WX) (m : Ev → M α) : L2.St → Hp → (ν → Hp → Prop) → Prop := fun σ H Q => ∃ φ ρ μ, EvR G φ H ρ σ ∧ MemR G φ μ H ∧ Post G T φ H (m ρ μ) Q fun cls dd H' => W cls dd σ H'
/-- how a statement ends -/
inductive Fl where
  | nx (ρ : Ev) | rt (d : D) | bk (ρ : Ev) | ct (ρ : Ev)
inductive RS where
  | ok (f : Fl) (μ : Mem)
  | exc (e : Ex) (ρ : Ev) (μ : Mem)
  | bad
abbrev MS := Ev → Mem → RS
def PostS (φ : Lab) (H : Hp) (r : RS) (Z : Ends) (W : WX) : Prop := match r with
  | .ok (.nx ρ') μ' => ∀ φ' H' σ', Grow φ H φ' H' → MemR G φ' μ' H' → EvR G φ' H' ρ' σ' → Z.nx σ' H'
  | .ok (.bk ρ') μ' => ∀ φ' H' σ', Grow φ H φ' H' → MemR G φ' μ' H' → EvR G φ' H' ρ' σ' → Z.bk σ' H'
  | .ok (.ct ρ') μ' => ∀ φ' H' σ', Grow φ H φ' H' → MemR G φ' μ' H' → EvR G φ' H' ρ' σ' → Z.ct σ' H'
  | .ok (.rt d) μ' => ∀ φ' H' v, Grow φ H φ' H' → MemR G φ' μ' H' → Rp G φ' H' d v → Z.rt v H'
  | .exc e ρ' μ' => ∀ φ' H' σ' cls dd, Grow φ H φ' H' → MemR G φ' μ' H' → EvR G φ' H' ρ' σ' → ExR G φ' H' e cls dd → W cls dd σ' H'
  | .bad => False
def tS (W : WX) (m : MS) : TS := fun Z σ H => ∃ φ ρ μ, EvR G φ H ρ σ ∧ MemR G φ μ H ∧ PostS G φ H (m ρ μ) Z W
end

/-! ### weakening, composing -/
section
variable {G : Gx} {φ φ1 : Lab} {H H1 : Hp} {α ν : Type} {T : Tie α ν}
theorem Post.grow {r : Res α} {Q : ν → Hp → Prop} {E : XK} (g : Grow φ H φ1 H1) (h : Post G T φ H r Q E) : Post G T φ1 H1 r Q E := by
  cases r with
  | ok d μ => exact fun φ' H' v g' => h φ' H' v (g.trans g')
  | exc e μ => exact fun φ' H' c d g' => h φ' H' c d (g.trans g')
  | bad => exact h
theorem PostS.grow {r : RS} {Z : Ends} {W : WX} (g : Grow φ H φ1 H1) (h : PostS G φ H r Z W) : PostS G φ1 H1 r Z W := by
  cases r with
  | ok f μ => cases f <;> exact fun φ' H' v g' => h φ' H' v (g.trans g')
  | exc e ρ μ => exact fun φ' H' σ c d g' => h φ' H' σ c d (g.trans g')
  | bad => exact h
end
end SE

/-! SE2: expressions as computations. -/
namespace SE
open PySem PySem.Spec PyProof.Rows L2
end SE
abbrev L2.Cx.G (X : L2.Cx) (Γ : SE.Gs) : SE.Gx := ⟨X.K, X.mg, Γ, X.prog, X.w⟩
namespace SE
open PySem PySem.Spec PyProof.Rows L2
abbrev JE (X : Cx) (Γ : Gs) (W : WX) (e : Expr) (m : Ev → M D) : Prop := PE X e (tG (X.G Γ) (tieD (X.G Γ)) W m)
abbrev JL (X : Cx) (Γ : Gs) (W : WX) (es : List Expr) (m : Ev → M (List D)) : Prop := PA X es (tG (X.G Γ) (tieL (X.G Γ)) W m)
abbrev JT (X : Cx) (Γ : Gs) (W : WX) (e : Expr) (m : Ev → M Bool) : Prop := PT X e (tG (X.G Γ) tieB W m)
theorem pe_w {X : Cx} {e : Expr} {t t' : TE} (h : PE X e t) (w : ∀ σ H Q, t' σ H Q → t σ H Q) : PE X e t' := ⟨fun pins s σ H Q I q => h.run pins s σ H Q I (w σ H Q q)⟩
theorem pa_w {X : Cx} {e : List Expr} {t t' : TA} (h : PA X e t) (w : ∀ σ H Q, t' σ H Q → t σ H Q) : PA X e t' := ⟨fun p pins s σ H Q I q => h.run p pins s σ H Q I (w σ H Q q)⟩
theorem pt_w {X : Cx} {e : Expr} {t t' : TT} (h : PT X e t) (w : ∀ σ H Q, t' σ H Q → t σ H Q) : PT X e t' := ⟨fun pins s σ H Q I q => h.run pins s σ H Q I (w σ H Q q)⟩
theorem ps_w {X : Cx} {e : Stmt} {t t' : TS} (h : PS X e t) (w : ∀ D σ H, t' D σ H → t D σ H) : PS X e t' := ⟨fun pins s σ H D I q => h.run pins s σ H D I (w D σ H q)⟩
theorem pss_w {X : Cx} {e : List Stmt} {t t' : TS} (h : PSs X e t) (w : ∀ D σ H, t' D σ H → t D σ H) : PSs X e t' := ⟨fun pins s σ H D I q => h.run pins s σ H D I (w D σ H q)⟩

section
variable {G : Gx} {φ : Lab} {μ : Mem} {H : Hp}
theorem MemR.keep {H' : Hp} {φ : Lab} (R : MemR G φ μ H) (k : ∀ b o, H b = some o → H' b = some o) (g : Grow φ H φ H') : MemR G φ μ H' :=
  ⟨R.tb.ext k, let ⟨o, e⟩ := R.sm; ⟨o, k _ _ e⟩, R.len, R.nd, fun l o e => by
    obtain ⟨a, h1, h2⟩ := R.at_ l o e
    exact ⟨a, h1, h2.growW g.w fun u e _ => k _ _ e⟩, fun a ha => let ⟨u, e, z⟩ := R.hd a ha; ⟨u, k _ _ e, z⟩⟩
/-- the tables stand where another thing is written -/
theorem tabs_upd {T : List (Addr × Str)} {p : Addr} {o u : HO} (t : LamX.Tabs T H) (h : H p = some u) (n1 : ∀ ps, u ≠ .tbl ps) (n2 : ∀ q, u ≠ LamX.CodeO p q) : LamX.Tabs T (upd H p o) := fun q hq => by
  obtain ⟨ps, t1, t2, t3⟩ := t q hq
  refine ⟨ps, ?_, t2, fun pos cv hc => ?_⟩
  · rw [upd_ne (fun z => by rw [z, h] at t1; exact n1 ps (Option.some.inj t1))]
    exact t1
  · obtain ⟨c, e1, e2⟩ := t3 pos cv hc
    refine ⟨c, e1, ?_⟩
    rw [upd_ne (fun z => by rw [z, h] at e2; exact n2 _ (Option.some.inj e2))]
    exact e2
theorem MemR.out (R : MemR G φ μ H) {p : Addr} (h : H p = none) : p ∉ φ := fun hm => by
  rcases hm with hm | hm
  · obtain ⟨l, hl, e⟩ := List.getElem_of_mem hm
    have e2 : φ.l[l]? = some p := by rw [List.getElem?_eq_getElem hl, e]
    have hl2 : l < μ.length := by rw [← R.len]; exact hl
    obtain ⟨a, h1, h2⟩ := R.at_ l μ[l] (List.getElem?_eq_getElem hl2)
    rw [e2] at h1
    cases h1
    obtain ⟨u, h3, _⟩ := h2.live
    rw [h] at h3
    cases h3
  · obtain ⟨u, e, _⟩ := R.hd p hm
    rw [h] at e
    cases e
theorem dm_upd {p : Addr} {o : HO} (ho : ∀ ps, o ≠ .tbl ps) (b : Addr) (u : HO) (e : H b = some u) (t : ∀ ps, u ≠ .tbl ps) : ∃ v, upd H p o b = some v ∧ ∀ ps, v ≠ .tbl ps := by
  by_cases hb : b = p
  · exact ⟨o, by rw [hb, upd_same], ho⟩
  · exact ⟨u, by rw [upd_ne hb]; exact e, t⟩
theorem dm_laid {p : Addr} {o : HO} (h : H p = none) (b : Addr) (u : HO) (e : H b = some u) (t : ∀ ps, u ≠ .tbl ps) : ∃ v, upd H p o b = some v ∧ ∀ ps, v ≠ .tbl ps := ⟨u, by rw [upd_ne (ne_of_none e h)]; exact e, t⟩
theorem Grow.laid {p : Addr} {o : HO} (h : H p = none) : Grow φ H φ (upd H p o) :=
  ⟨⟨[], by simp, fun _ z => nomatch z⟩, fun _ z n => absurd z n, fun _ z => z, fun b u e _ _ => by rw [upd_ne (ne_of_none e h)]; exact e, dm_laid h, fun b o u e => by rw [upd_ne (ne_of_none e h)]; exact e⟩
theorem keep_laid {p : Addr} {o : HO} (h : H p = none) : ∀ b u, H b = some u → upd H p o b = some u := fun b u e => by rw [upd_ne (ne_of_none e h)]; exact e
theorem MemR.laid {p : Addr} {o : HO} (R : MemR G φ μ H) (h : H p = none) : MemR G φ μ (upd H p o) := R.keep (keep_laid h) (Grow.laid h)
/-- a new label -/
def Lab.add (φ : Lab) (p : Addr) : Lab := ⟨φ.l ++ [p], φ.h⟩
theorem Grow.newl {p : Addr} {o : HO} (h : H p = none) : Grow φ H (φ.add p) (upd H p o) :=
  ⟨⟨[p], rfl, fun a z u e => by rw [List.mem_singleton.mp z, h] at e; cases e⟩, fun _ z n => absurd z n, fun _ z => z, fun b u e _ _ => by rw [upd_ne (ne_of_none e h)]; exact e, dm_laid h, fun b o u e => by rw [upd_ne (ne_of_none e h)]; exact e⟩
theorem MemR.newO {p : Addr} {u : HO} {o : MO} (R : MemR G φ μ H) (h : H p = none) (r : MOR G (φ.add p) (upd H p u) o p) : MemR G (φ.add p) (μ ++ [o]) (upd H p u) := by
  have g : Grow φ H (φ.add p) (upd H p u) := Grow.newl h
  refine ⟨R.tb.ext (keep_laid h), let ⟨o, e⟩ := R.sm; ⟨o, keep_laid h _ _ e⟩, by simp [R.len, Lab.add], ?_, fun l o e => ?_, fun a ha => let ⟨u, e, z⟩ := R.hd a ha; ⟨u, keep_laid h _ _ e, z⟩⟩
  · show (φ.l ++ [p]).Nodup
    rw [List.nodup_append]
    refine ⟨R.nd, by simp, fun a ha b hb => ?_⟩
    rw [List.mem_singleton.mp hb]
    intro z
    subst z
    exact R.out h (.inl ha)
  · by_cases hl : l < μ.length
    · rw [List.getElem?_append_left hl] at e
      obtain ⟨a, h1, h2⟩ := R.at_ l o e
      exact ⟨a, by show (φ.l ++ [p])[l]? = _; rw [List.getElem?_append_left (by rw [R.len]; exact hl)]; exact h1, h2.growW g.w fun u e _ => keep_laid h _ _ e⟩
    · have hl2 : l = μ.length := by
        have := (List.getElem?_eq_some_iff.mp e).1
        simp at this
        omega
      subst hl2
      rw [List.getElem?_append_right (Nat.le_refl _)] at e
      simp at e
      subst e
      exact ⟨p, by show (φ.l ++ [p])[_]? = _; rw [List.getElem?_append_right (by rw [R.len]; exact Nat.le_refl _), R.len]; simp, r⟩
theorem MemR.newl {p : Addr} {vs : List V} {ds : List D} (R : MemR G φ μ H) (h : H p = none) (r : RpL G.off φ H ds vs) : MemR G (φ.add p) (μ ++ [.lst ds]) (upd H p (.lst vs)) :=
  R.newO h ⟨vs, upd_same, r.grow (Grow.newl h)⟩
/-- a label's object is written -/
theorem Grow.wr {l : Nat} {a : Addr} {o : HO} (h : φ.l[l]? = some a) (nf : ∀ o v, H a ≠ some (.frz o v)) (ho : ∀ ps, o ≠ .tbl ps := by intro _ z; cases z) : Grow φ H φ (upd H a o) :=
  ⟨⟨[], by simp, fun _ z => nomatch z⟩, fun _ z n => absurd z n, fun _ z => z, fun b u e n _ => by rw [upd_ne (fun z => n (by rw [z]; exact List.mem_of_getElem? h))]; exact e, dm_upd ho, fun b o u e => by rw [upd_ne (fun z => nf o u (by rw [← z]; exact e))]; exact e⟩
theorem MemR.at_live {l : Nat} {a : Addr} (R : MemR G φ μ H) (h : φ.l[l]? = some a) : ∃ u, H a = some u ∧ Live a u := by
  have hl : l < μ.length := by
    rw [← R.len]
    exact (List.getElem?_eq_some_iff.mp h).1
  obtain ⟨b, h1, h2⟩ := R.at_ l μ[l] (List.getElem?_eq_getElem hl)
  rw [h] at h1
  cases h1
  exact h2.live
theorem MemR.tbWr {l : Nat} {a : Addr} {o : HO} (R : MemR G φ μ H) (h : φ.l[l]? = some a) : LamX.Tabs G.s.T (upd H a o) := by
  obtain ⟨u, h3, L⟩ := R.at_live h
  exact tabs_upd R.tb h3 L.nt L.nc
theorem MemR.smWr {l : Nat} {a : Addr} {u : HO} (R : MemR G φ μ H) (h : φ.l[l]? = some a) : ∃ o, upd H a u sysModules = some (.frz o (.own 0)) := by
  obtain ⟨u, h3, L⟩ := R.at_live h
  obtain ⟨o, e⟩ := R.sm
  exact ⟨o, by rw [upd_ne (fun z => by rw [z, h3] at e; exact L.nf _ (Option.some.inj e))]; exact e⟩
theorem MemR.wrO {l : Nat} {a : Addr} {u : HO} {o : MO} (R : MemR G φ μ H) (h : φ.l[l]? = some a) (nf : ∀ o v, H a ≠ some (.frz o v)) (hu : ∀ ps, u ≠ .tbl ps) (hh : a ∈ φ.h → Hid a u) (r : MOR G φ (upd H a u) o a) : MemR G φ (μ.set l o) (upd H a u) := by
  have g : Grow φ H φ (upd H a u) := Grow.wr h nf hu
  refine ⟨R.tbWr h, R.smWr h, by simp [R.len], R.nd, fun j o' e => ?_, fun b hb => let ⟨v, e, z⟩ := R.hd b hb; by
    by_cases q : b = a
    · exact ⟨u, by rw [q, upd_same], by rw [q]; exact hh (by rw [← q]; exact hb)⟩
    · exact ⟨v, by rw [upd_ne q]; exact e, z⟩⟩
  by_cases hj : l = j
  · subst hj
    have hl : l < μ.length := by
      have := (List.getElem?_eq_some_iff.mp e).1
      simpa using this
    rw [List.getElem?_set_self hl] at e
    cases e
    exact ⟨a, h, r⟩
  · rw [List.getElem?_set_ne hj] at e
    obtain ⟨b, h1, h2⟩ := R.at_ j o' e
    refine ⟨b, h1, h2.growW g.w fun v e _ => ?_⟩
    have hb : b ≠ a := fun z => hj (by
      subst z
      obtain ⟨i1, q1⟩ := List.getElem?_eq_some_iff.mp h
      obtain ⟨i2, q2⟩ := List.getElem?_eq_some_iff.mp h1
      exact (List.getElem_inj R.nd).mp (q1.trans q2.symm))
    rw [upd_ne hb]
    exact e
theorem MemR.wr {l : Nat} {a : Addr} {vs : List V} {ds : List D} (R : MemR G φ μ H) (h : φ.l[l]? = some a) (nf : ∀ o v, H a ≠ some (.frz o v)) (r : RpL G.off φ H ds vs) : MemR G φ (μ.set l (.lst ds)) (upd H a (.lst vs)) :=
  R.wrO h nf (fun _ z => nomatch z) (fun _ => .inl (.inl ⟨vs, rfl⟩)) ⟨vs, upd_same, r.grow (Grow.wr h nf)⟩

/-- a part, then the rest -/
theorem bG {α ν β ξ : Type} {T : Tie α ν} {U : Tie β ξ} {W : WX} {m : Ev → M α} {k : α → M β} {ρ : Ev} {σ : L2.St} {Q : ξ → Hp → Prop} {R : ν → Hp → Prop}
    (e : EvR G φ H ρ σ) (r : MemR G φ μ H) (p : Post G U φ H (M.bind (m ρ) k μ) Q fun cls dd H' => W cls dd σ H')
    (hk : ∀ φ1 H1 x v μ1, Grow φ H φ1 H1 → EvR G φ1 H1 ρ σ → MemR G φ1 μ1 H1 → T φ1 H1 x v → Post G U φ1 H1 (k x μ1) Q (fun cls dd H' => W cls dd σ H') → R v H1) : tG G T W m σ H R := by
  refine ⟨φ, ρ, μ, e, r, ?_⟩
  unfold M.bind at p
  cases q : m ρ μ with
  | ok d μ1 =>
    rw [q] at p
    intro φ1 H1 v g r1 rv
    exact hk φ1 H1 d v μ1 g (e.grow g) r1 rv (Post.grow g p)
  | exc x μ1 =>
    rw [q] at p
    exact p
  | bad =>
    rw [q] at p
    exact p
/-- the whole from its own tie -/
theorem bE {α ν β ξ : Type} {T : Tie α ν} {U : Tie β ξ} {W : WX} {m : Ev → M α} {k : α → Ev → M β} {σ : L2.St} {Q : ξ → Hp → Prop} {R : ν → Hp → Prop}
    (h : tG G U W (fun ρ => M.bind (m ρ) fun x => k x ρ) σ H Q)
    (hk : ∀ φ1 H1 x v ρ μ1, EvR G φ1 H1 ρ σ → MemR G φ1 μ1 H1 → T φ1 H1 x v → Post G U φ1 H1 (k x ρ μ1) Q (fun cls dd H' => W cls dd σ H') → R v H1) : tG G T W m σ H R := by
  obtain ⟨φ, ρ, μ, e, r, p⟩ := h
  exact bG e r p fun φ1 H1 x v μ1 _ e1 r1 t1 p1 => hk φ1 H1 x v ρ μ1 e1 r1 t1 p1
theorem Post.pure {α ν : Type} {T : Tie α ν} {d : α} {v : ν} {Q : ν → Hp → Prop} {E : XK} (p : Post G T φ H (.ok d μ) Q E) (R : MemR G φ μ H) (r : T φ H d v) : Q v H := p φ H v (Grow.refl _ _) R r
end

/-! ### operations by values -/
/-- a reading of two values is met by a computation -/
def OpI (G : Gx) (f : D → D → M D) (r : R2) : Prop :=
  ∀ (φ : Lab) (μ : Mem) (H : Hp) (a b : D) (x y : V) (Q : VK) (E : XK), MemR G φ μ H → Rp G φ H a x → Rp G φ H b y → Post G (tieD G) φ H (f a b μ) Q E → r x y H Q
def UnI (G : Gx) (f : D → M D) (r : V → Hp → VK → Prop) : Prop :=
  ∀ (φ : Lab) (μ : Mem) (H : Hp) (a : D) (x : V) (Q : VK) (E : XK), MemR G φ μ H → Rp G φ H a x → Post G (tieD G) φ H (f a μ) Q E → r x H Q
def CallI (G : Gx) (f : List D → M D) (r : List V → Hp → VK → Prop) : Prop :=
  ∀ (φ : Lab) (μ : Mem) (H : Hp) (a : List D) (x : List V) (Q : VK) (E : XK), MemR G φ μ H → RpL G φ H a x → Post G (tieD G) φ H (f a μ) Q E → r x H Q

def eVar (i : Nat) : Ev → M D := fun ρ => match ρ[i]? with
  | some (some d) => M.pure d
  | _ => M.bad
def eC (d : D) : Ev → M D := fun _ => M.pure d
def e2 (f : D → D → M D) (a b : Ev → M D) : Ev → M D := fun ρ => do let x ← a ρ; let y ← b ρ; f x y
def e1 (f : D → M D) (a : Ev → M D) : Ev → M D := fun ρ => do let x ← a ρ; f x
def eL (f : List D → M D) (a : Ev → M (List D)) : Ev → M D := fun ρ => do let x ← a ρ; f x
def lNil : Ev → M (List D) := fun _ => M.pure []
def lCons (a : Ev → M D) (r : Ev → M (List D)) : Ev → M (List D) := fun ρ => do let x ← a ρ; let xs ← r ρ; M.pure (x :: xs)
/-- a truth value, as a test, as a value -/
def truB (d : D) : M Bool := fun μ => match d with
  | .bl b => .ok b μ
  | .non => .ok false μ
  | .int i => .ok (i != 0) μ
  | .str x => if x.length ≤ sizeLine then .ok ((x.length : Int) != 0) μ else .bad
  | .tup xs => .ok (!xs.isEmpty) μ
  | .lst xs => .ok (!xs.isEmpty) μ
  | .ro xs => .ok (!xs.isEmpty) μ
  | .dct kvs => .ok (!kvs.isEmpty) μ
  | .loc l => match μ[l]? with
    | some (.lst xs) => .ok (!xs.isEmpty) μ
    | _ => .bad
  | _ => .bad
def bTru (a : Ev → M D) : Ev → M Bool := fun ρ => do let x ← a ρ; truB x
def bNot (a : Ev → M Bool) : Ev → M Bool := fun ρ => do let x ← a ρ; M.pure (!x)
def bAnd (a b : Ev → M Bool) : Ev → M Bool := fun ρ => do let x ← a ρ; if x = true then b ρ else M.pure false
def bOr (a b : Ev → M Bool) : Ev → M Bool := fun ρ => do let x ← a ρ; if x = true then M.pure true else b ρ
def isBl (d : D) : M Bool := fun μ => match d with
  | .bl b => .ok b μ
  | _ => .bad
def bOf (a : Ev → M D) : Ev → M Bool := fun ρ => do let x ← a ρ; isBl x
/-- and, or of truth values (all but the last) -/
def eAnd (a b : Ev → M D) : Ev → M D := fun ρ => do let x ← a ρ; let c ← isBl x; if c = true then b ρ else M.pure (.bl false)
def eOr (a b : Ev → M D) : Ev → M D := fun ρ => do let x ← a ρ; let c ← isBl x; if c = true then M.pure (.bl true) else b ρ
def eNot (a : Ev → M D) : Ev → M D := fun ρ => do let x ← a ρ; let c ← isBl x; M.pure (.bl (!c))
def eIf (t : Ev → M Bool) (a b : Ev → M D) : Ev → M D := fun ρ => do let x ← t ρ; if x = true then a ρ else b ρ

section
variable {X : Cx} {W : WX} {a b c : Expr} {es : List Expr} {ma mb mc : Ev → M D} {ms : Ev → M (List D)} {mt mu : Ev → M Bool} {pos : Pos}
theorem j_var (i : Nat) {x : Str} (hN : X.N[i]? = some x := by rfl) (hv : Vis X.env.scope x := by first | exact Or.inl rfl | exact Or.inr (Or.inl rfl) | exact Or.inr (Or.inr rfl)) (hd : (x == ("__debug__" : Str)) = false := by decide)
    (hcd : (x == ("__classdict__" : Str)) = false := by decide) : JE X Γ W (.Name x pos) (eVar i) := by
  refine pe_w (pv i hN hv hd hcd) fun σ H Q h => ?_
  obtain ⟨φ, ρ, μ, e, r, p⟩ := h
  unfold eVar at p
  cases q : ρ[i]? with
  | none =>
    rw [q] at p
    exact p.elim
  | some o =>
    cases o with
    | none =>
      rw [q] at p
      exact p.elim
    | some d =>
      rw [q] at p
      obtain ⟨v, h1, h2⟩ := e.2 i d q
      exact ⟨v, h1, Post.pure p r h2⟩
theorem j_const {d : D} {v : V} {e : Expr} (h : PE X e (tC v)) (hr : ∀ φ H, Rp (X.G Γ) φ H d v) : JE X Γ W e (eC d) := by
  refine pe_w h fun σ H Q q => ?_
  obtain ⟨φ, ρ, μ, e, r, p⟩ := q
  exact Post.pure p r (hr φ H)
theorem j_int {i : Int} {j : Nat} : JE X Γ W (.Constant (.int i) j pos) (eC (.int i)) := j_const pe_int fun _ _ => .int i
theorem j_bl {i : Bool} {j : Nat} : JE X Γ W (.Constant (.bool i) j pos) (eC (.bl i)) := j_const pe_bl fun _ _ => .bl i
theorem j_non {j : Nat} : JE X Γ W (.Constant .none j pos) (eC .non) := j_const pe_non fun _ _ => .non
theorem j_str {x : Str} {j : Nat} : JE X Γ W (.Constant (.str x) j pos) (eC (.str x)) := j_const pe_str fun _ _ => .str x
theorem j_op {op : Operator} {r : R2} {f : D → D → M D} (ho : OpR X (binaryOp op) r) (hi : OpI (X.G Γ) f r) (ha : JE X Γ W a ma) (hb : JE X Γ W b mb) : JE X Γ W (.BinOp a op b pos) (e2 f ma mb) := by
  refine pe_w (pe_op ho ha hb) fun σ H Q h => ?_
  refine bE h fun φ1 H1 x v ρ μ1 e r rv p => ?_
  refine bG e r p fun φ2 H2 y u μ2 g e2 r2 ru p2 => ?_
  exact hi φ2 μ2 H2 x y v u Q _ r2 (rv.grow g) ru p2
theorem j_un {op : UnaryOp} {r : V → Hp → VK → Prop} {f : D → M D} (ho : UnR X (unaryOp op) r) (hi : UnI (X.G Γ) f r) (ha : JE X Γ W a ma) : JE X Γ W (.UnaryOp op a pos) (e1 f ma) := by
  refine pe_w (pe_un ho ha) fun σ H Q h => ?_
  exact bE h fun φ1 H1 x v ρ μ1 e r rv p => hi φ1 μ1 H1 x v Q _ r rv p
theorem j_cmp {op : CmpOp} {r : R2} {f : D → D → M D} (ho : OpR X (compareOp op) r) (hi : OpI (X.G Γ) f r) (ha : JE X Γ W a ma) (hb : JE X Γ W b mb) (hm : behindInMarks op b = false) : JE X Γ W (.Compare a [op] [b] pos) (e2 f ma mb) := by
  refine pe_w (pe_cmpR ho ha hb hm) fun σ H Q h => ?_
  refine bE h fun φ1 H1 x v ρ μ1 e r rv p => ?_
  refine bG e r p fun φ2 H2 y u μ2 g e2 r2 ru p2 => ?_
  exact hi φ2 μ2 H2 x y v u Q _ r2 (rv.grow g) ru p2
theorem jl_nil : JL X Γ W [] lNil := by
  refine pa_w pa_nil fun σ H Q h => ?_
  obtain ⟨φ, ρ, μ, e, r, p⟩ := h
  exact Post.pure p r .nil
theorem jl_cons (ha : JE X Γ W a ma) (hr : JL X Γ W es ms) (hs : starEach (a :: es) X.env = (false, eval a X.env) :: starEach es X.env := by rfl) : JL X Γ W (a :: es) (lCons ma ms) := by
  refine pa_w (pa_cons ha hr hs) fun σ H Q h => ?_
  refine bE h fun φ1 H1 x v ρ μ1 e r rv p => ?_
  refine bG e r p fun φ2 H2 y u μ2 g e2 r2 ru p2 => ?_
  exact Post.pure p2 r2 (.cons (rv.grow g) ru)
/-! ### truth -/
theorem isEmpty_L {G : Gx} {φ : Lab} {H : Hp} {ds : List D} {vs : List V} (r : RpL G φ H ds vs) : (!vs.isEmpty) = !ds.isEmpty := by
  cases r <;> rfl
theorem isEmpty_K {G : Gx} {φ : Lab} {H : Hp} {ds : List (Key × D)} {vs : List (Key × V)} (r : RpK G φ H ds vs) : (!vs.isEmpty) = !ds.isEmpty := by
  cases r <;> rfl
theorem tru_i {G : Gx} {φ : Lab} {μ : Mem} {H : Hp} {d : D} {v : V} {Q : Bool → Hp → Prop} {E : XK} (R : MemR G φ μ H) (r : Rp G φ H d v) (p : Post G tieB φ H (truB d μ) Q E) : ∃ k, TruV G.K v H k ∧ Q k H := by
  cases r with
  | non => exact ⟨false, rfl, Post.pure p R rfl⟩
  | bl b => exact ⟨b, rfl, Post.pure p R rfl⟩
  | int i => exact ⟨i != 0, rfl, Post.pure p R rfl⟩
  | str x =>
    unfold truB at p
    by_cases h : x.length ≤ sizeLine
    · simp only [if_pos h] at p
      exact ⟨_, ⟨h, rfl⟩, Post.pure p R rfl⟩
    · simp only [if_neg h] at p
      exact p.elim
  | tup h r => exact ⟨_, .inr (.inl ⟨_, h.t, rfl⟩), by rw [isEmpty_L r]; exact Post.pure p R rfl⟩
  | lst h _ r => exact ⟨_, .inl ⟨_, SqL.of h, rfl⟩, by rw [isEmpty_L r]; exact Post.pure p R rfl⟩
  | ro h r => exact ⟨_, .inl ⟨_, h.t, rfl⟩, by rw [isEmpty_L r]; exact Post.pure p R rfl⟩
  | dct h _ r => exact ⟨_, .inr (.inr ⟨_, h, rfl⟩), by rw [isEmpty_K r]; exact Post.pure p R rfl⟩
  | @loc a l h =>
    unfold truB at p
    cases q : μ[l]? with
    | none =>
      simp only [q] at p
      exact p.elim
    | some o =>
      obtain ⟨b, h1, h2⟩ := R.at_ l o q
      rw [h] at h1
      cases h1
      cases o with
      | lst xs =>
        simp only [q] at p
        obtain ⟨vs, h3, h4⟩ := h2
        exact ⟨_, .inl ⟨_, SqL.of h3, rfl⟩, by rw [isEmpty_L h4]; exact Post.pure p R rfl⟩
      | dT kvs =>
        simp only [q] at p
        exact p.elim
      | fT kvs =>
        simp only [q] at p
        exact p.elim
  | ty n => exact p.elim
  | gl h => exact p.elim
  | err _ _ _ _ _ _ => exact p.elim
  | err0 _ _ _ => exact p.elim
  | clo _ _ _ _ _ => exact p.elim
  | obj _ _ _ _ => exact p.elim
theorem jt_tru (ha : JE X Γ W a ma) (he : ∀ whole, isTrue a X.env whole = (do let v ← whole; standAt a.pos; holding [v] (truthy v)) := by intro _; rfl) : JT X Γ W a (bTru ma) := by
  refine pt_w (pt_truth ha he) fun σ H Q h => ?_
  exact bE h fun φ1 H1 x v ρ μ1 e r rv p => tru_i r rv p
theorem jt_cmp {op : CmpOp} {r : R2} {f : D → D → M D} (ho : OpR X (compareOp op) r) (hi : OpI (X.G Γ) f r) (ha : JE X Γ W a ma) (hb : JE X Γ W b mb) (hm : behindInMarks op b = false) : JT X Γ W (.Compare a [op] [b] pos) (bOf (e2 f ma mb)) := by
  refine pt_w (pt_cmpR ho ha hb hm) fun σ H Q h => ?_
  obtain ⟨φ, ρ, μ, e, r, p⟩ := h
  change Post (X.G Γ) tieB φ H (M.bind (M.bind (ma ρ) fun x => M.bind (mb ρ) fun y => f x y) (fun x => isBl x) μ) _ _ at p
  have p' : Post (X.G Γ) tieB φ H (M.bind (ma ρ) (fun x => M.bind (mb ρ) fun y => M.bind (f x y) fun z => isBl z) μ) Q (fun cls dd H' => W cls dd σ H') := by
    have e1 : M.bind (M.bind (ma ρ) fun x => M.bind (mb ρ) fun y => f x y) (fun x => isBl x) μ = M.bind (ma ρ) (fun x => M.bind (mb ρ) fun y => M.bind (f x y) fun z => isBl z) μ := by
      unfold M.bind
      cases ma ρ μ with
      | ok d μ1 =>
        dsimp only
        cases mb ρ μ1 <;> rfl
      | exc e μ1 => rfl
      | bad => rfl
    rw [← e1]
    exact p
  refine bG (T := tieD (X.G Γ)) e r p' fun φ1 H1 x v μ1 g e1 r1 rv p1 => ?_
  refine bG (T := tieD (X.G Γ)) e1 r1 p1 fun φ2 H2 y u μ2 g2 e2 r2 ru p2 => ?_
  refine hi φ2 μ2 H2 x y v u _ (fun cls dd H' => W cls dd σ H') r2 (rv.grow g2) ru ?_
  unfold M.bind at p2
  cases q : f x y μ2 with
  | ok d μ3 =>
    rw [q] at p2
    intro φ3 H3 z g3 r3 rz
    dsimp only at p2
    cases rz with
    | bl k => exact ⟨k, rfl, p2 φ3 H3 k g3 r3 rfl⟩
    | _ => exact p2.elim
  | exc x μ3 =>
    rw [q] at p2
    exact p2
  | bad =>
    rw [q] at p2
    exact p2
abbrev JW (X : Cx) (Γ : Gs) (W : WX) (e : Expr) (m : Ev → M Bool) : Prop := PW X e (tG (X.G Γ) tieB W m)
theorem pw_w {X : Cx} {e : Expr} {t t' : TT} (h : PW X e t) (w : ∀ σ H Q, t' σ H Q → t σ H Q) : PW X e t' := ⟨fun wh pins s σ H Q I q => h.run wh pins s σ H Q I (w σ H Q q)⟩
theorem jw_and1 (ha : JT X Γ W a mt) : JW X Γ W (.BoolOp .And [a] pos) mt := pw_and1 ha
theorem jw_or1 (ha : JT X Γ W a mt) : JW X Γ W (.BoolOp .Or [a] pos) mt := pw_or1 ha
theorem jw_and {rest : List Expr} (ha : JT X Γ W a mt) (hb : JW X Γ W (.BoolOp .And (b :: rest) pos) mu) : JW X Γ W (.BoolOp .And (a :: b :: rest) pos) (bAnd mt mu) := by
  refine pw_w (pw_and ha hb) fun σ H Q h => ?_
  refine bE h fun φ1 H1 x v ρ μ1 e r rv p => ?_
  cases (show v = x from rv)
  cases x with
  | true => exact ⟨φ1, ρ, μ1, e, r, p⟩
  | false => exact Post.pure p r rfl
theorem jw_or {rest : List Expr} (ha : JT X Γ W a mt) (hb : JW X Γ W (.BoolOp .Or (b :: rest) pos) mu) : JW X Γ W (.BoolOp .Or (a :: b :: rest) pos) (bOr mt mu) := by
  refine pw_w (pw_or ha hb) fun σ H Q h => ?_
  refine bE h fun φ1 H1 x v ρ μ1 e r rv p => ?_
  cases (show v = x from rv)
  cases x with
  | true => exact Post.pure p r rfl
  | false => exact ⟨φ1, ρ, μ1, e, r, p⟩
theorem jt_w (h : JW X Γ W a mt) : JT X Γ W a mt := h.pt
theorem jt_not (ha : JT X Γ W a mt) : JT X Γ W (.UnaryOp .Not a pos) (bNot mt) := by
  refine pt_w (pt_not ha) fun σ H Q h => ?_
  exact bE h fun φ1 H1 x v ρ μ1 e r rv p => by
    cases (show v = x from rv)
    exact Post.pure p r rfl
/-- .. as values -/
theorem isBl_i {G : Gx} {β ξ : Type} {U : Tie β ξ} {φ : Lab} {μ : Mem} {H : Hp} {d : D} {v : V} {k : Bool → M β} {Q : ξ → Hp → Prop} {E : XK} (r : Rp G φ H d v) (p : Post G U φ H (M.bind (isBl d) k μ) Q E) : ∃ c, v = .bl c ∧ Post G U φ H (k c μ) Q E := by
  cases r with
  | bl b => exact ⟨b, rfl, p⟩
  | _ => exact p.elim
theorem j_and {rest : List Expr} (ha : JE X Γ W a ma) (hb : JE X Γ W (.BoolOp .And (b :: rest) pos) mb) : JE X Γ W (.BoolOp .And (a :: b :: rest) pos) (eAnd ma mb) := by
  refine pe_w (pe_and ha hb) fun σ H Q h => ?_
  refine bE h fun φ1 H1 x v ρ μ1 e r rv p => ?_
  obtain ⟨c, rfl, p⟩ := isBl_i rv p
  refine ⟨c, rfl, ?_⟩
  cases c with
  | true => exact ⟨φ1, ρ, μ1, e, r, p⟩
  | false => exact Post.pure p r (.bl false)
theorem j_or {rest : List Expr} (ha : JE X Γ W a ma) (hb : JE X Γ W (.BoolOp .Or (b :: rest) pos) mb) : JE X Γ W (.BoolOp .Or (a :: b :: rest) pos) (eOr ma mb) := by
  refine pe_w (pe_or ha hb) fun σ H Q h => ?_
  refine bE h fun φ1 H1 x v ρ μ1 e r rv p => ?_
  obtain ⟨c, rfl, p⟩ := isBl_i rv p
  refine ⟨c, rfl, ?_⟩
  cases c with
  | true => exact Post.pure p r (.bl true)
  | false => exact ⟨φ1, ρ, μ1, e, r, p⟩
theorem j_one {op : BoolOp} (ha : JE X Γ W a ma) : JE X Γ W (.BoolOp op [a] pos) ma := pe_one ha
theorem j_not (ha : JE X Γ W a ma) : JE X Γ W (.UnaryOp .Not a pos) (eNot ma) := by
  refine pe_w (pe_not ha) fun σ H Q h => ?_
  refine bE h fun φ1 H1 x v ρ μ1 e r rv p => ?_
  obtain ⟨c, rfl, p⟩ := isBl_i rv p
  exact ⟨c, rfl, Post.pure p r (.bl _)⟩
theorem j_if {t : Expr} (ht : JT X Γ W t mt) (ha : JE X Γ W a ma) (hb : JE X Γ W b mb) : JE X Γ W (.IfExp t a b pos) (eIf mt ma mb) := by
  refine pe_w (pe_ifExp ht ha hb) fun σ H Q h => ?_
  refine bE h fun φ1 H1 x v ρ μ1 e r rv p => ?_
  cases (show v = x from rv)
  cases x with
  | true => exact ⟨φ1, ρ, μ1, e, r, p⟩
  | false => exact ⟨φ1, ρ, μ1, e, r, p⟩
/-- a op b op' c -/
def e3c (f g : D → D → M D) (a b c : Ev → M D) : Ev → M D := fun ρ => do let x ← a ρ; let y ← b ρ; let z ← f x y; let k ← isBl z; if k = true then (do let w ← c ρ; g y w) else M.pure (.bl false)
theorem j_chain {op op' : CmpOp} {r r' : R2} {f g : D → D → M D} (ho : OpR X (compareOp op) r) (hi : OpI (X.G Γ) f r) (ho' : OpR X (compareOp op') r') (hi' : OpI (X.G Γ) g r') (ha : JE X Γ W a ma) (hb : JE X Γ W b mb) (hc : JE X Γ W c mc)
    (hm : lastMarks [op, op'] [b, c] = false := by with_unfolding_all rfl) : JE X Γ W (.Compare a [op, op'] [b, c] pos) (e3c f g ma mb mc) := by
  refine pe_w (pe_chain ho ho' ha hb hc hm) fun σ H Q h => ?_
  refine bE h fun φ1 H1 x v ρ μ1 e r rv p => ?_
  refine bG e r p fun φ2 H2 y u μ2 g2 e2 r2 ru p2 => ?_
  refine hi φ2 μ2 H2 x y v u _ (fun cls dd H' => W cls dd σ H') r2 (rv.grow g2) ru ?_
  change Post (X.G Γ) (tieD (X.G Γ)) φ2 H2 (M.bind (f x y) _ μ2) _ _ at p2
  unfold M.bind at p2
  cases q : f x y μ2 with
  | ok d μ3 =>
    rw [q] at p2
    intro φ3 H3 z g3 r3 rz
    dsimp only at p2
    obtain ⟨k, rfl, p3⟩ := isBl_i rz (Post.grow g3 p2)
    refine ⟨k, rfl, ?_⟩
    cases k with
    | false => exact Post.pure p3 r3 (.bl false)
    | true =>
      refine bG (e2.grow g3) r3 p3 fun φ4 H4 w t μ4 g4 e4 r4 rt p4 => ?_
      exact hi' φ4 μ4 H4 y w u t Q _ r4 ((ru.grow g3).grow g4) rt p4
  | exc x μ3 =>
    rw [q] at p2
    exact p2
  | bad =>
    rw [q] at p2
    exact p2
/-! ### displays -/
def tupM (ds : List D) : M D := fun μ => if ds.length ≤ 100000 then .ok (.tup ds) μ else .bad
def lstM (ds : List D) : M D := fun μ => if ds.length ≤ 100000 then .ok (.lst ds) μ else .bad
def newM (ds : List D) : M D := fun μ => if ds.length ≤ 100000 then .ok (.loc μ.length) (μ ++ [.lst ds]) else .bad
theorem line5 {n : Nat} (h : n ≤ 100000) : n ≤ sizeLine := by rw [sizeLine_eq]; omega
theorem j_tup {k : Nat} (h : JL X Γ W es ms) : JE X Γ W (.Tuple es k pos) (eL tupM ms) := by
  refine pe_w (pe_tup h) fun σ H Q q => ?_
  refine bE q fun φ1 H1 x v ρ μ1 e r rv p => ?_
  unfold tupM at p
  by_cases hl : x.length ≤ 100000
  · simp only [if_pos hl] at p
    refine ⟨by rw [← rv.length]; exact line5 hl, fun a ha => ?_⟩
    exact p φ1 _ _ (Grow.laid ha) (r.laid ha) (.tup (.inl ⟨.inl upd_same, r.out ha⟩) (rv.grow (Grow.laid ha)))
  · simp only [if_neg hl] at p
    exact p.elim
theorem j_lst (h : JL X Γ W es ms) : JE X Γ W (.List es pos) (eL lstM ms) := by
  refine pe_w (pe_lst h) fun σ H Q q => ?_
  refine bE q fun φ1 H1 x v ρ μ1 e r rv p => ?_
  unfold lstM at p
  by_cases hl : x.length ≤ 100000
  · simp only [if_pos hl] at p
    refine ⟨by rw [← rv.length]; exact line5 hl, fun a ha => ?_⟩
    exact p φ1 _ _ (Grow.laid ha) (r.laid ha) (.lst upd_same (r.out ha) (rv.grow (Grow.laid ha)))
  · simp only [if_neg hl] at p
    exact p.elim
/-- a list that will change -/
theorem j_new (h : JL X Γ W es ms) (h0 : Γ.off = Γ := by rfl) : JE X Γ W (.List es pos) (eL newM ms) := by
  refine pe_w (pe_lst h) fun σ H Q q => ?_
  refine bE q fun φ1 H1 x v ρ μ1 e r rv p => ?_
  unfold newM at p
  by_cases hl : x.length ≤ 100000
  · simp only [if_pos hl] at p
    refine ⟨by rw [← rv.length]; exact line5 hl, fun a ha => ?_⟩
    exact p _ _ _ (Grow.newl ha) (r.newl ha (by rw [Gx.off_eq (G := X.G Γ) h0]; exact rv)) (.loc (by show (φ1.l ++ [a])[_]? = _; rw [List.getElem?_append_right (by rw [r.len]; exact Nat.le_refl _), r.len]; simp))
  · simp only [if_neg hl] at p
    exact p.elim
/-! ### calls of built-ins by name -/
theorem j_callB {x : Str} {e : Expr} {p0 : Pos} {id : String} {r : List V → Hp → VK → Prop} {f : List D → M D} (hc : CallR X (.builtin id) r) (hi : CallI (X.G Γ) f r) (hg : Gl X x) (hm : X.mg x = none) (hv : bootBuiltins x = some (.builtin id)) (ha : JL X Γ W (e :: es) ms) (hn : x ≠ "__name__" := by decide) (hdb : (x == ("__debug__" : Str)) = false := by decide)
    (he : starEach (e :: es) X.env = (false, eval e X.env) :: starEach es X.env := by rfl) (hpl : (backTo pos (starEach es X.env)).any (·.1) = false := by rfl) : JE X Γ W (.Call (.Name x p0) (e :: es) [] pos) (eL f ms) := by
  refine pe_w (pe_callB hc hg hm hv ha hn hdb he hpl) fun σ H Q h => ?_
  exact bE h fun φ1 H1 x v ρ μ1 e r rv p => hi φ1 μ1 H1 x v Q _ r rv p
theorem j_callTy {x : Str} {e : Expr} {p0 : Pos} {T : String} {r : List V → Hp → VK → Prop} {f : List D → M D} (hc : CallR X (.type T) r) (hi : CallI (X.G Γ) f r) (hg : Gl X x) (hm : X.mg x = none) (hv : bootBuiltins x = some (.type T)) (ha : JL X Γ W (e :: es) ms) (hn : x ≠ "__name__" := by decide) (hdb : (x == ("__debug__" : Str)) = false := by decide)
    (he : starEach (e :: es) X.env = (false, eval e X.env) :: starEach es X.env := by rfl) (hpl : (backTo pos (starEach es X.env)).any (·.1) = false := by rfl) : JE X Γ W (.Call (.Name x p0) (e :: es) [] pos) (eL f ms) := by
  refine pe_w (pe_callTy hc hg hm hv ha hn hdb he hpl) fun σ H Q h => ?_
  exact bE h fun φ1 H1 x v ρ μ1 e r rv p => hi φ1 μ1 H1 x v Q _ r rv p
/-! ### subscripts -/
theorem j_ix {r : R2} {f : D → D → M D} (hr : IxR X r) (hi : OpI (X.G Γ) f r) (ha : JE X Γ W a ma) (hb : JE X Γ W b mb) (hs : PlainIx b := by intro _ _; rfl) : JE X Γ W (.Subscript a b pos) (e2 f ma mb) := by
  refine pe_w (pe_ix hr ha hb hs) fun σ H Q h => ?_
  refine bE h fun φ1 H1 x v ρ μ1 e r rv p => ?_
  refine bG e r p fun φ2 H2 y u μ2 g e2 r2 ru p2 => ?_
  exact hi φ2 μ2 H2 x y v u Q _ r2 (rv.grow g) ru p2
end
end SE

/-! SE3: the operations on values, and that they do what the computations say. -/
namespace SE
open PySem PySem.Spec PyProof.Rows L2
/-! ### a tree as data -/
mutual
def dP : D → PyData
  | .non => .none
  | .bl b => .bool b
  | .int i => .int i
  | .str x => .str x
  | .tup xs => .tuple (dPL xs)
  | .lst xs => .list (dPL xs)
  | .ro xs => .list (dPL xs)
  | .dct kvs => .dict (dPK kvs)
  | .loc _ => .none
  | .ty _ => .none
  | .gl _ => .none
  | .err _ _ => .none
  | .clo _ => .none
  | .obj _ _ => .none
def dPL : List D → List PyData
  | [] => []
  | d :: ds => dP d :: dPL ds
def dPK : List (Key × D) → List (PyData × PyData)
  | [] => []
  | (k, d) :: ds => ((match k with | .inl i => PyData.int i | .inr x => PyData.str x), dP d) :: dPK ds
end
mutual
/-- plain data; without dicts -/
def isP : D → Bool
  | .non | .bl _ | .int _ | .str _ => true
  | .tup xs => isPL xs
  | .lst xs => isPL xs
  | .ro xs => isPL xs
  | _ => false
def isPL : List D → Bool
  | [] => true
  | d :: ds => isP d && isPL ds
end
mutual
/-- plain data; without lists, dicts may be -/
def isQ : D → Bool
  | .non | .bl _ | .int _ | .str _ => true
  | .tup xs => isQL xs
  | .lst xs => isQL xs
  | .ro xs => isQL xs
  | .dct kvs => isQK kvs
  | _ => false
def isQL : List D → Bool
  | [] => true
  | d :: ds => isQ d && isQL ds
def isQK : List (Key × D) → Bool
  | [] => true
  | (_, d) :: ds => isQ d && isQK ds
end
mutual
/-- a bound of the text's length -/
def cost : D → Nat
  | .str x => (reprText x).length
  | .tup xs => costL xs + 3
  | .lst xs => costL xs + 3
  | .ro xs => costL xs + 3
  | .dct kvs => costK kvs + 3
  | _ => 1940
def costL : List D → Nat
  | [] => 0
  | d :: ds => cost d + 2 + costL ds
def costK : List (Key × D) → Nat
  | [] => 0
  | (k, d) :: ds => (match k with | .inl _ => 1940 | .inr x => (reprText x).length) + 4 + cost d + costK ds
end
section
variable {G : Gx} {φ : Lab} {H : Hp}
theorem andB {a b : Bool} (h : (a && b) = true) : a = true ∧ b = true := Bool.and_eq_true_iff.mp h
mutual
theorem Rp.dp : ∀ {d : D} {v : V}, Rp G φ H d v → isP d = true → Dp G.K H v (dP d)
  | _, _, .non, _ => .non
  | _, _, .bl b, _ => .bl b
  | _, _, .int i, _ => .int i
  | _, _, .str x, _ => .str x
  | _, _, .tup h r, p => .tup h.t (RpL.dp r p)
  | _, _, .lst h _ r, p => .lst (SqL.of h) (RpL.dp r p)
  | _, _, .ro h r, p => .lst h.t (RpL.dp r p)
  | _, _, .dct _ _ _, p => by cases p
  | _, _, .loc _, p => by cases p
  | _, _, .ty _, p => by cases p
  | _, _, .gl _, p => by cases p
  | _, _, .err _ _ _ _ _ _, p => by cases p
  | _, _, .err0 _ _ _, p => by cases p
  | _, _, .clo _ _ _ _ _, p => by cases p
  | _, _, .obj _ _ _ _, p => by cases p
theorem RpL.dp : ∀ {ds : List D} {vs : List V}, RpL G φ H ds vs → isPL ds = true → DpAll G.K H vs (dPL ds)
  | _, _, .nil, _ => .nil
  | _, _, .cons r t, p => .cons (Rp.dp r (andB p).1) (RpL.dp t (andB p).2)
end
mutual
theorem isP_nd : ∀ d : D, isP d = true → (dP d).hasDict = false
  | .non, _ => rfl
  | .bl _, _ => rfl
  | .int _, _ => rfl
  | .str _, _ => rfl
  | .tup xs, p => isPL_nd xs p
  | .lst xs, p => isPL_nd xs p
  | .ro xs, p => isPL_nd xs p
  | .dct _, p => by cases p
  | .loc _, p => by cases p
  | .ty _, p => by cases p
  | .gl _, p => by cases p
theorem isPL_nd : ∀ ds : List D, isPL ds = true → PyData.hasDictAll (dPL ds) = false
  | [], _ => rfl
  | d :: ds, p => by
    show ((dP d).hasDict || PyData.hasDictAll (dPL ds)) = false
    rw [isP_nd d (andB p).1, isPL_nd ds (andB p).2]
    rfl
end
theorem cost_join (sep : Nat) : ∀ ts : List Str, (Str.join ", " ts).length ≤ (ts.map (·.length)).sum + 2 * ts.length
  | [] => Nat.zero_le _
  | [x] => by
    show x.length ≤ _
    simp
  | x :: y :: r => by
    have ih := cost_join sep (y :: r)
    show (x ++ ", " ++ Str.join ", " (y :: r)).length ≤ _
    have e2 : ((", " : String) : Str).length = 2 := rfl
    rw [PySem.strLen_append, PySem.strLen_append, e2]
    simp only [List.map_cons, List.sum_cons, List.length_cons] at ih ⊢
    omega
theorem cost_int {i : Int} (h : i.natAbs.log2 < 1920) : ((toString i : String) : Str).length ≤ 1930 := by
  have e := PySem.int_text_length_le (a := i) (k := 1920) (by omega) h
  have q : ((toString i : String) : Str).length = (toString i).length := PySem.ofString_length _
  omega
mutual
theorem shown_cost : ∀ d : D, (dP d).showable = true → (dP d).shown.length ≤ cost d
  | .non, _ => by decide
  | .bl b, _ => by cases b <;> decide
  | .int i, h => by
    have h2 : i.natAbs.log2 < 1920 := by simpa [dP, PyData.showable] using h
    have := cost_int h2
    show ((toString i : String) : Str).length ≤ 1940
    omega
  | .str x, _ => Nat.le_refl _
  | .tup xs, h => by
    obtain ⟨h1, h2⟩ := shown_costL xs (by simpa [dP, PyData.showable] using h)
    have := PySem.tupleText_len_le (PyData.shownAll (dPL xs))
    show (tupleText (PyData.shownAll (dPL xs))).length ≤ costL xs + 3
    omega
  | .lst xs, h => by
    obtain ⟨h1, h2⟩ := shown_costL xs (by simpa [dP, PyData.showable] using h)
    have := PySem.listText_len_le (PyData.shownAll (dPL xs))
    show (listText (PyData.shownAll (dPL xs))).length ≤ costL xs + 3
    omega
  | .ro xs, h => by
    obtain ⟨h1, h2⟩ := shown_costL xs (by simpa [dP, PyData.showable] using h)
    have := PySem.listText_len_le (PyData.shownAll (dPL xs))
    show (listText (PyData.shownAll (dPL xs))).length ≤ costL xs + 3
    omega
  | .dct kvs, h => by
    have h1 := shown_costK kvs (by simpa [dP, PyData.showable] using h)
    have h2 := cost_join 0 (PyData.shownKv (dPK kvs))
    show (dictText (PyData.shownKv (dPK kvs))).length ≤ costK kvs + 3
    unfold dictText
    rw [PySem.strLen_append, PySem.strLen_append]
    have e1 : (("{" : String) : Str).length = 1 := rfl
    have e2 : (("}" : String) : Str).length = 1 := rfl
    rw [e1, e2]
    omega
  | .loc _, _ => by show (4 : Nat) ≤ 1940; omega
  | .ty _, _ => by show (4 : Nat) ≤ 1940; omega
  | .gl _, _ => by show (4 : Nat) ≤ 1940; omega
  | .err _ _, _ => by show (4 : Nat) ≤ 1940; omega
  | .clo _, _ => by show (4 : Nat) ≤ 1940; omega
  | .obj _ _, _ => by show (4 : Nat) ≤ 1940; omega
theorem shown_costL : ∀ ds : List D, PyData.showableAll (dPL ds) = true → ((PyData.shownAll (dPL ds)).map (·.length)).sum + 2 * (PyData.shownAll (dPL ds)).length ≤ costL ds ∧ True
  | [], _ => ⟨Nat.zero_le _, trivial⟩
  | d :: ds, h => by
    have h' : (dP d).showable = true ∧ PyData.showableAll (dPL ds) = true := by simpa [dPL, PyData.showableAll] using h
    have a := shown_cost d h'.1
    obtain ⟨b, _⟩ := shown_costL ds h'.2
    refine ⟨?_, trivial⟩
    show ((((dP d).shown :: PyData.shownAll (dPL ds)).map (·.length)).sum + 2 * ((dP d).shown :: PyData.shownAll (dPL ds)).length) ≤ cost d + 2 + costL ds
    simp only [List.map_cons, List.sum_cons, List.length_cons]
    omega
theorem shown_costK : ∀ ds : List (Key × D), PyData.showableKv (dPK ds) = true → ((PyData.shownKv (dPK ds)).map (·.length)).sum + 2 * (PyData.shownKv (dPK ds)).length ≤ costK ds
  | [], _ => Nat.zero_le _
  | (k, d) :: ds, h => by
    cases k with
    | inl i =>
      have h' : (i.natAbs.log2 < 1920 ∧ (dP d).showable = true) ∧ PyData.showableKv (dPK ds) = true := by simpa [dPK, PyData.showableKv, PyData.showable] using h
      have a := shown_cost d h'.1.2
      have b := shown_costK ds h'.2
      have c := cost_int h'.1.1
      show (((((toString i : String) : Str) ++ ": " ++ (dP d).shown) :: PyData.shownKv (dPK ds)).map (·.length)).sum + 2 * ((((toString i : String) : Str) ++ ": " ++ (dP d).shown) :: PyData.shownKv (dPK ds)).length ≤ 1940 + 4 + cost d + costK ds
      have e1 : ((": " : String) : Str).length = 2 := rfl
      simp only [List.map_cons, List.sum_cons, List.length_cons, PySem.strLen_append, e1]
      omega
    | inr x =>
      have h' : (dP d).showable = true ∧ PyData.showableKv (dPK ds) = true := by simpa [dPK, PyData.showableKv, PyData.showable] using h
      have a := shown_cost d h'.1
      have b := shown_costK ds h'.2
      show (((reprText x ++ ": " ++ (dP d).shown) :: PyData.shownKv (dPK ds)).map (·.length)).sum + 2 * ((reprText x ++ ": " ++ (dP d).shown) :: PyData.shownKv (dPK ds)).length ≤ (reprText x).length + 4 + cost d + costK ds
      have e1 : ((": " : String) : Str).length = 2 := rfl
      simp only [List.map_cons, List.sum_cons, List.length_cons, PySem.strLen_append, e1]
      omega
end
/-! ### the data is read off the heap, dicts too -/
section
variable {X : Cx} {pins : List (Addr × Obj)} {σ : L2.St} {s : Shared}
theorem keys_read {kvs : List (Key × V)} {vs : List (Key × Value)} (rk : KV kvs vs) {es : List DictEntry} (hp : Pairs (mixKind X.prog X.w) es vs) {ds : List (Key × D)} (r : RpK G φ H ds kvs) :
    ∃ as, ReadsAll s.heap (es.map (·.key)) ((dPK ds).map (·.1)) as ∧ sysModules ∉ as := by
  induction hp generalizing kvs ds with
  | nil =>
    cases rk
    cases r
    exact ⟨[], .nil, by simp⟩
  | @cons e kv es vs h1 h2 _ ih =>
    cases rk with
    | @cons p q _ _ hpq rk' =>
      cases r with
      | @cons k d v _ _ rd r' =>
        obtain ⟨as, ra, hn⟩ := ih rk' r'
        have hk : k = kv.1 := hpq.1
        rw [mixKind_is, ← hk] at h1
        rcases keyIs_shape h1 with ⟨i, t, rfl, ek⟩ | ⟨x, t, rfl, ek⟩
        · refine ⟨[] ++ as, ?_, by simpa using hn⟩
          show ReadsAll s.heap (e.key :: es.map (·.key)) (PyData.int i :: (dPK _).map (·.1)) _
          rw [ek]
          exact .cons (.int i t) ra
        · refine ⟨[] ++ as, ?_, by simpa using hn⟩
          show ReadsAll s.heap (e.key :: es.map (·.key)) (PyData.str x :: (dPK _).map (·.1)) _
          rw [ek]
          exact .cons (.str x t) ra
mutual
theorem Rp.rd (I : Inv X pins σ H s) (hG : X.K = G.K) (sm : ∃ o, H sysModules = some (.frz o (.own 0))) : ∀ {d : D} {v : V} {u : Value}, Rp G φ H d v → RelV v u → isQ d = true → ∃ as, Reads s.heap u (dP d) as ∧ sysModules ∉ as
  | _, _, _, .non, r, _ => by cases r; exact ⟨[], .none, by simp⟩
  | _, _, _, .bl b, r, _ => by cases r; exact ⟨[], .bool b, by simp⟩
  | _, _, _, .int i, r, _ => by obtain ⟨t, rfl⟩ := r; exact ⟨[], .int i t, by simp⟩
  | _, _, _, .str x, r, _ => by obtain ⟨t, rfl⟩ := r; exact ⟨[], .str x t, by simp⟩
  | _, _, _, .tup h r, rv, p => by
    cases rv
    have h2 := h.t
    rw [← hG] at h2
    obtain ⟨its, ri, ⟨o, ho, hc, n, hd⟩, _⟩ := I.tuple h2
    obtain ⟨as, ra, hn⟩ := RpL.rd I hG sm r ri p
    exact ⟨as, .tuple ho hc hd ra, hn⟩
  | _, _, _, .dct (a := a) h _ r, rv, p => by
    cases rv
    obtain ⟨_, hS, vs, rk, o, es, ep, ho, hx, hd, _, hp, _⟩ := I.hok _ _ h
    obtain ⟨as, ra, hn⟩ := keys_read (s := s) rk hp r
    obtain ⟨bs, rb, hm⟩ := RpK.rd I hG sm r rk hp p
    refine ⟨a :: as ++ bs, .dict ho hx.1 hd ra rb, fun hz => ?_⟩
    rcases List.mem_append.mp hz with z | z
    · rcases List.mem_cons.mp z with z | z
      · rw [← z] at hS
        simp at hS
      · exact hn z
    · exact hm z
  | _, _, _, .lst (a := a) h _ r, rv, p => by
    cases rv
    obtain ⟨its, ri, pl, _⟩ := I.list (SqL.of h)
    obtain ⟨⟨cls, dd, data, sl⟩, n, ho, hc, hdn, hd⟩ := pl
    obtain ⟨as, ra, hn⟩ := RpL.rd I hG sm r ri p
    refine ⟨a :: as, .list ho hc hd ra, fun z => ?_⟩
    rcases List.mem_cons.mp z with z | z
    · obtain ⟨o, e⟩ := sm
      rw [z, h] at e
      cases e
    · exact hn z
  | _, _, _, .ro (a := a) h r, rv, p => by
    cases rv
    have h2 := h.t
    rw [← hG] at h2
    obtain ⟨its, ri, pl, _⟩ := I.list h2
    obtain ⟨⟨cls, dd, data, sl⟩, n, ho, hc, hdn, hd⟩ := pl
    obtain ⟨as, ra, hn⟩ := RpL.rd I hG sm r ri p
    refine ⟨a :: as, .list ho hc hd ra, fun z => ?_⟩
    rcases List.mem_cons.mp z with z | z
    · obtain ⟨o, e⟩ := sm
      rcases h with ⟨k, _⟩ | k
      · rcases k with k | ⟨o', k⟩ <;> (rw [z, k] at e; cases e)
      · rcases k with (k | ⟨o', k⟩) | k
        · cases k
        · cases k
        · obtain ⟨ob, its', n', lk, _⟩ := k
          rw [← hG] at lk
          have n0 := (I.bs a ob (I.ok.mod.kin _ _ lk)).2
          rw [← z, e] at n0
          cases n0
    · exact hn z
  | _, _, _, .loc _, _, p => by cases p
  | _, _, _, .ty _, _, p => by cases p
  | _, _, _, .gl _, _, p => by cases p
  | _, _, _, .err _ _ _ _ _ _, _, p => by cases p
  | _, _, _, .err0 _ _ _, _, p => by cases p
  | _, _, _, .clo _ _ _ _ _, _, p => by cases p
  | _, _, _, .obj _ _ _ _, _, p => by cases p
theorem RpL.rd (I : Inv X pins σ H s) (hG : X.K = G.K) (sm : ∃ o, H sysModules = some (.frz o (.own 0))) : ∀ {ds : List D} {vs : List V} {us : List Value}, RpL G φ H ds vs → Vals vs us → isQL ds = true → ∃ as, ReadsAll s.heap us (dPL ds) as ∧ sysModules ∉ as
  | _, _, _, .nil, r, _ => by cases r; exact ⟨[], .nil, by simp⟩
  | _, _, _, .cons r t, rv, p => by
    cases rv with
    | cons r1 r2 =>
      obtain ⟨as, ra, hn⟩ := Rp.rd I hG sm r r1 (andB p).1
      obtain ⟨bs, rb, hm⟩ := RpL.rd I hG sm t r2 (andB p).2
      exact ⟨as ++ bs, .cons ra rb, fun z => (List.mem_append.mp z).elim hn hm⟩
theorem RpK.rd (I : Inv X pins σ H s) (hG : X.K = G.K) (sm : ∃ o, H sysModules = some (.frz o (.own 0))) : ∀ {ds : List (Key × D)} {kvs : List (Key × V)} {vs : List (Key × Value)} {es : List DictEntry}, RpK G φ H ds kvs → KV kvs vs → Pairs (mixKind X.prog X.w) es vs → isQK ds = true → ∃ as, ReadsAll s.heap (es.map (·.val)) ((dPK ds).map (·.2)) as ∧ sysModules ∉ as
  | _, _, _, _, .nil, r, hp, _ => by
    cases r
    cases hp
    exact ⟨[], .nil, by simp⟩
  | _, _, _, _, .cons (k := k) r t, rk, hp, p => by
    cases rk with
    | cons hpq rk' =>
      cases hp with
      | cons h1 h2 hp' =>
        have r1 := hpq.2
        rw [← h2] at r1
        obtain ⟨as, ra, hn⟩ := Rp.rd I hG sm r r1 (andB p).1
        obtain ⟨bs, rb, hm⟩ := RpK.rd I hG sm t rk' hp' (andB p).2
        refine ⟨as ++ bs, ?_, fun z => (List.mem_append.mp z).elim hn hm⟩
        cases k <;> exact .cons ra rb
end
end
end
/-! ### repr, str -/
/-- what may be shown -/
def shOk (d : D) : Bool := (isP d || isQ d) && (dP d).showable && decide ((dP d).depth ≤ 60) && decide (cost d ≤ 16000000)
def reprM : List D → M D
  | [d], μ => if shOk d = true then .ok (.str (dP d).shown) μ else .bad
  | _, _ => .bad
/-- of a value that is no str: the same as repr -/
def strM : List D → M D
  | [.str x], μ => .ok (.str x) μ
  | [.int i], μ => if i.natAbs.log2 < 1920 then .ok (.str (toString i)) μ else .bad
  | _, _ => .bad
section
variable {X : Cx}
theorem dp_nosys {G : Gx}  {φ : Lab} {H : Hp} {pins : List (Addr × Obj)} {σ : L2.St} {s : Shared} (I : Inv X pins σ H s) (hG : X.K = G.K) (sm : ∃ o, H sysModules = some (.frz o (.own 0))) {d : D} {v : V} {u : Value} (r : Rp G φ H d v) (rv : RelV v u) (h : (isP d || isQ d) = true) : ∃ as, Reads s.heap u (dP d) as ∧ ((dP d).hasDict = true → sysModules ∉ as) := by
  cases q : isP d with
  | true =>
    have h2 := Rp.dp r q
    rw [← hG] at h2
    obtain ⟨as, ra⟩ := Dp.reads I (dP d) v u h2 rv
    exact ⟨as, ra, fun z => by rw [isP_nd d q] at z; cases z⟩
  | false =>
    rw [q] at h
    obtain ⟨as, ra, hn⟩ := Rp.rd I hG sm r rv h
    exact ⟨as, ra, fun _ => hn⟩
def rRepr (G : Gx) : List V → Hp → VK → Prop := fun xs H Q => ∃ φ d v, xs = [v] ∧ (∃ o, H sysModules = some (.frz o (.own 0))) ∧ Rp G φ H d v ∧ shOk d = true ∧ Q (.str (dP d).shown) H
theorem call_reprD (hg : X.A.guards = some []) (hu : X.A.units + 64 < cLine) : CallR X (.builtin "repr") (rRepr (X.G Γ)) := by
  intro pins s σ H xs us Q I r h
  obtain ⟨φ, d, v, rfl, sm, rd, hs, q⟩ := h
  obtain ⟨u, rfl, rv⟩ := vals1 r
  obtain ⟨h12, hc⟩ := andB hs
  obtain ⟨h1, hd⟩ := andB h12
  obtain ⟨hp, hsh⟩ := andB h1
  have hd := of_decide_eq_true hd
  have hc := of_decide_eq_true hc
  obtain ⟨as, ra, hn⟩ := dp_nosys (G := (X.G Γ)) I rfl sm rd rv hp
  have hz : (dP d).shown.length ≤ sizeLine := by
    have := shown_cost d hsh
    rw [sizeLine_eq]
    omega
  have fin : ∀ (u' : Tok) (h' : Heap) (tk : Nat), (∀ b o, s.heap.get? b = some o → h'.get? b = some o) → EP X pins σ Q (.str (dP d).shown u') { s with heap := h', toks := tk } := fun u' h' tk k => ⟨.str _, H, I.kept k, ⟨_, rfl⟩, q⟩
  cases rd with
  | non => cases rv; exact PySem.P.repr_of_none (fin _ _ _ fun _ _ z => z)
  | bl b => cases rv; exact PySem.P.repr_of_bool (fin _ _ _ fun _ _ z => z)
  | int i => obtain ⟨t, rfl⟩ := rv; exact PySem.P.repr_of_int (by simpa [dP, PyData.showable] using hsh) (fin _ _ _ fun _ _ z => z)
  | str x => obtain ⟨t, rfl⟩ := rv; exact PySem.P.repr_of_str (fin _ _ _ fun _ _ z => z) hz
  | tup _ _ => cases rv; exact repr_of_reads' ra hsh hn hg (by omega) (fun _ _ z => z) (fun h' u' tk k => fin u' h' tk k) hz
  | lst _ _ _ => cases rv; exact repr_of_reads' ra hsh hn hg (by omega) (fun _ _ z => z) (fun h' u' tk k => fin u' h' tk k) hz
  | ro _ _ => cases rv; exact repr_of_reads' ra hsh hn hg (by omega) (fun _ _ z => z) (fun h' u' tk k => fin u' h' tk k) hz
  | dct _ _ _ => cases rv; exact repr_of_reads' ra hsh hn hg (by omega) (fun _ _ z => z) (fun h' u' tk k => fin u' h' tk k) hz
  | loc _ => cases hp
  | ty _ => cases hp
  | gl _ => cases hp
  | err _ _ _ _ _ _ => cases hp
  | err0 _ _ _ => cases hp
  | clo _ _ _ _ _ => cases hp
  | obj _ _ _ _ => cases hp
theorem repr_i (G : Gx) : CallI G reprM (rRepr G) := by
  intro φ μ H a x Q E R r p
  cases r with
  | nil => exact p.elim
  | @cons d v ds vs r t =>
    cases t with
    | cons _ _ => exact p.elim
    | nil =>
      unfold reprM at p
      by_cases h : shOk d = true
      · simp only [if_pos h] at p
        exact ⟨φ, d, v, rfl, R.sm, r, h, Post.pure p R (.str _)⟩
      · simp only [if_neg h] at p
        exact p.elim
def rStr : List V → Hp → VK → Prop := fun xs H Q => (∃ i, xs = [.int i] ∧ i.natAbs.log2 < 1920 ∧ Q (.str (toString i)) H) ∨ ∃ a, xs = [.str a] ∧ Q (.str a) H
theorem call_strD : CallR X (.type "str") rStr := by
  intro pins s σ H xs us Q I r h
  rcases h with h | h
  · exact call_str_int pins s σ H xs us Q I r h
  · obtain ⟨a, rfl, q⟩ := h
    obtain ⟨u, rfl, t, rfl⟩ := vals1 r
    exact PySem.P.str_of_str ⟨.str a, H, I, ⟨t, rfl⟩, q⟩
theorem str_i (G : Gx) : CallI G strM rStr := by
  intro φ μ H a x Q E R r p
  cases r with
  | nil => exact p.elim
  | @cons d v ds vs r t =>
    cases t with
    | cons _ _ => cases d <;> exact p.elim
    | nil =>
      cases r with
      | str x => exact .inr ⟨x, rfl, Post.pure p R (.str _)⟩
      | int i =>
        unfold strM at p
        by_cases h : i.natAbs.log2 < 1920
        · simp only [if_pos h] at p
          exact .inl ⟨i, rfl, h, Post.pure p R (.str _)⟩
        · simp only [if_neg h] at p
          exact p.elim
      | _ => exact p.elim
end
/-! ### numbers -/
def addM (a b : D) : M D := fun μ => match a, b with
  | .int i, .int j => .ok (.int (i + j)) μ
  | .str x, .str y => if x.length + y.length ≤ 1000000 then .ok (.str (x ++ y)) μ else .bad
  | .lst xs, .lst ys => if xs.length + ys.length ≤ 100000 then .ok (.lst (xs ++ ys)) μ else .bad
  | .tup xs, .tup ys => if xs.length + ys.length ≤ 100000 then .ok (.tup (xs ++ ys)) μ else .bad
  | _, _ => .bad
def subM (a b : D) : M D := fun μ => match a, b with
  | .int i, .int j => .ok (.int (i - j)) μ
  | _, _ => .bad
def mulOk (i j : Int) : Bool := decide (i.natAbs < 2 ^ 400000) && decide (j.natAbs < 2 ^ 400000)
@[irreducible] def mulM (a b : D) : M D := fun μ => match a, b with
  | .int i, .int j => if mulOk i j = true then .ok (.int (i * j)) μ else .bad
  | .lst xs, .int k => if 0 ≤ k ∧ k ≤ 1000 ∧ xs.length ≤ 1000 then .ok (.lst (List.replicate k.toNat xs).flatten) μ else .bad
  | _, _ => .bad
def fdivOk (j : Int) : Bool := decide (0 < j) && decide (j.natAbs < 2 ^ 8000)
def fdivM (a b : D) : M D := fun μ => match a, b with
  | .int i, .int j => if fdivOk j = true then .ok (.int (i / j)) μ else .bad
  | _, _ => .bad
def modM (a b : D) : M D := fun μ => match a, b with
  | .int i, .int j => if 0 < j then .ok (.int (i % j)) μ else .bad
  | _, _ => .bad
@[irreducible] def powM (a b : D) : M D := fun μ => match a, b with
  | .int i, .int j => if 0 ≤ j ∧ j ≤ 1000 ∧ i.natAbs < 2 ^ 64 then .ok (.int (i ^ j.toNat)) μ else .bad
  | _, _ => .bad
def negM (a : D) : M D := fun μ => match a with
  | .int i => .ok (.int (-i)) μ
  | _ => .bad
def cmpM (p : Int → Int → Bool) (a b : D) : M D := fun μ => match a, b with
  | .int i, .int j => .ok (.bl (p i j)) μ
  | _, _ => .bad
abbrev ltM := cmpM fun i j => decide (i < j)
abbrev leM := cmpM fun i j => decide (i ≤ j)
abbrev gtM := cmpM fun i j => decide (j < i)
abbrev geM := cmpM fun i j => decide (j ≤ i)
def isNM (a b : D) : M D := fun μ => match b with
  | .non => (match a with
    | .non => .ok (.bl true) μ
    | _ => .ok (.bl false) μ)
  | _ => .bad
def notNM (a b : D) : M D := fun μ => match b with
  | .non => (match a with
    | .non => .ok (.bl false) μ
    | _ => .ok (.bl true) μ)
  | _ => .bad
section
variable {X : Cx} {G : Gx}
/-- a list that is tracked, added -/
def rAdd (K : PySem.W.Frag) : R2 := fun x y H Q => rI0 (fun i j => .int (i + j)) x y H Q ∨ (∃ i j, x = .str i ∧ y = .str j ∧ i.length + j.length ≤ sizeLine ∧ Q (.str (i ++ j)) H) ∨ rCat x y H Q ∨ rCatA K x y H Q
theorem op_addD : OpR X (binaryOp .Add) (rAdd X.K) := op_add.or (op_add_str.or (op_cat.or op_catA))
theorem add_i : OpI G addM (rAdd G.K) := by
  intro φ μ H a b x y Q E R ra rb p
  cases ra with
  | int i =>
    cases rb with
    | int j => exact .inl ⟨i, j, rfl, rfl, Post.pure p R (.int _)⟩
    | _ => exact p.elim
  | str i =>
    cases rb with
    | str j =>
      unfold addM at p
      by_cases h : i.length + j.length ≤ 1000000
      · simp only [if_pos h] at p
        exact .inr (.inl ⟨i, j, rfl, rfl, by rw [sizeLine_eq]; omega, Post.pure p R (.str _)⟩)
      · simp only [if_neg h] at p
        exact p.elim
    | _ => exact p.elim
  | lst h1 n1 r1 =>
    cases rb with
    | lst h2 n2 r2 =>
      unfold addM at p
      rename_i a1 v1 d1 a2 v2 d2
      by_cases h : d1.length + d2.length ≤ 100000
      · simp only [if_pos h] at p
        refine .inr (.inr (.inl ⟨_, _, _, _, rfl, rfl, h1, h2, by rw [← r1.length, ← r2.length]; exact line5 h, fun c hc => ?_⟩))
        exact p φ _ _ (Grow.laid hc) (R.laid hc) (.lst upd_same (R.out hc) ((r1.append r2).grow (Grow.laid hc)))
      · simp only [if_neg h] at p
        exact p.elim
    | _ => exact p.elim
  | tup h1 r1 =>
    cases rb with
    | tup h2 r2 =>
      unfold addM at p
      rename_i a1 v1 d1 a2 v2 d2
      by_cases h : d1.length + d2.length ≤ 100000
      · simp only [if_pos h] at p
        refine .inr (.inr (.inr ⟨_, _, _, _, rfl, rfl, h1.t, h2.t, by rw [← r1.length, ← r2.length]; exact line5 h, fun e => ?_, fun _ e => ?_, fun _ _ c hc => ?_⟩))
        · subst e
          cases r1
          exact Post.pure p R (.tup h2 r2)
        · subst e
          cases r2
          rw [List.append_nil] at p
          exact Post.pure p R (.tup h1 r1)
        · exact p φ _ _ (Grow.laid hc) (R.laid hc) (.tup (.inl ⟨.inl upd_same, R.out hc⟩) ((r1.append r2).grow (Grow.laid hc)))
      · simp only [if_neg h] at p
        exact p.elim
    | _ => exact p.elim
  | _ => exact p.elim
theorem sub_i : OpI G subM (rI0 fun i j => .int (i - j)) := by
  intro φ μ H a b x y Q E R ra rb p
  cases ra with
  | int i =>
    cases rb with
    | int j => exact ⟨i, j, rfl, rfl, Post.pure p R (.int _)⟩
    | _ => exact p.elim
  | _ => exact p.elim
def rMul : R2 := fun x y H Q => rI CMulW (fun i j => .int (i * j)) x y H Q ∨ rRep x y H Q
theorem op_mulD : OpR X (binaryOp .Mult) rMul := op_mulW.or op_rep
theorem RpL.rep {φ : Lab} {H : Hp} {ds : List D} {vs : List V} (r : RpL G φ H ds vs) : ∀ k : Nat, RpL G φ H (List.replicate k ds).flatten (List.replicate k vs).flatten
  | 0 => .nil
  | k + 1 => by
    rw [List.replicate_succ, List.replicate_succ, List.flatten_cons, List.flatten_cons]
    exact r.append (RpL.rep r k)
theorem mul_i : OpI G mulM rMul := by
  intro φ μ H a b x y Q E R ra rb p
  cases ra with
  | int i =>
    cases rb with
    | int j =>
      unfold mulM at p
      by_cases h : mulOk i j = true
      · simp only [if_pos h] at p
        obtain ⟨h1, h2⟩ := andB h
        exact .inl ⟨i, j, rfl, rfl, wide_mul (of_decide_eq_true h1) (of_decide_eq_true h2) (by omega) (by omega) (by omega), Post.pure p R (.int _)⟩
      · simp only [if_neg h] at p
        exact p.elim
    | _ => unfold mulM at p; exact p.elim
  | lst h1 n1 r1 =>
    cases rb with
    | int k =>
      unfold mulM at p
      rename_i a1 v1 d1
      by_cases h : 0 ≤ k ∧ k ≤ 1000 ∧ d1.length ≤ 1000
      · simp only [if_pos h] at p
        obtain ⟨k0, k1, k2⟩ := h
        have hz : v1.length * k.toNat ≤ sizeLine := by
          rw [← r1.length, sizeLine_eq]
          have : d1.length * k.toNat ≤ 1000 * 1000 := Nat.mul_le_mul k2 (by omega)
          omega
        refine .inr ⟨_, k, _, rfl, rfl, h1, by omega, by omega, hz, fun c hc => ?_⟩
        exact p φ _ _ (Grow.laid hc) (R.laid hc) (.lst upd_same (R.out hc) ((r1.rep _).grow (Grow.laid hc)))
      · simp only [if_neg h] at p
        exact p.elim
    | _ => unfold mulM at p; exact p.elim
  | _ => unfold mulM at p; exact p.elim
theorem fdiv_i : OpI G fdivM (rI CDivW fun i j => .int (i / j)) := by
  intro φ μ H a b x y Q E R ra rb p
  cases ra with
  | int i =>
    cases rb with
    | int j =>
      unfold fdivM at p
      by_cases h : fdivOk j = true
      · simp only [if_pos h] at p
        obtain ⟨h1, h2⟩ := andB h
        exact ⟨i, j, rfl, rfl, wide_div (of_decide_eq_true h1) (of_decide_eq_true h2) (by omega) (by omega), Post.pure p R (.int _)⟩
      · simp only [if_neg h] at p
        exact p.elim
    | _ => exact p.elim
  | _ => exact p.elim
theorem mod_i : OpI G modM (rI (fun _ j => 0 < j) fun i j => .int (i % j)) := by
  intro φ μ H a b x y Q E R ra rb p
  cases ra with
  | int i =>
    cases rb with
    | int j =>
      unfold modM at p
      by_cases h : 0 < j
      · simp only [if_pos h] at p
        exact ⟨i, j, rfl, rfl, h, Post.pure p R (.int _)⟩
      · simp only [if_neg h] at p
        exact p.elim
    | _ => exact p.elim
  | _ => exact p.elim
theorem pow_i : OpI G powM (rI CPow fun i j => .int (i ^ j.toNat)) := by
  intro φ μ H a b x y Q E R ra rb p
  cases ra with
  | int i =>
    cases rb with
    | int j =>
      unfold powM at p
      by_cases h : 0 ≤ j ∧ j ≤ 1000 ∧ i.natAbs < 2 ^ 64
      · simp only [if_pos h] at p
        exact ⟨i, j, rfl, rfl, ⟨h.1, by omega, h.2.2⟩, Post.pure p R (.int _)⟩
      · simp only [if_neg h] at p
        exact p.elim
    | _ => unfold powM at p; exact p.elim
  | _ => unfold powM at p; exact p.elim
theorem neg_i : UnI G negM (rU fun i => .int (-i)) := by
  intro φ μ H a x Q E R ra p
  cases ra with
  | int i => exact ⟨i, rfl, Post.pure p R (.int _)⟩
  | _ => exact p.elim
theorem cmp_i {f : Int → Int → Bool} : OpI G (cmpM f) (rI0 fun i j => .bl (f i j)) := by
  intro φ μ H a b x y Q E R ra rb p
  cases ra with
  | int i =>
    cases rb with
    | int j => exact ⟨i, j, rfl, rfl, Post.pure p R (.bl _)⟩
    | _ => exact p.elim
  | _ => exact p.elim
theorem isN_i : OpI G isNM (fun x y H Q => y = .non ∧ Q (.bl (decide (x = .non))) H) := by
  intro φ μ H a b x y Q E R ra rb p
  cases rb with
  | non =>
    refine ⟨rfl, ?_⟩
    cases ra <;> exact Post.pure p R (.bl _)
  | _ => exact p.elim
theorem notN_i : OpI G notNM (fun x y H Q => y = .non ∧ Q (.bl (!decide (x = .non))) H) := by
  intro φ μ H a b x y Q E R ra rb p
  cases rb with
  | non =>
    refine ⟨rfl, ?_⟩
    cases ra <;> exact Post.pure p R (.bl _)
  | _ => exact p.elim
end
mutual
theorem isP_plain : ∀ d : D, isP d = true → (dP d).plain = true
  | .non, _ => rfl
  | .bl _, _ => rfl
  | .int _, _ => rfl
  | .str _, _ => rfl
  | .tup xs, h => isPL_plain xs h
  | .lst xs, h => isPL_plain xs h
  | .ro xs, h => isPL_plain xs h
  | .dct _, h => by cases h
  | .loc _, h => by cases h
  | .ty _, h => by cases h
  | .gl _, h => by cases h
  | .err _ _, h => by cases h
  | .clo _, h => by cases h
  | .obj _ _, h => by cases h
theorem isPL_plain : ∀ ds : List D, isPL ds = true → PyData.plainAll (dPL ds) = true
  | [], _ => rfl
  | d :: ds, h => Bool.and_eq_true_iff.mpr ⟨isP_plain d (andB h).1, isPL_plain ds (andB h).2⟩
end
/-! ### == -/
/-- the object at a label as a tree -/
def lookD (μ : Mem) (d : D) : D := match d with
  | .loc l => (match μ[l]? with
    | some (.lst xs) => .ro xs
    | _ => .loc l)
  | d => d
def eqOk (d : D) : Bool := isP d && decide ((dP d).depth ≤ 60)
def scD : D → D → Option Bool
  | .int i, .int j => some (decide (i = j))
  | .str x, .str y => some (decide (x = y))
  | .bl a, .bl b => some (decide (a = b))
  | .non, .non => some true
  | _, _ => none
def eqB (μ : Mem) (a b : D) : Option Bool := match scD a b with
  | some c => some c
  | none => if eqOk (lookD μ a) = true ∧ eqOk (lookD μ b) = true then some (PyData.eqv (dP (lookD μ a)) (dP (lookD μ b))) else none
def eqM (a b : D) : M D := fun μ => match eqB μ a b with
  | some c => .ok (.bl c) μ
  | none => .bad
def neM (a b : D) : M D := fun μ => match eqB μ a b with
  | some c => .ok (.bl (!c)) μ
  | none => .bad
section
variable {X : Cx} {G : Gx}
theorem Rp.lookD {φ : Lab} {μ : Mem} {H : Hp} {d : D} {v : V} (R : MemR G φ μ H) (r : Rp G φ H d v) (h : isP (lookD μ d) = true) : Dp G.K H v (dP (lookD μ d)) := by
  cases r with
  | @loc a l e =>
    unfold SE.lookD at h ⊢
    cases q : μ[l]? with
    | none =>
      simp only [q] at h
      cases h
    | some o =>
      obtain ⟨b, h1, h2⟩ := R.at_ l o q
      rw [e] at h1
      cases h1
      cases o with
      | lst xs =>
        simp only [q] at h ⊢
        obtain ⟨vs, h3, h4⟩ := h2
        exact .lst (SqL.of h3) (h4.dp h)
      | dT kvs =>
        simp only [q] at h
        cases h
      | fT kvs =>
        simp only [q] at h
        cases h
  | non => exact Rp.dp (φ := φ) (G := G) .non h
  | bl b => exact Rp.dp (φ := φ) (G := G) (.bl b) h
  | int i => exact Rp.dp (φ := φ) (G := G) (.int i) h
  | str x => exact Rp.dp (φ := φ) (G := G) (.str x) h
  | tup h1 r1 => exact Rp.dp (.tup h1 r1) h
  | lst h1 n1 r1 => exact Rp.dp (.lst h1 n1 r1) h
  | ro h1 r1 => exact Rp.dp (.ro h1 r1) h
  | dct h1 n1 r1 => exact Rp.dp (.dct h1 n1 r1) h
  | ty n => exact Rp.dp (φ := φ) (G := G) (.ty n) h
  | gl e => exact Rp.dp (φ := φ) (G := G) (.gl e) h
  | err _ _ _ _ _ _ => cases h
  | err0 _ _ _ => cases h
  | clo _ _ _ _ _ => cases h
  | obj _ _ _ _ => cases h
def rEqP (K : PySem.W.Frag) (n : Bool) : R2 := fun x y H Q => ∃ d e, Dp K H x d ∧ Dp K H y e ∧ d.plain = true ∧ e.plain = true ∧ d.depth ≤ 60 ∧ Q (.bl (n ^^ PyData.eqv d e)) H
theorem op_eqP (hu : X.A.units + 64 < cLine) : OpR X (compareOp .Eq) (rEqP X.K false) := by
  intro pins s σ H x y v u Q I rx ry h
  obtain ⟨d, e, hd, he, p1, p2, dp, q⟩ := h
  obtain ⟨as, r1⟩ := Dp.reads I d x v hd rx
  obtain ⟨bs, r2⟩ := Dp.reads I e y u he ry
  refine SeqAt.eq_plain r1 r2 p1 p2 (by have := Nat.min_le_left d.depth e.depth; omega) ⟨.bl _, H, I, rfl, ?_⟩
  rw [Bool.false_xor] at q
  exact q
theorem op_neP (hu : X.A.units + 64 < cLine) : OpR X (compareOp .NotEq) (rEqP X.K true) := by
  intro pins s σ H x y v u Q I rx ry h
  obtain ⟨d, e, hd, he, p1, p2, dp, q⟩ := h
  obtain ⟨as, r1⟩ := Dp.reads I d x v hd rx
  obtain ⟨bs, r2⟩ := Dp.reads I e y u he ry
  refine SeqAt.ne_plain r1 r2 p1 p2 (by have := Nat.min_le_left d.depth e.depth; omega) ⟨.bl _, H, I, rfl, ?_⟩
  rw [Bool.true_xor] at q
  exact q
theorem op_eqA (hu : X.A.units + 64 < cLine) : OpR X (compareOp .Eq) (fun x y H Q => rEq x y H Q ∨ rEqP X.K false x y H Q) := op_eq.or (op_eqP hu)
theorem op_neA (hu : X.A.units + 64 < cLine) : OpR X (compareOp .NotEq) (fun x y H Q => rNe x y H Q ∨ rEqP X.K true x y H Q) := op_ne.or (op_neP hu)
theorem scD_v {φ : Lab} {H : Hp} {a b : D} {x y : V} {c : Bool} (ra : Rp G φ H a x) (rb : Rp G φ H b y) (h : scD a b = some c) : scal x y = true ∧ decide (x = y) = c := by
  cases ra with
  | int i =>
    cases rb with
    | int j => cases h; exact ⟨rfl, by simp⟩
    | _ => cases h
  | str i =>
    cases rb with
    | str j => cases h; exact ⟨rfl, by simp⟩
    | _ => cases h
  | bl i =>
    cases rb with
    | bl j => cases h; exact ⟨rfl, by simp⟩
    | _ => cases h
  | non =>
    cases rb with
    | non => cases h; exact ⟨rfl, by simp⟩
    | _ => cases h
  | _ => cases h
theorem eq_i : OpI G eqM (fun x y H Q => rEq x y H Q ∨ rEqP G.K false x y H Q) := by
  intro φ μ H a b x y Q E R ra rb p
  unfold eqM eqB at p
  cases q : scD a b with
  | some c =>
    simp only [q] at p
    obtain ⟨h1, h2⟩ := scD_v ra rb q
    exact .inl ⟨h1, by rw [h2]; exact Post.pure p R (.bl _)⟩
  | none =>
    simp only [q] at p
    by_cases h : eqOk (lookD μ a) = true ∧ eqOk (lookD μ b) = true
    · simp only [if_pos h] at p
      obtain ⟨⟨p1, s1⟩, p2, s2⟩ := (⟨andB h.1, andB h.2⟩ : (_ ∧ _) ∧ (_ ∧ _))
      exact .inr ⟨_, _, ra.lookD R p1, rb.lookD R p2, isP_plain _ p1, isP_plain _ p2, of_decide_eq_true s1, by rw [Bool.false_xor]; exact Post.pure p R (.bl _)⟩
    · simp only [if_neg h] at p
      exact p.elim
theorem ne_i : OpI G neM (fun x y H Q => rNe x y H Q ∨ rEqP G.K true x y H Q) := by
  intro φ μ H a b x y Q E R ra rb p
  unfold neM eqB at p
  cases q : scD a b with
  | some c =>
    simp only [q] at p
    obtain ⟨h1, h2⟩ := scD_v ra rb q
    exact .inl ⟨h1, by rw [h2]; exact Post.pure p R (.bl _)⟩
  | none =>
    simp only [q] at p
    by_cases h : eqOk (lookD μ a) = true ∧ eqOk (lookD μ b) = true
    · simp only [if_pos h] at p
      obtain ⟨⟨p1, s1⟩, p2, s2⟩ := (⟨andB h.1, andB h.2⟩ : (_ ∧ _) ∧ (_ ∧ _))
      exact .inr ⟨_, _, ra.lookD R p1, rb.lookD R p2, isP_plain _ p1, isP_plain _ p2, of_decide_eq_true s1, by rw [Bool.true_xor]; exact Post.pure p R (.bl _)⟩
    · simp only [if_neg h] at p
      exact p.elim
end
end SE

/-! SE4: more built-ins, subscripts; statements and loops as computations. -/
namespace SE
open PySem PySem.Spec PyProof.Rows L2
/-! ### len, abs, int, min, max -/
def lenM : List D → M D
  | [.str x], μ => if x.length ≤ 10000000 then .ok (.int x.length) μ else .bad
  | [.tup xs], μ => .ok (.int xs.length) μ
  | [.lst xs], μ => .ok (.int xs.length) μ
  | [.ro xs], μ => .ok (.int xs.length) μ
  | [.loc l], μ => (match μ[l]? with
    | some (.lst xs) => .ok (.int xs.length) μ
    | _ => .bad)
  | _, _ => .bad
def absM : List D → M D
  | [.int i], μ => .ok (.int (if i < 0 then -i else i)) μ
  | _, _ => .bad
def intM : List D → M D
  | [.int i], μ => .ok (.int i) μ
  | [.bl k], μ => .ok (.int (if k then 1 else 0)) μ
  | _, _ => .bad
def max2M : List D → M D
  | [.int i, .int j], μ => .ok (.int (if j > i then j else i)) μ
  | _, _ => .bad
def min2M : List D → M D
  | [.int i, .int j], μ => .ok (.int (if j < i then j else i)) μ
  | _, _ => .bad
section
variable {X : Cx} {G : Gx}
theorem RpL.one {φ : Lab} {H : Hp} {d : D} {vs : List V} (r : RpL G φ H [d] vs) : ∃ v, vs = [v] ∧ Rp G φ H d v := by
  cases r with
  | cons r t => cases t; exact ⟨_, rfl, r⟩
theorem RpL.two {φ : Lab} {H : Hp} {d e : D} {vs : List V} (r : RpL G φ H [d, e] vs) : ∃ v w, vs = [v, w] ∧ Rp G φ H d v ∧ Rp G φ H e w := by
  cases r with
  | cons r t =>
    cases t with
    | cons r2 t2 => cases t2; exact ⟨_, _, rfl, r, r2⟩
theorem len_i : CallI G lenM (fun xs H Q => ∃ x n, xs = [x] ∧ LenV G.K x H n ∧ Q (.int n) H) := by
  intro φ μ H a x Q E R r p
  unfold lenM at p
  split at p
  · obtain ⟨v, rfl, r1⟩ := r.one
    rename_i x1
    cases r1
    by_cases h : x1.length ≤ 10000000
    · simp only [if_pos h] at p
      exact ⟨_, _, rfl, ⟨by rw [sizeLine_eq]; omega, rfl⟩, Post.pure p R (.int _)⟩
    · simp only [if_neg h] at p
      exact p.elim
  · obtain ⟨v, rfl, r1⟩ := r.one
    cases r1 with
    | tup h r1 => exact ⟨_, _, rfl, .inr ⟨_, h.t, rfl⟩, by rw [← r1.length]; exact Post.pure p R (.int _)⟩
  · obtain ⟨v, rfl, r1⟩ := r.one
    cases r1 with
    | lst h _ r1 => exact ⟨_, _, rfl, .inl ⟨_, SqL.of h, rfl⟩, by rw [← r1.length]; exact Post.pure p R (.int _)⟩
  · obtain ⟨v, rfl, r1⟩ := r.one
    cases r1 with
    | ro h r1 => exact ⟨_, _, rfl, .inl ⟨_, h.t, rfl⟩, by rw [← r1.length]; exact Post.pure p R (.int _)⟩
  · obtain ⟨v, rfl, r1⟩ := r.one
    rename_i l
    cases r1 with
    | loc h =>
      cases q : μ[l]? with
      | none =>
        simp only [q] at p
        exact p.elim
      | some o =>
        obtain ⟨b, h1, h2⟩ := R.at_ l o q
        rw [h] at h1
        cases h1
        cases o with
        | lst xs =>
          simp only [q] at p
          obtain ⟨vs, h3, h4⟩ := h2
          exact ⟨_, _, rfl, .inl ⟨_, SqL.of h3, rfl⟩, by rw [← h4.length]; exact Post.pure p R (.int _)⟩
        | dT kvs =>
          simp only [q] at p
          exact p.elim
        | fT kvs =>
          simp only [q] at p
          exact p.elim
  · exact p.elim
theorem abs_i : CallI G absM (fun xs H Q => ∃ i, xs = [.int i] ∧ Q (.int (if i < 0 then -i else i)) H) := by
  intro φ μ H a x Q E R r p
  unfold absM at p
  split at p
  · obtain ⟨v, rfl, r1⟩ := r.one
    cases r1
    exact ⟨_, rfl, Post.pure p R (.int _)⟩
  · exact p.elim
theorem int_i : CallI G intM (fun xs H Q => (∃ i, xs = [.int i] ∧ Q (.int i) H) ∨ ∃ k, xs = [.bl k] ∧ Q (.int (if k then 1 else 0)) H) := by
  intro φ μ H a x Q E R r p
  unfold intM at p
  split at p
  · obtain ⟨v, rfl, r1⟩ := r.one
    cases r1
    exact .inl ⟨_, rfl, Post.pure p R (.int _)⟩
  · obtain ⟨v, rfl, r1⟩ := r.one
    cases r1
    exact .inr ⟨_, rfl, Post.pure p R (.int _)⟩
  · exact p.elim
theorem max2_i : CallI G max2M (fun xs H Q => ∃ i j, xs = [.int i, .int j] ∧ Q (.int (if j > i then j else i)) H) := by
  intro φ μ H a x Q E R r p
  unfold max2M at p
  split at p
  · obtain ⟨v, w, rfl, r1, r2⟩ := r.two
    cases r1
    cases r2
    exact ⟨_, _, rfl, Post.pure p R (.int _)⟩
  · exact p.elim
theorem min2_i : CallI G min2M (fun xs H Q => ∃ i j, xs = [.int i, .int j] ∧ Q (.int (if j < i then j else i)) H) := by
  intro φ μ H a x Q E R r p
  unfold min2M at p
  split at p
  · obtain ⟨v, w, rfl, r1, r2⟩ := r.two
    cases r1
    cases r2
    exact ⟨_, _, rfl, Post.pure p R (.int _)⟩
  · exact p.elim
/-! ### isinstance with a built-in type -/
/-- the type of a value, by name -/
def tyD (μ : Mem) : D → Option String
  | .non => some "NoneType"
  | .bl _ => some "bool"
  | .int _ => some "int"
  | .str _ => some "str"
  | .tup _ => some "tuple"
  | .lst _ => some "list"
  | .ro _ => some "list"
  | .dct _ => some "dict"
  | .loc l => (match μ[l]? with
    | some (.lst _) => some "list"
    | _ => none)
  | _ => none
def isiM : List D → M D
  | [d, .ty T], μ => (match tyD μ d with
    | some t => (match kitB t T with
      | some b => .ok (.bl b) μ
      | none => .bad)
    | none => .bad)
  | _, _ => .bad
/-- a value's type stands: by name -/
def TyIs (G : Gx) (H : Hp) (x : V) (t : String) : Prop := TyOf G.K H x (.type t) ∨ ∃ a xs, x = .ref a ∧ ((SqT G.K H a xs ∧ t = "tuple") ∨ (SqL G.K H a xs ∧ t = "list"))
def rIsi (G : Gx) : List V → Hp → VK → Prop := fun xs H Q => ∃ x t T b, xs = [x, .ty T] ∧ TyIs G H x t ∧ kitB t T = some b ∧ Q (.bl b) H
theorem call_isiD : CallR X (.builtin "isinstance") (rIsi (X.G Γ)) := by
  intro pins s σ H xs us Q I r h
  obtain ⟨x, t, T, b, rfl, ty, hk, q⟩ := h
  obtain ⟨u, w', rfl, r1, r2⟩ := vals2 r
  cases (show w' = Value.type T from r2)
  have fin : ∀ tk, EP X pins σ Q (.bool b) { s with toks := tk } := fun tk => ⟨.bl b, H, I.tok tk, rfl, q⟩
  rcases ty with ty | ⟨a, ys, rfl, ⟨hs, rfl⟩ | ⟨hs, rfl⟩⟩
  · exact isinst_ok I r1 ty (kit_ty hk) fin
  · cases (show u = Value.ref a from r1)
    obtain ⟨its, _, ⟨o, h1, h2, _⟩, _⟩ := I.tuple hs
    exact PySem.W.kia_one PySem.W.kitx_tuple I.kIn ⟨o, h1, h2⟩ (kit_ty hk) (fun z => nomatch z) fin
  · cases (show u = Value.ref a from r1)
    obtain ⟨its, _, ⟨o, n, h1, h2, _⟩, _⟩ := I.list hs
    exact PySem.W.kia_one PySem.W.kitx_list I.kIn ⟨o, h1, h2⟩ (kit_ty hk) (fun z => nomatch z) fin
theorem tyD_v {φ : Lab} {μ : Mem} {H : Hp} {d : D} {v : V} {t : String} (R : MemR G φ μ H) (r : Rp G φ H d v) (h : tyD μ d = some t) : TyIs G H v t := by
  cases r with
  | non => cases h; exact .inl .non
  | bl b => cases h; exact .inl (.bl b)
  | int i => cases h; exact .inl (.int i)
  | str x => cases h; exact .inl (.str x)
  | tup h1 r1 => cases h; exact .inr ⟨_, _, rfl, .inl ⟨h1.t, rfl⟩⟩
  | lst h1 _ r1 => cases h; exact .inr ⟨_, _, rfl, .inr ⟨SqL.of h1, rfl⟩⟩
  | ro h1 r1 => cases h; exact .inr ⟨_, _, rfl, .inr ⟨h1.t, rfl⟩⟩
  | dct h1 _ r1 => cases h; exact .inl (.dK h1)
  | @loc a l e =>
    unfold tyD at h
    cases q : μ[l]? with
    | none =>
      simp only [q] at h
      cases h
    | some o =>
      obtain ⟨b, h1, h2⟩ := R.at_ l o q
      rw [e] at h1
      cases h1
      cases o with
      | lst xs =>
        simp only [q] at h
        cases h
        obtain ⟨vs, h3, h4⟩ := h2
        exact .inr ⟨_, _, rfl, .inr ⟨SqL.of h3, rfl⟩⟩
      | dT kvs =>
        simp only [q] at h
        cases h
      | fT kvs =>
        simp only [q] at h
        cases h
  | ty n => cases h
  | gl e => cases h
  | err _ _ _ _ _ _ => cases h
  | err0 _ _ _ => cases h
  | clo _ _ _ _ _ => cases h
  | obj _ _ _ _ => cases h
theorem isi_i : CallI G isiM (rIsi G) := by
  intro φ μ H a x Q E R r p
  unfold isiM at p
  split at p
  · rename_i d T
    obtain ⟨v, w, rfl, r1, r2⟩ := r.two
    cases r2
    cases q : tyD μ d with
    | none =>
      simp only [q] at p
      exact p.elim
    | some t =>
      simp only [q] at p
      cases k : kitB t T with
      | none =>
        simp only [k] at p
        exact p.elim
      | some b =>
        simp only [k] at p
        exact ⟨v, t, T, b, rfl, tyD_v R r1 q, k, Post.pure p R (.bl _)⟩
  · exact p.elim
/-! ### subscripts -/
def ixM (a b : D) : M D := fun μ => match a, b with
  | .tup xs, .int i => (match atI xs i with | some d => .ok d μ | none => .bad)
  | .lst xs, .int i => (match atI xs i with | some d => .ok d μ | none => .bad)
  | .ro xs, .int i => (match atI xs i with | some d => .ok d μ | none => .bad)
  | .str x, .int i => if x.length ≤ 1000000 then (match atI x.cps.toList i with | some c => .ok (.str ⟨#[c]⟩) μ | none => .bad) else .bad
  | .loc l, .int i => (match μ[l]? with
    | some (.lst xs) => (match atI xs i with | some d => .ok d μ | none => .bad)
    | _ => .bad)
  | _, _ => .bad
theorem RpL.atI {φ : Lab} {H : Hp} {ds : List D} {vs : List V} {i : Int} {d : D} (r : RpL G φ H ds vs) (h : L2.atI ds i = some d) : ∃ v, L2.atI vs i = some v ∧ Rp G φ H d v := by
  unfold L2.atI at h ⊢
  rw [← r.length]
  cases q : ixN ds.length i with
  | none => rw [q] at h; cases h
  | some j =>
    rw [q] at h
    exact r.get h
theorem ix_i : OpI G ixM (rIx G.K) := by
  intro φ μ H a b x y Q E R ra rb p
  unfold ixM at p
  split at p
  · rename_i xs i
    cases rb
    cases ra with
    | tup h1 r1 =>
      cases q : atI xs i with
      | none => simp only [q] at p; exact p.elim
      | some d =>
        simp only [q] at p
        obtain ⟨v, e, rv⟩ := r1.atI q
        exact .inr (.inl ⟨_, _, _, v, rfl, rfl, h1.t, e, Post.pure p R rv⟩)
  · rename_i xs i
    cases rb
    cases ra with
    | lst h1 n1 r1 =>
      cases q : atI xs i with
      | none => simp only [q] at p; exact p.elim
      | some d =>
        simp only [q] at p
        obtain ⟨v, e, rv⟩ := r1.atI q
        exact .inl ⟨_, _, _, v, rfl, rfl, SqL.of h1, e, Post.pure p R rv⟩
  · rename_i xs i
    cases rb
    cases ra with
    | ro h1 r1 =>
      cases q : atI xs i with
      | none => simp only [q] at p; exact p.elim
      | some d =>
        simp only [q] at p
        obtain ⟨v, e, rv⟩ := r1.atI q
        exact .inl ⟨_, _, _, v, rfl, rfl, h1.t, e, Post.pure p R rv⟩
  · rename_i z i
    cases rb
    cases ra
    by_cases h : z.length ≤ 1000000
    · simp only [if_pos h] at p
      cases q : atI z.cps.toList i with
      | none => simp only [q] at p; exact p.elim
      | some c =>
        simp only [q] at p
        exact .inr (.inr ⟨_, _, c, rfl, rfl, by rw [sizeLine_eq]; omega, q, Post.pure p R (.str _)⟩)
    · simp only [if_neg h] at p
      exact p.elim
  · rename_i l i
    cases rb
    cases ra with
    | loc h =>
      cases q : μ[l]? with
      | none => simp only [q] at p; exact p.elim
      | some o =>
        obtain ⟨b, h1, h2⟩ := R.at_ l o q
        rw [h] at h1
        cases h1
        cases o with
        | lst xs =>
          simp only [q] at p
          obtain ⟨vs, h3, h4⟩ := h2
          cases q2 : atI xs i with
          | none => simp only [q2] at p; exact p.elim
          | some d =>
            simp only [q2] at p
            obtain ⟨v, e, rv⟩ := h4.atI q2
            exact .inl ⟨_, _, _, v, rfl, rfl, SqL.of h3, e, Post.pure p R rv.on⟩
        | dT kvs =>
          simp only [q] at p
          exact p.elim
        | fT kvs =>
          simp only [q] at p
          exact p.elim
  · exact p.elim
end
/-! ### statements -/
abbrev JS (X : Cx) (Γ : Gs) (W : WX) (s : Stmt) (m : MS) : Prop := PS X s (tS (X.G Γ) W m)
abbrev JSs (X : Cx) (Γ : Gs) (W : WX) (s : List Stmt) (m : MS) : Prop := PSs X s (tS (X.G Γ) W m)
def bindS {α : Type} (r : Res α) (ρ : Ev) (k : α → Mem → RS) : RS := match r with
  | .ok a μ => k a μ
  | .exc e μ => .exc e ρ μ
  | .bad => .bad
def sNext : MS := fun ρ μ => .ok (.nx ρ) μ
def sSeq (a b : MS) : MS := fun ρ μ => match a ρ μ with
  | .ok (.nx ρ') μ' => b ρ' μ'
  | r => r
def sSet (i : Nat) (m : Ev → M D) : MS := fun ρ μ => bindS (m ρ μ) ρ fun d μ' => .ok (.nx (ρ.set i (some d))) μ'
def sDrop (m : Ev → M D) : MS := fun ρ μ => bindS (m ρ μ) ρ fun _ μ' => .ok (.nx ρ) μ'
def sRet (m : Ev → M D) : MS := fun ρ μ => bindS (m ρ μ) ρ fun d μ' => .ok (.rt d) μ'
def sRetN : MS := fun _ μ => .ok (.rt .non) μ
def sIf (t : Ev → M Bool) (a b : MS) : MS := fun ρ μ => bindS (t ρ μ) ρ fun c μ' => if c = true then a ρ μ' else b ρ μ'
def sBrk : MS := fun ρ μ => .ok (.bk ρ) μ
def sCnt : MS := fun ρ μ => .ok (.ct ρ) μ
def sBad : MS := fun _ _ => .bad
section
variable {X : Cx} {W : WX} {e : Expr} {m : Ev → M D} {st : Stmt} {sts : List Stmt} {a b : MS} {pos : Pos} {G : Gx} {φ : Lab} {μ : Mem} {H : Hp}
theorem bS {α ν : Type} {T : Tie α ν} {m : Ev → M α} {k : α → Mem → RS} {ρ : Ev} {σ : L2.St} {Z : Ends} {R : ν → Hp → Prop}
    (e : EvR G φ H ρ σ) (r : MemR G φ μ H) (p : PostS G φ H (bindS (m ρ μ) ρ k) Z W)
    (hk : ∀ φ1 H1 x v μ1, Grow φ H φ1 H1 → EvR G φ1 H1 ρ σ → MemR G φ1 μ1 H1 → T φ1 H1 x v → PostS G φ1 H1 (k x μ1) Z W → R v H1) : tG G T W m σ H R := by
  refine ⟨φ, ρ, μ, e, r, ?_⟩
  unfold bindS at p
  cases q : m ρ μ with
  | ok d μ1 =>
    rw [q] at p
    intro φ1 H1 v g r1 rv
    exact hk φ1 H1 d v μ1 g (e.grow g) r1 rv (PostS.grow g p)
  | exc x μ1 =>
    rw [q] at p
    intro φ1 H1 cls dd g r1 ex
    exact p φ1 H1 σ cls dd g r1 (e.grow g) ex
  | bad =>
    rw [q] at p
    exact p
theorem js_nil : JSs X Γ W [] sNext := by
  refine pss_w pss_nil fun Z σ H h => ?_
  obtain ⟨φ, ρ, μ, e, r, p⟩ := h
  exact p φ H σ (Grow.refl _ _) r e
theorem js_cons (h1 : JS X Γ W st a) (h2 : JSs X Γ W sts b) : JSs X Γ W (st :: sts) (sSeq a b) := by
  refine pss_w (pss_cons h1 h2) fun Z σ H h => ?_
  obtain ⟨φ, ρ, μ, e, r, p⟩ := h
  refine ⟨φ, ρ, μ, e, r, ?_⟩
  unfold sSeq at p
  cases q : a ρ μ with
  | ok f μ1 =>
    rw [q] at p
    cases f with
    | nx ρ' => exact fun φ1 H1 σ1 g r1 e1 => ⟨φ1, ρ', μ1, e1, r1, PostS.grow g p⟩
    | rt d => exact p
    | bk ρ' => exact p
    | ct ρ' => exact p
  | exc x ρ' μ1 =>
    rw [q] at p
    exact p
  | bad =>
    rw [q] at p
    exact p
theorem js_one (h1 : JS X Γ W st a) : JSs X Γ W [st] a := by
  refine pss_w (pss_one h1) fun Z σ H h => h
theorem s_set {i : Nat} {x : Str} {pos' : Pos} (hN : X.N.Nodup) (he : JE X Γ W e m) (hi : X.N[i]? = some x := by rfl) (hx : Loc X.env.scope x := by first | exact .inl rfl | exact .inr rfl) (hs : swapsWith e (some (.Name x pos')) pos.line X.env = pure false := by rfl) (hf : X.fn x = true ∨ X.env.scope.names.lookup x = some .local := by first | exact .inl rfl | exact .inr rfl | assumption) :
    JS X Γ W (.Assign [.Name x pos'] e pos) (sSet i m) := by
  refine ps_w (ps_set hN hi hx he hs hf) fun Z σ H h => ?_
  obtain ⟨φ, ρ, μ, ev, r, p⟩ := h
  refine bS ev r p fun φ1 H1 d v μ1 g e1 r1 rv p1 => ?_
  exact p1 φ1 H1 _ (Grow.refl _ _) r1 (e1.set i rv)
theorem s_drop (he : JE X Γ W e m) (hs : swapsWith e none pos.line X.env = pure false := by rfl) : JS X Γ W (.Expr e pos) (sDrop m) := by
  refine ps_w (ps_expr he hs) fun Z σ H h => ?_
  obtain ⟨φ, ρ, μ, ev, r, p⟩ := h
  refine bS ev r p fun φ1 H1 d v μ1 g e1 r1 rv p1 => ?_
  exact p1 φ1 H1 _ (Grow.refl _ _) r1 e1
theorem s_ret (he : JE X Γ W e m) : JS X Γ W (.Return (some e) pos) (sRet m) := by
  refine ps_w (ps_ret he) fun Z σ H h => ?_
  obtain ⟨φ, ρ, μ, ev, r, p⟩ := h
  refine bS ev r p fun φ1 H1 d v μ1 g e1 r1 rv p1 => ?_
  exact p1 φ1 H1 _ (Grow.refl _ _) r1 rv
theorem s_retN : JS X Γ W (.Return none pos) sRetN := by
  refine ps_w ps_retN fun Z σ H h => ?_
  obtain ⟨φ, ρ, μ, ev, r, p⟩ := h
  exact p φ H _ (Grow.refl _ _) r .non
theorem s_pass : JS X Γ W (.Pass pos) sNext := by
  refine ps_w ps_pass fun Z σ H h => ?_
  obtain ⟨φ, ρ, μ, ev, r, p⟩ := h
  exact p φ H _ (Grow.refl _ _) r ev
theorem s_brk : JS X Γ W (.Break pos) sBrk := by
  refine ps_w ps_break fun Z σ H h => ?_
  obtain ⟨φ, ρ, μ, ev, r, p⟩ := h
  exact p φ H _ (Grow.refl _ _) r ev
theorem s_cnt : JS X Γ W (.Continue pos) sCnt := by
  refine ps_w ps_continue fun Z σ H h => ?_
  obtain ⟨φ, ρ, μ, ev, r, p⟩ := h
  exact p φ H _ (Grow.refl _ _) r ev
theorem s_if {t : Expr} {mt : Ev → M Bool} {xs ys : List Stmt} (ht : JT X Γ W t mt) (ha : JSs X Γ W xs a) (hb : JSs X Γ W ys b) : JS X Γ W (.If t xs ys pos) (sIf mt a b) := by
  refine ps_w (ps_if ht ha hb) fun Z σ H h => ?_
  obtain ⟨φ, ρ, μ, ev, r, p⟩ := h
  refine bS ev r p fun φ1 H1 d v μ1 g e1 r1 rv p1 => ?_
  cases (show v = d from rv)
  cases d with
  | true => exact ⟨φ1, ρ, μ1, e1, r1, p1⟩
  | false => exact ⟨φ1, ρ, μ1, e1, r1, p1⟩
/-! ### targets -/
abbrev GT := D → Ev → Option Ev
abbrev GTs := List D → Ev → Option Ev
def tgG (G : Gx) (f : GT) : TG := fun v σ H Q => ∃ φ d ρ μ, EvR G φ H ρ σ ∧ MemR G φ μ H ∧ Rp G φ H d v ∧ (match f d ρ with
  | some ρ' => ∀ σ', EvR G φ H ρ' σ' → Q σ' H
  | none => False)
def tgGs (G : Gx) (f : GTs) : TGs := fun vs σ H Q => ∃ φ ds ρ μ, EvR G φ H ρ σ ∧ MemR G φ μ H ∧ RpL G φ H ds vs ∧ (match f ds ρ with
  | some ρ' => ∀ σ', EvR G φ H ρ' σ' → Q σ' H
  | none => False)
abbrev JG (X : Cx) (Γ : Gs) (e : Expr) (f : GT) : Prop := PG X e (tgG (X.G Γ) f)
abbrev JGs (X : Cx) (Γ : Gs) (es : List Expr) (f : GTs) : Prop := PGs X es (tgGs (X.G Γ) f)
theorem pg_w {X : Cx} {e : Expr} {t t' : TG} (h : PG X e t) (w : ∀ v σ H Q, t' v σ H Q → t v σ H Q) : PG X e t' := ⟨fun pins s σ H v u Q I r q => h.run pins s σ H v u Q I r (w v σ H Q q)⟩
theorem pgs_w {X : Cx} {e : List Expr} {t t' : TGs} (h : PGs X e t) (w : ∀ v σ H Q, t' v σ H Q → t v σ H Q) : PGs X e t' := ⟨fun pins s σ H v u Q I r q => h.run pins s σ H v u Q I r (w v σ H Q q)⟩
def gN (i : Nat) : GT := fun d ρ => some (ρ.set i (some d))
def gsNil : GTs := fun ds ρ => match ds with
  | [] => some ρ
  | _ => none
def gsCons (f : GT) (g : GTs) : GTs := fun ds ρ => match ds with
  | d :: r => (match f d ρ with
    | some ρ' => g r ρ'
    | none => none)
  | [] => none
/-- a tuple of that many -/
def gT (n : Nat) (f : GTs) : GT := fun d ρ => match d with
  | .tup xs => if xs.length = n then f xs ρ else none
  | _ => none
theorem g_name {i : Nat} {x : Str} (hN : X.N.Nodup) (hi : X.N[i]? = some x := by rfl) (hx : Loc X.env.scope x := by first | exact .inl rfl | exact .inr rfl) (hf : X.fn x = true ∨ X.env.scope.names.lookup x = some .local := by first | exact .inl rfl | exact .inr rfl | assumption) : JG X Γ (.Name x pos) (gN i) := by
  refine pg_w (pg_name hN hi hx hf) fun v σ H Q h => ?_
  obtain ⟨φ, d, ρ, μ, e, r, rv, q⟩ := h
  exact q _ (e.set i rv)
theorem gs_nil : JGs X Γ [] gsNil := by
  refine pgs_w pgs_nil fun vs σ H Q h => ?_
  obtain ⟨φ, ds, ρ, μ, e, r, rv, q⟩ := h
  cases rv with
  | nil => exact ⟨rfl, q _ e⟩
  | cons _ _ => exact q.elim
theorem gs_cons {t : Expr} {ts : List Expr} {f : GT} {g : GTs} (h1 : JG X Γ t f) (h2 : JGs X Γ ts g)
    (hs : (assignEach (t :: ts) X.env).map (·.2) = assign t X.env :: (assignEach ts X.env).map (·.2) := by rfl) : JGs X Γ (t :: ts) (gsCons f g) := by
  refine pgs_w (pgs_cons h1 h2 hs) fun vs σ H Q h => ?_
  obtain ⟨φ, ds, ρ, μ, e, r, rv, q⟩ := h
  cases rv with
  | nil => exact q.elim
  | @cons d v ds vs r1 t1 =>
    unfold gsCons at q
    refine ⟨v, vs, rfl, φ, d, ρ, μ, e, r, r1, ?_⟩
    cases qq : f d ρ with
    | none =>
      simp only [qq] at q
    | some ρ' =>
      simp only [qq] at q ⊢
      exact fun σ' e' => ⟨φ, ds, ρ', μ, e', r, t1, q⟩
theorem g_tup {ts : List Expr} {f : GTs} {k n : Nat} (hc : X.calm = true) (h : JGs X Γ ts f) (hn : (assignEach ts X.env).length = n := by rfl) (hst : (assignEach ts X.env).findIdx? (·.1) = none := by rfl) : JG X Γ (.Tuple ts k pos) (gT n f) := by
  refine pg_w (pg_tup hc h hn hst) fun v σ H Q hh => ?_
  obtain ⟨φ, d, ρ, μ, e, r, rv, q⟩ := hh
  unfold gT at q
  cases rv with
  | tup hs rl =>
    rename_i a vs ds
    dsimp only at q
    by_cases hz : ds.length = n
    · rw [if_pos hz] at q
      exact ⟨a, vs, rfl, hs.t, by rw [← rl.length]; exact hz, φ, ds, ρ, μ, e, r, rl, q⟩
    · rw [if_neg hz] at q
      exact q.elim
  | _ => exact q.elim
/-- target = value -/
def sAsg (f : GT) (m : Ev → M D) : MS := fun ρ μ => bindS (m ρ μ) ρ fun d μ' => match f d ρ with
  | some ρ' => .ok (.nx ρ') μ'
  | none => .bad
theorem s_asg {tg : Expr} {f : GT} (he : JE X Γ W e m) (hg : JG X Γ tg f) (hs : swapsWithSole [tg] e pos.line X.env = pure false := by rfl) (hw : swappedStores [tg] e X.env = pure none := by rfl) (h1 : List.map (fun x => x.snd) (assignEach [tg] X.env) = [assign tg X.env] := by rfl) : JS X Γ W (.Assign [tg] e pos) (sAsg f m) := by
  refine ps_w (ps_asg he hg hs hw h1) fun Z σ H h => ?_
  obtain ⟨φ, ρ, μ, ev, r, p⟩ := h
  refine bS ev r p fun φ1 H1 d v μ1 g e1 r1 rv p1 => ?_
  refine ⟨φ1, d, ρ, μ1, e1, r1, rv, ?_⟩
  cases qq : f d ρ with
  | none =>
    simp only [qq] at p1
    exact p1
  | some ρ' =>
    simp only [qq] at p1 ⊢
    exact fun σ' e' => p1 φ1 H1 σ' (Grow.refl _ _) r1 e'
/-- a, b = x, y -/
def sPar (i j : Nat) (m : Ev → M (List D)) : MS := fun ρ μ => bindS (m ρ μ) ρ fun ds μ' => match ds with
  | [x, y] => .ok (.nx ((ρ.set i (some x)).set j (some y))) μ'
  | _ => .bad
theorem s_par {i j : Nat} {x y : Str} {a b : Expr} {ml : Ev → M (List D)} {px py pt : Pos} {kt k2 : Nat} {pt2 : Pos} (hc : X.calm = true) (hN : X.N.Nodup) (ha : JL X Γ W [a, b] ml) (h : ∀ ta, PA X [a, b] ta → PS X (.Assign [.Tuple [.Name x px, .Name y py] kt pt] (.Tuple [a, b] k2 pt2) pos) (tPar i j ta)) :
    JS X Γ W (.Assign [.Tuple [.Name x px, .Name y py] kt pt] (.Tuple [a, b] k2 pt2) pos) (sPar i j ml) := by
  refine ps_w (h _ ha) fun Z σ H h => ?_
  obtain ⟨φ, ρ, μ, ev, r, p⟩ := h
  refine bS ev r p fun φ1 H1 d v μ1 g e1 r1 rv p1 => ?_
  cases rv with
  | nil => exact p1.elim
  | cons r1' t1 =>
    cases t1 with
    | nil => exact p1.elim
    | cons r2' t2 =>
      cases t2 with
      | cons _ _ => exact p1.elim
      | nil => exact ⟨_, _, rfl, p1 φ1 H1 _ (Grow.refl _ _) r1 ((e1.set i r1').set j r2')⟩
/-- a label's list: an item is stored -/
def subR (o i d : D) (ρ : Ev) (μ : Mem) : RS := match o, i with
  | .loc l, .int k => (match μ[l]? with
    | some (.lst xs) => (match ixN xs.length k with
      | some j => .ok (.nx ρ) (μ.set l (.lst (xs.set j d)))
      | none => .bad)
    | _ => .bad)
  | _, _ => .bad
def sSub (mo mi mv : Ev → M D) : MS := fun ρ μ => bindS (mv ρ μ) ρ fun d μ1 => bindS (mo ρ μ1) ρ fun o μ2 => bindS (mi ρ μ2) ρ fun i μ3 => subR o i d ρ μ3
theorem s_sub {o i : Expr} {mo mi : Ev → M D} {pos' : Pos} (he : JE X Γ W e m) (ho : JE X Γ W o mo) (hi : JE X Γ W i mi) (h : ∀ te to ti, PE X e te → PE X o to → PE X i ti → PS X (.Assign [.Subscript o i pos'] e pos) (tAsg te (gSub to ti rSetL))) (h0 : Γ.off = Γ := by rfl) :
    JS X Γ W (.Assign [.Subscript o i pos'] e pos) (sSub mo mi m) := by
  refine ps_w (h _ _ _ he ho hi) fun Z σ H h => ?_
  obtain ⟨φ, ρ, μ, ev, r, p⟩ := h
  refine bS ev r p fun φ1 H1 d v μ1 g1 e1 r1 rv p1 => ?_
  refine bS e1 r1 p1 fun φ2 H2 od ov μ2 g2 e2 r2 ro p2 => ?_
  refine bS e2 r2 p2 fun φ3 H3 id iv μ3 g3 e3 r3 ri p3 => ?_
  unfold subR at p3
  cases ro with
  | @loc a l ha =>
    cases ri with
    | int k =>
      dsimp only at p3
      cases q : μ3[l]? with
      | none =>
        rw [q] at p3
        exact p3.elim
      | some mo' =>
        obtain ⟨b, h1, h2⟩ := r3.at_ l mo' q
        rw [q] at p3
        cases mo' with
        | lst xs =>
          dsimp only at p3
          obtain ⟨vs, h3, h4⟩ := h2
          have hb : φ3.l[l]? = some a := by
            obtain ⟨ψ, e, _⟩ := g3.ex
            rw [e]
            rw [List.getElem?_append_left (List.getElem?_eq_some_iff.mp ha).1]
            exact ha
          rw [hb] at h1
          cases h1
          cases q2 : ixN xs.length k with
          | none =>
            rw [q2] at p3
            exact p3.elim
          | some j =>
            rw [q2] at p3
            dsimp only at p3
            refine ⟨a, vs, k, j, rfl, rfl, h3, by rw [← h4.length]; exact q2, ?_⟩
            have eo := Gx.off_eq (G := X.G Γ) h0
            have rl : RpL (X.G Γ).off φ3 H3 (xs.set j d) (vs.set j v) := h4.set j (by rw [eo]; exact (rv.grow g2).grow g3)
            exact p3 φ3 _ _ (Grow.wr hb (fun _ _ z => by rw [h3] at z; cases z)) (r3.wr hb (fun _ _ z => by rw [h3] at z; cases z) rl) (e3.grow (Grow.wr hb (fun _ _ z => by rw [h3] at z; cases z)))
        | dT kvs => exact p3.elim
        | fT kvs => exact p3.elim
    | _ => exact p3.elim
  | _ => cases ri <;> exact p3.elim
end
/-! ### loops -/
/-- one turn's end -/
def sTurn (r : RS) (next : MS) : RS := match r with
  | .ok (.nx ρ) μ => next ρ μ
  | .ok (.ct ρ) μ => next ρ μ
  | .ok (.bk ρ) μ => .ok (.nx ρ) μ
  | r => r
def whileF (c : Ev → M Bool) (b : MS) : Nat → MS
  | 0 => fun _ _ => .bad
  | n + 1 => fun ρ μ => bindS (c ρ μ) ρ fun k μ1 => if k = true then sTurn (b ρ μ1) (whileF c b n) else .ok (.nx ρ) μ1
open Classical in
/-- a while: as many turns as it takes -/
noncomputable def sWhile (c : Ev → M Bool) (b : MS) : MS := fun ρ μ => if h : ∃ n, whileF c b n ρ μ ≠ .bad then whileF c b (Classical.choose h) ρ μ else .bad
def sFor (f : GT) (b : MS) : List D → MS
  | [] => sNext
  | d :: ds => fun ρ μ => match f d ρ with
    | some ρ1 => sTurn (b ρ1 μ) (sFor f b ds)
    | none => .bad
def sForE (m : Ev → M (List D)) (f : GT) (b : MS) : MS := fun ρ μ => bindS (m ρ μ) ρ fun ds μ' => sFor f b ds ρ μ'
theorem whileF_mono {c : Ev → M Bool} {b : MS} : ∀ {n m : Nat} {ρ : Ev} {μ : Mem}, n ≤ m → whileF c b n ρ μ ≠ .bad → whileF c b m ρ μ = whileF c b n ρ μ
  | 0, _, _, _, _, h => absurd rfl h
  | n + 1, 0, _, _, hl, _ => by omega
  | n + 1, m + 1, ρ, μ, hl, h => by
    unfold whileF at h ⊢
    unfold bindS at h ⊢
    cases q : c ρ μ with
    | exc e μ1 => rfl
    | bad => rfl
    | ok k μ1 =>
      rw [q] at h
      dsimp only at h ⊢
      cases k with
      | false => rfl
      | true =>
        rw [if_pos rfl] at h
        rw [if_pos rfl, if_pos rfl]
        unfold sTurn at h ⊢
        cases q2 : b ρ μ1 with
        | exc e ρ' μ2 => rfl
        | bad => rfl
        | ok f μ2 =>
          rw [q2] at h
          cases f with
          | nx ρ' => exact whileF_mono (by omega) h
          | ct ρ' => exact whileF_mono (by omega) h
          | bk ρ' => rfl
          | rt d => rfl
theorem sWhile_of {c : Ev → M Bool} {b : MS} {n : Nat} {ρ : Ev} {μ : Mem} (h : whileF c b n ρ μ ≠ .bad) : sWhile c b ρ μ = whileF c b n ρ μ := by
  have hx : ∃ n, whileF c b n ρ μ ≠ .bad := ⟨n, h⟩
  unfold sWhile
  rw [dif_pos hx]
  have h2 := Classical.choose_spec hx
  rcases Nat.le_total n (Classical.choose hx) with q | q
  · exact whileF_mono q h
  · exact (whileF_mono q h2).symm
/-- a while by what it comes to: some number of turns gives r -/
def WhileTo (c : Ev → M Bool) (b : MS) (ρ : Ev) (μ : Mem) (r : RS) : Prop := ∃ n, whileF c b n ρ μ = r
theorem WhileTo.eq {c : Ev → M Bool} {b : MS} {ρ : Ev} {μ : Mem} {r : RS} (h : WhileTo c b ρ μ r) (hr : r ≠ .bad) : sWhile c b ρ μ = r := by
  obtain ⟨n, e⟩ := h
  rw [sWhile_of (n := n) (by rw [e]; exact hr), e]
theorem WhileTo.stop {c : Ev → M Bool} {b : MS} {ρ : Ev} {μ μ1 : Mem} (h : c ρ μ = .ok false μ1) : WhileTo c b ρ μ (.ok (.nx ρ) μ1) := ⟨1, by
  unfold whileF bindS
  rw [h]
  rfl⟩
theorem WhileTo.turn {c : Ev → M Bool} {b : MS} {ρ ρ' : Ev} {μ μ1 μ2 : Mem} {r : RS} (h : c ρ μ = .ok true μ1) (hb : b ρ μ1 = .ok (.nx ρ') μ2) (hr : WhileTo c b ρ' μ2 r) : WhileTo c b ρ μ r := by
  obtain ⟨n, e⟩ := hr
  refine ⟨n + 1, ?_⟩
  unfold whileF bindS
  rw [h]
  dsimp only
  rw [if_pos rfl, hb]
  exact e
section
variable {X : Cx} {W : WX} {pos : Pos} {G : Gx}
theorem s_while {t : Expr} {body : List Stmt} {mt : Ev → M Bool} {b : MS} (hp : PassesOwn (model X.prog X.w) X.A X.env X.xe) (ht : JT X Γ W t mt) (hb : JSs X Γ W body b) : JS X Γ W (.While t body [] pos) (sWhile mt b) := by
  refine ps_w (ps_while hp ht hb) fun Z σ H h => ?_
  obtain ⟨φ, ρ, μ, ev, r, p⟩ := h
  unfold sWhile at p
  by_cases hx : ∃ n, whileF mt b n ρ μ ≠ .bad
  · rw [dif_pos hx] at p
    generalize Classical.choose hx = n at p
    refine ⟨fun m σ H => ∃ φ ρ μ, EvR (X.G Γ) φ H ρ σ ∧ MemR (X.G Γ) φ μ H ∧ PostS (X.G Γ) φ H (whileF mt b m ρ μ) Z W, ⟨n, φ, ρ, μ, ev, r, p⟩, ?_⟩
    rintro m σ H ⟨φ, ρ, μ, ev, r, p⟩
    cases m with
    | zero => exact p.elim
    | succ m =>
      unfold whileF at p
      refine bS ev r p fun φ1 H1 k kv μ1 g e1 r1 rv p1 => ?_
      cases (show kv = k from rv)
      cases k with
      | false => exact p1 φ1 H1 σ (Grow.refl _ _) r1 e1
      | true =>
        rw [if_pos rfl] at p1
        show ∃ N, _
        refine ⟨fun σ' H' => ∃ φ ρ μ, EvR (X.G Γ) φ H' ρ σ' ∧ MemR (X.G Γ) φ μ H' ∧ PostS (X.G Γ) φ H' (whileF mt b m ρ μ) Z W, fun σ' H' w => ⟨m, Nat.lt_succ_self _, w⟩, φ1, ρ, μ1, e1, r1, ?_⟩
        unfold sTurn at p1
        cases q : b ρ μ1 with
        | exc e ρ' μ2 => rw [q] at p1; exact p1
        | bad => rw [q] at p1; exact p1
        | ok f μ2 =>
          rw [q] at p1
          cases f with
          | nx ρ' => exact fun φ2 H2 σ2 g2 r2 e2 => ⟨φ2, ρ', μ2, e2, r2, PostS.grow g2 p1⟩
          | ct ρ' => exact fun φ2 H2 σ2 g2 r2 e2 => ⟨φ2, ρ', μ2, e2, r2, PostS.grow g2 p1⟩
          | bk ρ' => exact p1
          | rt d => exact p1
  · rw [dif_neg hx] at p
    exact p.elim
/-- what is walked: at every later heap the items come in turn -/
def tieI (G : Gx) : Tie (List D) It := fun φ H items J => ∀ φ1 H1, Grow φ H φ1 H1 → ∀ i : Nat, (∀ d, items[i]? = some d → J.go i H1 ∧ ∀ x H2 μ, MemR G φ1 μ H1 → J.yld i H1 x H2 → Grow φ1 H1 φ1 H2 ∧ MemR G φ1 μ H2 ∧ Rp G φ1 H2 d x) ∧ (items.length ≤ i → J.stop i H1)
abbrev JI (X : Cx) (Γ : Gs) (W : WX) (tg e : Expr) (m : Ev → M (List D)) : Prop := PI X tg e (tG (X.G Γ) (tieI (X.G Γ)) W m)
theorem pi_w {X : Cx} {tg e : Expr} {t t' : TI} (h : PI X tg e t) (w : ∀ σ H R, t' σ H R → t σ H R) : PI X tg e t' := ⟨fun pins s σ H R I q => h.run pins s σ H R I (w σ H R q)⟩
theorem s_for {tg iter : Expr} {body : List Stmt} {mi : Ev → M (List D)} {f : GT} {b : MS} (hp : PassesOwn (model X.prog X.w) X.A X.env X.xe) (hc : X.calm = true) (hi : JI X Γ W tg iter mi) (hg : JG X Γ tg f) (hb : JSs X Γ W body b) (hs : ∀ x, foldedSetIterable iter X.env x = pure x := by intro _; rfl) : JS X Γ W (.For tg iter body [] pos) (sForE mi f b) := by
  refine ps_w (ps_for hp hc hi hg hb hs) fun Z σ H h => ?_
  obtain ⟨φ, ρ, μ, ev, r, p⟩ := h
  refine bS ev r p fun φ1 H1 ds J μ1 g e1 r1 rj p1 => ?_
  refine ⟨fun i m σ H => i + m = ds.length ∧ ∃ φ ρ μ, Grow φ1 H1 φ H ∧ EvR (X.G Γ) φ H ρ σ ∧ MemR (X.G Γ) φ μ H ∧ PostS (X.G Γ) φ H (sFor f b (ds.drop i) ρ μ) Z W, ⟨ds.length, by omega, φ1, ρ, μ1, Grow.refl _ _, e1, r1, p1⟩, ?_⟩
  rintro i m σ H ⟨hm, φ, ρ, μ, g, ev, r, p⟩
  obtain ⟨jg, js⟩ := rj φ H g i
  by_cases hi : i < ds.length
  · have hd : ds[i]? = some ds[i] := List.getElem?_eq_getElem hi
    obtain ⟨j1, j2⟩ := jg _ hd
    rw [List.drop_eq_getElem_cons hi] at p
    refine .inr ⟨j1, fun σ' H' => ∃ φ ρ μ, Grow φ1 H1 φ H' ∧ EvR (X.G Γ) φ H' ρ σ' ∧ MemR (X.G Γ) φ μ H' ∧ PostS (X.G Γ) φ H' (sFor f b (ds.drop (i + 1)) ρ μ) Z W, fun σ' H' w => ⟨m - 1, by omega, by omega, w⟩, fun x H2 hy => ?_⟩
    obtain ⟨g2, r2, rx⟩ := j2 x H2 μ r hy
    unfold sFor at p
    refine ⟨φ, ds[i], ρ, μ, ev.grow g2, r2, rx, ?_⟩
    cases q : f ds[i] ρ with
    | none =>
      simp only [q] at p
      exact p
    | some ρ1 =>
      simp only [q] at p ⊢
      refine fun σ1 e1' => ⟨φ, ρ1, μ, e1', r2, ?_⟩
      unfold sTurn at p
      cases q2 : b ρ1 μ with
      | exc e ρ' μ2 => rw [q2] at p; exact PostS.grow g2 p
      | bad => rw [q2] at p; exact p
      | ok f2 μ2 =>
        rw [q2] at p
        cases f2 with
        | nx ρ' => exact fun φ2 H3 σ2 g3 r3 e3 => ⟨φ2, ρ', μ2, (g.trans g2).trans g3, e3, r3, PostS.grow (g2.trans g3) p⟩
        | ct ρ' => exact fun φ2 H3 σ2 g3 r3 e3 => ⟨φ2, ρ', μ2, (g.trans g2).trans g3, e3, r3, PostS.grow (g2.trans g3) p⟩
        | bk ρ' => exact PostS.grow (r := .ok (.nx ρ') μ2) g2 p
        | rt d => exact PostS.grow (r := .ok (.rt d) μ2) g2 p
  · have : ds.drop i = [] := List.drop_of_length_le (by omega)
    rw [this] at p
    exact .inl ⟨js (by omega), p φ H σ (Grow.refl _ _) r ev⟩
/-- range(n), range(a, b) -/
def rngL (lo : Int) (n : Nat) : List D := (List.range n).map fun (i : Nat) => D.int (lo + i)
def rng1M : List D → M (List D)
  | [.int j], μ => if j ≤ 100000 ∧ -100000 ≤ j then .ok (rngL 0 j.toNat) μ else .bad
  | _, _ => .bad
def rng2M : List D → M (List D)
  | [.int i, .int j], μ => if -100000 ≤ i ∧ i ≤ 100000 ∧ -100000 ≤ j ∧ j ≤ 100000 then .ok (rngL i (j - i).toNat) μ else .bad
  | _, _ => .bad
def eLL (f : List D → M (List D)) (a : Ev → M (List D)) : Ev → M (List D) := fun ρ => do let x ← a ρ; f x
theorem itr_tie {φ : Lab} {H : Hp} (lo : Int) (n : Nat) : tieI G φ H (rngL lo n) (Itr lo n) := by
  intro φ1 H1 g i
  have hl : (rngL lo n).length = n := by simp [rngL]
  refine ⟨fun d hd => ?_, fun h => by rw [hl] at h; exact h⟩
  have hi : i < n := by
    have := (List.getElem?_eq_some_iff.mp hd).1
    rw [hl] at this
    exact this
  refine ⟨hi, fun x H2 μ R hy => ?_⟩
  obtain ⟨e1, e2⟩ := (show H2 = H1 ∧ x = .int (lo + i) from hy)
  subst e1 e2
  have : d = .int (lo + i) := by
    unfold rngL at hd
    rw [List.getElem?_map, List.getElem?_range hi] at hd
    exact (Option.some.inj hd).symm
  subst this
  exact ⟨Grow.refl _ _, R, .int _⟩
theorem i_rng1 {tg a : Expr} {ml : Ev → M (List D)} {p0 : Pos} (hg : Gl X "range") (hm : X.mg "range" = none) (ha : JL X Γ W [a] ml) (hs : starEach [a] X.env = [(false, eval a X.env)] := by rfl) : JI X Γ W tg (.Call (.Name "range" p0) [a] [] pos) (eLL rng1M ml) := by
  refine pi_w (pi_range1 hg hm ha hs) fun σ H R h => ?_
  refine bE h fun φ1 H1 x v ρ μ1 e r rv p => ?_
  unfold rng1M at p
  split at p
  · rename_i j
    obtain ⟨v, rfl, r1⟩ := rv.one
    cases r1
    by_cases hz : j ≤ 100000 ∧ -100000 ≤ j
    · simp only [if_pos hz] at p
      exact ⟨j, rfl, by omega, by omega, Post.pure p r (itr_tie 0 _)⟩
    · simp only [if_neg hz] at p
      exact p.elim
  · exact p.elim
theorem i_rng2 {tg a b : Expr} {ml : Ev → M (List D)} {p0 : Pos} (hg : Gl X "range") (hm : X.mg "range" = none) (ha : JL X Γ W [a, b] ml) (hs : starEach [a, b] X.env = [(false, eval a X.env), (false, eval b X.env)] := by rfl) (hs2 : starEach [b] X.env = [(false, eval b X.env)] := by rfl) : JI X Γ W tg (.Call (.Name "range" p0) [a, b] [] pos) (eLL rng2M ml) := by
  refine pi_w (pi_range2 hg hm ha hs hs2) fun σ H R h => ?_
  refine bE h fun φ1 H1 x v ρ μ1 e r rv p => ?_
  unfold rng2M at p
  split at p
  · rename_i i j
    obtain ⟨v, w, rfl, r1, r2⟩ := rv.two
    cases r1
    cases r2
    by_cases hz : -100000 ≤ i ∧ i ≤ 100000 ∧ -100000 ≤ j ∧ j ≤ 100000
    · simp only [if_pos hz] at p
      exact ⟨i, j, rfl, by omega, Post.pure p r (itr_tie i _)⟩
    · simp only [if_neg hz] at p
      exact p.elim
  · exact p.elim
/-- a list, a tuple that stands -/
def seqL (d : D) : M (List D) := fun μ => match d with
  | .lst xs => .ok xs μ
  | .ro xs => .ok xs μ
  | _ => .bad
def seqT (d : D) : M (List D) := fun μ => match d with
  | .tup xs => .ok xs μ
  | _ => .bad
def eSeq (f : D → M (List D)) (a : Ev → M D) : Ev → M (List D) := fun ρ => do let x ← a ρ; f x
theorem itt_tie {φ : Lab} {H : Hp} {a : Addr} {vs : List V} {ds : List D} (h : SqTz G.K φ H a vs) (r : RpL G φ H ds vs) : tieI G φ H ds (Itt G.K a) := by
  intro φ1 H1 g i
  have hh := (h.grow g).t
  refine ⟨fun d hd => ?_, fun hl => ⟨vs, hh, by rw [← r.length]; exact hl⟩⟩
  obtain ⟨v, hv, rv⟩ := r.get hd
  refine ⟨⟨vs, v, hh, hv⟩, fun x H2 μ R hy => ?_⟩
  obtain ⟨e1, e2⟩ := (show H2 = H1 ∧ ∀ xs, SqT G.K H1 a xs → xs[i]? = some x from hy)
  subst e1
  have e3 := e2 vs hh
  rw [hv] at e3
  cases e3
  exact ⟨Grow.refl _ _, R, rv.grow g⟩
theorem itl_tie' {φ : Lab} {H : Hp} {a : Addr} {vs : List V} {ds : List D} (h : ∀ φ1 H1, Grow φ H φ1 H1 → SqL G.K H1 a vs) (r : RpL G φ H ds vs) : tieI G φ H ds (Itl G.K a) := by
  intro φ1 H1 g i
  refine ⟨fun d hd => ?_, fun hl => ⟨vs, h _ _ g, by rw [← r.length]; exact hl⟩⟩
  obtain ⟨v, hv, rv⟩ := r.get hd
  refine ⟨⟨vs, v, h _ _ g, hv⟩, fun x H2 μ R hy => ?_⟩
  obtain ⟨e1, e2⟩ := (show H2 = H1 ∧ ∀ xs, SqL G.K H1 a xs → xs[i]? = some x from hy)
  subst e1
  have e3 := e2 vs (h _ _ g)
  rw [hv] at e3
  cases e3
  exact ⟨Grow.refl _ _, R, rv.grow g⟩
theorem i_list {tg l : Expr} {ml : Ev → M D} (hl : JE X Γ W l ml) : JI X Γ W tg l (eSeq seqL ml) := by
  refine pi_w (pi_list hl) fun σ H R h => ?_
  refine bE h fun φ1 H1 x v ρ μ1 e r rv p => ?_
  cases rv with
  | lst h1 n1 r1 =>
    refine ⟨_, rfl, ⟨_, SqL.of h1⟩, Post.pure p r (itl_tie' (vs := _) (fun φ2 H2 g => SqL.of (g.st _ _ h1 n1 fun _ z => nomatch z)) r1)⟩
  | ro h1 r1 => exact ⟨_, rfl, ⟨_, h1.t⟩, Post.pure p r (itl_tie' (fun φ2 H2 g => (h1.grow g).t) r1)⟩
  | _ => exact p.elim
theorem i_tup {tg l : Expr} {ml : Ev → M D} (hl : JE X Γ W l ml) : JI X Γ W tg l (eSeq seqT ml) := by
  refine pi_w (pi_tup hl) fun σ H R h => ?_
  refine bE h fun φ1 H1 x v ρ μ1 e r rv p => ?_
  cases rv with
  | tup h1 r1 => exact ⟨_, rfl, ⟨_, h1.t⟩, Post.pure p r (itt_tie h1 r1)⟩
  | _ => exact p.elim
end
end SE

/-! SE5: defs as computations, their calls, the law's own end. -/
namespace SE
open PySem PySem.Spec PyProof.Rows L2
/-- a def's body run on its arguments -/
def callM (N : Nat) (b : MS) (ds : List D) : M D := fun μ => match b (ds.map some ++ List.replicate (N - ds.length) none) μ with
  | .ok (.rt d) μ' => .ok d μ'
  | .ok (.nx _) μ' => .ok .non μ'
  | .exc e _ μ' => .exc e μ'
  | _ => .bad
/-- called with these trees the def does what m does -/
structure FnG (Γ : Gs) (P : Program) (w : World) (K : PySem.W.Frag) (mg : Str → Option Value) (base : Heap) (k : Nat) (f : Addr) (fd : FuncData) (ps : List Str) (m : List D → M D) : Prop where
  run : ∀ (A : Around) (outer : List PySem.Env) (s : Shared) (H : Hp) (args : Args) (us : List Value) (vs : List V) (Q : VK) (E : XK) (ds : List D) (φ : Lab) (μ : Mem),
    Room k A → A.guards = some [] → Env0 P w K mg base A outer s H → BindsTo s fd args (ps.zip us) → Vals vs us → vs.length = ps.length → RpL ⟨K, mg, Γ, P, w⟩ φ H ds vs → MemR ⟨K, mg, Γ, P, w⟩ φ μ H →
    Post ⟨K, mg, Γ, P, w⟩ (tieD ⟨K, mg, Γ, P, w⟩) φ H (m ds μ) Q E → codeAny (model P w) A (.call (.ref f) args) (CR (L2N.CX P w) outer P w H s Q E) s
theorem FnG.mono {Γ : Gs} {P : Program} {w : World} {K : PySem.W.Frag} {mg : Str → Option Value} {base : Heap} {j k : Nat} {f : Addr} {fd : FuncData} {ps : List Str} {m : List D → M D} (F : FnG Γ P w K mg base j f fd ps m) (h : j ≤ k) : FnG Γ P w K mg base k f fd ps m :=
  ⟨fun A outer s H args us vs Q E ds φ μ hr => F.run A outer s H args us vs Q E ds φ μ (hr.mono h)⟩
theorem start_rp {G : Gx} {φ : Lab} {H : Hp} {ds : List D} {vs : List V} (N : List Str) (r : RpL G φ H ds vs) : EvR G φ H (ds.map some ++ List.replicate (N.length - ds.length) none) (L2.start N vs) := by
  have hl := r.length
  unfold L2.start
  refine ⟨by simp [hl], fun i d e => ?_⟩
  by_cases hi : i < ds.length
  · rw [List.getElem?_append_left (by simpa using hi), List.getElem?_map] at e
    cases q : ds[i]? with
    | none => rw [q] at e; cases e
    | some d' =>
      rw [q] at e
      cases e
      obtain ⟨v, h1, h2⟩ := r.get q
      refine ⟨v, ?_, h2⟩
      rw [List.getElem?_append_left (by simpa [← hl] using hi), List.getElem?_map, h1]
      rfl
  · rw [List.getElem?_append_right (by simpa using hi), List.getElem?_replicate] at e
    split at e <;> cases e
/-! ### code objects -/
def codeAt (K : PySem.W.Frag) (f : Addr) : Addr := match K.lookup f with
  | some ⟨_, _, .func fd, _⟩ => (match fd.code with
    | .ref c => c
    | _ => 0)
  | _ => 0
theorem codeAt_of {K : PySem.W.Frag} {x qual : Str} {params : Arguments} {body : List Stmt} {scope : Scope} {f : Addr} {oc dV kV doc pm cd ct : Value} {od an : Option Addr} {sl : Array (Option Value)}
    (lk : K.lookup f = some ⟨oc, od, .func (PySem.W.fnOf x qual params body scope dV kV doc pm an cd ct), sl⟩) (h : PySem.W.codeIn K cd qual = true) : cd = .ref (codeAt K f) := by
  obtain ⟨c, rfl⟩ := He.codeIn_ref h
  unfold codeAt
  rw [lk]
/-- the context of a def's body -/
abbrev bodyX (P : Program) (w : World) (K : PySem.W.Frag) (mg : Str → Option Value) (base : Heap) (N : List Str) (qual : Str) (sc : Scope) (f : Addr) (cd : Value) (A : Around) (outer : List PySem.Env) (s : Shared) (H : Hp) (E : XK) : Cx :=
  cxOf (L2N.CX P w) P w K mg base N qual sc f cd A outer s H E
abbrev bodyW (E : XK) : WX := fun cls d _ H => E cls d H
section
variable {P : Program} {w : World} {K : PySem.W.Frag} {mg : Str → Option Value} {base : Heap} {x qual : Str} {params : Arguments} {body : List Stmt} {scope : Scope} {dvs : List V} {kws : List (Str × V)} {f : Addr} {fd : FuncData}
theorem FnG.of {N ps : List Str} {k : Nat} {b : MS} (F : FunD K x qual params body scope dvs kws f fd) (S : FnScope N ps scope)
    (hb : ∀ (cd : Value) (A : Around) (outer : List PySem.Env) (s : Shared) (H : Hp) (E : XK), cd = .ref (codeAt K f) → Room k (A.deeper (envOfC qual scope s.heap.objs.size f cd)) → (A.deeper (envOfC qual scope s.heap.objs.size f cd)).guards = some [] →
      L2N.Takes (bodyX P w K mg base N qual scope f cd A outer s H E) (bodyW E) → PassesOwn (model P w) (bodyX P w K mg base N qual scope f cd A outer s H E).A (bodyX P w K mg base N qual scope f cd A outer s H E).env (bodyX P w K mg base N qual scope f cd A outer s H E).xe →
      JSs (bodyX P w K mg base N qual scope f cd A outer s H E) Γ (bodyW E) body b) : FnG Γ P w K mg base (k + 1) f fd ps (callM N.length b) := by
  obtain ⟨oc0, od0, dV0, kV0, doc0, pm0, an0, cdv0, ct0, osl0, e0, lk0, hcd0, _, _⟩ := F.ex
  subst e0
  constructor
  intro A outer s H args us vs Q E ds φ μ room gd en hbind rv hlen rl rm post
  have kin : K.In s.heap := en.mod.kin.keeps fun c o e => (en.bs c o e).1
  have lim : s.heap.NoLimit := en.mod.nolimit.keeps fun c o e => (en.bs c o e).1
  have kinds : ∀ y ∈ ps.zip us, scope.names.lookup y.1 = some .local ∨ (scope.names.lookup y.1 = some .cell ∧ ((cellsFrom (s.heap.objs.size + 1) scope.names []).lookup y.1).isSome = true) := by
    rintro ⟨n, v⟩ hy
    have hn : n ∈ ps := (List.of_mem_zip hy).1
    cases S.par n hn with
    | inl q => exact .inl q
    | inr q => exact .inr ⟨q, PySem.W.cellsFrom_some _ _ _ (.inl q)⟩
  refine codeAny_call_function room.depth (kin _ _ lk0) rfl S.co S.gen rfl (PySem.W.codeRec_of kin hcd0) (hbind _ _ _ _ ?_)
  refine wpAny_newFunctionEnv_cells S.kind kinds fun env he s1 ic => ?_
  subst he
  refine ⟨lim.keeps ic.toInCall.keep, codeAny_func ?_⟩
  have I : Inv (bodyX P w K mg base N qual scope f cdv0 A outer s H E) [] (L2.start N vs) H s1 := inv_start S room.hd en hlen rv ic
  have tk : L2N.Takes (bodyX P w K mg base N qual scope f cdv0 A outer s H E) (bodyW E) := L2N.takes_of (X := bodyX P w K mg base N qual scope f cdv0 A outer s H E) rfl rfl rfl rfl
  have po : PassesOwn (model P w) (bodyX P w K mg base N qual scope f cdv0 A outer s H E).A (bodyX P w K mg base N qual scope f cdv0 A outer s H E).env (bodyX P w K mg base N qual scope f cdv0 A outer s H E).xe := passes_of (X := bodyX P w K mg base N qual scope f cdv0 A outer s H E) rfl
  have J := hb cdv0 A outer s H E (codeAt_of lk0 hcd0) (room.deeper _) gd tk po
  have fin : ∀ {σ' : L2.St} {H' : Hp} {v : V} {u : Value} {s' : Shared}, Inv (bodyX P w K mg base N qual scope f cdv0 A outer s H E) [] σ' H' s' → RelV v u → Q v H' → CE outer P w H s Q u s' := fun {σ' H' v u s'} I' r' q' => ⟨v, H', I'.os, I'.bare, I'.base, I'.hok, r', q'⟩
  refine wpAny_mono (J.run [] s1 (L2.start N vs) H { nx := fun _ H' => Q .non H', rt := Q } I ⟨φ, _, μ, start_rp N rl, rm, ?_⟩) (fun fl s' hs => ?_) fun e s' hs => hs
  · unfold callM at post
    cases q : b (ds.map some ++ List.replicate (N.length - ds.length) none) μ with
    | exc e ρ' μ' =>
      rw [q] at post
      exact fun φ' H' σ' cls dd g r' _ ex => post φ' H' cls dd g r' ex
    | bad => rw [q] at post; exact post
    | ok fl μ' =>
      rw [q] at post
      cases fl with
      | rt d => exact post
      | nx ρ' => exact fun φ' H' σ' g r' _ => post φ' H' .non g r' .non
      | bk ρ' => exact post.elim
      | ct ρ' => exact post.elim
  · cases fl with
    | ret u =>
      obtain ⟨v, σ', H', I', r', q'⟩ := hs
      exact fin I' r' q'
    | next =>
      obtain ⟨σ', H', I', q'⟩ := hs
      exact fin (v := V.non) (u := Value.none) I' rfl q'
    | brk =>
      obtain ⟨_, _, _, q'⟩ := hs
      exact q'.elim
    | cont =>
      obtain ⟨_, _, _, q'⟩ := hs
      exact q'.elim
end
/-! ### calls -/
section
variable {X : Cx} {W : WX} {k : Nat} {f : Addr} {fd : FuncData} {ps ks : List Str} {m : List D → M D} {x : Str} {p0 pos : Pos} {e : Expr} {es : List Expr} {ml mk : Ev → M (List D)} {kws : List Keyword}
/-- a callee with keywords: the positional values us, the keywords' values ws, in the parameters' order -/
structure KBg (K : PySem.W.Frag) (fd : FuncData) (ps ks : List Str) (n : Nat) (g : List Value → List Value → List Value) (gV : List V → List V → List V) (gD : List D → List D → List D) : Prop where
  to : ∀ (s : Shared) (us ws : List Value), K.In s.heap → us.length = n → ws.length = ks.length → BindsTo s fd ⟨us, ks.zip ws⟩ (ps.zip (g us ws))
  rel : ∀ {vs : List V} {us : List Value} {zs : List V} {ws : List Value}, Vals vs us → Vals zs ws → Vals (gV vs zs) (g us ws)
  len : ∀ vs zs : List V, vs.length = n → zs.length = ks.length → (gV vs zs).length = ps.length
  rp : ∀ {P : Program} {w : World} {Γ : Gs} {mg : Str → Option Value} {φ : Lab} {H : Hp} {ds : List D} {vs : List V} {cs : List D} {zs : List V}, RpL ⟨K, mg, Γ, P, w⟩ φ H ds vs → RpL ⟨K, mg, Γ, P, w⟩ φ H cs zs → RpL ⟨K, mg, Γ, P, w⟩ φ H (gD ds cs) (gV vs zs)
theorem run_g {pins : List (Addr × Obj)} {σ : L2.St} {H : Hp} {s : Shared} {Q : VK} {us ws : List Value} {vs zs : List V} {ds cs : List D} {φ : Lab} {μ : Mem} {n : Nat} {g : List Value → List Value → List Value} {gV : List V → List V → List V} {gD : List D → List D → List D}
    (F : FnG Γ X.prog X.w X.K X.mg X.base k f fd ps m) (hr : Room k X.A) (hg : X.A.guards = some []) (hb : KBg X.K fd ps ks n g gV gD) (tk : L2N.Takes X W) (I : Inv X pins σ H s) (r : Vals vs us) (rz : Vals zs ws) (hn : vs.length = n) (hz : zs.length = ks.length)
    (rd : RpL (X.G Γ) φ H ds vs) (rc : RpL (X.G Γ) φ H cs zs) (rm : MemR (X.G Γ) φ μ H) (p : Post (X.G Γ) (tieD (X.G Γ)) φ H (m (gD ds cs) μ) Q fun cls dd H' => W cls dd σ H') : wpAny (model X.prog X.w) X.A (call (.ref f) us (ks.zip ws)) (EP X pins σ Q) X.xe s := by
  refine wpAny_call (codeAny_mono (F.run X.A X.stack s H ⟨us, ks.zip ws⟩ (g us ws) (gV vs zs) Q (fun cls dd H' => W cls dd σ H') (gD ds cs) φ μ hr hg I.env0 (hb.to s us ws I.kIn (by rw [← r.length]; exact hn) (by rw [← rz.length]; exact hz)) (hb.rel r rz) (hb.len vs zs hn hz) (hb.rp rd rc) rm p) fun res s' hq => ?_)
  cases res with
  | error ex => exact tk _ _ (L2N.XE.of_call I (fun _ _ _ h => h) hq)
  | ok fl =>
    cases fl with
    | ret u => exact I.after hq
    | next => exact False.elim hq
    | brk => exact False.elim hq
    | cont => exact False.elim hq
/-- all written, none by name: the plain way -/
theorem KBg.plain {K : PySem.W.Frag} {fd : FuncData} {ps : List Str} {n : Nat} (hn : ps.length = n) (h : ∀ (s : Shared) (us : List Value), K.In s.heap → us.length = n → BindsTo s fd ⟨us, []⟩ (ps.zip us)) : KBg K fd ps [] n (fun us _ => us) (fun vs _ => vs) (fun ds _ => ds) where
  to := fun s us ws hk hl _ => h s us hk hl
  rel := fun r _ => r
  len := fun vs zs h1 _ => by rw [h1, hn]
  rp := fun r _ => r
theorem binds_n {K : PySem.W.Frag} {x qual : Str} {params : Arguments} {body : List Stmt} {scope : Scope} {kws : List (Str × V)} {f : Addr} {fd : FuncData} {ps : List Str} {n : Nat} (F : FunD K x qual params body scope [] kws f fd) (hn : ps.length = n)
    (h : ∀ (kV doc pm : Value) (an : Option Addr) (cdv ct : Value) (us : List Value), us.length = n → bindArgs (PySem.W.fnOf x qual params body scope .none kV doc pm an cdv ct) ⟨us, []⟩ = pure (ps.zip us)) : KBg K fd ps [] n (fun us _ => us) (fun vs _ => vs) (fun ds _ => ds) := by
  refine KBg.plain hn fun s us hk hl => ?_
  subst hn
  exact FunD.bindsA F h s us hl
/-- f(e, ..) -/
def eCall (m : List D → M D) (ml : Ev → M (List D)) : Ev → M D := fun ρ => do let x ← ml ρ; m x
theorem j_call {g : List Value → List Value → List Value} {gV : List V → List V → List V} {gD : List D → List D → List D} (F : FnG Γ X.prog X.w X.K X.mg X.base k f fd ps m) (hr : Room k X.A) (hgd : X.A.guards = some []) (tk : L2N.Takes X W) (hg : Gl X x) (hm : X.mg x = some (.ref f)) (hk : PySem.W.keepIn X.K (.ref f) = true) (hb : KBg X.K fd ps [] (e :: es).length g gV gD)
    (ha : JL X Γ W (e :: es) ml) (hl : ∀ ρ μ ds μ', ml ρ μ = .ok ds μ' → ds.length = (e :: es).length) (hdb : (x == ("__debug__" : Str)) = false := by decide) (he : starEach (e :: es) X.env = (false, eval e X.env) :: starEach es X.env := by rfl) (hpl : (backTo pos (starEach es X.env)).any (·.1) = false := by rfl) :
    JE X Γ W (.Call (.Name x p0) (e :: es) [] pos) (eCall (fun ds => m (gD ds [])) ml) := by
  refine ⟨fun pins s σ H Q I h => ?_⟩
  refine wpAny_Call_Name_kw (ld_glob I hg hm ?_ hdb)
  obtain ⟨φ, ρ, μ, ev, r, p⟩ := h
  have key : tG (X.G Γ) (tieL (X.G Γ)) W ml σ H (fun vs H1 => ∃ φ1 ds μ1, vs.length = (e :: es).length ∧ RpL (X.G Γ) φ1 H1 ds vs ∧ MemR (X.G Γ) φ1 μ1 H1 ∧ Post (X.G Γ) (tieD (X.G Γ)) φ1 H1 (m (gD ds []) μ1) Q (fun cls dd H' => W cls dd σ H')) := by
    refine ⟨φ, ρ, μ, ev, r, ?_⟩
    change Post (X.G Γ) (tieD (X.G Γ)) φ H (M.bind (ml ρ) (fun ds => m (gD ds [])) μ) Q _ at p
    unfold M.bind at p
    cases q : ml ρ μ with
    | ok ds μ1 =>
      rw [q] at p
      exact fun φ1 H1 vs g r1 rv => ⟨φ1, ds, μ1, by rw [← rv.length]; exact hl ρ μ ds μ1 q, rv, r1, Post.grow g p⟩
    | exc x μ1 => rw [q] at p; exact p
    | bad => rw [q] at p; exact p
  refine PySem.W.callWith_K (h₀ := X.base) I.ok.mod.kin hk (thn (ha.run pos pins s σ H _ I key) fun us s1 ⟨vs, H1, I1, rv, φ1, ds, μ1, hvl, rd, r1, p1⟩ => ⟨I1.kIn, ?_⟩) he hpl
  exact run_g (ws := []) (zs := []) (cs := []) F hr hgd hb tk I1 rv .nil hvl rfl rd .nil r1 p1
/-- keywords' values -/
theorem jk_nil : PK X [] (tG (X.G Γ) (tieL (X.G Γ)) W lNil) := by
  refine ⟨fun p pins s σ H Q I h => ?_⟩
  obtain ⟨φ, ρ, μ, e, r, q⟩ := h
  exact pk_nil.run p pins s σ H Q I (Post.pure q r .nil)
theorem jk_cons {nm : Option Str} {kpos : Pos} {ma : Ev → M D} (ha : JE X Γ W e ma) (hr : PK X kws (tG (X.G Γ) (tieL (X.G Γ)) W ml)) : PK X (⟨nm, e, kpos⟩ :: kws) (tG (X.G Γ) (tieL (X.G Γ)) W (lCons ma ml)) := by
  refine ⟨fun p pins s σ H Q I h => ?_⟩
  refine (pk_cons ha hr).run p pins s σ H Q I ?_
  refine bE h fun φ1 H1 x v ρ μ1 e r rv p => ?_
  refine bG e r p fun φ2 H2 y u μ2 g e2 r2 ru p2 => ?_
  exact Post.pure p2 r2 (.cons (rv.grow g) ru)
/-- the length of a written row of arguments -/
theorem lNil_len {ρ : Ev} {μ μ' : Mem} {ds : List D} (h : lNil ρ μ = .ok ds μ') : ds.length = 0 := by
  cases h
  rfl
theorem lCons_len {a : Ev → M D} {r : Ev → M (List D)} {n : Nat} (hr : ∀ ρ μ ds μ', r ρ μ = .ok ds μ' → ds.length = n) {ρ : Ev} {μ μ' : Mem} {ds : List D} (h : lCons a r ρ μ = .ok ds μ') : ds.length = n + 1 := by
  change M.bind (a ρ) (fun x => M.bind (r ρ) fun xs => M.pure (x :: xs)) μ = _ at h
  unfold M.bind M.pure at h
  cases q : a ρ μ with
  | ok d μ1 =>
    rw [q] at h
    dsimp only at h
    cases q2 : r ρ μ1 with
    | ok xs μ2 =>
      rw [q2] at h
      cases h
      simp [hr _ _ _ _ q2]
    | exc x μ2 => rw [q2] at h; cases h
    | bad => rw [q2] at h; cases h
  | exc x μ1 => rw [q] at h; cases h
  | bad => rw [q] at h; cases h
end
/-! ### binding by places -/
/-- the items at these places -/
def pick {α : Type} (l : List Nat) (xs : List α) : List α := l.filterMap fun i => xs[i]?
theorem pick_vals {xs : List V} {us : List Value} (r : Vals xs us) : ∀ l : List Nat, Vals (pick l xs) (pick l us)
  | [] => .nil
  | i :: l => by
    unfold pick
    rw [List.filterMap_cons, List.filterMap_cons]
    cases q : xs[i]? with
    | none =>
      rw [r.none_of q]
      exact pick_vals r l
    | some x =>
      obtain ⟨u, h1, h2⟩ := r.get q
      rw [h1]
      exact .cons h2 (pick_vals r l)
theorem RpL.none_of {G : Gx} {φ : Lab} {H : Hp} {ds : List D} {vs : List V} {i : Nat} (r : RpL G φ H ds vs) (h : ds[i]? = none) : vs[i]? = none := by
  have := List.getElem?_eq_none_iff.mp h
  exact List.getElem?_eq_none_iff.mpr (by rw [← r.length]; exact this)
theorem pick_rp {G : Gx} {φ : Lab} {H : Hp} {ds : List D} {vs : List V} (r : RpL G φ H ds vs) : ∀ l : List Nat, RpL G φ H (pick l ds) (pick l vs)
  | [] => .nil
  | i :: l => by
    unfold pick
    rw [List.filterMap_cons, List.filterMap_cons]
    cases q : ds[i]? with
    | none =>
      rw [r.none_of q]
      exact pick_rp r l
    | some x =>
      obtain ⟨u, h1, h2⟩ := r.get q
      rw [h1]
      exact .cons h2 (pick_rp r l)
theorem pick_len {α : Type} {xs : List α} : ∀ {l : List Nat}, (∀ i ∈ l, i < xs.length) → (pick l xs).length = l.length
  | [], _ => rfl
  | i :: l, h => by
    unfold pick
    rw [List.filterMap_cons, List.getElem?_eq_getElem (h i (List.mem_cons_self ..))]
    show (pick l xs).length + 1 = l.length + 1
    rw [pick_len fun j hj => h j (List.mem_cons_of_mem _ hj)]
section
variable {K : PySem.W.Frag} {x qual : Str} {params : Arguments} {body : List Stmt} {scope : Scope} {dvs : List V} {kws : List (Str × V)} {f : Addr} {fd : FuncData} {ps ks : List Str}
/-- no defaults are used: each parameter from its place among the positional values and the keywords' -/
theorem kb_n (F : FunD K x qual params body scope [] kws f fd) (n : Nat) (l : List Nat) (hl : l.length = ps.length) (hi : ∀ i ∈ l, i < n + ks.length)
    (h : ∀ (kV doc pm : Value) (an : Option Addr) (cdv ct : Value) (us ws : List Value), us.length = n → ws.length = ks.length → bindArgs (PySem.W.fnOf x qual params body scope .none kV doc pm an cdv ct) ⟨us, ks.zip ws⟩ = pure (ps.zip (pick l (us ++ ws)))) :
    KBg K fd ps ks n (fun us ws => pick l (us ++ ws)) (fun vs zs => pick l (vs ++ zs)) (fun ds cs => pick l (ds ++ cs)) := by
  obtain ⟨oc0, od0, dV0, kV0, doc0, pm0, an0, cdv0, ct0, osl0, e0, lk0, hcd0, hD, _⟩ := F.ex
  subst e0
  rcases hD with ⟨_, e⟩ | ⟨e, _⟩
  · subst e
    exact ⟨fun s us ws _ h1 h2 => .of_eq (h kV0 doc0 pm0 an0 cdv0 ct0 us ws h1 h2), fun r1 r2 => pick_vals (r1.append r2) l, fun vs zs h1 h2 => by rw [pick_len (by intro i z; rw [List.length_append, h1, h2]; exact hi i z), hl], fun r1 r2 => pick_rp (r1.append r2) l⟩
  · exact absurd rfl e
/-- defaults fill up -/
theorem kb_d (F : FunD K x qual params body scope dvs kws f fd) (hd : dvs ≠ []) (dds : List D) (hdd : ∀ P w Γ mg φ H, RpL ⟨K, mg, Γ, P, w⟩ φ H dds dvs) (n : Nat) (l : List Nat) (hl : l.length = ps.length) (hi : ∀ i ∈ l, i < n + ks.length + dvs.length)
    (h : ∀ (T : Addr) (kV doc pm : Value) (an : Option Addr) (cdv ct : Value) (us ws its : List Value), us.length = n → ws.length = ks.length → its.length = dvs.length →
      ∃ k, bindArgs (PySem.W.fnOf x qual params body scope (.ref T) kV doc pm an cdv ct) ⟨us, ks.zip ws⟩ = seqItems? (.ref T) >>= k ∧ k (some its.toArray) = pure (ps.zip (pick l (us ++ ws ++ its)))) :
    ∃ its : List Value, KBg K fd ps ks n (fun us ws => pick l (us ++ ws ++ its)) (fun vs zs => pick l (vs ++ zs ++ dvs)) (fun ds cs => pick l (ds ++ cs ++ dds)) := by
  obtain ⟨oc0, od0, dV0, kV0, doc0, pm0, an0, cdv0, ct0, osl0, e0, lk0, hcd0, hD, _⟩ := F.ex
  subst e0
  rcases hD with ⟨e, _⟩ | ⟨_, T, o, its, m, e, lT, oT, rT⟩
  · exact absurd e hd
  · subst e
    refine ⟨its, ⟨fun s us ws X h1 h2 => ?_, fun r1 r2 => pick_vals ((r1.append r2).append rT) l, fun vs zs h1 h2 => by rw [pick_len (by intro i z; rw [List.length_append, List.length_append, h1, h2]; exact hi i z), hl], fun {P w Γ mg φ H ds vs cs zs} r1 r2 => pick_rp ((r1.append r2).append (hdd P w Γ mg φ H)) l⟩⟩
    obtain ⟨k, e1, e2⟩ := h T kV0 doc0 pm0 an0 cdv0 ct0 us ws its h1 h2 rT.length.symm
    refine BindsTo.of_looks fun M => ?_
    rw [e1]
    exact looks_items X lT oT (.of_pure e2)
end
section
variable {X : Cx} {W : WX} {k : Nat} {f : Addr} {fd : FuncData} {ps ks : List Str} {m : List D → M D} {x : Str} {p0 pos : Pos} {e : Expr} {es : List Expr} {ml mk : Ev → M (List D)} {kws : List Keyword}
  {g : List Value → List Value → List Value} {gV : List V → List V → List V} {gD : List D → List D → List D}
/-- f(e, .., k = v, ..) -/
def eCallK (m : List D → M D) (gD : List D → List D → List D) (ml mk : Ev → M (List D)) : Ev → M D := fun ρ => do let x ← ml ρ; let y ← mk ρ; m (gD x y)
theorem key_k {n j : Nat} {σ : L2.St} {H : Hp} {Q : VK} (hl : ∀ ρ μ ds μ', ml ρ μ = .ok ds μ' → ds.length = n) (hz : ∀ ρ μ ds μ', mk ρ μ = .ok ds μ' → ds.length = j) (h : tG (X.G Γ) (tieD (X.G Γ)) W (eCallK m gD ml mk) σ H Q) :
    tG (X.G Γ) (tieL (X.G Γ)) W ml σ H fun vs H1 => tG (X.G Γ) (tieL (X.G Γ)) W mk σ H1 fun zs H2 => ∃ φ ds cs μ, vs.length = n ∧ zs.length = j ∧ RpL (X.G Γ) φ H2 ds vs ∧ RpL (X.G Γ) φ H2 cs zs ∧ MemR (X.G Γ) φ μ H2 ∧ Post (X.G Γ) (tieD (X.G Γ)) φ H2 (m (gD ds cs) μ) Q (fun cls dd H' => W cls dd σ H') := by
  obtain ⟨φ, ρ, μ, ev, r, p⟩ := h
  refine ⟨φ, ρ, μ, ev, r, ?_⟩
  change Post (X.G Γ) (tieD (X.G Γ)) φ H (M.bind (ml ρ) (fun x => M.bind (mk ρ) fun y => m (gD x y)) μ) Q _ at p
  unfold M.bind at p
  cases q : ml ρ μ with
  | exc x μ1 => rw [q] at p; exact p
  | bad => rw [q] at p; exact p
  | ok ds μ1 =>
    rw [q] at p
    intro φ1 H1 vs g1 r1 rv
    refine ⟨φ1, ρ, μ1, ev.grow g1, r1, ?_⟩
    dsimp only at p
    cases q2 : mk ρ μ1 with
    | exc x μ2 => rw [q2] at p; exact Post.grow (r := .exc x μ2) (T := tieL (X.G Γ)) g1 (by exact p)
    | bad => rw [q2] at p; exact p
    | ok cs μ2 =>
      rw [q2] at p
      exact fun φ2 H2 zs g2 r2 rz => ⟨φ2, ds, cs, μ2, by rw [← rv.length]; exact hl _ _ _ _ q, by rw [← rz.length]; exact hz _ _ _ _ q2, rv.grow g2, rz, r2, Post.grow (g1.trans g2) p⟩
theorem j_callK (F : FnG Γ X.prog X.w X.K X.mg X.base k f fd ps m) (hr : Room k X.A) (hgd : X.A.guards = some []) (tk : L2N.Takes X W) (hg : Gl X x) (hm : X.mg x = some (.ref f)) (hk : PySem.W.keepIn X.K (.ref f) = true) (hb : KBg X.K fd ps ks (e :: es).length g gV gD)
    (ha : JL X Γ W (e :: es) ml) (hkw : PK X kws (tG (X.G Γ) (tieL (X.G Γ)) W mk)) (hl : ∀ ρ μ ds μ', ml ρ μ = .ok ds μ' → ds.length = (e :: es).length) (hz : ∀ ρ μ ds μ', mk ρ μ = .ok ds μ' → ds.length = ks.length) (hall : (backToKw pos (keywordEach kws X.env)).all (·.1.isSome) = true := by rfl) (hks : (backToKw pos (keywordEach kws X.env)).filterMap (·.1) = ks := by rfl)
    (hdb : (x == ("__debug__" : Str)) = false := by decide) (he : starEach (e :: es) X.env = (false, eval e X.env) :: starEach es X.env := by rfl) (hpl : ((backTo pos (starEach (e :: es) X.env)).any (·.1) || (backToKw pos (keywordEach kws X.env)).any (·.1.isNone)) = false := by rfl) :
    JE X Γ W (.Call (.Name x p0) (e :: es) kws pos) (eCallK m gD ml mk) := by
  refine ⟨fun pins s σ H Q I h => ?_⟩
  refine wpAny_Call_Name_kw (ld_glob I hg hm ?_ hdb)
  refine PySem.W.callWith_KW (h₀ := X.base) I.ok.mod.kin hk hall (thn (ha.run pos pins s σ H _ I (key_k hl hz h)) fun us s1 ⟨vs, H1, I1, r, q⟩ => ?_) hpl he
  refine thn (hkw.run pos pins s1 σ H1 _ I1 q) fun ws s2 ⟨zs, H2, I2, rz, φ2, ds, cs, μ2, hvl, hzl, rd, rc, r2, p2⟩ => ⟨I2.kIn, ?_⟩
  rw [hks]
  exact run_g F hr hgd hb tk I2 r rz hvl hzl rd rc r2 p2
/-- f(k = v, ..) -/
theorem j_callK0 (F : FnG Γ X.prog X.w X.K X.mg X.base k f fd ps m) (hr : Room k X.A) (hgd : X.A.guards = some []) (tk : L2N.Takes X W) (hg : Gl X x) (hm : X.mg x = some (.ref f)) (hk : PySem.W.keepIn X.K (.ref f) = true) (hb : KBg X.K fd ps ks 0 g gV gD)
    (hkw : PK X kws (tG (X.G Γ) (tieL (X.G Γ)) W mk)) (hz : ∀ ρ μ ds μ', mk ρ μ = .ok ds μ' → ds.length = ks.length) (hall : (backToKw pos (keywordEach kws X.env)).all (·.1.isSome) = true := by rfl) (hks : (backToKw pos (keywordEach kws X.env)).filterMap (·.1) = ks := by rfl)
    (hdb : (x == ("__debug__" : Str)) = false := by decide) (hpl : ((backTo pos (starEach [] X.env)).any (·.1) || (backToKw pos (keywordEach kws X.env)).any (·.1.isNone)) = false := by rfl) :
    JE X Γ W (.Call (.Name x p0) [] kws pos) (eCallK m gD lNil mk) := by
  refine ⟨fun pins s σ H Q I h => ?_⟩
  refine wpAny_Call_Name_kw (ld_glob I hg hm ?_ hdb)
  have h2 := key_k (n := 0) (fun ρ μ ds μ' q => lNil_len q) hz h
  obtain ⟨φ, ρ, μ, ev, r, p⟩ := h2
  have h3 := Post.pure (v := []) p r .nil
  refine PySem.W.callWith_KW0 (h₀ := X.base) I.ok.mod.kin hk hall (thn (hkw.run pos pins s σ H _ I h3) fun ws s2 ⟨zs, H2, I2, rz, φ2, ds, cs, μ2, hvl, hzl, rd, rc, r2, p2⟩ => ⟨I2.kIn, ?_⟩) hpl
  rw [hks]
  exact run_g (us := []) (vs := []) F hr hgd hb tk I2 .nil rz rfl hzl rd rc r2 p2
/-- f() -/
theorem j_call0 (F : FnG Γ X.prog X.w X.K X.mg X.base k f fd ps m) (hr : Room k X.A) (hgd : X.A.guards = some []) (tk : L2N.Takes X W) (hg : Gl X x) (hm : X.mg x = some (.ref f)) (hk : PySem.W.keepIn X.K (.ref f) = true) (hb : KBg X.K fd ps [] 0 g gV gD) (hdb : (x == ("__debug__" : Str)) = false := by decide) :
    JE X Γ W (.Call (.Name x p0) [] [] pos) (fun _ => m (gD [] [])) := by
  refine ⟨fun pins s σ H Q I h => ?_⟩
  refine wpAny_Call_Name_kw (ld_glob I hg hm ?_ hdb)
  obtain ⟨φ, ρ, μ, ev, r, p⟩ := h
  exact PySem.W.callWith_K0 I.kIn hk (run_g (us := []) (ws := []) (vs := []) (zs := []) (ds := []) (cs := []) F hr hgd hb tk I .nil .nil rfl rfl .nil .nil r p)
end
/-- f(e, ..), every parameter written by place -/
theorem j_callP {X : Cx} {W : WX} {k : Nat} {f : Addr} {fd : FuncData} {ps : List Str} {m : List D → M D} {x : Str} {p0 pos : Pos} {e : Expr} {es : List Expr} {ml : Ev → M (List D)} (F : FnG Γ X.prog X.w X.K X.mg X.base k f fd ps m) (hr : Room k X.A) (hgd : X.A.guards = some []) (tk : L2N.Takes X W) (hg : Gl X x) (hm : X.mg x = some (.ref f)) (hk : PySem.W.keepIn X.K (.ref f) = true)
    (hb : KBg X.K fd ps [] (e :: es).length (fun us _ => us) (fun vs _ => vs) (fun ds _ => ds)) (ha : JL X Γ W (e :: es) ml) (hl : ∀ ρ μ ds μ', ml ρ μ = .ok ds μ' → ds.length = (e :: es).length) (hdb : (x == ("__debug__" : Str)) = false := by decide) (he : starEach (e :: es) X.env = (false, eval e X.env) :: starEach es X.env := by rfl) (hpl : (backTo pos (starEach es X.env)).any (·.1) = false := by rfl) :
    JE X Γ W (.Call (.Name x p0) (e :: es) [] pos) (eCall m ml) := j_call F hr hgd tk hg hm hk hb ha hl hdb he hpl
/-! ### the law's own end -/
theorem ints_rp {G : Gx} {φ : Lab} {H : Hp} : ∀ ns : List Int, RpL G φ H (ns.map .int) (ns.map V.int)
  | [] => .nil
  | n :: ns => .cons (.int n) (ints_rp ns)
end SE

/-! SE6: the text's defs by name; small further rules. -/
namespace SE
open PySem PySem.Spec PyProof.Rows L2
def noFd : FuncData := PySem.W.fnOf "" "" { posonlyargs := [], args := [], vararg := none, kwonlyargs := [], kw_defaults := [], kwarg := none, defaults := [] } [] { kind := .function, names := [], isGenerator := false, isCoroutine := false } .none .none .none .none none .none .none
def fdAt (K : PySem.W.Frag) (a : Addr) : FuncData := match K.lookup a with
  | some ⟨_, _, .func fd, _⟩ => fd
  | _ => noFd
/-- the def x stands behind the top as its text says -/
structure DefG (K : PySem.W.Frag) (mg : Str → Option Value) (x name : Str) (st : Stmt) (dvs : List V) : Prop where
  F : FunD K name name (defArgs st) (defBody st) (defScope st) dvs [] (He.ga K x) (fdAt K (He.ga K x))
  g : mg x = some (.ref (He.ga K x))
theorem fdAt_of {K : PySem.W.Frag} {x qual : Str} {params : Arguments} {body : List Stmt} {scope : Scope} {dvs : List V} {kws : List (Str × V)} {f : Addr} {fd : FuncData} (F : FunD K x qual params body scope dvs kws f fd) : FunD K x qual params body scope dvs kws f (fdAt K f) := by
  have F2 := F
  obtain ⟨oc, od, dV, kV, doc, pm, an, cdv, ct, osl, e, lk, hcd, hD, hK⟩ := F.ex
  have : fdAt K f = fd := by
    unfold fdAt
    rw [lk]
  rw [this]
  exact F2
section
variable {X : Cx} {W : WX} {pos : Pos}
/-- a built-in type as a value -/
theorem j_ty {x : Str} {T : String} (hg : Gl X x) (hm : X.mg x = none) (hv : bootBuiltins x = some (.type T)) (hn : x ≠ "__name__" := by decide) (hd : (x == ("__debug__" : Str)) = false := by decide) : JE X Γ W (.Name x pos) (eC (.ty T)) :=
  j_const (pe_bltn hg hm hv (v := .ty T) rfl hn hd) fun _ _ => .ty T
theorem j_dct0 : JE X Γ W (.Dict [] [] pos) (eC (.dct [])) := by
  refine pe_w pe_dnewK fun σ H Q h => ?_
  obtain ⟨φ, ρ, μ, e, r, p⟩ := h
  intro d hd
  exact p φ _ _ (Grow.laid hd) (r.laid hd) (.dct upd_same (r.out hd) .nil)
variable {a b c : Expr} {ma mb mc : Ev → M D}
theorem chain_t {G : Gx} {W : WX} {r r' : R2} {f g : D → D → M D} (hi : OpI G f r) (hi' : OpI G g r') {σ : L2.St} {H : Hp} {Q' : VK} (h : tG G (tieD G) W (e3c f g ma mb mc) σ H Q') : tChain r r' (tG G (tieD G) W ma) (tG G (tieD G) W mb) (tG G (tieD G) W mc) σ H Q' := by
  refine bE h fun φ1 H1 x v ρ μ1 e r rv p => ?_
  refine bG e r p fun φ2 H2 y u μ2 g2 e2 r2 ru p2 => ?_
  refine hi φ2 μ2 H2 x y v u _ (fun cls dd H' => W cls dd σ H') r2 (rv.grow g2) ru ?_
  change Post G (tieD G) φ2 H2 (M.bind (f x y) _ μ2) _ _ at p2
  unfold M.bind at p2
  cases q : f x y μ2 with
  | ok d μ3 =>
    rw [q] at p2
    intro φ3 H3 z g3 r3 rz
    dsimp only at p2
    obtain ⟨k, rfl, p3⟩ := isBl_i rz (Post.grow g3 p2)
    refine ⟨k, rfl, ?_⟩
    cases k with
    | false => exact Post.pure p3 r3 (.bl false)
    | true =>
      refine bG (e2.grow g3) r3 p3 fun φ4 H4 w t μ4 g4 e4 r4 rt p4 => ?_
      exact hi' φ4 μ4 H4 y w u t Q' _ r4 ((ru.grow g3).grow g4) rt p4
  | exc x μ3 => rw [q] at p2; exact p2
  | bad => rw [q] at p2; exact p2
/-- a op b op' c as a test -/
theorem jt_chain {op op' : CmpOp} {r r' : R2} {f g : D → D → M D} (ho : OpR X (compareOp op) r) (hi : OpI (X.G Γ) f r) (ho' : OpR X (compareOp op') r') (hi' : OpI (X.G Γ) g r') (ha : JE X Γ W a ma) (hb : JE X Γ W b mb) (hc : JE X Γ W c mc)
    (hm : lastMarks [op, op'] [b, c] = false := by with_unfolding_all rfl) : JT X Γ W (.Compare a [op, op'] [b, c] pos) (bOf (e3c f g ma mb mc)) := by
  refine pt_w (pt_chain ho ho' ha hb hc hm) fun σ H Q h => ?_
  obtain ⟨φ, ρ, μ, e, r, p⟩ := h
  have p' : tG (X.G Γ) (tieD (X.G Γ)) W (e3c f g ma mb mc) σ H (fun x H' => ∃ k, x = .bl k ∧ Q k H') := by
    refine ⟨φ, ρ, μ, e, r, ?_⟩
    change Post (X.G Γ) tieB φ H (M.bind (e3c f g ma mb mc ρ) (fun x => isBl x) μ) _ _ at p
    unfold M.bind at p
    cases q : e3c f g ma mb mc ρ μ with
    | ok d μ1 =>
      rw [q] at p
      intro φ1 H1 v g1 r1 rv
      dsimp only at p
      cases rv with
      | bl k => exact ⟨k, rfl, Post.pure (Post.grow g1 p) r1 rfl⟩
      | _ => exact p.elim
    | exc x μ1 => rw [q] at p; exact p
    | bad => rw [q] at p; exact p
  exact chain_t hi hi' p'
end
/-- how many arguments a row has -/
theorem len0 : ∀ (ρ : Ev) (μ : Mem) (ds : List D) (μ' : Mem), lNil ρ μ = .ok ds μ' → ds.length = 0 := fun _ _ _ _ q => lNil_len q
theorem lenS {a : Ev → M D} {r : Ev → M (List D)} {n : Nat} (h : ∀ (ρ : Ev) (μ : Mem) (ds : List D) (μ' : Mem), r ρ μ = .ok ds μ' → ds.length = n) : ∀ (ρ : Ev) (μ : Mem) (ds : List D) (μ' : Mem), lCons a r ρ μ = .ok ds μ' → ds.length = n + 1 := fun _ _ _ _ q => lCons_len h q
end SE

/-! SEa: exceptions of the text: made, raised, read, asked for their class. -/
namespace SE
open PySem PySem.Spec PyProof.Rows L2
/-! ### the built-in classes behind them -/
theorem EB.facts : ∀ b : EB, ExcBaseFacts b.n b.new b.ini b.tail
  | .ve => PySem.F.excBase_ValueError
  | .le => PySem.F.excBase_LookupError
  | .ae => PySem.F.excBase_ArithmeticError
section
open Builtin Builtin.ObjectAttr
theorem EB.passes (self : Value) (b : EB) : refuseLoop self "__setattr__" b.tail = pure () := by cases b <;> kernel_rfl
end
section
open Builtin Builtin.ObjectAttr
variable {b : EB}
theorem tailG_cases : ∀ l : List Value, tailG b l = true → (∃ c r, l = .ref c :: r ∧ tailG b r = true) ∨ l = b.tail
  | [], e => .inr (beq_iff_eq.mp e)
  | .ref c :: r, e => .inl ⟨c, r, rfl, e⟩
  | .none :: _, e | .ellipsis :: _, e | .notImplemented :: _, e | .bool _ :: _, e | .int _ _ :: _, e | .float _ _ :: _, e | .str _ _ :: _, e | .bytes _ _ :: _, e | .type _ :: _, e | .builtin _ :: _, e => .inr (beq_iff_eq.mp e)
theorem tailG_pass (self : Value) : ∀ l : List Value, tailG b l = true → refuseLoop self "__setattr__" l = pure ()
  | [], e => by cases b <;> exact absurd e (by decide)
  | a :: r, e => by
    rcases tailG_cases (a :: r) e with ⟨c, r', q, h⟩ | q
    · obtain ⟨rfl, rfl⟩ := List.cons.inj q
      rw [refuseLoop_ref]
      exact tailG_pass self _ h
    · rw [q]
      exact EB.passes self b
theorem tailG_has (Y : String) : ∀ l : List Value, tailG b l = true → l.contains (.type Y) = b.tail.contains (.type Y)
  | [], e => by cases b <;> exact absurd e (by decide)
  | a :: r, e => by
    rcases tailG_cases (a :: r) e with ⟨c, r', q, h⟩ | q
    · obtain ⟨rfl, rfl⟩ := List.cons.inj q
      rw [List.contains_cons, tailG_has Y _ h]
      rfl
    · rw [q]
end
/-- what the written part says of such a class -/
structure OexG (K : PySem.W.Frag) (C : Addr) : Prop where
  cls : ∃ b nm q N bs bm sn sub ab col dd k0 k1 k2 k3 k5, K.lookup C = some (excClassObj nm q C N bs bm true sn sub ab col dd k0 k1 k2 k3 k5 (EB.new b)) ∧ tailG b bm = true
  sa : PySem.W.findIn K (.ref C) "__setattr__" = some (some (.builtin "object.__setattr__"))
  exC : PySem.W.subIn K (.ref C) (.type "BaseException") = some true
  tyC : PySem.W.typeIn K (.ref C) = some (.type "type")
  kC : PySem.W.keepIn K (.ref C) = true
theorem oexB1_ok {b : EB} {K : PySem.W.Frag} {C : Addr} (h0 : oexB1 b K C = true) : ∃ nm q N bs bm sn sub ab col dd k0 k1 k2 k3 k5, K.lookup C = some (excClassObj nm q C N bs bm true sn sub ab col dd k0 k1 k2 k3 k5 b.new) ∧ tailG b bm = true := by
  unfold oexB1 at h0
  cases q : K.lookup C with
  | none => rw [q] at h0; cases h0
  | some o =>
    rw [q] at h0
    obtain ⟨oc, od, dt, sl⟩ := o
    cases oc with
    | type t =>
      cases dt with
      | cls cd =>
        dsimp only at h0
        obtain ⟨e0, h0⟩ := andB h0
        have e0 := of_decide_eq_true e0
        subst e0
        obtain ⟨nm, bs, mro, ns, qn, hd, sn, sub, ab, col, dl⟩ := cd
        dsimp only at h0
        split at h0
        · rename_i C' bm k0 k1 k2 k3 n k5 e1 e2
          obtain ⟨_, h0⟩ := andB h0
          obtain ⟨g1, h0⟩ := andB h0
          obtain ⟨g2, h0⟩ := andB h0
          obtain ⟨g3, h0⟩ := andB h0
          obtain ⟨g4, g5⟩ := andB h0
          have g1 := of_decide_eq_true g1
          have g2 := of_decide_eq_true g2
          have g3' : dl = false := by simpa using g3
          have g5 : hd = true := g5
          subst g1 g2 g3' g5
          have e3 : sl = #[k0, k1, k2, k3, some (.builtin b.new), k5] := by
            obtain ⟨l⟩ := sl
            have e1 : l = [k0, k1, k2, k3, some (.builtin b.new), k5] := e1
            rw [e1]
          subst e3
          exact ⟨nm, qn, ns, bs, bm, sn, sub, ab, col, od, k0, k1, k2, k3, k5, rfl, g4⟩
        · cases h0
      | _ => cases h0
    | _ => cases h0
theorem oexB_ok {K : PySem.W.Frag} {C : Addr} (h : oexB K C = true) : OexG K C := by
  obtain ⟨h0, h⟩ := andB h
  obtain ⟨h1, h⟩ := andB h
  obtain ⟨h2, h⟩ := andB h
  obtain ⟨h3, h4⟩ := andB h
  refine ⟨?_, of_decide_eq_true h1, of_decide_eq_true h2, of_decide_eq_true h3, h4⟩
  rcases Bool.or_eq_true_iff.mp h0 with z | z
  · exact ⟨_, oexB1_ok z⟩
  · rcases Bool.or_eq_true_iff.mp z with z | z
    · exact ⟨_, oexB1_ok z⟩
    · exact ⟨_, oexB1_ok z⟩
/-! ### self.f = y -/
section
open PySem.W PySem.HandSPX Builtin Builtin.ObjectAttr
variable {b : EB} {prog : Program} {w : World} {A : Around} {R : Result → Shared → Prop} {hp : Heap} {g : Array GenState} {d : Drawn} {t : Nat} {os : OsState}
theorem osa_g {K : Frag} {name : Str} {tk : Tok} {v : Value} {x C : Addr} {fv : Array Value} {cd : ClassData}
    (kin : K.In hp) (hx : hp.get? x = some { cls := .ref C, data := .fields fv }) (hcd : clsIn K C = some cd) (hm : tailG b cd.mro = true) (hh : cd.hasDict = true) (ha : findIn K (.ref C) name = some none)
    (hq : ∀ h' tk' dx, (∀ c o, c ≠ x → hp.get? c = some o → h'.get? c = some o) → hp.objs.size ≤ dx → dx ≠ x → h'.get? x = some { cls := .ref C, dict := some dx, data := .fields fv } →
      h'.Ns1 dx (fun y => if y = name then some v else none) → R (.ok (.ret .none)) ⟨h', g, d, tk', os⟩) :
    codeAny (model prog w) A (.call (.builtin "object.__setattr__") ⟨[.ref x, .str name tk, v], []⟩) R ⟨hp, g, d, t, os⟩ := by
  have J : InstAt hp x { cls := .ref C, data := .fields fv } C none := ⟨hx, rfl, rfl, trivial⟩
  have S0 := F.store_object
  have ne : cd.mro.isEmpty = false := by
    cases q : cd.mro with
    | nil => rw [q] at hm; cases b <;> exact absurd hm (by decide)
    | cons _ _ => rfl
  have ob : cd.mro.contains (.type "object") = true := (tailG_has "object" _ hm).trans (by cases b <;> decide +kernel)
  have nx : x ≠ hp.objs.size := Nat.ne_of_lt (Heap.lt_size hx)
  have sub : Looks (model prog w) hp (isInstance (.ref x) (.type "object")) true := J.type.andThen (looks_mroIn kin (by unfold mroIn; rw [hcd, Option.bind_some, if_neg (by rw [ne]; decide), ob]))
  refine codeAny_call_builtin S0.slot.plain S0.entry (@check_slot (model prog w) _ _ ⟨hp, g, d, t, os⟩ "object.__setattr__" "object" "__setattr__" (.ref x) [.str name tk, v] [] _ S0.kind S0.split sub (S0.args (.ref x) (.str name tk) v) ?_)
  have mr : Looks (model prog w) hp (mroOf (.ref C)) cd.mro := (looks_clsIn kin hcd).andThen .now
  have l3 : Looks (model prog w) hp (storeTaker? none) none := .now
  have cl : Looks (model prog w) hp (classData C) cd := looks_clsIn kin hcd
  rw [osa_eq, refuse_eq]
  refine wpAny_bind (wpAny_bind (J.type.at (wpAny_bind (mr.at ?_))))
  rw [tailG_pass _ _ hm]
  refine wpAny_pure (wpAny_bind (J.type.at (wpAny_bind ((looks_findIn kin ha).at (wpAny_bind (l3.at ?_))))))
  show wpAny _ _ (storeInOwnDict (.ref x) (.ref C) (.str name tk) name v false) _ _ _
  obtain ⟨nm, bs, mro, ns, qn, hd, sn, sb, ab, col, del⟩ := cd
  dsimp only at hh
  subst hh
  unfold storeInOwnDict ownDictForStores
  repeat (first | with_reducible refine store_in_new ?_ ?_ | with_reducible refine wpAny_loadPart_at hx ?_ | with_reducible refine cl.at ?_ | wp_step)
  · exact ⟨_, #[], _, (Heap.get?_update_ne _ _ _ _ nx.symm).trans (Heap.get?_push_at rfl rfl), rfl, fun e he => absurd he (by simp), fun _ => rfl⟩
  · intro h' tk' hn' hs
    have hx1 : (hp.push { cls := .type "dict", data := .dict #[] }).get? x = some { cls := .ref C, data := .fields fv } := Heap.get?_push_of_some _ hx
    refine hq h' tk' hp.objs.size (fun c o hb ho => ?_) (Nat.le_refl _) nx.symm ?_ hn'
    · exact (hs.2 c (Nat.ne_of_lt (Heap.lt_size ho))).trans ((Heap.get?_update_ne _ _ _ _ hb).trans (Heap.get?_push_of_some _ ho))
    · exact (hs.2 x nx).trans (Heap.get?_update_self _ hx1 rfl)
end
section
variable {X : Cx} {pins : List (Addr × Obj)} {σ : L2.St} {H : Hp} {s : Shared} {a C dx : Addr} {f : Str} {y : V} {u : Value} {Q : Unit → Shared → Prop} {E : Value → Shared → Prop} {A : Around}
theorem ost_g (T : OexG X.K C) (I : Inv X pins σ H s) (e : H a = some (exo a C none)) (hno : PySem.W.findIn X.K (.ref C) f = some none) (ry : RelV y u)
    (h : ∀ dx s', H dx = none → dx ≠ a → Inv X pins σ (upd (upd H dx (exd dx [(f, y)])) a (exo a C (some dx))) s' → Q () s') : wpAny (model X.prog X.w) A (setAttr (.ref a) f u) Q E s := by
  obtain ⟨b, nm, q, N, bs, bm, sn, sub, ab, col, dd, k0, k1, k2, k3, k5, hC, hbm⟩ := T.cls
  have hcl : PySem.W.clsIn X.K C = some { name := nm, bases := bs, mro := .ref C :: bm, ns := N, qualname := q, hasDict := true, slotNames := sn, subclasses := sub, abstract := ab, collection := col, hasDel := false } := by unfold PySem.W.clsIn; rw [hC] <;> rfl
  obtain ⟨t1, ho⟩ := exo_at I.hok e
  obtain ⟨hp, g, d, t, os⟩ := s
  refine PySem.W.set_plain I.kIn (ox := { cls := .ref C, dict := none, data := .fields #[.ref t1, .none, .none, .none, .bool false, .none] }) (od := none) ⟨ho, rfl, rfl, trivial⟩ T.sa ?_
  refine osa_g (b := b) I.kIn ho hcl (show tailG b (.ref C :: bm) = true from hbm) rfl hno (fun h' tk' dx k dn dne hx hn => ?_)
  have hnd : H dx = none := I.hok.fresh dn
  have nd : ∀ {b : Addr} {o : Obj}, hp.get? b = some o → b ≠ dx := fun {b o} q => Nat.ne_of_lt (Nat.lt_of_lt_of_le (Heap.lt_size q) dn)
  have na : ∀ {b : Addr}, H b = none → b ≠ a := fun {b} n z => by rw [z, e] at n; cases n
  have un : Un X.fs [] H (upd (upd H dx (exd dx [(f, y)])) a (exo a C (some dx))) hp h' := {
    keep := fun b o q n _ _ => k b o (na n) q
    slot := fun b o q n _ _ => ⟨o.slots, k b o (na n) q⟩
    free := fun b o q n _ => by rw [upd_ne (na n), upd_ne (nd q)]; exact n
    there := fun b o q _ => by
      by_cases hb : b = a
      · exact ⟨_, by rw [hb]; exact hx⟩
      · exact ⟨o, k b o hb q⟩
    tups := fun b xs q => by rw [upd_ne (at_ne e q exo_tup), upd_ne (ne_of_none q hnd)]; exact q
    frzs := fun b o v q => by rw [upd_ne (at_ne e q exo_frz), upd_ne (ne_of_none q hnd)]; exact q
    tbls := fun b ps q => ⟨#[], by rw [upd_ne (at_ne e q exo_tbl), upd_ne (ne_of_none q hnd), q]; simp⟩ }
  refine h dx _ hnd dne (I.un (t' := tk') un fun b o q => ?_)
  by_cases hb : b = a
  · subst hb
    rw [upd_same] at q
    cases q
    exact exo_ok hx
  · rw [upd_ne hb] at q
    by_cases hd : b = dx
    · subst hd
      rw [upd_same] at q
      cases q
      exact exd_ok hn (relO_put (fs := []) ry fun g => True.intro)
    · rw [upd_ne hd] at q
      exact (I.hok b o q).stay (fun c v hc z => k c v (hc.elim (fun hc => by rw [hc]; exact hb) fun hc => at_ne e hc exo_own) z)
        (fun c hc => by rw [upd_ne (at_ne e hc exo_own), upd_ne (ne_of_none hc hnd)]; exact hc) (fun c xs hc => by rw [upd_ne (at_ne e hc exo_tup), upd_ne (ne_of_none hc hnd)]; exact hc)
end
def tOg (K : PySem.W.Frag) (f : Str) (to te : TE) : TS := fun D σ H => te σ H fun y H1 => to σ H1 fun x H2 => ∃ a C : Addr, x = .ref a ∧ OexG K C ∧ PySem.W.findIn K (.ref C) f = some none ∧
  H2 a = some (exo a C none) ∧ ∀ dx, H2 dx = none → dx ≠ a → D.nx σ (upd (upd H2 dx (exd dx [(f, y)])) a (exo a C (some dx)))
theorem ps_og {X : Cx} {o e : Expr} {to te : TE} {f : Str} {p' pos : Pos} (ho : PE X o to) (he : PE X e te) (hs : swapsWith e (some (.Attribute o f p')) pos.line X.env = pure false := by rfl) : PS X (.Assign [.Attribute o f p'] e pos) (tOg X.K f to te) := by
  refine ⟨fun pins s σ H D I h => ?_⟩
  refine plainObj_wpAny_Assign_Attribute (thn (he.run pins s σ H _ I h) fun v s1 ⟨y, H1, I1, r1, q1⟩ => thn (ho.run pins s1 σ H1 _ I1 q1) fun u s2 ⟨x, H2, I2, r2, a, C, ex, T, hno, ea, q⟩ => ?_) hs
  subst ex
  obtain rfl : u = Value.ref a := r2
  exact ost_g T I2 ea hno r1 fun dx s' n ne J => ⟨σ, _, J, q dx n ne⟩
/-- a class with an __init__ of its own that keeps one field -/
structure ErrF (K : PySem.W.Frag) (C fI : Addr) (fld : Str) : Prop where
  T : OexG K C
  iC : PySem.W.findIn K (.ref C) "__init__" = some (some (.ref fI))
  tI : PySem.W.typeIn K (.ref fI) = some (.type "function")
  no : PySem.W.findIn K (.ref C) fld = some none
theorem errB_ok {K : PySem.W.Frag} {c fld : Str} (h : errB K c fld = true) : ErrF K (He.ga K c) (He.ma K (He.ga K c) "__init__") fld := by
  obtain ⟨h0, h⟩ := andB h
  obtain ⟨h1, h⟩ := andB h
  obtain ⟨h2, h3⟩ := andB h
  exact ⟨oexB_ok h0, of_decide_eq_true h1, of_decide_eq_true h2, of_decide_eq_true h3⟩
/-- what its own __init__ does -/
def spI (C : Addr) (fld : Str) : Sp := fun vs H Q _ => ∃ (a : Addr) (y : V), vs = [.ref a, y] ∧ H a = some (exo a C none) ∧ ∀ dx, H dx = none → dx ≠ a → Q .non (upd (upd H dx (exd dx [(fld, y)])) a (exo a C (some dx)))
theorem init1 {P : Program} {w : World} {K : PySem.W.Frag} {mg : Str → Option Value} {base : Heap} {CX : CXT} {x qual u v fld : Str} {params : Arguments} {scope : Scope} {C f : Addr} {fd : FuncData} {q1 q2 q3 q4 : Pos}
    (F : FunD K x qual params [.Assign [.Attribute (.Name u q1) fld q2] (.Name v q3) q4] scope [] [] f fd) (S : FnScope [u, v] [u, v] scope) (T : OexG K C) (no : PySem.W.findIn K (.ref C) fld = some none)
    (h1 : Vis scope u) (h2 : Vis scope v) (d1 : (u == ("__debug__" : Str)) = false := by decide) (d2 : (u == ("__classdict__" : Str)) = false := by decide) (d3 : (v == ("__debug__" : Str)) = false := by decide) (d4 : (v == ("__classdict__" : Str)) = false := by decide)
    (hs : ∀ env : PySem.Env, swapsWith (.Name v q3) (some (.Attribute (.Name u q1) fld q2)) q4.line env = pure false := by intro _; rfl) :
    FnOk P w K mg base CX 1 f fd [u, v] (spI C fld) := by
  refine F.ok (k := 0) S (fun vs H Q E h => ?_) fun cdv A outer s H vs Q E hr h => ?_
  · obtain ⟨a, y, rfl, _⟩ := h
    rfl
  · obtain ⟨a, y, rfl, e, hq⟩ := h
    exact ⟨_, pss_one (ps_og (pe_var (i := 0) rfl h1 d1 d2) (pe_var (i := 1) rfl h2 d3 d4) (hs _)), y, rfl, .ref a, rfl, a, C, rfl, T, no, e, hq⟩
/-! ### raise C(e) -/
theorem pmkN_oex {X : Cx} {CX : CXT} {x : Str} {e : Expr} {es : List Expr} {ta : TA} {p pos : Pos} {C fI : Addr} {k : Nat} {fd : FuncData} {ps : List Str} {sp : Sp} (T : OexG X.K C) (iC : PySem.W.findIn X.K (.ref C) "__init__" = some (some (.ref fI))) (tI : PySem.W.typeIn X.K (.ref fI) = some (.type "function"))
    (F : FnOk X.prog X.w X.K X.mg X.base CX k fI fd ps sp) (room : Room (k + 1) X.A) (bn : Binds X.K fd ps []) (px : Passes CX X (fun _ _ _ => False)) (hg : Gl X x) (hm : X.mg x = some (.ref C)) (ha : PA X (e :: es) ta)
    (hdb : (x == ("__debug__" : Str)) = false := by decide) (he : starEach (e :: es) X.env = (false, eval e X.env) :: starEach es X.env := by rfl) (hpl : (backTo pos (starEach es X.env)).any (·.1) = false := by rfl) :
    L2N.PMk X (.Call (.Name x p) (e :: es) [] pos) (tMkO C sp [] ta) := by
  intro pins s σ H Q I wish
  obtain ⟨b, nm, q, N, bs, bm, sn, sub, ab, col, dd, k0, k1, k2, k3, k5, lkC, ve⟩ := T.cls
  refine wpAny_Call_Name_kw (ld_glob I hg hm (PySem.W.callWith_K (h₀ := X.base) I.ok.mod.kin T.kC (thn (ha.run pos pins s σ H _ I wish) fun us s1 got => ?_) he hpl) hdb)
  obtain ⟨vs, H1, I1, rv, nz, q1⟩ := got
  refine ⟨I1.kIn, ?_⟩ <;> show wpAny _ _ (call (.ref C) us) _ _ _
  obtain ⟨hh, gs, dr, tk, ow⟩ := s1
  have free : H1 (hh.objs.size + 1) = none := I1.hok.fresh (Nat.le_succ _)
  have wish2 := q1 _ free
  rw [List.append_nil] at wish2
  have keep : ∀ b o, hh.get? b = some o → ((hh.push (PySem.W.kdv_tup us)).push (PySem.HandSPX.excO C hh.objs.size)).get? b = some o := fun b o z => Heap.get?_push_of_some _ (Heap.get?_push_of_some _ z)
  have there : ((hh.push (PySem.W.kdv_tup us)).push (PySem.HandSPX.excO C hh.objs.size)).get? (hh.objs.size + 1) = some (PySem.HandSPX.excO C hh.objs.size) := by heap_get
  have J : Inv X pins σ (upd H1 (hh.objs.size + 1) (exo (hh.objs.size + 1) C none)) ⟨(hh.push (PySem.W.kdv_tup us)).push (PySem.HandSPX.excO C hh.objs.size), gs, dr, tk, ow⟩ := I1.laid (t' := tk) keep (Nat.le_succ _) (exo_ok there)
  have rv2 : Vals (V.ref (hh.objs.size + 1) :: vs) (Value.ref (hh.objs.size + 1) :: us) := .cons rfl rv
  have many : us.length ≤ sizeLine := Nat.le_trans (Nat.le_of_eq (Paired.length rv).symm) (Nat.le_trans nz (by rw [sizeLine_eq]; omega))
  have len2 : (Value.ref (hh.objs.size + 1) :: us ++ []).length = ps.length := by
    rw [List.append_nil, ← rv2.length]
    exact F.len _ _ _ _ wish2
  have bind2 := bn _ (Value.ref (hh.objs.size + 1) :: us) J.kIn len2
  rw [List.append_nil] at bind2
  refine wpAny_call (PySem.HandSPX.call_own b.facts (fun Y => tailG_has Y bm ve) (I1.kIn _ _ lkC) (PySem.W.looks_findIn I1.kIn iC) (fun self => PySem.W.bind_fn I1.kIn self tI) many
    (codeAny_mono (F.run _ X.stack _ _ ⟨Value.ref (hh.objs.size + 1) :: us, []⟩ (Value.ref (hh.objs.size + 1) :: us) _ _ (fun _ _ _ => False) (room.make C us []) (J.env0.make C us []) bind2 rv2 wish2) fun r s' back => ?_))
  cases r with
  | error er => exact px pins σ _ _ er s' J back
  | ok fl =>
    cases fl with
    | ret u =>
      obtain ⟨v, H2, ow2, bare2, un2, hok2, rl, ev, d, fs, ea, ed, hd1, q2⟩ := back
      subst ev
      obtain ⟨h2, g2, d2, t2, ow'⟩ := s'
      obtain ⟨t0, G, JG, kG, ge, hoe, na⟩ := mk_end0 (d2 := d2) (t2 := t2) I1 (Nat.le_succ _) keep un2 hok2 ow2 bare2 ea ed hd1
      refine ⟨rl, hh.objs.size + 1, _, _, ⟨G, g2, d2, t2, ow'⟩, _, .ref C, some d, rfl, JG, kG, ge, hoe, ⟨rfl, rfl, fun vs hv => ?_⟩, rfl, rfl, na, rfl, bare2, raises_own T.exC T.tyC, q2⟩
      cases hv
      rfl
    | next => exact back.elim
    | brk => exact back.elim
    | cont => exact back.elim
def sRaise (c fld : Str) (ml : Ev → M (List D)) : MS := fun ρ μ => bindS (ml ρ μ) ρ fun ds μ' => match ds with
  | [d] => .exc ⟨c, [(fld, d)]⟩ ρ μ'
  | _ => .bad
section
variable {X : Cx} {W : WX} {Γ : Gs} {c fld : Str} {C fI : Addr} {fd : FuncData} {ps : List Str} {e : Expr} {ml : Ev → M (List D)} {p p' pos : Pos}
theorem s_raise1 (hc : X.calm = true) (tk : L2N.Takes X W) (T : ErrF X.K C fI fld) (F : FnOk X.prog X.w X.K X.mg X.base (L2N.CX X.prog X.w) 1 fI fd ps (spI C fld)) (hr : Room 2 X.A) (hb : Binds X.K fd ps []) (hg : Gl X c) (hm : X.mg c = some (.ref C)) (ha : JL X Γ W [e] ml) (h0 : Γ.off = Γ)
    (hdb : (c == ("__debug__" : Str)) = false := by decide) (he : starEach [e] X.env = (false, eval e X.env) :: starEach [] X.env := by rfl) : JS X Γ W (.Raise (some (.Call (.Name c p) [e] [] p')) none pos) (sRaise c fld ml) := by
  have hx : Passes (L2N.CX X.prog X.w) X (fun _ _ _ => False) := L2N.passes_call tk fun _ _ _ _ z => z.elim
  refine ps_w (L2N.ps_raise hc tk (pmkN_oex T.T T.iC T.tI F hr hb hx hg hm ha hdb he rfl)) fun Z σ H h => ?_
  obtain ⟨φ, ρ, μ, ev, r, q⟩ := h
  refine bS ev r q fun φ1 H1 ds vs μ1 g1 e1 r1 rv p1 => ?_
  match ds, vs, rv, p1 with
  | [], _, _, p1 => exact p1.elim
  | _ :: _ :: _, _, _, p1 => exact p1.elim
  | [d], [y], .cons rd .nil, p1 =>
    refine ⟨by simp, fun a na => ⟨a, y, rfl, upd_same, fun dx hdx ne => ⟨rfl, dx, [(fld, y)], upd_same, ?_, ?_, ?_⟩⟩⟩
    · rw [upd_ne ne, upd_same]
    · rw [upd_ne ne] at hdx
      exact hdx
    · rw [upd_ne ne] at hdx
      have same : upd (del (upd (upd (upd H1 a (exo a C none)) dx (exd dx [(fld, y)])) a (exo a C (some dx))) a) dx (.xd [(fld, y)]) = upd H1 dx (.xd [(fld, y)]) := by
        funext b
        by_cases hb : b = dx
        · rw [hb, upd_same, upd_same]
        · rw [upd_ne hb, upd_ne hb]
          by_cases hba : b = a
          · rw [hba, del_same, na]
          · rw [del_ne hba, upd_ne hba, upd_ne hb, upd_ne hba]
      rw [same]
      have G1 : Grow φ1 H1 φ1 (upd H1 dx (.xd [(fld, y)])) := Grow.laid hdx
      refine p1 φ1 _ σ (.ref C) (some dx) G1 (r1.laid hdx) (e1.grow G1) ⟨⟨C, rfl, hm⟩, .inr ⟨dx, [(fld, y)], rfl, upd_same, r1.out hdx, .cons ?_ .nil⟩⟩
      rw [Gx.off_eq (G := X.G Γ) h0]
      exact rd.grow G1
end
/-! ### what stands at an exception's address -/
theorem err_at {X : Cx} {Γ : Gs} {pins : List (Addr × Obj)} {σ : L2.St} {H : Hp} {s : Shared} {φ : Lab} {a : Addr} {oe : Obj} (I : Inv X pins σ H s) (hc : ∀ p, Γ.cur = some p → p ∈ X.pn) (h : ErrAt (X.G Γ) φ H a oe) : s.heap.get? a = some oe := by
  rcases h with h | ⟨u, h, _⟩
  · exact (I.pin _ (List.mem_append_left _ (hc _ h))).1
  · exact (I.hok a _ h).1
/-! ### e.f of an exception -/
def atM (cs : List Str) (f : Str) (d : D) : M D := fun μ => match d with
  | .err c fs => if cs.contains c = true then (match fs.lookup f with
    | some v => .ok v μ
    | none => .bad) else .bad
  | _ => .bad
def AtOk (K : PySem.W.Frag) (mg : Str → Option Value) (cs : List Str) (f : Str) : Prop := ∀ c ∈ cs, ∀ C, mg c = some (.ref C) → XfC K C ∧ PySem.W.findIn K (.ref C) f = some none
theorem RpF.look {G : Gx} {φ : Lab} {H : Hp} {f : Str} {d : D} : ∀ {fs : List (Str × D)} {vs : List (Str × V)}, RpF G φ H fs vs → fs.lookup f = some d → ∃ v, vs.lookup f = some v ∧ Rp G φ H d v
  | _, _, .nil, h => by cases h
  | (k, e) :: fs, (_, u) :: vs, .cons r t, h => by
    by_cases q : f == k
    · simp only [List.lookup, q] at h ⊢
      cases h
      exact ⟨u, rfl, r⟩
    · simp only [List.lookup, Bool.eq_false_iff.mpr q] at h ⊢
      exact RpF.look t h
section
variable {X : Cx} {W : WX} {Γ : Gs} {cs : List Str} {e : Expr} {m : Ev → M D} {f : Str} {pos : Pos}
theorem j_at (hc : ∀ p, Γ.cur = some p → p ∈ X.pn) (hA : AtOk X.K X.mg cs f) (he : JE X Γ W e m) (hb : attributeBase e f X.env (eval e X.env) = eval e X.env := by rfl) : JE X Γ W (.Attribute e f pos) (e1 (atM cs f) m) := by
  refine ⟨fun pins s σ H Q I h => ?_⟩
  have h' : tG (X.G Γ) (tieD (X.G Γ)) W m σ H fun v H1 => ∃ φ d μ, MemR (X.G Γ) φ μ H1 ∧ Rp (X.G Γ) φ H1 d v ∧ Post (X.G Γ) (tieD (X.G Γ)) φ H1 (atM cs f d μ) Q fun cls dd H' => W cls dd σ H' :=
    bE h fun φ1 H1 x v ρ μ1 _ r rv p => ⟨φ1, x, μ1, r, rv, p⟩
  refine attr_of hb (thn (he.run pins s σ H _ I h') fun u s1 hu => ?_)
  obtain ⟨v, H1, I1, rl, φ, d, μ, rm, rd, po⟩ := hu
  cases rd with
  | @err c C a dd oe fs vs ha hk hd hx hn rf =>
    obtain rfl : u = Value.ref a := rl
    unfold atM at po
    by_cases q : cs.contains c = true
    · simp only [if_pos q] at po
      obtain ⟨T, no⟩ := hA c (List.contains_iff_mem.mp q) C hk.mg
      cases q2 : fs.lookup f with
      | none =>
        simp only [q2] at po
        exact po.elim
      | some d2 =>
        simp only [q2] at po
        obtain ⟨y, l, ry⟩ := rf.look q2
        have get := err_at I1 hc ha
        obtain ⟨mA, hns, hr⟩ := (I1.hok dd _ hx : ObjOk X.prog X.w H1 s1.heap dd (.xd vs))
        obtain ⟨od, ho, hl⟩ := lookIn_ns hns
        obtain ⟨t, ht, rt⟩ := RelO.some_of (v := y) (o := mA f) (by rw [← l]; exact hr f)
        obtain ⟨us, hus⟩ := hk.fields
        have J : PySem.W.InstAt s1.heap a oe C (some od) := by
          refine ⟨get, hk.cls, ?_, by rw [hd]; exact ho⟩
          unfold PySem.W.notCls
          rw [hus]
        have fo := PySem.W.findObj_own T.hdC no rfl ((hl f).trans (congrArg some ht))
        exact HandSPX.exc_get I1.kIn J T.ga T.gg T.exC fo (handed_of rt) ⟨y, H1, I1.tok _, rt, Post.pure po rm ry⟩
    · simp only [if_neg q] at po
      exact po.elim
  | @err0 c _ _ _ _ _ _ =>
    unfold atM at po
    by_cases q : cs.contains c = true
    · simp only [if_pos q] at po
      exact po.elim
    · simp only [if_neg q] at po
      exact po.elim
  | _ => exact po.elim
end
end SE

/-! SEb: isinstance of an exception, its own dict allowed. -/
namespace SE
open PySem PySem.Spec PyProof.Rows L2
section
open PySem.W
variable {P : Program} {wd : World} {A : Around} {Er : Value → Shared → Prop} {K : Frag} {D : Addr}
theorem find_klass {od : Option Obj} (c : ExcC K D) : findObj K D od "__class__" = some (.bind (.builtin "getset_descriptor.__get__") (.builtin "object.__class__")) := by
  obtain ⟨cd, hc, _⟩ := any_some c.hd
  show ((clsIn K D).bind _) = _
  rw [hc, Option.bind_some, c.ha, Option.bind_some]
  have h1 := c.hn
  have h2 := c.ht
  simp only [h1, h2, Option.bind_some]
/-- e.__class__ is the class -/
theorem klass_of {a : Addr} {oa : Obj} {od : Option Obj} {sh : Shared} {Qo : Option Value → Shared → Prop} (c : ExcC K D) (kin : K.In sh.heap) (at_ : InstAt sh.heap a oa D od) (hq : Qo (some (.ref D)) { sh with toks := sh.toks + 1 }) :
    wpAny (model P wd) A (getAttr? (.ref a) "__class__") Qo Er sh := by
  obtain ⟨hh, gs, dr, tk, ow⟩ := sh
  have ty := at_.type (M := model P wd); have f1 := looks_findIn (M := model P wd) kin c.hg; have f2 := looks_findIn (M := model P wd) kin c.hk
  have fd := looks_find (M := model P wd) kin at_ (find_klass c); have ba : Looks (model P wd) hh (isInstance (.ref a) (.type "BaseException")) true := ty.andThen (looks_subIn kin c.hs)
  have no1 : (Value.builtin "BaseException.__getattribute__" == Value.builtin "object.__getattribute__") = false := by decide +kernel
  have no2 : (onTheHeap (Value.ref D) && Value.builtin "BaseException.__getattribute__" == Value.builtin "object.__getattribute__") = false := by rw [no1, Bool.and_false]
  have no3 : (false && onTheHeap (Value.builtin "BaseException.__getattribute__")) = false := Bool.false_and _
  unfold getAttr? getAttrBy?; unfold getAttrBy
  refine wpAny_bind (wpAny_mkText (wpAny_bind (wpAny_attempt (wpAny_holding (wpAny_bind (ty.at (wpAny_bind (f1.at ?_)))))))) <;> show wpAny _ _ (ite ((onTheHeap (Value.ref D) && Value.builtin "BaseException.__getattribute__" == Value.builtin "object.__getattribute__") = true) _ _) _ _ _
  rw [no2, if_neg Bool.false_ne_true]; unfold getAttrByItsOwn; unfold hookBefore
  have on : onTheHeap (Value.ref D) = true := rfl
  refine wpAny_bind ?_; rw [if_pos on]
  refine f2.at (wpAny_bind (wpAny_attempt (wpAny_holding ?_))); unfold callGetattribute; rw [no3, if_neg Bool.false_ne_true]
  unfold boundAndCalled; rw [PySem.F.excAttr_ValueError.ga.bind (.ref a)]
  refine wpAny_bind (wpAny_pure ?_) <;> show wpAny _ _ (call (.builtin "BaseException.__getattribute__") [.ref a, .str "__class__" tk]) _ _ _
  refine wpAny_call (codeAny_call_builtin PySem.F.excAttr_ValueError.ga.plain PySem.F.entry_bexc_ga (@check_slot (model P wd) _ _ ⟨hh, gs, dr, tk + 1, ow⟩ "BaseException.__getattribute__" "BaseException" "__getattribute__" (.ref a) [.str "__class__" tk] [] _ (by decide +kernel) (by decide +kernel) ba (PySem.F.args_bexc_ga (.ref a) (.str "__class__" tk)) ?_))
  unfold Builtin.«object.__getattribute__»; refine wpAny_bind (wpAny_of_eq (a := ((Value.ref a : Value), [Value.str "__class__" tk])) (by first | rfl | (simp only [slotArgs]; rfl)) (wpAny_bind (wpAny_pure (wpAny_bind (ty.at (wpAny_bind (fd.at ?_)))))))
  show wpAny _ _ (holding [Value.builtin "object.__class__"] (call (.builtin "getset_descriptor.__get__") [.builtin "object.__class__", .ref a, .ref D]) >>= ret) _ _ _ <;> refine wpAny_bind (wpAny_holding (wpAny_call (class_get (s := ⟨hh, gs, dr, tk + 1, ow⟩) (ox := oa) (od := od) kin at_ c.hm ?_)))
  refine wpAny_pure ?_ <;> show wpAny _ _ (handedOut (.ref D)) _ _ _
  rw [handedOut_of (v := .ref D) rfl]
  first
    | exact wpAny_pure (wpAny_pure hq)
    | exact wpAny_pure hq
    | exact wpAny_pure (wpAny_bind (wpAny_pure (wpAny_pure hq)))
theorem kit_err {a : Addr} {oa : Obj} {od : Option Obj} (c : ExcC K D) : KitX K (.ref a) (.ref D) (fun h => InstAt h a oa D od) := by
  obtain ⟨cd, hc, _⟩ := any_some c.hd
  have cls : ∃ oc dd sl, K.lookup D = some ⟨oc, dd, .cls cd, sl⟩ := by
    unfold clsIn at hc
    split at hc
    · rename_i ho
      cases hc
      exact ⟨_, _, _, ho⟩
    · cases hc
  obtain ⟨oc, dd, sl, lk⟩ := cls
  refine ⟨fun _ _ _ I => I.type, fun _ _ kin _ => ?_, fun h tp td its n sl' kin htp => ?_, fun kin I q => klass_of c kin I q⟩
  · intro A' Q' E' s' k q
    unfold isType; unfold loadHead
    exact wpAny_bind (wpAny_loadPart (k _ _ (kin _ _ lk)) (wpAny_pure q))
  · cases e : (Value.ref D == Value.ref tp) with
    | false => rfl
    | true =>
      have e1 : D = tp := Value.ref.inj (beq_iff_eq.mp e)
      rw [← e1, kin _ _ lk] at htp
      cases htp
end
/-! ### isinstance(e, C) -/
def CT.get (ct : CT) (c : Str) : Option ClsE := ct.es.find? fun e => decide (e.c = c)
/-- isinstance, of exceptions too -/
def isiE (ct : CT) : List D → M D
  | [.err c _, .gl T], μ => (match ct.get c with
    | some e => if ct.ns.contains T = true then .ok (.bl (e.ups.contains T)) μ else .bad
    | none => .bad)
  | [.err c _, .ty T], μ => (match ct.get c with
    | some e => if ct.ts.contains T = true then .ok (.bl (e.bs.contains T)) μ else .bad
    | none => .bad)
  | ds, μ => isiM ds μ
structure CtOk (K : PySem.W.Frag) (mg : Str → Option Value) (ct : CT) : Prop where
  ex : ∀ e ∈ ct.es, ∀ C, mg e.c = some (.ref C) → ExcC K C
  own : ∀ e ∈ ct.es, ∀ C, mg e.c = some (.ref C) → ∀ T ∈ ct.ns, ∀ a, mg T = some (.ref a) → PySem.W.kitOne K (.ref C) (.ref a) = some (e.ups.contains T)
  blt : ∀ e ∈ ct.es, ∀ C, mg e.c = some (.ref C) → ∀ T ∈ ct.ts, PySem.W.kitOne K (.ref C) (.type T) = some (e.bs.contains T)
theorem CT.get_mem {ct : CT} {c : Str} {e : ClsE} (h : ct.get c = some e) : e ∈ ct.es ∧ e.c = c :=
  ⟨List.mem_of_find?_eq_some h, by
    have := List.find?_some h
    simpa using this⟩
def rIsiE (X : Cx) (Γ : Gs) : List V → Hp → VK → Prop := fun xs H Q => rIsi (X.G Γ) xs H Q ∨
  ∃ φ a oe C t cv b, xs = [.ref a, t] ∧ (∀ u, RelV t u → u = cv) ∧ ErrAt (X.G Γ) φ H a oe ∧ oe.cls = .ref C ∧ (∃ us, oe.data = .fields us) ∧ (oe.dict = none ∨ ∃ d vs, oe.dict = some d ∧ H d = some (.xd vs)) ∧ ExcC X.K C ∧ PySem.W.kitOne X.K (.ref C) cv = some b ∧ Q (.bl b) H
theorem call_isiE {X : Cx} {Γ : Gs} (hc : ∀ p, Γ.cur = some p → p ∈ X.pn) : CallR X (.builtin "isinstance") (rIsiE X Γ) := by
  intro pins s σ H xs us Q I r h
  rcases h with h | ⟨φ, a, oe, C, t, cv, b, rfl, hcv, he, hk, ⟨fs, hf⟩, hd, c, k, q⟩
  · exact call_isiD (Γ := Γ) pins s σ H xs us Q I r h
  · cases r with
    | cons r1 rr =>
      cases rr with
      | cons r2 rr =>
        cases rr
        cases r1
        have e2 := hcv _ r2
        subst e2
        have get := err_at I hc he
        have nc : PySem.W.notCls oe = true := by
          unfold PySem.W.notCls
          rw [hf]
        have fin : ∀ tk, EP X pins σ Q (.bool b) { s with toks := tk } := fun tk => ⟨.bl b, H, I.kept (t' := tk) fun _ _ z => z, rfl, q⟩
        rcases hd with hd | ⟨d, vs, hd, hx⟩
        · exact PySem.W.kia_one (kit_err (od := none) c) I.kIn ⟨get, hk, nc, by rw [hd]; trivial⟩ k (fun z => nomatch z) fin
        · obtain ⟨mA, hns, _⟩ := (I.hok d _ hx : ObjOk X.prog X.w H s.heap d (.xd vs))
          obtain ⟨od, ho, _⟩ := lookIn_ns hns
          exact PySem.W.kia_one (kit_err (od := some od) c) I.kIn ⟨get, hk, nc, by rw [hd]; exact ho⟩ k (fun z => nomatch z) fin
theorem isiE_i {X : Cx} {Γ : Gs} {ct : CT} (hct : CtOk X.K X.mg ct) : CallI (X.G Γ) (isiE ct) (rIsiE X Γ) := by
  intro φ μ H a x Q E R r p
  unfold isiE at p
  split at p
  · rename_i c fs T
    obtain ⟨v, w, rfl, r1, r2⟩ := r.two
    cases q : ct.get c with
    | none => simp only [q] at p; exact p.elim
    | some e =>
      obtain ⟨hm, rfl⟩ := CT.get_mem q
      simp only [q] at p
      by_cases hT : ct.ns.contains T = true
      · simp only [if_pos hT] at p
        have hT' := List.contains_iff_mem.mp hT
        cases r2 with
        | @gl _ b hb =>
          cases r1 with
          | err ha hk hd hx hn rf => exact .inr ⟨φ, _, _, _, _, .ref b, _, rfl, fun u z => z, ha, hk.cls, hk.fields, .inr ⟨_, _, hd, hx⟩, hct.ex e hm _ hk.mg, hct.own e hm _ hk.mg T hT' b hb, Post.pure p R (.bl _)⟩
          | err0 ha hk hd => exact .inr ⟨φ, _, _, _, _, .ref b, _, rfl, fun u z => z, ha, hk.cls, hk.fields, .inl hd, hct.ex e hm _ hk.mg, hct.own e hm _ hk.mg T hT' b hb, Post.pure p R (.bl _)⟩
      · simp only [if_neg hT] at p
        exact p.elim
  · rename_i c fs T
    obtain ⟨v, w, rfl, r1, r2⟩ := r.two
    cases q : ct.get c with
    | none => simp only [q] at p; exact p.elim
    | some e =>
      obtain ⟨hm, rfl⟩ := CT.get_mem q
      simp only [q] at p
      by_cases hT : ct.ts.contains T = true
      · simp only [if_pos hT] at p
        have hT' := List.contains_iff_mem.mp hT
        cases r2
        cases r1 with
        | err ha hk hd hx hn rf => exact .inr ⟨φ, _, _, _, _, .type T, _, rfl, fun u z => z, ha, hk.cls, hk.fields, .inr ⟨_, _, hd, hx⟩, hct.ex e hm _ hk.mg, hct.blt e hm _ hk.mg T hT', Post.pure p R (.bl _)⟩
        | err0 ha hk hd => exact .inr ⟨φ, _, _, _, _, .type T, _, rfl, fun u z => z, ha, hk.cls, hk.fields, .inl hd, hct.ex e hm _ hk.mg, hct.blt e hm _ hk.mg T hT', Post.pure p R (.bl _)⟩
      · simp only [if_neg hT] at p
        exact p.elim
  · exact .inl (isi_i φ μ H _ x Q E R r p)
end SE

/-! SEc: try with several clauses, each with a name or not, a class or a tuple of three. -/
namespace SE
open PySem PySem.Spec PyProof.Rows L2
/-! ### a clause's test -/
/-- what is known in the clause: the exception at a stands in the heap -/
def Tests (X : Cx) (te : Expr) (f : Value → Option Bool) : Prop :=
  ∀ (a : Addr) (oe : Obj) (pn : List (Addr × Obj)) (σ : L2.St) (H : Hp) (s : Shared) (cls : Value) (b : Bool) (Qb : Bool → Shared → Prop) (Er : Value → Shared → Prop),
    Inv (X.suite a ((a, oe) :: pn)) [] σ H s → s.heap.get? a = some oe → oe.cls = cls → f cls = some b →
    (∀ s' : Shared, (∀ c o, s.heap.get? c = some o → s'.heap.get? c = some o) → Inv (X.suite a ((a, oe) :: pn)) [] σ H s' → Qb b s') →
    wpAny (model X.prog X.w) (X.A.mark (some (.ref a))) (eval te X.env) (fun c s1 => wpAny (model X.prog X.w) (X.A.mark (some (.ref a))) (excMatches (.ref a) c) Qb Er s1) Er s
theorem look_name {X : Cx} {a : Addr} {oe : Obj} {pn : List (Addr × Obj)} {σ : L2.St} {H : Hp} {s : Shared} {x : Str} {c : Value} {np : Pos} {Q : Value → Shared → Prop} {E : Value → Shared → Prop} (I : Inv (X.suite a ((a, oe) :: pn)) [] σ H s) (hc : Names X x c) (q : Q c s) :
    wpAny (model X.prog X.w) (X.A.mark (some (.ref a))) (eval (.Name x np) X.env) Q E s := by
  obtain ⟨g, d, m | ⟨m, v, n⟩⟩ := hc
  · exact ld_glob (X := X.suite a ((a, oe) :: pn)) I g m q d
  · exact ld_blt (X := X.suite a ((a, oe) :: pn)) I g m v q n d
theorem tests_one {X : Cx} {x : Str} {c : Value} {np : Pos} (hc : Names X x c) : Tests X (.Name x np) (fun cls => PySem.W.exmOne X.K cls c) := by
  intro a oe pn σ H s cls b Qb Er I ha hk hf hq
  refine look_name I hc ?_
  have ty : PySem.W.Looks (model X.prog X.w) s.heap (typeOf (.ref a)) cls := fun A Q E s' k q => wpAny_typeOf_ref (k _ _ ha) (by rw [hk]; exact q)
  exact (PySem.W.exm_one I.kIn ty hf).here (hq s (fun _ _ z => z) I)
theorem tests_three {X : Cx} {x y z : Str} {c1 c2 c3 : Value} {p1 p2 p3 p4 : Pos} {k : Nat} (h1 : Names X x c1) (h2 : Names X y c2) (h3 : Names X z c3) (hs : starEach [.Name x p1, .Name y p2, .Name z p3] X.env = [(false, eval (.Name x p1) X.env), (false, eval (.Name y p2) X.env), (false, eval (.Name z p3) X.env)] := by rfl) :
    Tests X (.Tuple [.Name x p1, .Name y p2, .Name z p3] k p4) (fun cls => PySem.W.exmAny X.K cls [c1, c2, c3]) := by
  intro a oe pn σ H s cls b Qb Er I ha hk hf hq
  refine wpAny_Tuple_spliced ?_
  rw [hs]
  refine Calls.spliced_cons (look_name I h1 (Calls.spliced_cons (look_name I h2 (Calls.spliced_cons (look_name I h3 (Calls.spliced_nil ⟨by show 3 ≤ sizeLine; rw [sizeLine_eq]; omega, ?_⟩))))))
  have keep : ∀ d o, s.heap.get? d = some o → (s.heap.push { cls := .type "tuple", data := .seq [c1, c2, c3].toArray }).get? d = some o := fun d o e => Heap.get?_push_of_some _ e
  have I2 : Inv (X.suite a ((a, oe) :: pn)) [] σ H { s with heap := s.heap.push { cls := .type "tuple", data := .seq [c1, c2, c3].toArray } } := I.kept (t' := s.toks) keep
  have ty : PySem.W.Looks (model X.prog X.w) (s.heap.push { cls := .type "tuple", data := .seq [c1, c2, c3].toArray }) (typeOf (.ref a)) cls := fun A Q E s' k q => wpAny_typeOf_ref (k _ _ (keep _ _ ha)) (by rw [hk]; exact q)
  exact (PySem.W.exm_tup3 I2.kIn ty (Heap.get?_push_size _ rfl) hf).here (hq _ keep I2)
/-! ### the clauses -/
/-- its context is None -/
def HotO (oe : Obj) : Prop := ∃ vs : Array Value, oe.data = .fields vs ∧ vs[2]? = some .none
/-- a clause: its test, the name's slot, its suite's reading -/
structure HdT where
  f : Value → Option Bool
  i : Option Nat
  ts : Addr → Obj → TS
def dropI (i : Option Nat) (σ : L2.St) : L2.St := match i with
  | some i => σ.set i none
  | none => σ
def putI (i : Option Nat) (a : Addr) (σ : L2.St) : L2.St := match i with
  | some i => σ.set i (some (.ref a))
  | none => σ
def endI (i : Option Nat) (D : Ends) : Ends := { nx := fun σ H => D.nx (dropI i σ) H, rt := D.rt, bk := fun σ H => D.bk (dropI i σ) H, ct := fun σ H => D.ct (dropI i σ) H }
def wTry (Wout : WX) (D : Ends) : List HdT → WX
  | [] => Wout
  | h :: r => fun cls d σ H => ∃ b, h.f cls = some b ∧ (b = true → ∀ a oe, H a = none → L2N.Zn cls d oe → (∃ vs, oe.data = .fields vs) → h.ts a oe (endI h.i D) (putI h.i a σ) H) ∧ (b = false → wTry Wout D r cls d σ H)
def nameOk (X : Cx) (n : Option Str) (i : Option Nat) : Prop := match n, i with
  | some n, some i => X.N[i]? = some n ∧ X.env.kindOf n = some .local
  | none, none => True
  | _, _ => False
inductive Clauses (X : Cx) : List ExceptHandler → List HdT → Prop
  | nil : Clauses X [] []
  | cons {te : Expr} {n : Option Str} {h : HdT} {b₀ : Stmt} {suite : List Stmt} {p : Pos} {hds : List ExceptHandler} {l : List HdT} (ht : Tests X te h.f) (hn : nameOk X n h.i)
      (hsu : ∀ (a : Addr) (oe : Obj) (pn : List (Addr × Obj)), HotO oe → PSs (X.suite a ((a, oe) :: pn)) (b₀ :: suite) (h.ts a oe)) (r : Clauses X hds l) : Clauses X (.ExceptHandler (some te) n (b₀ :: suite) p :: hds) (h :: l)
theorem fly_keep {B : Heap} {l : List PySem.Env} {e : Addr} {Z : Obj → Prop} {h h' : Heap} (f : HandSPX.FlyingZ B l e Z h) (k : ∀ b o, h.get? b = some o → h'.get? b = some o) : HandSPX.FlyingZ B l e Z h' := by
  obtain ⟨f1, f2, f3, oe, vs, T, oT, ts, g1, g2, g3, g4, g5, g6, g7, g8, g9⟩ := f
  exact ⟨fun b o q => k b o (f1 b o q), f2, f3.of_keeps fun b o q _ => ⟨o, k b o q, rfl⟩, oe, vs, T, oT, ts, k _ _ g1, g2, g3, g4, g5, g6, k _ _ g7, g8, g9⟩
section
variable {X : Cx} {body : List Stmt} {h₀ : ExceptHandler} {hds : List ExceptHandler} {l : List HdT} {pos : Pos} {tb : WX → TS} {Wout : WX}
theorem ps_try_all (hs : X.stack = X.env :: X.outer) (hf : X.env.frame = some X.env.locals) (hN : X.N.Nodup) (tk : L2N.Takes X Wout)
    (hb : ∀ (W : WX) (pn : List (Addr × Obj)) (xe : Value → Shared → Prop), L2N.Takes (X.tr pn xe) W → PassesOwn (model X.prog X.w) X.A X.env xe → PSs (X.tr pn xe) body (tb W)) (hh : Clauses X (h₀ :: hds) l) :
    PS X (.Try body (h₀ :: hds) [] [] pos) (fun D σ H => tb (wTry Wout D l) D σ H) := by
  refine ⟨fun pins s σ H D I h => ?_⟩
  have ok := I.ok; have fr : X.A.frames = some (X.env :: X.outer) := ok.frames.trans (congrArg some hs)
  refine wpAny_Try_except (wpAny_mono ((hb (wTry Wout D l) (X.pn ++ pins) (fun e s₁ => wpAny (model X.prog X.w) X.A (noteFrame e X.env) (fun _ s₂ => wpAny (model X.prog X.w) X.A (setFlight e none) (fun _ s₃ =>
    wpAny (model X.prog X.w) X.A (handleBy e X.env (h₀ :: hds)) (SP X pins D) X.xe s₃) X.xe s₂) X.xe s₁) (fun u s' xx => ?_) PassesOwn.looking).run [] s σ H D (I.toTry _) h) (fun f s1 out => ?_) (fun e s1 he => he))
  · obtain ⟨a, B, sI, pins', σ', H', cls, d, rfl, J0, nb, up, sky, na, os, ag, w⟩ := xx
    have J : Inv X pins σ' H' sI := J0.ofTry ok
    rw [hs] at sky
    refine L2N.Sky.land (Z := L2N.Zn cls d) (M := model X.prog X.w) (A := X.A) L2N.Zn.steady fr hf sky fun g3 fl up3 => ?_
    have apart : ∀ {g : Heap} {o : Obj} {vs : Array Value}, g.FunFrames B (X.env :: X.outer) → g.get? a = some o → o.data = .fields vs → a ∉ frs (X.env :: X.outer) := by
      intro g o vs ff e dd hm
      obtain ⟨_, o2, e2, nf⟩ := ff.mem hm
      rw [e] at e2
      cases e2
      exact nf _ dd
    have clear : ∀ {g : Heap}, HandSPX.FlyingZ B (X.env :: X.outer) a (L2N.Zn cls d) g → a ∉ frs (X.env :: X.outer) := by
      intro g f
      obtain ⟨o, vs, e, _, dd⟩ := f.there
      exact apart f.2.2.1 e dd
    have c3 := clear fl
    have cL : a ≠ X.env.locals := fun z => c3 (List.mem_filterMap.mpr ⟨X.env, List.mem_cons_self, hf.trans (congrArg some z.symm)⟩)
    have cF : a ∉ X.fs := fun hm => c3 (by
      obtain ⟨v, hv, q⟩ := List.mem_filterMap.mp hm
      exact List.mem_filterMap.mpr ⟨v, List.mem_cons_of_mem _ hv, q⟩)
    -- from any state in which it flies
    have go : ∀ {hds' : List ExceptHandler} {l' : List HdT}, Clauses X hds' l' → wTry Wout D l' cls d σ' H' → ∀ (sx : Shared), Inv X pins σ' H' sx → HandSPX.FlyingZ B (X.env :: X.outer) a (L2N.Zn cls d) sx.heap → sI.heap.UpToSlots sx.heap → sx.os = sI.os → AllBare sx.gens →
        wpAny (model X.prog X.w) X.A (handleBy (.ref a) X.env hds') (SP X pins D) X.xe sx := by
      intro hds' l' hk
      induction hk with
      | nil =>
        intro w sx Jx fx ux ox gx
        refine wpAny_handleBy_nil ?_
        obtain ⟨k1, k2, k3, oe, vs, T, oT, ts', he, hz, hd, h1, hr⟩ := id fx
        unfold PySem.passOn; refine wpAny_bind (wpAny_field he hd h1 ?_)
        rw [if_neg (by simp : ¬ ((Value.ref T == Value.none) = true))]
        have last : wpAny (model X.prog X.w) X.A (setFlight (.ref a) X.env.frame) (fun _ s4 => wpAny (model X.prog X.w) X.A (throw (.ref a) : Sem Flow) (SP X pins D) X.xe s4) X.xe sx := by
          rw [hf]
          exact HandSPX.setFlight_upZ fx fun g4 held up4 => wpAny_throw (tk _ _ ⟨a, B, sI, pins, σ', H', cls, d, rfl, J, nb, ux.trans up4, .inr (.inr (by rw [hs]; exact held)), na, ox, gx, w⟩)
        first
          | exact wpAny_bind (wpAny_pure (wpAny_bind last))
          | exact wpAny_bind last
      | @cons te n h b₀ suite p hds2 l2 ht hn hsu r ih =>
        intro w sx Jx fx ux ox gx
        obtain ⟨b, hb1, yes, no⟩ := w
        obtain ⟨oe, vs, he, hz, hd⟩ := fx.there
        have Sx := Jx.suite he hd na cL cF
        refine wpAny_handleBy_cons (codeAny_handlers_test (ht a oe _ σ' H' sx cls b _ _ Sx he hz.1 hb1 fun sy ky Sy => ?_)) (by intro q; cases q)
        have fy := fly_keep fx ky
        have Jy : Inv X pins σ' H' sy := Sy.unsuite ok
        have uy : sI.heap.UpToSlots sy.heap := fun c o e nf => by
          obtain ⟨sl, q⟩ := ux c o e nf
          exact ⟨sl, ky _ _ q⟩
        have oy : sy.os = sI.os := Jy.os.trans J.os.symm
        cases b with
        | false => exact ih (no rfl) sy Jy fy uy oy Jy.bare
        | true =>
          have go2 : ∀ {Qf : Flow → Shared → Prop}, (∀ f s6, SP (X.suite a ((a, oe) :: (X.pn ++ pins))) [] (endI h.i D) f s6 → Qf f s6) → True := fun _ => trivial
          cases n with
          | none =>
            cases qi : h.i with
            | some i =>
              unfold nameOk at hn
              rw [qi] at hn
              exact hn.elim
            | none =>
              refine codeAny_handlers_suite (HandSPX.lands_againZ fy fun g4 fl4 up4 => ?_)
              have J4 : Inv X pins σ' H' { sy with heap := g4 } := J.landed nb fl4.1 (uy.trans up4) oy Jy.bare
              obtain ⟨o4, vs4, e4, z4, d4⟩ := fl4.there
              have S4 := J4.suite e4 d4 na cL cF
              have wish := yes rfl a o4 na z4 ⟨_, d4⟩
              rw [qi] at wish
              refine wpAny_mono ((hsu a o4 _ ⟨_, d4, z4.2.2 _ d4⟩).run [] _ _ H' _ S4 wish) (fun f s6 q => ?_) (fun _ _ z => z.elim)
              cases f with
              | next => obtain ⟨σ6, H6, S6, q6⟩ := q; exact ⟨_, _, S6.unsuite ok, q6⟩
              | brk => obtain ⟨σ6, H6, S6, q6⟩ := q; exact ⟨_, _, S6.unsuite ok, q6⟩
              | cont => obtain ⟨σ6, H6, S6, q6⟩ := q; exact ⟨_, _, S6.unsuite ok, q6⟩
              | ret u => obtain ⟨v6, σ6, H6, S6, r6, q6⟩ := q; exact ⟨_, _, _, S6.unsuite ok, r6, q6⟩
          | some n =>
            cases qi : h.i with
            | none =>
              unfold nameOk at hn
              rw [qi] at hn
              exact hn.elim
            | some i =>
              unfold nameOk at hn
              rw [qi] at hn
              obtain ⟨hi, hln⟩ := hn
              refine codeAny_handlers_suite_as (HandSPX.lands_againZ fy fun g4 fl4 up4 => ?_)
              have J4 : Inv X pins σ' H' { sy with heap := g4 } := J.landed nb fl4.1 (uy.trans up4) oy Jy.bare
              obtain ⟨o4, vs4, e4, z4, d4⟩ := fl4.there
              have S4 := J4.suite e4 d4 na cL cF
              have wish := yes rfl a o4 na z4 ⟨_, d4⟩
              rw [qi] at wish
              refine store_ok (X := X.suite a ((a, o4) :: (X.pn ++ pins))) (v := .ref a) S4 hN hi (.inl hln) rfl (fun s5 S5 => ?_) (.inr hln)
              refine wpAny_mono ((hsu a o4 _ ⟨_, d4, z4.2.2 _ d4⟩).run [] s5 _ H' _ S5 wish) (fun f s6 q => ?_) (fun _ _ z => z.elim)
              have gone : ∀ {σ6 : L2.St} {H6 : Hp} {Qs : Shared → Prop}, Inv (X.suite a ((a, o4) :: (X.pn ++ pins))) [] σ6 H6 s6 → (∀ s7, Inv X pins (σ6.set i none) H6 s7 → Qs s7) →
                  wpAny (model X.prog X.w) X.A (do bindName X.env n .none; unbindBehindTheSuite X.env n p) (fun _ s7 => Qs s7) X.xe s6 := fun S6 hq => gone_ok (S6.unsuite ok) hN hi hln hq
              cases f with
              | next => obtain ⟨σ6, H6, S6, q6⟩ := q; exact gone S6 fun s7 J7 => ⟨_, _, J7, q6⟩
              | brk => obtain ⟨σ6, H6, S6, q6⟩ := q; exact gone S6 fun s7 J7 => ⟨_, _, J7, q6⟩
              | cont => obtain ⟨σ6, H6, S6, q6⟩ := q; exact gone S6 fun s7 J7 => ⟨_, _, J7, q6⟩
              | ret u => obtain ⟨v6, σ6, H6, S6, r6, q6⟩ := q; exact gone S6 fun s7 J7 => ⟨_, _, _, J7, r6, q6⟩
    exact go hh w _ (J.landed nb fl.1 (up.trans up3) os ag) fl (up.trans up3) os ag
  · cases f with
    | next => obtain ⟨σ', H', J', q⟩ := out; exact wpAny_execs_nil ⟨σ', H', J'.ofTry ok, q⟩
    | brk => obtain ⟨σ', H', J', q⟩ := out; exact ⟨σ', H', J'.ofTry ok, q⟩
    | cont => obtain ⟨σ', H', J', q⟩ := out; exact ⟨σ', H', J'.ofTry ok, q⟩
    | ret u => obtain ⟨v, σ', H', J', r, q⟩ := out; exact ⟨v, σ', H', J'.ofTry ok, r, q⟩
end
end SE

/-! SEd: try as a computation; defs called where an exception is handled. -/
namespace SE
open PySem PySem.Spec PyProof.Rows L2
theorem EvR.up {K : PySem.W.Frag} {mg : Str → Option Value} {s t : Gs} {P : Program} {w : World} {φ : Lab} {H : Hp} {ρ : Ev} {σ : L2.St} (l : s.Le t) (h : EvR ⟨K, mg, s, P, w⟩ φ H ρ σ) : EvR ⟨K, mg, t, P, w⟩ φ H ρ σ := ⟨h.1, fun i d e => by
  obtain ⟨v, h1, h2⟩ := h.2 i d e
  exact ⟨v, h1, Rp.up l h2⟩⟩
theorem MemR.sw {K : PySem.W.Frag} {mg : Str → Option Value} {s t : Gs} {P : Program} {w : World} {φ : Lab} {μ : Mem} {H : Hp} (e : s.off = t.off) (h : MemR ⟨K, mg, s, P, w⟩ φ μ H) : MemR ⟨K, mg, t, P, w⟩ φ μ H := by
  have eT : s.T = t.T := by
    have e2 : s.off.T = t.off.T := congrArg Gs.T e
    exact e2
  refine ⟨by have := h.tb; rw [show (Gx.mk K mg s P w).s.T = t.T from eT] at this; exact this, h.sm, h.len, h.nd, fun l o q => ?_, h.hd⟩
  obtain ⟨a, h1, h2⟩ := h.at_ l o q
  refine ⟨a, h1, ?_⟩
  cases o with
  | lst xs =>
    obtain ⟨vs, h3, h4⟩ := h2
    refine ⟨vs, h3, ?_⟩
    show RpL ⟨K, mg, t.off, P, w⟩ φ H xs vs
    rw [← e]
    exact h4
  | dT kvs =>
    obtain ⟨xs, h3, h4, h5, h6, h7⟩ := h2
    refine ⟨xs, h3, h4, h5, h6, ?_⟩
    show RpT ⟨K, mg, t.off, P, w⟩ φ H kvs xs
    rw [← e]
    exact h7
  | fT kvs =>
    obtain ⟨xs, h3, h4, h5, h6, h7⟩ := h2
    refine ⟨xs, h3, h4, h5, h6, ?_⟩
    show RpT ⟨K, mg, t.off, P, w⟩ φ H kvs xs
    rw [← e]
    exact h7
/-! ### try -/
structure HM where
  mt : Str → Option Bool
  i : Option Nat
  b : MS
def putE (i : Option Nat) (d : D) (ρ : Ev) : Ev := match i with
  | some i => ρ.set i (some d)
  | none => ρ
def keepE (o : Option D) : Option D := match o with
  | some d => if noErr d = true then some d else none
  | none => none
def dropE (i : Option Nat) (ρ : Ev) : Ev := match i with
  | some i => (ρ.map keepE).set i none
  | none => ρ.map keepE
def suiteEnd (i : Option Nat) (r : RS) : RS := match r with
  | .ok (.rt d) μ => if noErr d = true then .ok (.rt d) μ else .bad
  | .ok (.nx ρ) μ => .ok (.nx (dropE i ρ)) μ
  | .ok (.bk ρ) μ => .ok (.bk (dropE i ρ)) μ
  | .ok (.ct ρ) μ => .ok (.ct (dropE i ρ)) μ
  | _ => .bad
def handleM : List HM → Ex → Ev → Mem → RS
  | [], e, ρ, μ => .exc e ρ μ
  | h :: r, e, ρ, μ => match h.mt e.cls with
    | some true => suiteEnd h.i (h.b (putE h.i (.err e.cls e.fs) ρ) μ)
    | some false => handleM r e ρ μ
    | none => .bad
def sTry (b : MS) (hs : List HM) : MS := fun ρ μ => match b ρ μ with
  | .exc e ρ' μ' => handleM hs e ρ' μ'
  | r => r
/-- the clause's test by the class's name -/
def MtOk (mg : Str → Option Value) (mt : Str → Option Bool) (f : Value → Option Bool) : Prop := ∀ c b C, mt c = some b → mg c = some (.ref C) → f (.ref C) = some b
inductive HOks (X : Cx) (L : Option (Addr × Addr × Str × L2.St)) (T : List (Addr × Str)) : List ExceptHandler → List HM → List HdT → Prop
  | nil : HOks X L T [] [] []
  | cons {te : Expr} {n : Option Str} {f : Value → Option Bool} {m : HM} {b₀ : Stmt} {suite : List Stmt} {p : Pos} {hds : List ExceptHandler} {ms : List HM} {l : List HdT}
      (ht : Tests X te f) (hm : MtOk X.mg m.mt f) (hn : nameOk X n m.i)
      (hsu : ∀ (a : Addr) (oe : Obj) (pn : List (Addr × Obj)), HotO oe → JSs (X.suite a ((a, oe) :: pn)) ⟨some (a, oe), L, T⟩ (fun _ _ _ _ => False) (b₀ :: suite) m.b) (r : HOks X L T hds ms l) :
      HOks X L T (.ExceptHandler (some te) n (b₀ :: suite) p :: hds) (m :: ms) (⟨f, m.i, fun a oe => tS ⟨X.K, X.mg, ⟨some (a, oe), L, T⟩, X.prog, X.w⟩ (fun _ _ _ _ => False) m.b⟩ :: l)
theorem HOks.clauses {X : Cx} {L : Option (Addr × Addr × Str × L2.St)} {T : List (Addr × Str)} {hds : List ExceptHandler} {ms : List HM} {l : List HdT} (h : HOks X L T hds ms l) : Clauses X hds l := by
  induction h with
  | nil => exact .nil
  | cons ht hm hn hsu r ih => exact .cons ht hn hsu ih
section
variable {K : PySem.W.Frag} {mg : Str → Option Value} {L : Option (Addr × Addr × Str × L2.St)} {T : List (Addr × Str)}
theorem dropE_ev {φ : Lab} {H : Hp} {ρ : Ev} {σ : L2.St} {c : Option (Addr × Obj)} (i : Option Nat) (h : EvR ⟨K, mg, ⟨c, L, T⟩, P, w⟩ φ H ρ σ) : EvR ⟨K, mg, ⟨none, L, T⟩, P, w⟩ φ H (dropE i ρ) (dropI i σ) := by
  have base : EvR ⟨K, mg, ⟨none, L, T⟩, P, w⟩ φ H (ρ.map keepE) σ := by
    refine ⟨by rw [List.length_map]; exact h.1, fun j d e => ?_⟩
    rw [List.getElem?_map] at e
    cases q : ρ[j]? with
    | none => rw [q] at e; cases e
    | some o =>
      rw [q] at e
      cases o with
      | none => cases e
      | some d' =>
        have e' : keepE (some d') = some d := Option.some.inj e
        unfold keepE at e'
        by_cases n : noErr d' = true
        · simp only [if_pos n] at e'
          cases e'
          obtain ⟨v, h1, h2⟩ := h.2 j _ q
          exact ⟨v, h1, Rp.on (G := ⟨K, mg, ⟨none, L, T⟩, P, w⟩) (Rp.out (G := ⟨K, mg, ⟨c, L, T⟩, P, w⟩) h2 n)⟩
        · simp only [if_neg n] at e'
          cases e'
  cases i with
  | none => exact base
  | some i => exact base.forget i none
theorem try_wish {X : Cx} {Z : Ends} {W : WX} {hds : List ExceptHandler} {ms : List HM} {l : List HdT} (hh : HOks X L T hds ms l) : ∀ {φ : Lab} {H : Hp} {ρ : Ev} {μ : Mem} {σ : L2.St} {e : Ex} {cls : Value} {dd : Option Addr},
    EvR (X.G ⟨none, L, T⟩) φ H ρ σ → MemR (X.G ⟨none, L, T⟩) φ μ H → ExR (X.G ⟨none, L, T⟩) φ H e cls dd → PostS (X.G ⟨none, L, T⟩) φ H (handleM ms e ρ μ) Z W → wTry W Z l cls dd σ H := by
  induction hh with
  | nil =>
    intro φ H ρ μ σ e cls dd ev rm ex p
    exact p φ H σ cls dd (Grow.refl _ _) rm ev ex
  | @cons te n f m b₀ suite pp hds ms l ht hm hn hsu r ih =>
    intro φ H ρ μ σ e cls dd ev rm ex p
    obtain ⟨⟨C, hC, hmg⟩, hfs⟩ := id ex
    subst hC
    unfold handleM at p
    cases q : m.mt e.cls with
    | none =>
      rw [q] at p
      exact p.elim
    | some b =>
      rw [q] at p
      refine ⟨b, hm _ b C q hmg, fun hb a oe na hz hf => ?_, fun hb => ?_⟩
      · subst hb
        dsimp only at p
        have rp : Rp ⟨X.K, X.mg, ⟨some (a, oe), L, T⟩, X.prog, X.w⟩ φ H (.err e.cls e.fs) (.ref a) := by
          have ek : ErrC ⟨X.K, X.mg, ⟨some (a, oe), L, T⟩, X.prog, X.w⟩ e.cls C oe := ⟨hz.1, hmg, hf⟩
          rcases hfs with ⟨e1, e2⟩ | ⟨d, vs, e1, e2, e3, e4⟩
          · rw [e1]
            exact .err0 (.inl rfl) ek (hz.2.1.trans e2)
          · exact .err (.inl rfl) ek (hz.2.1.trans e1) e2 e3 (RpF.on (G := ⟨X.K, X.mg, ⟨some (a, oe), L, T⟩, X.prog, X.w⟩) e4)
        have ev1 : EvR ⟨X.K, X.mg, ⟨some (a, oe), L, T⟩, X.prog, X.w⟩ φ H (putE m.i (.err e.cls e.fs) ρ) (putI m.i a σ) := by
          have b0 : EvR ⟨X.K, X.mg, ⟨some (a, oe), L, T⟩, X.prog, X.w⟩ φ H ρ σ := EvR.up (s := ⟨none, L, T⟩) (t := ⟨some (a, oe), L, T⟩) ⟨fun _ z => (by cases z), fun _ z => z⟩ ev
          cases m.i with
          | none => exact b0
          | some i => exact b0.set i rp
        have rm1 : MemR ⟨X.K, X.mg, ⟨some (a, oe), L, T⟩, X.prog, X.w⟩ φ μ H := MemR.sw (s := ⟨none, L, T⟩) (t := ⟨some (a, oe), L, T⟩) rfl rm
        refine ⟨φ, _, μ, ev1, rm1, ?_⟩
        have off : ∀ {φ' : Lab} {μ' : Mem} {H' : Hp}, MemR ⟨X.K, X.mg, ⟨some (a, oe), L, T⟩, X.prog, X.w⟩ φ' μ' H' → MemR (X.G ⟨none, L, T⟩) φ' μ' H' := fun x => MemR.sw (s := ⟨some (a, oe), L, T⟩) (t := ⟨none, L, T⟩) rfl x
        cases q2 : m.b (putE m.i (.err e.cls e.fs) ρ) μ with
        | bad => rw [q2] at p; exact p
        | exc x ρ' μ' => rw [q2] at p; exact p.elim
        | ok fl μ' =>
          rw [q2] at p
          cases fl with
          | rt d =>
            unfold suiteEnd at p
            by_cases nd : noErr d = true
            · simp only [if_pos nd] at p
              exact fun φ' H' v g r' rv => p φ' H' v g (off r') (Rp.on (G := X.G ⟨none, L, T⟩) (Rp.out (G := ⟨X.K, X.mg, ⟨some (a, oe), L, T⟩, X.prog, X.w⟩) rv nd))
            · simp only [if_neg nd] at p
              exact p.elim
          | nx ρ' => exact fun φ' H' σ' g r' e' => p φ' H' _ g (off r') (dropE_ev m.i e')
          | bk ρ' => exact fun φ' H' σ' g r' e' => p φ' H' _ g (off r') (dropE_ev m.i e')
          | ct ρ' => exact fun φ' H' σ' g r' e' => p φ' H' _ g (off r') (dropE_ev m.i e')
      · subst hb
        exact ih ev rm ex p
end
section
variable {X : Cx} {W : WX} {L : Option (Addr × Addr × Str × L2.St)} {T : List (Addr × Str)} {body : List Stmt} {h₀ : ExceptHandler} {hds : List ExceptHandler} {ms : List HM} {l : List HdT} {pos : Pos} {mb : MS}
theorem s_try (hs : X.stack = X.env :: X.outer) (hf : X.env.frame = some X.env.locals) (hN : X.N.Nodup) (tk : L2N.Takes X W)
    (hb : ∀ (W' : WX) (pn : List (Addr × Obj)) (xe : Value → Shared → Prop), L2N.Takes (X.tr pn xe) W' → PassesOwn (model X.prog X.w) X.A X.env xe → JSs (X.tr pn xe) ⟨none, L, T⟩ W' body mb) (hh : HOks X L T (h₀ :: hds) ms l) :
    JS X ⟨none, L, T⟩ W (.Try body (h₀ :: hds) [] [] pos) (sTry mb ms) := by
  refine ps_w (ps_try_all (tb := fun W' => tS (X.G ⟨none, L, T⟩) W' mb) hs hf hN tk hb hh.clauses) fun Z σ H h => ?_
  obtain ⟨φ, ρ, μ, ev, r, p⟩ := h
  refine ⟨φ, ρ, μ, ev, r, ?_⟩
  unfold sTry at p
  cases q : mb ρ μ with
  | bad => rw [q] at p; exact p
  | ok fl μ1 =>
    rw [q] at p
    cases fl <;> exact p
  | exc e ρ1 μ1 =>
    rw [q] at p
    exact fun φ' H' σ' cls dd g r' ev' ex => try_wish hh ev' r' ex (PostS.grow g p)
end
end SE

/-! SEe: defs called where an exception is handled. -/
namespace SE
open PySem PySem.Spec PyProof.Rows L2
/-- the def does what m does, where the exception p is handled -/
structure FnGH (T : List (Addr × Str)) (P : Program) (w : World) (K : PySem.W.Frag) (mg : Str → Option Value) (base : Heap) (k : Nat) (f : Addr) (fd : FuncData) (ps : List Str) (m : List D → M D) : Prop where
  run : ∀ (A : Around) (outer : List PySem.Env) (s : Shared) (H : Hp) (args : Args) (us : List Value) (vs : List V) (Q : VK) (E : XK) (ds : List D) (φ : Lab) (μ : Mem) (p : Addr × Obj) (lam : Option (Addr × Addr × Str × L2.St)),
    L2H.RoomH k A → A.guards = some [] → L2H.Hot1 A p → L2H.PinOk outer H s p → Env0 P w K mg base A outer s H → BindsTo s fd args (ps.zip us) → Vals vs us → vs.length = ps.length → RpL ⟨K, mg, ⟨some p, lam, T⟩, P, w⟩ φ H ds vs → MemR ⟨K, mg, ⟨some p, lam, T⟩, P, w⟩ φ μ H →
    Post ⟨K, mg, ⟨some p, lam, T⟩, P, w⟩ (tieD ⟨K, mg, ⟨some p, lam, T⟩, P, w⟩) φ H (m ds μ) Q E → codeAny (model P w) A (.call (.ref f) args) (CR (L2N.CX P w) outer P w H s Q E) s
abbrev hotX (P : Program) (w : World) (K : PySem.W.Frag) (mg : Str → Option Value) (base : Heap) (N : List Str) (qual : Str) (sc : Scope) (f : Addr) (cd : Value) (A : Around) (outer : List PySem.Env) (s : Shared) (H : Hp) (E : XK) (p : Addr × Obj) : Cx :=
  L2H.cxH (L2N.CX P w) P w K mg base N qual sc f cd A outer s H E p
section
variable {T : List (Addr × Str)} {P : Program} {w : World} {K : PySem.W.Frag} {mg : Str → Option Value} {base : Heap} {x qual : Str} {params : Arguments} {body : List Stmt} {scope : Scope} {dvs : List V} {kws : List (Str × V)} {f : Addr} {fd : FuncData}
theorem FnGH.of {N ps : List Str} {k : Nat} {b : MS} (F : FunD K x qual params body scope dvs kws f fd) (S : FnScope N ps scope)
    (hb : ∀ (lam : Option (Addr × Addr × Str × L2.St)) (cd : Value) (A : Around) (outer : List PySem.Env) (s : Shared) (H : Hp) (E : XK) (p : Addr × Obj), L2H.Hot1 A p → L2H.RoomH k (A.deeper (envOfC qual scope s.heap.objs.size f cd)) → (A.deeper (envOfC qual scope s.heap.objs.size f cd)).guards = some [] →
      L2N.Takes (hotX P w K mg base N qual scope f cd A outer s H E p) (bodyW E) → JSs (hotX P w K mg base N qual scope f cd A outer s H E p) ⟨some p, lam, T⟩ (bodyW E) body b) : FnGH T P w K mg base (k + 1) f fd ps (callM N.length b) := by
  obtain ⟨oc0, od0, dV0, kV0, doc0, pm0, an0, cdv0, ct0, osl0, e0, lk0, hcd0, _, _⟩ := F.ex
  subst e0
  constructor
  intro A outer s H args us vs Q E ds φ μ p lam room gd hot pin en hbind rv hlen rl rm post
  have kin : K.In s.heap := en.mod.kin.keeps fun c o e => (en.bs c o e).1
  have lim : s.heap.NoLimit := en.mod.nolimit.keeps fun c o e => (en.bs c o e).1
  have kinds : ∀ y ∈ ps.zip us, scope.names.lookup y.1 = some .local ∨ (scope.names.lookup y.1 = some .cell ∧ ((cellsFrom (s.heap.objs.size + 1) scope.names []).lookup y.1).isSome = true) := by
    rintro ⟨n, v⟩ hy
    have hn : n ∈ ps := (List.of_mem_zip hy).1
    cases S.par n hn with
    | inl q => exact .inl q
    | inr q => exact .inr ⟨q, PySem.W.cellsFrom_some _ _ _ (.inl q)⟩
  refine codeAny_call_function room.depth (kin _ _ lk0) rfl S.co S.gen rfl (PySem.W.codeRec_of kin hcd0) (hbind _ _ _ _ ?_)
  refine wpAny_newFunctionEnv_cells S.kind kinds fun env he s1 ic => ?_
  subst he
  refine ⟨lim.keeps ic.toInCall.keep, codeAny_func ?_⟩
  have I : Inv (hotX P w K mg base N qual scope f cdv0 A outer s H E p) [] (L2.start N vs) H s1 := L2H.inv_startH S pin en hlen rv ic
  have tk : L2N.Takes (hotX P w K mg base N qual scope f cdv0 A outer s H E p) (bodyW E) := L2N.takes_of (X := hotX P w K mg base N qual scope f cdv0 A outer s H E p) rfl rfl rfl rfl
  have J := hb lam cdv0 A outer s H E p hot (room.deeper _) gd tk
  have fin : ∀ {σ' : L2.St} {H' : Hp} {v : V} {u : Value} {s' : Shared}, Inv (hotX P w K mg base N qual scope f cdv0 A outer s H E p) [] σ' H' s' → RelV v u → Q v H' → CE outer P w H s Q u s' := fun {σ' H' v u s'} I' r' q' => ⟨v, H', I'.os, I'.bare, I'.base, I'.hok, r', q'⟩
  refine wpAny_mono (J.run [] s1 (L2.start N vs) H { nx := fun _ H' => Q .non H', rt := Q } I ⟨φ, _, μ, start_rp N rl, rm, ?_⟩) (fun fl s' hs => ?_) fun e s' hs => hs
  · unfold callM at post
    cases q : b (ds.map some ++ List.replicate (N.length - ds.length) none) μ with
    | exc e ρ' μ' =>
      rw [q] at post
      exact fun φ' H' σ' cls dd g r' _ ex => post φ' H' cls dd g r' ex
    | bad => rw [q] at post; exact post
    | ok fl μ' =>
      rw [q] at post
      cases fl with
      | rt d => exact post
      | nx ρ' => exact fun φ' H' σ' g r' _ => post φ' H' .non g r' .non
      | bk ρ' => exact post.elim
      | ct ρ' => exact post.elim
  · cases fl with
    | ret u =>
      obtain ⟨v, σ', H', I', r', q'⟩ := hs
      exact fin I' r' q'
    | next =>
      obtain ⟨σ', H', I', q'⟩ := hs
      exact fin (v := V.non) (u := Value.none) I' rfl q'
    | brk =>
      obtain ⟨_, _, _, q'⟩ := hs
      exact q'.elim
    | cont =>
      obtain ⟨_, _, _, q'⟩ := hs
      exact q'.elim
end
/-- in a context in which p is handled -/
structure HotIn (X : Cx) (p : Addr × Obj) : Prop where
  hot : L2H.Hot1 X.A p
  mem : p ∈ X.pn
theorem hot_suite {X : Cx} {a : Addr} {oe : Obj} {pn : List (Addr × Obj)} (h : HotO oe) : HotIn (X.suite a ((a, oe) :: pn)) (a, oe) := ⟨⟨rfl, h⟩, List.mem_cons_self⟩
theorem hot_cur {X : Cx} {p : Addr × Obj} {lam : Option (Addr × Addr × Str × L2.St)} {T : List (Addr × Str)} (h : HotIn X p) : ∀ q, (⟨some p, lam, T⟩ : Gs).cur = some q → q ∈ X.pn := fun q e => by
  cases e
  exact h.mem
section
variable {lam : Option (Addr × Addr × Str × L2.St)} {T : List (Addr × Str)} {X : Cx} {W : WX} {k : Nat} {f : Addr} {fd : FuncData} {ps : List Str} {m : List D → M D} {x : Str} {p0 pos : Pos} {e : Expr} {es : List Expr} {ml : Ev → M (List D)} {p : Addr × Obj}
/-- the exceptions of such a call are never let out here -/
def noExc (m : List D → M D) (ds : List D) : M D := fun μ => match m ds μ with
  | .exc _ _ => .bad
  | r => r
theorem run_gH {pins : List (Addr × Obj)} {σ : L2.St} {H : Hp} {s : Shared} {Q : VK} {us : List Value} {vs : List V} {ds : List D} {φ : Lab} {μ : Mem}
    (F : FnGH T X.prog X.w X.K X.mg X.base k f fd ps m) (hr : L2H.RoomH k X.A) (hg : X.A.guards = some []) (hh : HotIn X p) (hb : ∀ (s : Shared) (us : List Value), X.K.In s.heap → us.length = ps.length → BindsTo s fd ⟨us, []⟩ (ps.zip us)) (I : Inv X pins σ H s) (r : Vals vs us) (hn : vs.length = ps.length)
    (rd : RpL (X.G ⟨some p, lam, T⟩) φ H ds vs) (rm : MemR (X.G ⟨some p, lam, T⟩) φ μ H) (q : Post (X.G ⟨some p, lam, T⟩) (tieD (X.G ⟨some p, lam, T⟩)) φ H (noExc m ds μ) Q fun cls dd H' => W cls dd σ H') : wpAny (model X.prog X.w) X.A (call (.ref f) us) (EP X pins σ Q) X.xe s := by
  have at_ := I.pin p (List.mem_append_left _ hh.mem)
  have pin : L2H.PinOk X.stack H s p := ⟨at_.1, at_.2.1, fun z => (List.mem_cons.mp (I.stkSub p.1 z)).elim at_.2.2.1 at_.2.2.2.1, at_.2.2.2.2⟩
  have q' : Post (X.G ⟨some p, lam, T⟩) (tieD (X.G ⟨some p, lam, T⟩)) φ H (m ds μ) Q fun _ _ _ => False := by
    unfold noExc at q
    cases z : m ds μ with
    | ok d μ1 => rw [z] at q; exact q
    | exc e μ1 => rw [z] at q; exact q.elim
    | bad => rw [z] at q; exact q
  refine wpAny_call (codeAny_mono (F.run X.A X.stack s H ⟨us, []⟩ us vs Q (fun _ _ _ => False) ds φ μ p lam hr hg hh.hot pin I.env0 (hb s us I.kIn (by rw [← r.length]; exact hn)) r hn rd rm q') fun res s' out => ?_)
  cases res with
  | error ex =>
    obtain ⟨_, _, _, _, _, _, _, _, _, _, _, _, z⟩ := out
    exact z.elim
  | ok fl =>
    cases fl with
    | ret u => exact I.after out
    | next => exact False.elim out
    | brk => exact False.elim out
    | cont => exact False.elim out
theorem j_callH (F : FnGH T X.prog X.w X.K X.mg X.base k f fd ps m) (hr : L2H.RoomH k X.A) (hg : X.A.guards = some []) (hh : HotIn X p) (hgl : Gl X x) (hm : X.mg x = some (.ref f)) (hk : PySem.W.keepIn X.K (.ref f) = true)
    (hb : KBg X.K fd ps [] (e :: es).length (fun us _ => us) (fun vs _ => vs) (fun ds _ => ds)) (hps : ps.length = (e :: es).length) (ha : JL X ⟨some p, lam, T⟩ W (e :: es) ml) (hl : ∀ ρ μ ds μ', ml ρ μ = .ok ds μ' → ds.length = (e :: es).length)
    (hdb : (x == ("__debug__" : Str)) = false := by decide) (he : starEach (e :: es) X.env = (false, eval e X.env) :: starEach es X.env := by rfl) (hpl : (backTo pos (starEach es X.env)).any (·.1) = false := by rfl) :
    JE X ⟨some p, lam, T⟩ W (.Call (.Name x p0) (e :: es) [] pos) (eCall (noExc m) ml) := by
  refine ⟨fun pins s σ H Q I h => ?_⟩
  have h' : tG (X.G ⟨some p, lam, T⟩) (tieL (X.G ⟨some p, lam, T⟩)) W ml σ H fun vs H1 => ∃ φ ds μ, vs.length = (e :: es).length ∧ RpL (X.G ⟨some p, lam, T⟩) φ H1 ds vs ∧ MemR (X.G ⟨some p, lam, T⟩) φ μ H1 ∧ Post (X.G ⟨some p, lam, T⟩) (tieD (X.G ⟨some p, lam, T⟩)) φ H1 (noExc m ds μ) Q fun cls dd H' => W cls dd σ H' := by
    obtain ⟨φ, ρ, μ, ev, r, q⟩ := h
    refine ⟨φ, ρ, μ, ev, r, ?_⟩
    change Post (X.G ⟨some p, lam, T⟩) (tieD (X.G ⟨some p, lam, T⟩)) φ H (M.bind (ml ρ) (fun ds => noExc m ds) μ) Q _ at q
    unfold M.bind at q
    cases z : ml ρ μ with
    | ok ds μ1 =>
      rw [z] at q
      exact fun φ1 H1 vs g r1 rv => ⟨φ1, ds, μ1, by rw [← rv.length]; exact hl ρ μ ds μ1 z, rv, r1, Post.grow g q⟩
    | exc ex μ1 => rw [z] at q; exact q
    | bad => rw [z] at q; exact q
  refine wpAny_Call_Name_kw (ld_glob I hgl hm (PySem.W.callWith_K (h₀ := X.base) I.ok.mod.kin hk (thn (ha.run pos pins s σ H _ I h') fun us s1 got => ?_) he hpl) hdb)
  obtain ⟨vs, H1, I1, rv, φ, ds, μ, n, rd, rm, q⟩ := got
  exact ⟨I1.kIn, run_gH F hr hg hh (fun s us hk hn => hb.to s us [] hk (hn.trans hps) rfl) I1 rv (n.trans hps.symm) rd rm q⟩
end
end SE

/-! SEf: a lambda without parameters handed to a def. -/
namespace SE
open PySem PySem.Spec PyProof.Rows L2
theorem Post.up {K : PySem.W.Frag} {mg : Str → Option Value} {s t : Gs} {P : Program} {w : World} {φ : Lab} {H : Hp} {r : Res D} {Q : VK} {E : XK} (l : s.Le t) (e : s.off = t.off) (p : Post ⟨K, mg, t, P, w⟩ (tieD ⟨K, mg, t, P, w⟩) φ H r Q E) : Post ⟨K, mg, s, P, w⟩ (tieD ⟨K, mg, s, P, w⟩) φ H r Q E := by
  cases r with
  | ok d μ => exact fun φ' H' v g rm rv => p φ' H' v g (rm.sw e) (Rp.up l rv)
  | exc x μ =>
    intro φ' H' cls dd g rm ex
    refine p φ' H' cls dd g (rm.sw e) ?_
    obtain ⟨h1, h2⟩ := ex
    refine ⟨h1, ?_⟩
    rcases h2 with h2 | ⟨d, vs, a, b, c, f⟩
    · exact .inl h2
    · refine .inr ⟨d, vs, a, b, c, ?_⟩
      show RpF ⟨K, mg, t.off, P, w⟩ φ' H' x.fs vs
      rw [← e]
      exact f
  | bad => exact p
theorem noErrE_keep : ∀ ρ : List (Option D), noErrE (ρ.map keepE) = true
  | [] => rfl
  | none :: r => noErrE_keep r
  | some d :: r => by
    show noErrE (keepE (some d) :: r.map keepE) = true
    unfold keepE
    by_cases h : noErr d = true
    · simp only [if_pos h]
      show (noErr d && noErrE (r.map keepE)) = true
      rw [h, noErrE_keep r]
      rfl
    · simp only [if_neg h]
      exact noErrE_keep r
/-- the lambda's body in its maker's slots -/
def callThk (mb : Ev → M D) (d : D) : M D := fun μ => match d with
  | .clo ρ => mb ρ μ
  | _ => .bad
theorem e1_run {G : Gx} {φ : Lab} {H : Hp} {ρ : Ev} {μ : Mem} {g : D → M D} {Q : VK} {E : XK} : Post G (tieD G) φ H (e1 g (eVar 0) ρ μ) Q E = ∃ d, ρ[0]? = some (some d) ∧ Post G (tieD G) φ H (g d μ) Q E := by
  have e : e1 g (eVar 0) ρ μ = (match ρ[0]? with
    | some (some d) => g d μ
    | _ => .bad) := by
    show M.bind (eVar 0 ρ) (fun x => g x) μ = _
    unfold M.bind eVar M.pure M.bad
    cases ρ[0]? with
    | none => rfl
    | some o => cases o <;> rfl
  rw [e]
  cases q : ρ[0]? with
  | none => exact propext ⟨fun z => z.elim, fun ⟨d, z, _⟩ => by cases z⟩
  | some o =>
    cases o with
    | none => exact propext ⟨fun z => z.elim, fun ⟨d, z, _⟩ => by cases z⟩
    | some d => exact propext ⟨fun z => ⟨d, rfl, z⟩, fun ⟨d', z, w⟩ => by cases z; exact w⟩
/-- what comes out holds nothing of the inside -/
def outM (m : M D) : M D := fun μ => match m μ with
  | .ok d μ' => if noErr d = true then .ok d μ' else .bad
  | r => r
/-- the context of the lambda's body -/
abbrev lamX (X : Cx) (A : Around) (outer : List PySem.Env) (s : Shared) (H : Hp) (E : XK) (sc : Scope) (f c' : Addr) : Cx :=
  (LamX.lamCx X A outer s H E sc f c').tr [] (fun e s' => wpAny (model X.prog X.w) (A.deeper (LamX.lamEnv X sc s.heap.objs.size f c')) (leaving (LamX.lamEnv X sc s.heap.objs.size f c') e) (fun _ s'' => L2N.CX X.prog X.w outer H s E e s'') (fun e' s'' => L2N.CX X.prog X.w outer H s E e' s'') s')
section
variable {T : List (Addr × Str)} {X : Cx} {mb : Ev → M D} {k : Nat} {sc : Scope} {bd : Expr}
/-- what is asked of the body -/
def LamOk (T : List (Addr × Str)) (X : Cx) (k : Nat) (sc : Scope) (bd : Expr) (mb : Ev → M D) : Prop :=
  ∀ (A : Around) (outer : List PySem.Env) (s : Shared) (H : Hp) (E : XK) (f c' : Addr), Room k (A.deeper (LamX.lamEnv X sc s.heap.objs.size f c')) → (A.deeper (LamX.lamEnv X sc s.heap.objs.size f c')).guards = some [] →
    L2N.Takes (lamX X A outer s H E sc f c') (bodyW E) → JE (lamX X A outer s H E sc f c') ⟨none, none, T⟩ (bodyW E) bd mb
/-- a() in the def that got the lambda -/
theorem j_act {pins : List (Addr × Obj)} {σ : L2.St} {H : Hp} {s : Shared} {CXg : CXT} {Eg : XK} {Ng : List Str} {qg : Str} {sg : Scope} {g f c' : Addr} {cdg pm ctv : Value} {params : Arguments} {a : Str} {pn : List (Addr × Obj)} {xe : Value → Shared → Prop} {W : WX} {p1 p2 : Pos}
    (I : Inv X pins σ H s) (L : LamX.LamS X.env.scope sc) (hf : s.heap.get? f = some (PySem.W.kla_obj "<lambda>" (X.env.qual ++ "<lambda>") params bd sc (cloFrom X.env.cells sc.names []) pm c' ctv)) (hfn : H f = none) (hfr : f ∉ frs X.stack)
    (hbind : bindArgs (PySem.W.kla_fn "<lambda>" (X.env.qual ++ "<lambda>") params bd sc (cloFrom X.env.cells sc.names []) pm (.ref c') ctv) ⟨[], []⟩ = pure [])
    (tk : L2N.Takes ((cxOf CXg X.prog X.w X.K X.mg X.base Ng qg sg g cdg X.A X.stack s H Eg).tr pn xe) W) (hr : Room (k + 1) (X.A.deeper (envOfC qg sg s.heap.objs.size g cdg))) (hgd : (X.A.deeper (envOfC qg sg s.heap.objs.size g cdg)).guards = some [])
    (hb : LamOk T X k sc bd mb) (hN : Ng[0]? = some a) (hv : Vis sg a) (hd : (a == ("__debug__" : Str)) = false := by decide) (hcd : (a == ("__classdict__" : Str)) = false := by decide) :
    JE ((cxOf CXg X.prog X.w X.K X.mg X.base Ng qg sg g cdg X.A X.stack s H Eg).tr pn xe) ⟨none, some (f, c', X.env.qual ++ "<lambda>", σ), T⟩ W (.Call (.Name a p1) [] [] p2) (e1 (callThk mb) (eVar 0)) := by
  refine ⟨fun pinsZ sZ σZ HZ Q IZ h => ?_⟩
  obtain ⟨φ, ρZ, μ, ev, rm, p⟩ := h
  rw [e1_run] at p
  obtain ⟨d, hd0, p⟩ := p
  obtain ⟨v0, hs0, rv0⟩ := ev.2 0 d hd0
  cases rv0 with
  | @clo f' c2 q2 σ2 ρ hl hc no hn re =>
    cases hl
    refine wpAny_Call_Name_kw (thn ((pe_var (pos := p1) (i := 0) hN hv hd hcd).run pinsZ sZ σZ HZ (fun v H1 => v = .ref f ∧ H1 = HZ) IZ ⟨.ref f, hs0, rfl, rfl⟩) fun u s1 got => ?_)
    obtain ⟨v, H1, I1, rv1, rfl, rfl⟩ := got
    obtain rfl : u = Value.ref f := rv1
    have hf1 := I1.base.keep f _ hf hfn hfr (fun z => nomatch (show f ∈ ([] : List Addr) from z))
    refine PySem.W.callWith_F0 ⟨_, _, _, _, hf1⟩ ?_
    have un : Un (frs X.stack) [] H H1 s.heap s1.heap := I1.base
    obtain ⟨⟨oc, vs, t, hoc, hdc, hvc⟩, _, _⟩ := I1.hok c' _ hc
    have run : codeAny (model X.prog X.w) (X.A.deeper (envOfC qg sg s.heap.objs.size g cdg)) (.call (.ref f) ⟨[], []⟩) (CR (L2N.CX X.prog X.w) (envOfC qg sg s.heap.objs.size g cdg :: X.stack) X.prog X.w H1 s1 Q (fun cls dd H' => W cls dd σZ H')) s1 := by
      refine PySem.W.kla_callFunE hr.depth hf1 rfl L.co L.gen rfl ⟨c', oc, vs, t, rfl, hoc, hdc, hvc⟩ ?_
      rw [hbind]
      refine wpAny_pure (wpAny_newFunctionEnv (fun y hy => (L.own y hy).2) (fun y hy => absurd hy (by simp)) (fun h₁ hns hsb => ⟨I1.nolimit.fresh _ hsb, ?_⟩) L.kind)
      show codeAny _ _ (.expr bd (LamX.lamEnv X sc s1.heap.objs.size f c')) _ _
      have kp : ∀ b o, s1.heap.get? b = some o → h₁.get? b = some o := fun b o e => hsb.extBut b o (Nat.ne_of_lt (Heap.lt_size e)) (Heap.get?_push_of_some _ e)
      have J0 : Inv (LamX.lamCx X (X.A.deeper (envOfC qg sg s.heap.objs.size g cdg)) (envOfC qg sg s.heap.objs.size g cdg :: X.stack) s1 H1 (fun cls dd H' => W cls dd σZ H') sc f c') [] σ H1 { s1 with heap := h₁, toks := s1.toks + ([] : List (Str × Value)).length } :=
        LamX.lam_start2 I L I1.env0 hr.hd un hns kp
      have J : Inv (lamX X (X.A.deeper (envOfC qg sg s.heap.objs.size g cdg)) (envOfC qg sg s.heap.objs.size g cdg :: X.stack) s1 H1 (fun cls dd H' => W cls dd σZ H') sc f c') [] σ H1 { s1 with heap := h₁, toks := s1.toks + ([] : List (Str × Value)).length } := J0.toTry _
      have tk2 : L2N.Takes (lamX X (X.A.deeper (envOfC qg sg s.heap.objs.size g cdg)) (envOfC qg sg s.heap.objs.size g cdg :: X.stack) s1 H1 (fun cls dd H' => W cls dd σZ H') sc f c') (bodyW fun cls dd H' => W cls dd σZ H') := L2N.takes_of rfl rfl rfl rfl
      have p2 : Post (X.G ⟨none, none, T⟩) (tieD (X.G ⟨none, none, T⟩)) φ H1 (mb ρ μ) Q fun cls dd H' => W cls dd σZ H' := Post.up (s := ⟨none, none, T⟩) (t := ⟨none, some (f, c', X.env.qual ++ "<lambda>", σ), T⟩) ⟨fun _ z => (by cases z), fun _ z => (by cases z)⟩ rfl p
      have re2 : EvR (X.G ⟨none, none, T⟩) φ H1 ρ σ := (RpE.out re hn).ev
      refine PySem.W.kla_codeExpr (wpAny_mono ((hb _ _ s1 H1 _ f c' (hr.deeper _) hgd tk2).run [] _ σ H1 Q J ⟨φ, ρ, μ, re2, MemR.sw (s := ⟨none, some (f, c', X.env.qual ++ "<lambda>", σ), T⟩) (t := ⟨none, none, T⟩) rfl rm, p2⟩) (fun v s' hq => ?_) fun e s' hq => hq)
      obtain ⟨w', H', J', rv, q⟩ := hq
      exact ⟨w', H', J'.os, J'.bare, J'.base, J'.hok, rv, q⟩
    refine wpAny_call (codeAny_mono run fun r s' out => ?_)
    cases r with
    | error e => exact tk _ _ (L2N.XE.of_call I1 (fun _ _ _ z => z) out)
    | ok fl =>
      cases fl with
      | ret u => exact I1.after out
      | next => exact False.elim out
      | brk => exact False.elim out
      | cont => exact False.elim out
  | _ => exact p.elim
/-- a def that is handed a lambda -/
structure FnLam (T : List (Addr × Str)) (P : Program) (w : World) (K : PySem.W.Frag) (mg : Str → Option Value) (base : Heap) (k : Nat) (x : Str) (g : Addr) (fd : FuncData) (a : Str) (N : List Str) (params : Arguments) (body : List Stmt) (scope : Scope) (b : (Ev → M D) → MS) : Prop where
  F : FunD K x x params body scope [] [] g fd
  S : FnScope N [a] scope
  hN : N[0]? = some a
  hv : Vis scope a
  run : ∀ (mb : Ev → M D) (lam : Option (Addr × Addr × Str × L2.St)) (cd : Value) (A : Around) (outer : List PySem.Env) (s : Shared) (H : Hp) (E : XK), Room k (A.deeper (envOfC x scope s.heap.objs.size g cd)) → (A.deeper (envOfC x scope s.heap.objs.size g cd)).guards = some [] →
    L2N.Takes (bodyX P w K mg base N x scope g cd A outer s H E) (bodyW E) → PassesOwn (model P w) (bodyX P w K mg base N x scope g cd A outer s H E).A (bodyX P w K mg base N x scope g cd A outer s H E).env (bodyX P w K mg base N x scope g cd A outer s H E).xe →
    (∀ (pn : List (Addr × Obj)) (xe : Value → Shared → Prop) (W : WX) (p1 p2 : Pos), L2N.Takes ((bodyX P w K mg base N x scope g cd A outer s H E).tr pn xe) W → JE ((bodyX P w K mg base N x scope g cd A outer s H E).tr pn xe) ⟨none, lam, T⟩ W (.Call (.Name a p1) [] [] p2) (e1 (callThk mb) (eVar 0))) →
    JSs (bodyX P w K mg base N x scope g cd A outer s H E) ⟨none, lam, T⟩ (bodyW E) body (b mb)
theorem Grow.tab {φ : Lab} {H H1 : Hp} (e : LamX.ExtN H H1) : Grow φ H φ H1 := ⟨⟨[], by simp, fun _ z => nomatch z⟩, fun _ z n => absurd z n, fun _ z => z, fun b u h _ t => e b u h t, fun b u h t => ⟨u, e b u h t, t⟩, fun b o u h => e b _ h fun _ z => nomatch z⟩
theorem MemR.tab {G : Gx} {φ : Lab} {μ : Mem} {H H1 : Hp} (R : MemR G φ μ H) (e : LamX.ExtN H H1) (t : LamX.Tabs G.s.T H1) : MemR G φ μ H1 := ⟨t, let ⟨o, q⟩ := R.sm; ⟨o, e _ _ q fun _ z => nomatch z⟩, R.len, R.nd, fun l o q => by
  obtain ⟨a, h1, h2⟩ := R.at_ l o q
  exact ⟨a, h1, h2.growW (Grow.tab e).w fun u q t => e _ _ q t⟩, fun a ha => let ⟨u, q, z⟩ := R.hd a ha; ⟨u, e _ _ q z.live.nt, z⟩⟩
theorem EvR.keep {G : Gx} {φ : Lab} {H : Hp} {ρ : Ev} {σ : L2.St} (h : EvR G φ H ρ σ) : EvR G φ H (ρ.map keepE) σ := by
  refine ⟨by rw [List.length_map]; exact h.1, fun j d e => ?_⟩
  rw [List.getElem?_map] at e
  cases q : ρ[j]? with
  | none => rw [q] at e; cases e
  | some o =>
    rw [q] at e
    cases o with
    | none => cases e
    | some d' =>
      have e' : keepE (some d') = some d := Option.some.inj e
      unfold keepE at e'
      by_cases n : noErr d' = true
      · simp only [if_pos n] at e'
        cases e'
        exact h.2 j _ q
      · simp only [if_neg n] at e'
        cases e'
/-- x(lambda: bd) -/
def eLam (m : (Ev → M D) → List D → M D) (mb : Ev → M D) : Ev → M D := fun ρ => outM (m mb [.clo (ρ.map keepE)])
theorem j_lam {W : WX} {x a : Str} {g c P : Addr} {fd : FuncData} {Ng : List Str} {pg : Arguments} {bg : List Stmt} {sg : Scope} {b : (Ev → M D) → MS} {params : Arguments} {p lpos pos : Pos}
    (G : FnLam T X.prog X.w X.K X.mg X.base (k + 1) x g fd a Ng pg bg sg b) (tk : L2N.Takes X W) (hg : Gl X x) (hm : X.mg x = some (.ref g)) (hgd : X.A.guards = some []) (hr : Room (k + 2) X.A)
    (hbg : ∀ (s : Shared) (us : List Value), X.K.In s.heap → us.length = 1 → BindsTo s fd ⟨us, []⟩ ([a].zip us))
    (TB : LamX.TabB X.base X.mg c P) (hcode : X.env.code = .ref c) (hmT : (P, X.env.qual ++ "<lambda>") ∈ T) (hu : ∀ p ∈ T, p.1 = P → p.2 = X.env.qual ++ "<lambda>") (L : LamX.LamS X.env.scope sc) (hdef : defaultsOf params X.env = ([], []))
    (hbind : ∀ (q : Str) (cl : List (Str × Addr)) (pm cv ctv : Value), bindArgs (PySem.W.kla_fn "<lambda>" q params bd sc cl pm cv ctv) ⟨[], []⟩ = pure [])
    (hb : LamOk T X k sc bd mb) (hdb : (x == ("__debug__" : Str)) = false := by decide) (hd : (a == ("__debug__" : Str)) = false := by decide) (hcd : (a == ("__classdict__" : Str)) = false := by decide) :
    JE X ⟨none, none, T⟩ W (.Call (.Name x p) [.Lambda params bd sc lpos] [] pos) (eLam (fun mb => callM Ng.length (b mb)) mb) := by
  refine ⟨fun pins s σ H Q I h => ?_⟩
  obtain ⟨φ, ρ, μ, ev, rm, po⟩ := h
  refine wpAny_Call_Name_kw (ld_glob I hg hm (PySem.W.callWith_K (h₀ := X.base) I.ok.mod.kin G.F.kp ?_ (by rfl) (by rfl)) hdb)
  show wpAny _ _ (spliced ((false, eval (.Lambda params bd sc lpos) X.env) :: backTo pos (starEach [] X.env))) _ _ s
  refine Calls.spliced_cons (LamX.lam_make2 I TB hcode hmT hu rm.tb hdef (L.has I.ok) fun f c' pm' ctv H1 s' I1 eN T1 hf hfn hfr hco => Calls.spliced_nil ⟨I1.kIn, ?_⟩)
  obtain ⟨oc0, od0, dV0, kV0, doc0, pm0, an0, cdv0, ct0, osl0, e0, lk0, hcd0, _, _⟩ := G.F.ex
  subst e0
  have g1 : Grow φ H φ H1 := Grow.tab eN
  have rm1 : MemR (X.G ⟨none, none, T⟩) φ μ H1 := rm.tab eN T1
  have nco : c' ∉ φ := fun z => by
    rcases z with z | z
    · obtain ⟨l, hl, e⟩ := List.getElem_of_mem z
      have e2 : φ.l[l]? = some c' := by rw [List.getElem?_eq_getElem hl, e]
      have hl2 : l < μ.length := by rw [← rm1.len]; exact hl
      obtain ⟨d, h1, h2⟩ := rm1.at_ l μ[l] (List.getElem?_eq_getElem hl2)
      rw [e2] at h1
      cases h1
      obtain ⟨u, h3, L3⟩ := h2.live
      rw [hco] at h3
      exact L3.nc _ (Option.some.inj h3).symm
    · obtain ⟨u, h3, z1⟩ := rm1.hd c' z
      rw [hco] at h3
      exact z1.live.nc _ (Option.some.inj h3).symm
  have ev1 : EvR (X.G ⟨none, some (f, c', X.env.qual ++ "<lambda>", σ), T⟩) φ H1 (ρ.map keepE) σ := ((ev.grow g1).keep).up (s := ⟨none, none, T⟩) (t := ⟨none, some (f, c', X.env.qual ++ "<lambda>", σ), T⟩) ⟨fun _ z => z, fun _ z => (by cases z)⟩
  have rc : Rp (X.G ⟨none, some (f, c', X.env.qual ++ "<lambda>", σ), T⟩) φ H1 (.clo (ρ.map keepE)) (.ref f) := .clo rfl hco nco (noErrE_keep ρ) ev1.e
  have rm2 : MemR (X.G ⟨none, some (f, c', X.env.qual ++ "<lambda>", σ), T⟩) φ μ H1 := MemR.sw (s := ⟨none, none, T⟩) (t := ⟨none, some (f, c', X.env.qual ++ "<lambda>", σ), T⟩) rfl rm1
  have run : codeAny (model X.prog X.w) X.A (.call (.ref g) ⟨[.ref f], []⟩) (CR (L2N.CX X.prog X.w) X.stack X.prog X.w H1 s' Q (fun cls dd H' => W cls dd σ H')) s' := by
    refine LamX.run_ofS (N := Ng) (ps := [a]) (us := [.ref f]) (vs := [.ref f]) lk0 hcd0 G.S hr I1.env0 (hbg s' [.ref f] I1.kIn rfl) (.cons rfl .nil) rfl fun hr' => ?_
    have tkz : L2N.Takes (bodyX X.prog X.w X.K X.mg X.base Ng x sg g cdv0 X.A X.stack s' H1 fun cls dd H' => W cls dd σ H') (bodyW fun cls dd H' => W cls dd σ H') := L2N.takes_of rfl rfl rfl rfl
    have po' : PassesOwn (model X.prog X.w) (bodyX X.prog X.w X.K X.mg X.base Ng x sg g cdv0 X.A X.stack s' H1 fun cls dd H' => W cls dd σ H').A (bodyX X.prog X.w X.K X.mg X.base Ng x sg g cdv0 X.A X.stack s' H1 fun cls dd H' => W cls dd σ H').env (bodyX X.prog X.w X.K X.mg X.base Ng x sg g cdv0 X.A X.stack s' H1 fun cls dd H' => W cls dd σ H').xe :=
      passes_of (X := bodyX X.prog X.w X.K X.mg X.base Ng x sg g cdv0 X.A X.stack s' H1 fun cls dd H' => W cls dd σ H') rfl
    have J := G.run mb (some (f, c', X.env.qual ++ "<lambda>", σ)) cdv0 X.A X.stack s' H1 (fun cls dd H' => W cls dd σ H') hr' hgd tkz po' fun pn xe W' p1 p2 tk' => j_act I1 L hf hfn hfr (hbind _ _ _ _ _) tk' hr' hgd hb G.hN G.hv hd hcd
    refine ⟨_, J, φ, _, μ, start_rp (ds := [.clo (ρ.map keepE)]) Ng (.cons rc .nil), rm2, ?_⟩
    show PostS _ φ H1 (b mb ([D.clo (ρ.map keepE)].map some ++ List.replicate (Ng.length - 1) none) μ) _ _
    unfold eLam outM callM at po
    have po1 := Post.grow g1 po
    have off : ∀ {φ' : Lab} {μ' : Mem} {H' : Hp}, MemR (X.G ⟨none, some (f, c', X.env.qual ++ "<lambda>", σ), T⟩) φ' μ' H' → MemR (X.G ⟨none, none, T⟩) φ' μ' H' := fun z => MemR.sw (s := ⟨none, some (f, c', X.env.qual ++ "<lambda>", σ), T⟩) (t := ⟨none, none, T⟩) rfl z
    cases q : b mb ([D.clo (ρ.map keepE)].map some ++ List.replicate (Ng.length - 1) none) μ with
    | bad =>
      simp only [List.length_cons, List.length_nil, Nat.zero_add, q] at po1
      exact po1
    | exc e ρ' μ' =>
      simp only [List.length_cons, List.length_nil, Nat.zero_add, q] at po1
      exact fun φ' H' σ' cls dd g' r' _ ex => po1 φ' H' cls dd g' (off r') ex
    | ok fl μ' =>
      simp only [List.length_cons, List.length_nil, Nat.zero_add, q] at po1
      cases fl with
      | rt d =>
        by_cases n : noErr d = true
        · simp only [if_pos n] at po1
          exact fun φ' H' v g' r' rv => po1 φ' H' v g' (off r') (Rp.out (G := X.G ⟨none, some (f, c', X.env.qual ++ "<lambda>", σ), T⟩) rv n)
        · simp only [if_neg n] at po1
          exact po1.elim
      | nx ρ' => exact fun φ' H' σ' g' r' _ => po1 φ' H' .non g' (off r') .non
      | bk ρ' => exact po1.elim
      | ct ρ' => exact po1.elim
  refine wpAny_call (codeAny_mono run fun r s2 out => ?_)
  cases r with
  | error e => exact tk _ _ (L2N.XE.of_call I1 (fun _ _ _ z => z) out)
  | ok fl =>
    cases fl with
    | ret u => exact I1.after out
    | next => exact False.elim out
    | brk => exact False.elim out
    | cont => exact False.elim out
end
end SE

/-! SEg: the law's end where tables of code objects grow. -/
namespace SE
open PySem PySem.Spec PyProof.Rows L2
/-- what is known of the law at the heap behind the top, with tables -/
def LawGT (l : PySem.W.OpenLaw) (w : World) (K : PySem.W.Frag) (k n : Nat) (x : Str) (mg : Str → Option Value) (fa : Addr) (h : Heap) : Prop :=
  ∃ (fd : FuncData) (m : List D → M D) (T : List (Addr × Str)) (cs : List (Addr × Addr)), (∀ p ∈ cs, h.get? p.2 = some { cls := .none, data := .fields #[] }) ∧ (∀ p ∈ cs, K.lookup p.2 = none) ∧ (∀ p ∈ cs, PySem.W.CodeHd h p.1 p.2) ∧ (∀ q ∈ T, ∃ p ∈ cs, p.2 = q.1) ∧ (∃ oS esS epS, h.get? sysModules = some oS ∧ oS.data = .dict esS epS) ∧ K.lookup sysModules = none ∧
    (∀ (s : Shared) (u : Value), BindsTo s fd ⟨[u], []⟩ [(x, u)]) ∧ (∀ ns : List Int, ns.length ≤ n → (∀ z ∈ ns, Builtin.Int.intBits z ≤ 1048576) → ∃ μ', m [.ro (ns.map .int)] [] = .ok (.bl true) μ') ∧
    ∀ base : Heap, K.In base → base.Ns mainGlobals mg → (∀ p ∈ cs, LamX.TabB base mg p.1 p.2) → FnG ⟨none, none, T⟩ l.prog w K mg base k fa fd [x] m
theorem law_gT {T : List (Addr × Str)} {cs : List (Addr × Addr)} {P : Program} {w : World} {K : PySem.W.Frag} {mg mb : Str → Option Value} {k : Nat} {fa a : Addr} {fd : FuncData} {x : Str} {m : List D → M D} {s₁ : Shared} {vs : List Value} {ns : List Int} {μ' : Mem}
    (kin : K.In s₁.heap) (hns : s₁.heap.Ns mainGlobals mg) (hb : s₁.heap.Ns builtinsNs mb) (hbb : ∀ x : Str, x ≠ "__name__" → mb x = bootBuiltins x) (hlim : s₁.heap.NoLimit) (hg : s₁.gens = #[])
    (ha : s₁.heap.get? a = some { cls := .type "list", data := .seq vs.toArray }) (hi : IntsAre vs ns) (hl : ns.length ≤ sizeLine) (hr : Room k callerA)
    (hT : ∀ p ∈ cs, s₁.heap.get? p.2 = some { cls := .none, data := .fields #[] }) (nT : ∀ p ∈ cs, K.lookup p.2 = none) (C : ∀ p ∈ cs, PySem.W.CodeHd s₁.heap p.1 p.2) (eT : ∀ q ∈ T, ∃ p ∈ cs, p.2 = q.1) {oS : Obj} {esS : Array DictEntry} {epS : Nat} (hS1 : s₁.heap.get? sysModules = some oS) (dS : oS.data = .dict esS epS) (kS : K.lookup sysModules = none)
    (hbm : ∃ (bm : Addr) (ob : Obj), mg "__builtins__" = some (.ref bm) ∧ bm ≠ builtinsNs ∧ s₁.heap.get? bm = some ob ∧ ob.cls = .type "module" ∧ ob.dict = some builtinsNs ∧ ob.data = .plain)
    (F : ∀ base : Heap, K.In base → base.Ns mainGlobals mg → (∀ p ∈ cs, LamX.TabB base mg p.1 p.2) → FnG ⟨none, none, T⟩ P w K mg base k fa fd [x] m) (hbind : ∀ (s : Shared) (u : Value), BindsTo s fd ⟨[u], []⟩ [(x, u)]) (hm : m [.ro (ns.map .int)] [] = .ok (.bl true) μ') :
    codeAny (model P w) callerA (.call (.ref fa) ⟨[.ref a], []⟩) (fun r s' => r = .ok (.ret (.bool true)) ∧ OldK s₁.heap s'.heap ∧ s'.os = s₁.os ∧ AllBare s'.gens) s₁ := by
  -- the script as the one object that is known, or as one of the top's own
  have isT : ∀ b ∈ cs.map (·.2), s₁.heap.get? b = some { cls := .none, data := .fields #[] } := fun b z => by
    obtain ⟨p, hp, e⟩ := List.mem_map.mp z
    rw [← e]
    exact hT p hp
  have inT : ∀ p ∈ cs, p.2 ∈ cs.map (·.2) := fun p hp => List.mem_map_of_mem hp
  have aT : a ∉ cs.map (·.2) := fun z => by
    have e := isT a z
    rw [ha] at e
    cases (show Data.seq vs.toArray _ = Data.fields #[] from congrArg Obj.data (Option.some.inj e))
  have main : ∀ H : Hp, (∀ b ∈ cs.map (·.2), H b = some (.tbl #[])) → H sysModules = some (.frz oS (.own 0)) → (∀ b u, H b = some u → (b = a ∧ u = .frz { cls := .type "list", data := .seq vs.toArray } (.lst (ns.map V.int))) ∨ (b ∈ cs.map (·.2) ∧ u = .tbl #[]) ∨ (b = sysModules ∧ u = .frz oS (.own 0))) → SqLz K ⟨[], []⟩ H a (ns.map V.int) → (H a ≠ none → K.lookup a = none) →
      codeAny (model P w) callerA (.call (.ref fa) ⟨[.ref a], []⟩) (fun r s' => r = .ok (.ret (.bool true)) ∧ OldK s₁.heap s'.heap ∧ s'.os = s₁.os ∧ AllBare s'.gens) s₁ := by
    intro H tabs sysT only hS hK
    have rv := vals_ints hi
    have hlen := hi.length
    have hok : HOk P w H s₁.heap := fun b u e => by
      rcases only b u e with ⟨rfl, rfl⟩ | ⟨hb, rfl⟩ | ⟨rfl, rfl⟩
      · exact ⟨ha, by rw [List.length_map]; exact hl, vs, _, rv, ha⟩
      · exact isT b hb
      · exact ⟨hS1, ⟨_, hS1⟩⟩
    have free : ∀ {b : Addr} {o : Obj}, s₁.heap.get? b = some o → (∀ xs n, o.data ≠ .seq xs n) → o.data ≠ .fields #[] → b ≠ sysModules → H b = none := fun {b o} e d d2 d3 => by
      cases q : H b with
      | none => rfl
      | some u =>
        rcases only b u q with ⟨rfl, _⟩ | ⟨hb, _⟩ | ⟨hb, _⟩
        · rw [ha] at e
          cases e
          exact absurd rfl (d _ _)
        · rw [isT b hb] at e
          cases e
          exact absurd rfl d2
        · exact absurd hb d3
    have dic : ∀ {b : Addr} {m0 : Str → Option Value}, b ≠ sysModules → s₁.heap.Ns b m0 → (hidT s₁.heap H).Ns b m0 := fun {b m0} ns q => by
      obtain ⟨o, es, ep, e, d, rest⟩ := q
      exact ⟨o, es, ep, hidT_get e (free e (fun xs n z => by rw [d] at z; cases z) (fun z => by rw [d] at z; cases z) ns), d, rest⟩
    have kb : K.In (hidT s₁.heap H) := fun b o e => hidT_get (kin b o e) (by
      cases q : H b with
      | none => rfl
      | some u =>
        rcases only b u q with ⟨rfl, _⟩ | ⟨hb, _⟩ | ⟨hb, _⟩
        · rw [hK (by rw [q]; simp)] at e
          cases e
        · obtain ⟨p, hp, ep⟩ := List.mem_map.mp hb
          rw [← ep, nT p hp] at e
          cases e
        · rw [hb, kS] at e
          cases e)
    obtain ⟨mc, l1, l2⟩ := hlim
    have md : L2.Mod K mg (hidT s₁.heap H) := ⟨kb, dic (by decide) hns, ⟨mb, dic (by decide) hb, hbb⟩, ⟨mc, dic (by decide) l1, l2⟩⟩
    have nomem : ∀ {b : Addr}, b ∉ frs ([] : List PySem.Env) := fun {b} z => nomatch z
    have en : Env0 P w K mg (hidT s₁.heap H) callerA [] s₁ H := ⟨rfl, md, fun b o e => of_hidT e, Nat.le_of_eq (hidT_size _ _), trivial, fun b z => absurd z nomem, hok, .of_eq hg⟩
    have rm : MemR ⟨K, mg, ⟨none, none, T⟩, P, w⟩ ⟨[], []⟩ [] H := ⟨(fun q hq => by
      obtain ⟨p, hp, e⟩ := eT q hq
      exact LamX.TabS.nil (by rw [← e]; exact tabs _ (inT p hp))), ⟨oS, sysT⟩, rfl, .nil, (fun l o e => by simp at e), (fun _ z => nomatch z)⟩
    have rl : RpL ⟨K, mg, ⟨none, none, T⟩, P, w⟩ ⟨[], []⟩ H [.ro (ns.map .int)] [V.ref a] := .cons (.ro hS (ints_rp ns)) .nil
    have TB : ∀ p ∈ cs, LamX.TabB (hidT s₁.heap H) mg p.1 p.2 := fun p hp => by
      refine ⟨?_, ?_, fun z => ?_⟩
      · obtain ⟨co, us, fl, x1, x2, x3, x4, x5, x6, at_, y1, y2, y3, y4, y5, y6, y7, y8, y9⟩ := C p hp
        refine ⟨co, us, fl, x1, x2, x3, x4, x5, x6, hidT_get at_ (free at_ (fun xs n z => ?_) (fun z => ?_) fun z => ?_), y1, y2, y3, y4, y5, y6, y7, y8, y9⟩
        · rw [y2] at z; cases z
        · rw [y2] at z; cases z; simp at y3
        · rw [z, hS1] at at_; cases at_; rw [dS] at y2; cases y2
      · obtain ⟨bm, ob, b1, b2, b3, b4, b5, b6⟩ := hbm
        refine ⟨bm, ob, b1, b2, fun q => ?_, fun q => ?_, hidT_get b3 (free b3 (fun xs n z => ?_) (fun z => ?_) fun z => ?_), b4, b5, b6⟩
        · obtain ⟨o, es, ep, e, dd, _⟩ := hns
          rw [q, e] at b3
          cases b3
          rw [dd] at b6
          cases b6
        · rw [q, hT p hp] at b3
          cases b3
          cases b6
        · rw [b6] at z; cases z
        · rw [b6] at z; cases z
        · rw [z, hS1] at b3; cases b3; rw [dS] at b6; cases b6
      · obtain ⟨o, es, ep, e, dd, _⟩ := hns
        rw [z, hT p hp] at e
        cases e
        cases dd
    refine codeAny_mono ((F _ kb (dic (by decide) hns) TB).run callerA [] s₁ H ⟨[.ref a], []⟩ [.ref a] [.ref a] (fun v _ => v = .bl true) (fun _ _ _ => False) _ ⟨[], []⟩ [] hr rfl en (hbind s₁ (.ref a)) (.cons rfl .nil) rfl rl rm ?_) fun r s' h => ?_
    · rw [hm]
      intro φ' H' v g r' rv'
      cases rv'
      rfl
    · cases r with
      | error e =>
        obtain ⟨_, _, _, _, _, _, _, _, _, _, _, _, z⟩ := h
        exact z.elim
      | ok fl =>
        cases fl with
        | next => exact False.elim h
        | brk => exact False.elim h
        | cont => exact False.elim h
        | ret u =>
          obtain ⟨v, H', os, bare, un, hok', r', q⟩ := h
          subst q
          obtain rfl : u = Value.bool true := r'
          have old : ∀ b o, b ∉ cs.map (·.2) → s₁.heap.get? b = some o → s'.heap.get? b = some o := fun b o nb e => by
            cases q : H b with
            | none => exact un.keep b o e q nomem (by simp)
            | some u =>
              rcases only b u q with ⟨rfl, rfl⟩ | ⟨hb, _⟩ | ⟨rfl, rfl⟩
              · obtain ⟨e2, _⟩ := hok' b _ (un.frzs b _ _ q)
                rw [ha] at e
                cases e
                exact e2
              · exact absurd hb nb
              · obtain ⟨e2, _⟩ := hok' _ _ (un.frzs _ _ _ q)
                rw [hS1] at e
                cases e
                exact e2
          have grown : ∀ p ∈ cs, ∃ ext : Array Value, s'.heap.get? p.2 = some { cls := .none, data := .fields ext } := fun p hp => by
            obtain ⟨ext, z⟩ := un.tbls p.2 #[] (tabs _ (inT p hp))
            exact ⟨_, hok' p.2 _ z⟩
          refine ⟨rfl, ⟨fun b o e => ?_, fun b o e => ?_⟩, os, bare⟩
          · by_cases hb : b ∈ cs.map (·.2)
            · obtain ⟨p, hp, ep⟩ := List.mem_map.mp hb
              obtain ⟨ext, z⟩ := grown p hp
              rw [← ep] at e ⊢
              rw [hT p hp] at e
              cases e
              exact .inr (.inl ⟨((C p hp).tab (hT p hp)).isCodeTable, rfl, #[], ext, rfl, by rw [Array.empty_append]; exact z⟩)
            · exact .inl (old b o hb e)
          · by_cases hb : b ∈ cs.map (·.2)
            · obtain ⟨p, hp, ep⟩ := List.mem_map.mp hb
              obtain ⟨ext, z⟩ := grown p hp
              exact ⟨_, by rw [← ep]; exact z⟩
            · exact ⟨o, old b o hb e⟩
  have split : ∀ (b : Addr) (u v : HO), (if b ∈ cs.map (·.2) then some (HO.tbl #[]) else if b = a then some v else none) = some u → (b = a ∧ u = v) ∨ (b ∈ cs.map (·.2) ∧ u = .tbl #[]) := fun b u v e => by
    by_cases hb : b ∈ cs.map (·.2)
    · rw [if_pos hb] at e
      exact .inr ⟨hb, (Option.some.inj e).symm⟩
    · rw [if_neg hb] at e
      by_cases h2 : b = a
      · rw [if_pos h2] at e
        exact .inl ⟨h2, (Option.some.inj e).symm⟩
      · rw [if_neg h2] at e
        cases e
  have nsA : a ≠ sysModules := fun z => by
    rw [z, hS1] at ha
    cases ha
    cases dS
  have nsT : ∀ b ∈ cs.map (·.2), b ≠ sysModules := fun b hb z => by
    have e := isT b hb
    rw [z, hS1] at e
    cases e
    cases dS
  cases hk : K.lookup a with
  | none =>
    refine main (fun b => if b = sysModules then some (.frz oS (.own 0)) else if b ∈ cs.map (·.2) then some (.tbl #[]) else if b = a then some (.frz { cls := .type "list", data := .seq vs.toArray } (.lst (ns.map V.int))) else none)
      (fun b hb => (if_neg (nsT b hb)).trans (if_pos hb)) (if_pos rfl) (fun b u e => ?_) (.inl ⟨.inr ⟨_, (if_neg nsA).trans ((if_neg aT).trans (if_pos rfl))⟩, (fun z => by rcases z with z | z <;> cases z)⟩) fun _ => hk
    by_cases hb : b = sysModules
    · exact .inr (.inr ⟨hb, (Option.some.inj ((if_pos hb).symm.trans e)).symm⟩)
    · rcases split b u _ ((if_neg hb).symm.trans e) with q | q
      · exact .inl q
      · exact .inr (.inl q)
  | some o =>
    have e := kin a o hk
    rw [ha] at e
    cases e
    have rv := vals_ints hi
    refine main (fun b => if b = sysModules then some (.frz oS (.own 0)) else if b ∈ cs.map (·.2) then some (.tbl #[]) else none) (fun b hb => (if_neg (nsT b hb)).trans (if_pos hb)) (if_pos rfl) (fun b u z => ?_)
      (.inr (.inr ⟨_, vs.toArray, _, hk, rfl, rfl, rfl, by rw [List.size_toArray, hi.length]; exact hl, by simpa using rv⟩)) fun z => absurd ((if_neg nsA).trans (if_neg aT)) z
    by_cases hs : b = sysModules
    · exact .inr (.inr ⟨hs, (Option.some.inj ((if_pos hs).symm.trans z)).symm⟩)
    · have z1 := (if_neg hs).symm.trans z
      by_cases hb : b ∈ cs.map (·.2)
      · exact .inr (.inl ⟨hb, (Option.some.inj ((if_pos hb).symm.trans z1)).symm⟩)
      · have z' := (if_neg hb).symm.trans z1
        cases z'
theorem walk_gT {l : PySem.W.OpenLaw} {n k : Nat} {q : Program} {loose : List Str} {XP : (Str → Option Value) → Heap → Prop} {YP : World → Heap → Prop} {d : DefRec} {x : Str}
    (hn : l.most = some n) (hn2 : n ≤ sizeLine) (hdf : d.params.defaults = []) (hr : Room k callerA)
    (F : ∀ (w : World) (mg : Str → Option Value) (fa : Addr) (h : Heap), YP w h → h.Ns mainGlobals mg → mg d.name = some (.ref fa) → ∃ K : PySem.W.Frag, K.In h ∧ LawGT l w K k n x mg fa h) :
    PySem.W.WalkO q loose XP YP l.row.toRowW d [] (fun f vs => PySem.call f vs) := by
  refine Att.attach_callB hn hdf fun w s₀ s₁ mg mb fa o pm cd doc a vs ns G Y ho hd hcd hmg hobj hints hlen hbits hg => ?_
  obtain ⟨K, kin, fd, m, T, cs, hT, nT, C, eT, ⟨oS, esS, epS, hS1, dS⟩, kS, hb, hm, hF⟩ := F w mg fa _ Y G.T.g hmg
  obtain ⟨μ', e⟩ := hm ns hlen hbits
  exact law_gT kin G.T.g G.T.b G.T.builtins G.T.nolimit hg hobj hints (Nat.le_trans hlen hn2) hr hT nT C eT hS1 dS kS G.T.bmain hF hb e
end SE

/-! SEh: list.count; classes as values; small helps for printed texts. -/
namespace SE
open PySem PySem.Spec PyProof.Rows L2
/-! ### xs.count(y) -/
def cntM (d y : D) : M D := fun μ => match d with
  | .lst xs => if (isPL xs && isP y && decide ((dP y).depth ≤ 50)) = true then .ok (.int ((dPL xs).countP fun z => PyData.eqv z (dP y) : Nat)) μ else .bad
  | _ => .bad
/-- o.m(e), o's kind looked at first -/
def eM1 (chk : D → Bool) (f : D → D → M D) (a b : Ev → M D) : Ev → M D := fun ρ => do let x ← a ρ; if chk x = true then (do let y ← b ρ; f x y) else M.bad
def isLs : D → Bool
  | .lst _ => true
  | _ => false
section
variable {X : Cx} {W : WX} {Γ : Gs} {o e : Expr} {mo me : Ev → M D} {apos cpos pos : Pos}
def rCntD (X : Cx) : V → List V → Hp → VK → Prop := fun x xs H Q => ∃ (a : Addr) (vs : List V) (y : V) (ds : List PyData) (d : PyData), x = .ref a ∧ xs = [y] ∧ SqL X.K H a vs ∧ DpAll X.K H vs ds ∧ Dp X.K H y d ∧ PyData.plainAll ds = true ∧ d.plain = true ∧ d.depth ≤ 50 ∧ Q (.int (ds.countP fun z => PyData.eqv z d : Nat)) H
theorem mt_cntD (hu : X.A.units + 64 < cLine) : MtR X "list.count" (rCntD X) := by
  intro pins s σ H x xs v us Q I rx rxs h
  obtain ⟨a, vs, y, ds, d, rfl, rfl, hs, hd, hy, h1, h2, h3, q⟩ := h
  cases rx
  obtain ⟨u, rfl, ru⟩ := rxs.one
  obtain ⟨its, rv, pl, hlen⟩ := I.list hs
  obtain ⟨as, ra⟩ := Dp.readsAll I ds vs its hd rv
  obtain ⟨bs, rb⟩ := Dp.reads I d y u hy ru
  have ra' : ReadsAll s.heap its.toArray.toList ds as := ra
  exact SeqAt.count_list_data pl.isList ra' rb h1 h2 (by have := Nat.min_le_right (PyData.depthAll ds) d.depth; omega) ⟨.int (ds.countP fun z => PyData.eqv z d : Nat), H, I.tok _, ⟨_, rfl⟩, q⟩
theorem j_count (hu : X.A.units + 64 < cLine) (ho : JE X Γ W o mo) (he : JE X Γ W e me)
    (h : ∀ to te, PE X o to → PE X e te → PE X (.Call (.Attribute o "count" apos) [e] [] cpos) (tBM X.K "list" (rCntD X) to (tCons te tNil))) : JE X Γ W (.Call (.Attribute o "count" apos) [e] [] cpos) (eM1 isLs cntM mo me) := by
  refine pe_w (h _ _ ho he) fun σ H Q q => ?_
  obtain ⟨φ, ρ, μ, ev, r, p⟩ := q
  refine bG ev r p fun φ1 H1 d v μ1 g1 e1 r1 rv p1 => ?_
  have fin : ∀ {xs : List D} {a : Addr} {vs : List V}, d = .lst xs → v = .ref a → H1 a = some (.lst vs) → a ∉ φ1 → RpL (X.G Γ) φ1 H1 xs vs → tyV X.K "list" v H1 ∧ tCons (tG (X.G Γ) (tieD (X.G Γ)) W me) tNil σ H1 fun zs H2 => rCntD X v zs H2 Q := by
    intro xs a vs ed ea ha na rl
    subst ed ea
    have p1 : Post (X.G Γ) (tieD (X.G Γ)) φ1 H1 (M.bind (me ρ) (fun y => cntM (.lst xs) y) μ1) Q fun cls dd H' => W cls dd σ H' := p1
    refine ⟨.inl ⟨rfl, _, SqL.of ha⟩, ?_⟩
    refine bG e1 r1 p1 fun φ2 H2 y u μ2 g2 e2' r2 ry p2 => ?_
    unfold cntM at p2
    by_cases c : (isPL xs && isP y && decide ((dP y).depth ≤ 50)) = true
    · simp only [if_pos c] at p2
      obtain ⟨c1, c3⟩ := andB c
      obtain ⟨c1, c2⟩ := andB c1
      have ha2 := g2.st _ _ ha na (fun _ z => nomatch z)
      exact ⟨a, vs, u, dPL xs, dP y, rfl, rfl, SqL.of ha2, (rl.grow g2).dp c1, ry.dp c2, isPL_plain xs c1, isP_plain y c2, of_decide_eq_true c3, Post.pure p2 r2 (.int _)⟩
    · simp only [if_neg c] at p2
      exact p2.elim
  cases rv with
  | lst ha na rl => exact fin rfl rfl ha na rl
  | _ => exact p1.elim
end
/-! ### classes of the text as values -/
theorem j_gl {X : Cx} {W : WX} {Γ : Gs} {x : Str} {a : Addr} {pos : Pos} (hg : Gl X x) (hm : X.mg x = some (.ref a)) (hdb : (x == ("__debug__" : Str)) = false := by decide) : JE X Γ W (.Name x pos) (eC (.gl x)) := by
  refine ⟨fun pins s σ H Q I h => ld_glob I hg hm ?_ hdb⟩
  obtain ⟨φ, ρ, μ, ev, r, p⟩ := h
  exact ⟨.ref a, H, I, rfl, Post.pure p r (.gl hm)⟩
theorem RoomH_units {k : Nat} {A : Around} (h : L2H.RoomH k A) : A.units + 64 < cLine := by have := h.un; omega
/-- one table's name -/
theorem tab_hu {T : List (Addr × Str)} (nd : (T.map (·.1)).Nodup) {P : Addr} {q : Str} (h : (P, q) ∈ T) : ∀ p ∈ T, p.1 = P → p.2 = q := by
  induction T with
  | nil => cases h
  | cons z r ih =>
    rw [List.map_cons, List.nodup_cons] at nd
    intro p hp e
    rcases List.mem_cons.mp h with h1 | h1
    · rcases List.mem_cons.mp hp with h2 | h2
      · rw [h2, ← h1]
      · exact absurd (by rw [← h1]; show P ∈ _; rw [← e]; exact List.mem_map_of_mem (f := (·.1)) h2) nd.1
    · rcases List.mem_cons.mp hp with h2 | h2
      · refine absurd ?_ nd.1
        rw [← h2, e]
        exact List.mem_map_of_mem (f := (·.1)) h1
      · exact ih nd.2 h1 p h2 e
end SE

/-! SEi: what the head tells of classes, as Booleans. -/
namespace SE
open PySem PySem.Spec PyProof.Rows L2
section
variable {K : PySem.W.Frag} {mg : Str → Option Value}
def Names (K : PySem.W.Frag) (mg : Str → Option Value) (cs : List Str) : Prop := ∀ c ∈ cs, mg c = some (.ref (He.ga K c))
theorem at_of {cs : List Str} {f : Str} (g : Names K mg cs) (h : atB K cs f = true) : AtOk K mg cs f := by
  intro c hc C e
  have e2 := g c hc
  rw [e] at e2
  cases e2
  obtain ⟨h1, h2⟩ := andB (List.all_eq_true.mp h c hc)
  exact ⟨xfB_ok h1, of_decide_eq_true h2⟩
theorem excB_ok {D : Addr} (h : excB K D = true) : ExcC K D := by
  obtain ⟨h1, h⟩ := andB h
  obtain ⟨h2, h⟩ := andB h
  obtain ⟨h3, h⟩ := andB h
  obtain ⟨h4, h⟩ := andB h
  obtain ⟨h5, h⟩ := andB h
  obtain ⟨h6, h⟩ := andB h
  obtain ⟨h7, h8⟩ := andB h
  exact ⟨of_decide_eq_true h1, of_decide_eq_true h2, of_decide_eq_true h3, h4, of_decide_eq_true h5, of_decide_eq_true h6, of_decide_eq_true h7, of_decide_eq_true h8⟩
theorem ct_of {ct : CT} (g1 : Names K mg (ct.es.map (·.c))) (g2 : Names K mg ct.ns) (h : ctB K ct = true) : CtOk K mg ct := by
  have key : ∀ e ∈ ct.es, ∀ C, mg e.c = some (.ref C) → C = He.ga K e.c := fun e he C q => by
    have := g1 e.c (List.mem_map_of_mem he)
    rw [q] at this
    cases this
    rfl
  refine ⟨fun e he C q => ?_, fun e he C q T hT a qa => ?_, fun e he C q T hT => ?_⟩
  · rw [key e he C q]
    exact excB_ok (andB (List.all_eq_true.mp h e he)).1
  · rw [key e he C q]
    have := g2 T hT
    rw [qa] at this
    cases this
    exact of_decide_eq_true (List.all_eq_true.mp (andB (andB (List.all_eq_true.mp h e he)).2).1 T hT)
  · rw [key e he C q]
    exact of_decide_eq_true (List.all_eq_true.mp (andB (andB (List.all_eq_true.mp h e he)).2).2 T hT)
theorem lookup_in {c : Str} {b : Bool} : ∀ {l : List (Str × Bool)}, l.lookup c = some b → (c, b) ∈ l
  | [], h => by cases h
  | (d, e) :: l, h => by
    by_cases q : c == d
    · simp only [List.lookup, q] at h
      cases h
      rw [beq_iff_eq.mp q]
      exact List.mem_cons_self
    · simp only [List.lookup, Bool.eq_false_iff.mpr q] at h
      exact List.mem_cons_of_mem _ (lookup_in h)
theorem mt_of1 {l : List (Str × Bool)} {a : Str} (g : Names K mg (l.map (·.1))) (h : mtB K l [a] = true) : MtOk mg (mtL l) (fun cls => PySem.W.exmOne K cls (.ref (He.ga K a))) := by
  intro c b C hb hC
  have m := lookup_in hb
  have e := g c (List.mem_map_of_mem (f := (·.1)) m)
  rw [hC] at e
  cases e
  exact of_decide_eq_true (List.all_eq_true.mp h _ m)
theorem mt_of3 {l : List (Str × Bool)} {a a2 a3 : Str} (g : Names K mg (l.map (·.1))) (h : mtB K l [a, a2, a3] = true) : MtOk mg (mtL l) (fun cls => PySem.W.exmAny K cls [.ref (He.ga K a), .ref (He.ga K a2), .ref (He.ga K a3)]) := by
  intro c b C hb hC
  have m := lookup_in hb
  have e := g c (List.mem_map_of_mem (f := (·.1)) m)
  rw [hC] at e
  cases e
  exact of_decide_eq_true (List.all_eq_true.mp h _ m)
theorem Names.nil : Names K mg [] := fun _ h => nomatch h
theorem Names.cons {c : Str} {cs : List Str} (h : mg c = some (.ref (He.ga K c))) (t : Names K mg cs) : Names K mg (c :: cs) := fun x hx => by
  rcases List.mem_cons.mp hx with e | e
  · rw [e]; exact h
  · exact t x e
end
section
variable {K : PySem.W.Frag} {x qual : Str} {params : Arguments} {body : List Stmt} {scope : Scope} {dvs : List V} {kws : List (Str × V)} {f : Addr} {fd : FuncData} {ps ks : List Str}
/-- every parameter written, some by name, where there are defaults too -/
theorem kb_nd (F : FunD K x qual params body scope dvs kws f fd) (hd : dvs ≠ []) (n : Nat) (l : List Nat) (hl : l.length = ps.length) (hi : ∀ i ∈ l, i < n + ks.length)
    (h : ∀ (T : Addr) (kV doc pm : Value) (an : Option Addr) (cdv ct : Value) (us ws its : List Value), us.length = n → ws.length = ks.length → its.length = dvs.length →
      ∃ k, bindArgs (PySem.W.fnOf x qual params body scope (.ref T) kV doc pm an cdv ct) ⟨us, ks.zip ws⟩ = seqItems? (.ref T) >>= k ∧ k (some its.toArray) = pure (ps.zip (pick l (us ++ ws)))) :
    KBg K fd ps ks n (fun us ws => pick l (us ++ ws)) (fun vs zs => pick l (vs ++ zs)) (fun ds cs => pick l (ds ++ cs)) := by
  obtain ⟨oc0, od0, dV0, kV0, doc0, pm0, an0, cdv0, ct0, osl0, e0, lk0, hcd0, hD, _⟩ := F.ex
  subst e0
  rcases hD with ⟨e, _⟩ | ⟨_, T, o, its, m, e, lT, oT, rT⟩
  · exact absurd e hd
  · subst e
    refine ⟨fun s us ws X h1 h2 => ?_, fun r1 r2 => pick_vals (r1.append r2) l, fun vs zs h1 h2 => by rw [pick_len (by intro i z; rw [List.length_append, h1, h2]; exact hi i z), hl], fun {P w Γ mg φ H ds vs cs zs} r1 r2 => pick_rp (r1.append r2) l⟩
    obtain ⟨k, e1, e2⟩ := h T kV0 doc0 pm0 an0 cdv0 ct0 us ws its h1 h2 rT.length.symm
    refine BindsTo.of_looks fun M => ?_
    rw [e1]
    exact looks_items X lT oT (.of_pure e2)
theorem plain_d {n : Nat} (F : FunD K x qual params body scope dvs kws f fd) (hd : dvs ≠ []) (hn : ps.length = n)
    (h : ∀ (T : Addr) (kV doc pm : Value) (an : Option Addr) (cdv ct : Value) (us its : List Value), us.length = n → its.length = dvs.length →
      ∃ k, bindArgs (PySem.W.fnOf x qual params body scope (.ref T) kV doc pm an cdv ct) ⟨us, []⟩ = seqItems? (.ref T) >>= k ∧ k (some its.toArray) = pure (ps.zip us)) :
    KBg K fd ps [] n (fun us _ => us) (fun vs _ => vs) (fun ds _ => ds) := by
  obtain ⟨oc0, od0, dV0, kV0, doc0, pm0, an0, cdv0, ct0, osl0, e0, lk0, hcd0, hD, _⟩ := F.ex
  subst e0
  rcases hD with ⟨e, _⟩ | ⟨_, T, o, its, m, e, lT, oT, rT⟩
  · exact absurd e hd
  · subst e
    refine KBg.plain hn fun s us X h1 => ?_
    obtain ⟨k, e1, e2⟩ := h T kV0 doc0 pm0 an0 cdv0 ct0 us its h1 rT.length.symm
    refine BindsTo.of_looks fun M => ?_
    rw [e1]
    exact looks_items X lT oT (.of_pure e2)
end
end SE

/-! SE7: reckoning with computations. -/
namespace SE
open PySem PySem.Spec PyProof.Rows L2
section
variable {α β : Type}
theorem M.bind_ok {m : M α} {k : α → M β} {μ μ' : Mem} {a : α} (h : m μ = .ok a μ') : (m >>= k) μ = k a μ' := by
  show M.bind m k μ = _
  unfold M.bind
  rw [h]
theorem M.bind_ap (m : M α) (k : α → M β) (μ : Mem) : (m >>= k) μ = (match m μ with
  | .ok a μ' => k a μ'
  | .exc e μ' => .exc e μ'
  | .bad => .bad) := rfl
theorem M.pure_ap (a : α) (μ : Mem) : (M.pure a : M α) μ = .ok a μ := rfl
end
section
variable {ρ : Ev} {μ : Mem} {f : D → D → M D} {g : D → M D} {h : List D → M D} {a b c : Ev → M D} {l : Ev → M (List D)} {t u : Ev → M Bool} {s s' : MS} {d : D} {i : Nat}
theorem eVar_ap : eVar i ρ μ = (match ρ[i]? with
  | some (some d) => .ok d μ
  | _ => .bad) := by
  unfold eVar M.pure M.bad
  cases ρ[i]? with
  | none => rfl
  | some o => cases o <;> rfl
theorem eC_ap : eC d ρ μ = .ok d μ := rfl
theorem e2_ap : e2 f a b ρ μ = (match a ρ μ with
  | .ok x μ1 => (match b ρ μ1 with
    | .ok y μ2 => f x y μ2
    | .exc e m => .exc e m
    | .bad => .bad)
  | .exc e m => .exc e m
  | .bad => .bad) := by
  show M.bind (a ρ) (fun x => M.bind (b ρ) fun y => f x y) μ = _
  unfold M.bind
  cases a ρ μ with
  | ok x μ1 =>
    dsimp only
    cases b ρ μ1 <;> rfl
  | exc e m => rfl
  | bad => rfl
theorem e1_ap : e1 g a ρ μ = (match a ρ μ with
  | .ok x μ1 => g x μ1
  | .exc e m => .exc e m
  | .bad => .bad) := by
  show M.bind (a ρ) (fun x => g x) μ = _
  unfold M.bind
  cases a ρ μ <;> rfl
theorem eL_ap : eL h l ρ μ = (match l ρ μ with
  | .ok x μ1 => h x μ1
  | .exc e m => .exc e m
  | .bad => .bad) := by
  show M.bind (l ρ) (fun x => h x) μ = _
  unfold M.bind
  cases l ρ μ <;> rfl
theorem eCall_ap : eCall h l ρ μ = (match l ρ μ with
  | .ok x μ1 => h x μ1
  | .exc e m => .exc e m
  | .bad => .bad) := by
  show M.bind (l ρ) (fun x => h x) μ = _
  unfold M.bind
  cases l ρ μ <;> rfl
theorem eCallK_ap {gD : List D → List D → List D} {k : Ev → M (List D)} : eCallK h gD l k ρ μ = (match l ρ μ with
  | .ok x μ1 => (match k ρ μ1 with
    | .ok y μ2 => h (gD x y) μ2
    | .exc e m => .exc e m
    | .bad => .bad)
  | .exc e m => .exc e m
  | .bad => .bad) := by
  show M.bind (l ρ) (fun x => M.bind (k ρ) fun y => h (gD x y)) μ = _
  unfold M.bind
  cases l ρ μ with
  | ok x μ1 =>
    dsimp only
    cases k ρ μ1 <;> rfl
  | exc e m => rfl
  | bad => rfl
theorem eLL_ap {h : List D → M (List D)} : eLL h l ρ μ = (match l ρ μ with
  | .ok x μ1 => h x μ1
  | .exc e m => .exc e m
  | .bad => .bad) := by
  show M.bind (l ρ) (fun x => h x) μ = _
  unfold M.bind
  cases l ρ μ <;> rfl
theorem eSeq_ap {g : D → M (List D)} : eSeq g a ρ μ = (match a ρ μ with
  | .ok x μ1 => g x μ1
  | .exc e m => .exc e m
  | .bad => .bad) := by
  show M.bind (a ρ) (fun x => g x) μ = _
  unfold M.bind
  cases a ρ μ <;> rfl
theorem lNil_ap : lNil ρ μ = .ok [] μ := rfl
theorem lCons_ap : lCons a l ρ μ = (match a ρ μ with
  | .ok x μ1 => (match l ρ μ1 with
    | .ok xs μ2 => .ok (x :: xs) μ2
    | .exc e m => .exc e m
    | .bad => .bad)
  | .exc e m => .exc e m
  | .bad => .bad) := by
  show M.bind (a ρ) (fun x => M.bind (l ρ) fun y => M.pure (x :: y)) μ = _
  unfold M.bind
  cases a ρ μ with
  | ok x μ1 =>
    dsimp only
    cases l ρ μ1 <;> rfl
  | exc e m => rfl
  | bad => rfl
theorem bTru_ap : bTru a ρ μ = (match a ρ μ with
  | .ok x μ1 => truB x μ1
  | .exc e m => .exc e m
  | .bad => .bad) := by
  show M.bind (a ρ) (fun x => truB x) μ = _
  unfold M.bind
  cases a ρ μ <;> rfl
theorem bOf_ap : bOf a ρ μ = (match a ρ μ with
  | .ok x μ1 => isBl x μ1
  | .exc e m => .exc e m
  | .bad => .bad) := by
  show M.bind (a ρ) (fun x => isBl x) μ = _
  unfold M.bind
  cases a ρ μ <;> rfl
theorem bNot_ap : bNot t ρ μ = (match t ρ μ with
  | .ok x μ1 => .ok (!x) μ1
  | .exc e m => .exc e m
  | .bad => .bad) := by
  show M.bind (t ρ) (fun x => M.pure (!x)) μ = _
  unfold M.bind
  cases t ρ μ <;> rfl
theorem bAnd_ap : bAnd t u ρ μ = (match t ρ μ with
  | .ok x μ1 => if x = true then u ρ μ1 else .ok false μ1
  | .exc e m => .exc e m
  | .bad => .bad) := by
  show M.bind (t ρ) (fun x => if x = true then u ρ else M.pure false) μ = _
  unfold M.bind
  cases t ρ μ with
  | ok x μ1 => cases x <;> rfl
  | exc e m => rfl
  | bad => rfl
theorem bOr_ap : bOr t u ρ μ = (match t ρ μ with
  | .ok x μ1 => if x = true then .ok true μ1 else u ρ μ1
  | .exc e m => .exc e m
  | .bad => .bad) := by
  show M.bind (t ρ) (fun x => if x = true then M.pure true else u ρ) μ = _
  unfold M.bind
  cases t ρ μ with
  | ok x μ1 => cases x <;> rfl
  | exc e m => rfl
  | bad => rfl
theorem eAnd_ap : eAnd a b ρ μ = (match a ρ μ with
  | .ok (.bl true) μ1 => b ρ μ1
  | .ok (.bl false) μ1 => .ok (.bl false) μ1
  | .ok _ _ => .bad
  | .exc e m => .exc e m
  | .bad => .bad) := by
  show M.bind (a ρ) (fun x => M.bind (isBl x) fun c => if c = true then b ρ else M.pure (D.bl false)) μ = _
  unfold M.bind isBl
  cases a ρ μ with
  | ok x μ1 =>
    cases x with
    | bl k => cases k <;> rfl
    | _ => rfl
  | exc e m => rfl
  | bad => rfl
theorem eOr_ap : eOr a b ρ μ = (match a ρ μ with
  | .ok (.bl true) μ1 => .ok (.bl true) μ1
  | .ok (.bl false) μ1 => b ρ μ1
  | .ok _ _ => .bad
  | .exc e m => .exc e m
  | .bad => .bad) := by
  show M.bind (a ρ) (fun x => M.bind (isBl x) fun c => if c = true then M.pure (D.bl true) else b ρ) μ = _
  unfold M.bind isBl
  cases a ρ μ with
  | ok x μ1 =>
    cases x with
    | bl k => cases k <;> rfl
    | _ => rfl
  | exc e m => rfl
  | bad => rfl
theorem eNot_ap : eNot a ρ μ = (match a ρ μ with
  | .ok (.bl k) μ1 => .ok (.bl (!k)) μ1
  | .ok _ _ => .bad
  | .exc e m => .exc e m
  | .bad => .bad) := by
  show M.bind (a ρ) (fun x => M.bind (isBl x) fun c => M.pure (D.bl (!c))) μ = _
  unfold M.bind isBl
  cases a ρ μ with
  | ok x μ1 => cases x <;> rfl
  | exc e m => rfl
  | bad => rfl
theorem eIf_ap : eIf t a b ρ μ = (match t ρ μ with
  | .ok x μ1 => if x = true then a ρ μ1 else b ρ μ1
  | .exc e m => .exc e m
  | .bad => .bad) := by
  show M.bind (t ρ) (fun x => if x = true then a ρ else b ρ) μ = _
  unfold M.bind
  cases t ρ μ with
  | ok x μ1 => cases x <;> rfl
  | exc e m => rfl
  | bad => rfl
theorem e3c_ap {f g : D → D → M D} : e3c f g a b c ρ μ = (match a ρ μ with
  | .ok x μ1 => (match b ρ μ1 with
    | .ok y μ2 => (match f x y μ2 with
      | .ok (.bl true) μ3 => (match c ρ μ3 with
        | .ok z μ4 => g y z μ4
        | .exc e m => .exc e m
        | .bad => .bad)
      | .ok (.bl false) μ3 => .ok (.bl false) μ3
      | .ok _ _ => .bad
      | .exc e m => .exc e m
      | .bad => .bad)
    | .exc e m => .exc e m
    | .bad => .bad)
  | .exc e m => .exc e m
  | .bad => .bad) := by
  show M.bind (a ρ) (fun x => M.bind (b ρ) fun y => M.bind (f x y) fun z => M.bind (isBl z) fun k => if k = true then M.bind (c ρ) (fun w => g y w) else M.pure (D.bl false)) μ = _
  unfold M.bind isBl
  cases a ρ μ with
  | ok x μ1 =>
    dsimp only
    cases b ρ μ1 with
    | ok y μ2 =>
      dsimp only
      cases f x y μ2 with
      | ok z μ3 =>
        cases z with
        | bl k =>
          cases k with
          | false => rfl
          | true =>
            dsimp only
            rw [if_pos rfl]
            cases c ρ μ3 <;> rfl
        | _ => rfl
      | exc e m => rfl
      | bad => rfl
    | exc e m => rfl
    | bad => rfl
  | exc e m => rfl
  | bad => rfl
theorem sNext_ap : sNext ρ μ = .ok (.nx ρ) μ := rfl
theorem sSeq_ap : sSeq s s' ρ μ = (match s ρ μ with
  | .ok (.nx ρ') μ' => s' ρ' μ'
  | r => r) := rfl
theorem sSet_ap : sSet i a ρ μ = bindS (a ρ μ) ρ fun d μ' => .ok (.nx (ρ.set i (some d))) μ' := rfl
theorem sDrop_ap : sDrop a ρ μ = bindS (a ρ μ) ρ fun _ μ' => .ok (.nx ρ) μ' := rfl
theorem sRet_ap : sRet a ρ μ = bindS (a ρ μ) ρ fun d μ' => .ok (.rt d) μ' := rfl
theorem sIf_ap : sIf t s s' ρ μ = bindS (t ρ μ) ρ fun c μ' => if c = true then s ρ μ' else s' ρ μ' := rfl
theorem sAsg_ap {f : GT} : sAsg f a ρ μ = bindS (a ρ μ) ρ fun d μ' => (match f d ρ with
  | some ρ' => .ok (.nx ρ') μ'
  | none => .bad) := rfl
theorem sPar_ap {j : Nat} : sPar i j l ρ μ = bindS (l ρ μ) ρ fun ds μ' => (match ds with
  | [x, y] => .ok (.nx ((ρ.set i (some x)).set j (some y))) μ'
  | _ => .bad) := rfl
theorem bindS_ok {α : Type} {x : α} {k : α → Mem → RS} : bindS (.ok x μ) ρ k = k x μ := rfl
theorem bindS_exc {α : Type} {e : Ex} {k : α → Mem → RS} : bindS (.exc e μ) ρ k = .exc e ρ μ := rfl
end
/-! ### what is wanted behind a computation -/
def wr {α : Type} (r : Res α) (Q : α → Mem → Prop) (E : Ex → Mem → Prop) : Prop := match r with
  | .ok a μ => Q a μ
  | .exc e μ => E e μ
  | .bad => False
/-- .. behind a statement: N on, R returned, B break, C continue, E raised -/
def ws (r : RS) (N : Ev → Mem → Prop) (R : D → Mem → Prop) (B C : Ev → Mem → Prop) (E : Ex → Mem → Prop) : Prop := match r with
  | .ok (.nx ρ) μ => N ρ μ
  | .ok (.rt d) μ => R d μ
  | .ok (.bk ρ) μ => B ρ μ
  | .ok (.ct ρ) μ => C ρ μ
  | .exc e _ μ => E e μ
  | .bad => False
section
variable {α β : Type} {ρ : Ev} {μ : Mem} {Q : α → Mem → Prop} {P : D → Mem → Prop} {L : List D → Mem → Prop} {T : Bool → Mem → Prop} {E : Ex → Mem → Prop} {f : D → D → M D} {g : D → M D} {h : List D → M D} {a b c : Ev → M D} {l k : Ev → M (List D)} {t u : Ev → M Bool} {s s' : MS} {d : D} {i j : Nat}
  {N B C : Ev → Mem → Prop} {R : D → Mem → Prop}
theorem wr_ok {x : α} : wr (.ok x μ) Q E = Q x μ := rfl
theorem wr_exc {e : Ex} : wr (.exc e μ) Q E = E e μ := rfl
theorem wr_bad : wr (.bad : Res α) Q E = False := rfl
theorem wr_ite {p : Prop} [Decidable p] {x y : Res α} : wr (if p then x else y) Q E = if p then wr x Q E else wr y Q E := by split <;> rfl
theorem wr_bind {m : M β} {k : β → M α} : wr ((m >>= k) μ) Q E = wr (m μ) (fun x μ1 => wr (k x μ1) Q E) E := by
  show wr (M.bind m k μ) Q E = _
  unfold M.bind wr
  cases m μ <;> rfl
theorem wr_mono {r : Res α} {Q' : α → Mem → Prop} {E' : Ex → Mem → Prop} (h : wr r Q E) (hq : ∀ x μ, Q x μ → Q' x μ) (he : ∀ e μ, E e μ → E' e μ) : wr r Q' E' := by
  cases r with
  | ok x μ => exact hq _ _ h
  | exc e μ => exact he _ _ h
  | bad => exact h
theorem wr_eVar : wr (eVar i ρ μ) P E = (match ρ[i]? with
  | some (some d) => P d μ
  | _ => False) := by
  rw [eVar_ap]
  cases ρ[i]? with
  | none => rfl
  | some o => cases o <;> rfl
theorem wr_eC : wr (eC d ρ μ) P E = P d μ := rfl
theorem wr_e2 : wr (e2 f a b ρ μ) P E = wr (a ρ μ) (fun x μ1 => wr (b ρ μ1) (fun y μ2 => wr (f x y μ2) P E) E) E := by
  rw [e2_ap]
  unfold wr
  cases a ρ μ with
  | ok x μ1 =>
    dsimp only
    cases b ρ μ1 <;> rfl
  | _ => rfl
theorem wr_e1 : wr (e1 g a ρ μ) P E = wr (a ρ μ) (fun x μ1 => wr (g x μ1) P E) E := by
  rw [e1_ap]
  unfold wr
  cases a ρ μ <;> rfl
theorem wr_eL : wr (eL h l ρ μ) P E = wr (l ρ μ) (fun x μ1 => wr (h x μ1) P E) E := by
  rw [eL_ap]
  unfold wr
  cases l ρ μ <;> rfl
theorem wr_eCall : wr (eCall h l ρ μ) P E = wr (l ρ μ) (fun x μ1 => wr (h x μ1) P E) E := by
  rw [eCall_ap]
  unfold wr
  cases l ρ μ <;> rfl
theorem wr_eLL {h : List D → M (List D)} : wr (eLL h l ρ μ) L E = wr (l ρ μ) (fun x μ1 => wr (h x μ1) L E) E := by
  rw [eLL_ap]
  unfold wr
  cases l ρ μ <;> rfl
theorem wr_eSeq {g : D → M (List D)} : wr (eSeq g a ρ μ) L E = wr (a ρ μ) (fun x μ1 => wr (g x μ1) L E) E := by
  rw [eSeq_ap]
  unfold wr
  cases a ρ μ <;> rfl
theorem wr_eCallK {gD : List D → List D → List D} : wr (eCallK h gD l k ρ μ) P E = wr (l ρ μ) (fun x μ1 => wr (k ρ μ1) (fun y μ2 => wr (h (gD x y) μ2) P E) E) E := by
  rw [eCallK_ap]
  unfold wr
  cases l ρ μ with
  | ok x μ1 =>
    dsimp only
    cases k ρ μ1 <;> rfl
  | _ => rfl
theorem wr_lNil : wr (lNil ρ μ) L E = L [] μ := rfl
theorem wr_lCons : wr (lCons a l ρ μ) L E = wr (a ρ μ) (fun x μ1 => wr (l ρ μ1) (fun xs μ2 => L (x :: xs) μ2) E) E := by
  rw [lCons_ap]
  unfold wr
  cases a ρ μ with
  | ok x μ1 =>
    dsimp only
    cases l ρ μ1 <;> rfl
  | _ => rfl
theorem wr_bTru : wr (bTru a ρ μ) T E = wr (a ρ μ) (fun x μ1 => wr (truB x μ1) T E) E := by
  rw [bTru_ap]
  unfold wr
  cases a ρ μ <;> rfl
theorem wr_bOf : wr (bOf a ρ μ) T E = wr (a ρ μ) (fun x μ1 => wr (isBl x μ1) T E) E := by
  rw [bOf_ap]
  unfold wr
  cases a ρ μ <;> rfl
theorem wr_bNot : wr (bNot t ρ μ) T E = wr (t ρ μ) (fun x μ1 => T (!x) μ1) E := by
  rw [bNot_ap]
  unfold wr
  cases t ρ μ <;> rfl
theorem wr_bAnd : wr (bAnd t u ρ μ) T E = wr (t ρ μ) (fun x μ1 => if x = true then wr (u ρ μ1) T E else T false μ1) E := by
  rw [bAnd_ap]
  unfold wr
  cases t ρ μ with
  | ok x μ1 => cases x <;> rfl
  | _ => rfl
theorem wr_bOr : wr (bOr t u ρ μ) T E = wr (t ρ μ) (fun x μ1 => if x = true then T true μ1 else wr (u ρ μ1) T E) E := by
  rw [bOr_ap]
  unfold wr
  cases t ρ μ with
  | ok x μ1 => cases x <;> rfl
  | _ => rfl
theorem wr_isBl {b : Bool} : wr (isBl (.bl b) μ) T E = T b μ := rfl
theorem wr_eAnd : wr (eAnd a b ρ μ) P E = wr (a ρ μ) (fun x μ1 => wr (isBl x μ1) (fun c μ2 => if c = true then wr (b ρ μ2) P E else P (.bl false) μ2) E) E := by
  rw [eAnd_ap]
  unfold wr isBl
  cases a ρ μ with
  | ok x μ1 =>
    cases x with
    | bl k => cases k <;> rfl
    | _ => rfl
  | _ => rfl
theorem wr_eOr : wr (eOr a b ρ μ) P E = wr (a ρ μ) (fun x μ1 => wr (isBl x μ1) (fun c μ2 => if c = true then P (.bl true) μ2 else wr (b ρ μ2) P E) E) E := by
  rw [eOr_ap]
  unfold wr isBl
  cases a ρ μ with
  | ok x μ1 =>
    cases x with
    | bl k => cases k <;> rfl
    | _ => rfl
  | _ => rfl
theorem wr_eNot : wr (eNot a ρ μ) P E = wr (a ρ μ) (fun x μ1 => wr (isBl x μ1) (fun c μ2 => P (.bl (!c)) μ2) E) E := by
  rw [eNot_ap]
  unfold wr isBl
  cases a ρ μ with
  | ok x μ1 => cases x <;> rfl
  | _ => rfl
theorem wr_eIf : wr (eIf t a b ρ μ) P E = wr (t ρ μ) (fun x μ1 => if x = true then wr (a ρ μ1) P E else wr (b ρ μ1) P E) E := by
  rw [eIf_ap]
  unfold wr
  cases t ρ μ with
  | ok x μ1 => cases x <;> rfl
  | _ => rfl
theorem wr_e3c {f g : D → D → M D} : wr (e3c f g a b c ρ μ) P E = wr (a ρ μ) (fun x μ1 => wr (b ρ μ1) (fun y μ2 => wr (f x y μ2) (fun z μ3 => wr (isBl z μ3) (fun k μ4 => if k = true then wr (c ρ μ4) (fun w μ5 => wr (g y w μ5) P E) E else P (.bl false) μ4) E) E) E) E := by
  rw [e3c_ap]
  unfold wr isBl
  cases a ρ μ with
  | ok x μ1 =>
    dsimp only
    cases b ρ μ1 with
    | ok y μ2 =>
      dsimp only
      cases f x y μ2 with
      | ok z μ3 =>
        cases z with
        | bl k =>
          cases k with
          | false => rfl
          | true =>
            dsimp only
            rw [if_pos rfl]
            cases c ρ μ3 <;> rfl
        | _ => rfl
      | _ => rfl
    | _ => rfl
  | _ => rfl
/-! statements -/
theorem ws_bindS {r : Res β} {k : β → Mem → RS} : ws (bindS r ρ k) N R B C E = wr r (fun x μ1 => ws (k x μ1) N R B C E) E := by
  unfold bindS wr
  cases r <;> rfl
theorem ws_nx : ws (.ok (.nx ρ) μ) N R B C E = N ρ μ := rfl
theorem ws_sNext : ws (sNext ρ μ) N R B C E = N ρ μ := rfl
theorem ws_sSeq : ws (sSeq s s' ρ μ) N R B C E = ws (s ρ μ) (fun ρ' μ' => ws (s' ρ' μ') N R B C E) R B C E := by
  rw [sSeq_ap]
  unfold ws
  cases s ρ μ with
  | ok f μ1 => cases f <;> rfl
  | _ => rfl
theorem ws_sSet : ws (sSet i a ρ μ) N R B C E = wr (a ρ μ) (fun d μ1 => N (ρ.set i (some d)) μ1) E := by
  rw [sSet_ap, ws_bindS]
  rfl
theorem ws_sDrop : ws (sDrop a ρ μ) N R B C E = wr (a ρ μ) (fun d μ1 => N ρ μ1) E := by
  rw [sDrop_ap, ws_bindS]
  rfl
theorem ws_sRet : ws (sRet a ρ μ) N R B C E = wr (a ρ μ) R E := by
  rw [sRet_ap, ws_bindS]
  rfl
theorem ws_sRetN : ws (sRetN ρ μ) N R B C E = R .non μ := rfl
theorem ws_sBrk : ws (sBrk ρ μ) N R B C E = B ρ μ := rfl
theorem ws_sCnt : ws (sCnt ρ μ) N R B C E = C ρ μ := rfl
theorem ws_sIf : ws (sIf t s s' ρ μ) N R B C E = wr (t ρ μ) (fun c μ1 => if c = true then ws (s ρ μ1) N R B C E else ws (s' ρ μ1) N R B C E) E := by
  rw [sIf_ap, ws_bindS]
  unfold wr
  cases t ρ μ with
  | ok x μ1 => cases x <;> rfl
  | _ => rfl
theorem ws_sAsg {f : GT} : ws (sAsg f a ρ μ) N R B C E = wr (a ρ μ) (fun d μ1 => match f d ρ with
  | some ρ' => N ρ' μ1
  | none => False) E := by
  rw [sAsg_ap, ws_bindS]
  unfold wr
  cases a ρ μ with
  | ok x μ1 =>
    dsimp only
    cases f x ρ <;> rfl
  | _ => rfl
theorem ws_sPar : ws (sPar i j l ρ μ) N R B C E = wr (l ρ μ) (fun ds μ1 => match ds with
  | [x, y] => N ((ρ.set i (some x)).set j (some y)) μ1
  | _ => False) E := by
  rw [sPar_ap, ws_bindS]
  unfold wr
  cases l ρ μ with
  | ok x μ1 =>
    match x with
    | [] => rfl
    | [_] => rfl
    | [_, _] => rfl
    | _ :: _ :: _ :: _ => rfl
  | _ => rfl
theorem ws_sSub {mo mi : Ev → M D} : ws (sSub mo mi a ρ μ) N R B C E = wr (a ρ μ) (fun d μ1 => wr (mo ρ μ1) (fun o μ2 => wr (mi ρ μ2) (fun i μ3 => ws (subR o i d ρ μ3) N R B C E) E) E) E := by
  unfold sSub
  simp only [ws_bindS]
theorem ws_subR {l : Nat} {k : Int} {xs : List D} {j : Nat} (h : μ[l]? = some (.lst xs)) (hj : ixN xs.length k = some j) : ws (subR (.loc l) (.int k) d ρ μ) N R B C E = N ρ (μ.set l (.lst (xs.set j d))) := by
  unfold subR
  simp only [h, hj]
  rfl
theorem wr_callM {n : Nat} {ds : List D} : wr (callM n s ds μ) P E = ws (s (ds.map some ++ List.replicate (n - ds.length) none) μ) (fun _ μ1 => P .non μ1) P (fun _ _ => False) (fun _ _ => False) E := by
  unfold callM ws wr
  cases s (ds.map some ++ List.replicate (n - ds.length) none) μ with
  | ok f μ1 => cases f <;> rfl
  | _ => rfl
theorem ws_sForE {m : Ev → M (List D)} {f : GT} : ws (sForE m f s ρ μ) N R B C E = wr (m ρ μ) (fun ds μ1 => ws (sFor f s ds ρ μ1) N R B C E) E := by
  unfold sForE
  rw [ws_bindS]
theorem ws_sFor_nil {f : GT} : ws (sFor f s [] ρ μ) N R B C E = N ρ μ := rfl
theorem ws_sTurn {r : RS} {next : MS} : ws (sTurn r next) N R B C E = ws r (fun ρ μ => ws (next ρ μ) N R B C E) R N (fun ρ μ => ws (next ρ μ) N R B C E) E := by
  unfold sTurn ws
  cases r with
  | ok f μ1 => cases f <;> rfl
  | _ => rfl
theorem ws_sFor_cons {f : GT} {ds : List D} : ws (sFor f s (d :: ds) ρ μ) N R B C E = (match f d ρ with
  | some ρ1 => ws (s ρ1 μ) (fun ρ' μ' => ws (sFor f s ds ρ' μ') N R B C E) R N (fun ρ' μ' => ws (sFor f s ds ρ' μ') N R B C E) E
  | none => False) := by
  rw [show sFor f s (d :: ds) ρ μ = (match f d ρ with
    | some ρ1 => sTurn (s ρ1 μ) (sFor f s ds)
    | none => .bad) from rfl]
  cases f d ρ with
  | none => rfl
  | some ρ1 => exact ws_sTurn
/-- a for by what holds between two turns -/
theorem ws_for {f : GT} (I : Nat → Ev → Mem → Prop) {ds : List D} (h0 : I 0 ρ μ)
    (hs : ∀ j d ρ μ, ds[j]? = some d → I j ρ μ → (match f d ρ with
      | some ρ1 => ws (s ρ1 μ) (fun ρ' μ' => I (j + 1) ρ' μ') R N (fun ρ' μ' => I (j + 1) ρ' μ') E
      | none => False)) (hd : ∀ ρ μ, I ds.length ρ μ → N ρ μ) : ws (sFor f s ds ρ μ) N R B C E := by
  have key : ∀ (rest : List D) (i : Nat) (ρ : Ev) (μ : Mem), i + rest.length = ds.length → ds.drop i = rest → I i ρ μ → ws (sFor f s rest ρ μ) N R B C E := by
    intro rest
    induction rest with
    | nil =>
      intro i ρ μ hl e h
      rw [ws_sFor_nil]
      have : i = ds.length := by simpa using hl
      subst this
      exact hd ρ μ h
    | cons d rest ih =>
      intro i ρ μ hl e h
      rw [ws_sFor_cons]
      have hi : i < ds.length := by
        simp at hl
        omega
      have e1 : ds[i]? = some d := by
        have e2 : (ds.drop i)[0]? = some d := by rw [e]; rfl
        rw [List.getElem?_drop] at e2
        simpa using e2
      have e3 : ds.drop (i + 1) = rest := by
        rw [← List.tail_drop, e]
        rfl
      have st := hs i d ρ μ e1 h
      cases q : f d ρ with
      | none => rw [q] at st; exact st
      | some ρ1 =>
        rw [q] at st
        dsimp only at st ⊢
        have hl' : i + 1 + rest.length = ds.length := by
          simp at hl
          omega
        unfold ws at st ⊢
        cases q2 : s ρ1 μ with
        | exc e μ1 => rw [q2] at st; exact st
        | bad => rw [q2] at st; exact st
        | ok fl μ1 =>
          rw [q2] at st
          cases fl with
          | nx ρ' => exact ih (i + 1) ρ' μ1 hl' e3 st
          | ct ρ' => exact ih (i + 1) ρ' μ1 hl' e3 st
          | bk ρ' => exact st
          | rt d => exact st
  exact key ds 0 ρ μ (by simp) rfl h0
/-- a while by what holds between two turns and a measure -/
theorem ws_while (I : Ev → Mem → Prop) (V : Ev → Mem → Nat) (h0 : I ρ μ)
    (hs : ∀ ρ μ, I ρ μ → wr (t ρ μ) (fun k μ1 => if k = true then ws (s ρ μ1) (fun ρ' μ' => I ρ' μ' ∧ V ρ' μ' < V ρ μ) R N (fun ρ' μ' => I ρ' μ' ∧ V ρ' μ' < V ρ μ) E else N ρ μ1) E) : ws (sWhile t s ρ μ) N R B C E := by
  have key : ∀ (v : Nat) (ρ : Ev) (μ : Mem), V ρ μ ≤ v → I ρ μ → ∃ r, WhileTo t s ρ μ r ∧ ws r N R B C E := by
    intro v
    induction v with
    | zero =>
      intro ρ μ hv h
      have st := hs ρ μ h
      unfold wr at st
      cases q : t ρ μ with
      | exc e μ1 =>
        rw [q] at st
        exact ⟨.exc e ρ μ1, ⟨1, by unfold whileF bindS; rw [q]⟩, st⟩
      | bad => rw [q] at st; exact st.elim
      | ok k μ1 =>
        rw [q] at st
        dsimp only at st
        cases k with
        | false => exact ⟨_, WhileTo.stop q, st⟩
        | true =>
          rw [if_pos rfl] at st
          unfold ws at st
          cases q2 : s ρ μ1 with
          | exc e ρ' μ2 => rw [q2] at st; exact ⟨.exc e ρ' μ2, ⟨1, by unfold whileF bindS; rw [q]; dsimp only; rw [if_pos rfl, q2]; rfl⟩, st⟩
          | bad => rw [q2] at st; exact st.elim
          | ok f μ2 =>
            rw [q2] at st
            cases f with
            | nx ρ' => have := st.2; omega
            | ct ρ' => have := st.2; omega
            | bk ρ' => exact ⟨.ok (.nx ρ') μ2, ⟨1, by unfold whileF bindS; rw [q]; dsimp only; rw [if_pos rfl, q2]; rfl⟩, st⟩
            | rt d => exact ⟨.ok (.rt d) μ2, ⟨1, by unfold whileF bindS; rw [q]; dsimp only; rw [if_pos rfl, q2]; rfl⟩, st⟩
    | succ v ih =>
      intro ρ μ hv h
      have st := hs ρ μ h
      unfold wr at st
      cases q : t ρ μ with
      | exc e μ1 =>
        rw [q] at st
        exact ⟨.exc e ρ μ1, ⟨1, by unfold whileF bindS; rw [q]⟩, st⟩
      | bad => rw [q] at st; exact st.elim
      | ok k μ1 =>
        rw [q] at st
        dsimp only at st
        cases k with
        | false => exact ⟨_, WhileTo.stop q, st⟩
        | true =>
          rw [if_pos rfl] at st
          unfold ws at st
          have tail : ∀ ρ' μ2, I ρ' μ2 ∧ V ρ' μ2 < V ρ μ → sTurn (s ρ μ1) (fun a b => .bad) = .bad → (∀ n, sTurn (s ρ μ1) (whileF t s n) = whileF t s n ρ' μ2) → ∃ r, WhileTo t s ρ μ r ∧ ws r N R B C E := fun ρ' μ2 hi _ he => by
            obtain ⟨r, ⟨n, e⟩, hr⟩ := ih ρ' μ2 (by have := hi.2; omega) hi.1
            exact ⟨r, ⟨n + 1, by unfold whileF bindS; rw [q]; dsimp only; rw [if_pos rfl, he, e]⟩, hr⟩
          cases q2 : s ρ μ1 with
          | exc e ρ' μ2 => rw [q2] at st; exact ⟨.exc e ρ' μ2, ⟨1, by unfold whileF bindS; rw [q]; dsimp only; rw [if_pos rfl, q2]; rfl⟩, st⟩
          | bad => rw [q2] at st; exact st.elim
          | ok f μ2 =>
            rw [q2] at st
            cases f with
            | nx ρ' => exact tail ρ' μ2 st (by rw [q2]; rfl) fun n => by rw [q2]; rfl
            | ct ρ' => exact tail ρ' μ2 st (by rw [q2]; rfl) fun n => by rw [q2]; rfl
            | bk ρ' => exact ⟨.ok (.nx ρ') μ2, ⟨1, by unfold whileF bindS; rw [q]; dsimp only; rw [if_pos rfl, q2]; rfl⟩, st⟩
            | rt d => exact ⟨.ok (.rt d) μ2, ⟨1, by unfold whileF bindS; rw [q]; dsimp only; rw [if_pos rfl, q2]; rfl⟩, st⟩
  obtain ⟨r, h1, h2⟩ := key _ ρ μ (Nat.le_refl _) h0
  have hne : r ≠ .bad := fun z => by rw [z] at h2; exact h2
  rw [h1.eq hne]
  exact h2
end
end SE

/-! SE8: the reckoning's tactic, the values of the operations, the drawing of numbers. -/
namespace SE
open PySem PySem.Spec PyProof.Rows L2
section
variable {μ : Mem} {i j : Int} {x y : Str} {a b d e : D} {xs ys ds : List D} {k c : Bool} {p : Int → Int → Bool}
theorem addM_i : addM (.int i) (.int j) μ = .ok (.int (i + j)) μ := rfl
theorem addM_s (h : x.length + y.length ≤ 1000000) : addM (.str x) (.str y) μ = .ok (.str (x ++ y)) μ := if_pos h
theorem addM_l (h : xs.length + ys.length ≤ 100000) : addM (.lst xs) (.lst ys) μ = .ok (.lst (xs ++ ys)) μ := if_pos h
theorem addM_t (h : xs.length + ys.length ≤ 100000) : addM (.tup xs) (.tup ys) μ = .ok (.tup (xs ++ ys)) μ := if_pos h
theorem subM_i : subM (.int i) (.int j) μ = .ok (.int (i - j)) μ := rfl
theorem mulOk_gen {N M : Nat} (hi : i.natAbs < N) (hj : j.natAbs < M) : (decide (i.natAbs < N) && decide (j.natAbs < M)) = true := by
  rw [decide_eq_true hi, decide_eq_true hj]
  rfl
theorem mulOk_pw {n m : Nat} (hi : i.natAbs < 2 ^ n) (hj : j.natAbs < 2 ^ m) (hn : n ≤ 400000) (hm : m ≤ 400000) : mulOk i j = true :=
  mulOk_gen (Nat.lt_of_lt_of_le hi (Nat.pow_le_pow_right (by omega) hn)) (Nat.lt_of_lt_of_le hj (Nat.pow_le_pow_right (by omega) hm))
theorem mulOk_le {B : Nat} (hi : i.natAbs ≤ B) (hj : j.natAbs ≤ B) (hB : B < 2 ^ 250) : mulOk i j = true :=
  mulOk_pw (Nat.lt_of_le_of_lt hi hB) (Nat.lt_of_le_of_lt hj hB) (by omega) (by omega)
theorem mulM_i (h : mulOk i j = true) : mulM (.int i) (.int j) μ = .ok (.int (i * j)) μ := by
  unfold mulM
  simp only [h, if_true]
theorem fdivM_i (h0 : 0 < j) (h1 : j.natAbs < 2 ^ 8000) : fdivM (.int i) (.int j) μ = .ok (.int (i / j)) μ := by
  have h : fdivOk j = true := by
    unfold fdivOk
    exact Bool.and_eq_true_iff.mpr ⟨decide_eq_true h0, decide_eq_true h1⟩
  unfold fdivM
  simp only [h, if_true]
theorem modM_i (h : 0 < j) : modM (.int i) (.int j) μ = .ok (.int (i % j)) μ := if_pos h
theorem powM_i (h : 0 ≤ j ∧ j ≤ 1000 ∧ i.natAbs < 2 ^ 64) : powM (.int i) (.int j) μ = .ok (.int (i ^ j.toNat)) μ := by
  unfold powM
  exact if_pos h
theorem negM_i : negM (.int i) μ = .ok (.int (-i)) μ := rfl
theorem cmpM_i : cmpM p (.int i) (.int j) μ = .ok (.bl (p i j)) μ := rfl
theorem eqM_i : eqM (.int i) (.int j) μ = .ok (.bl (decide (i = j))) μ := rfl
theorem eqM_s : eqM (.str x) (.str y) μ = .ok (.bl (decide (x = y))) μ := rfl
theorem neM_i : neM (.int i) (.int j) μ = .ok (.bl (!decide (i = j))) μ := rfl
theorem neM_s : neM (.str x) (.str y) μ = .ok (.bl (!decide (x = y))) μ := rfl
theorem absM_i : absM [.int i] μ = .ok (.int (if i < 0 then -i else i)) μ := rfl
theorem intM_i : intM [.int i] μ = .ok (.int i) μ := rfl
theorem intM_b : intM [.bl k] μ = .ok (.int (if k then 1 else 0)) μ := rfl
theorem max2M_i : max2M [.int i, .int j] μ = .ok (.int (if j > i then j else i)) μ := rfl
theorem min2M_i : min2M [.int i, .int j] μ = .ok (.int (if j < i then j else i)) μ := rfl
theorem lenM_t : lenM [.tup xs] μ = .ok (.int xs.length) μ := rfl
theorem lenM_l : lenM [.lst xs] μ = .ok (.int xs.length) μ := rfl
theorem lenM_r : lenM [.ro xs] μ = .ok (.int xs.length) μ := rfl
theorem tupM_ap : tupM ds μ = if ds.length ≤ 100000 then .ok (.tup ds) μ else .bad := rfl
theorem lstM_ap : lstM ds μ = if ds.length ≤ 100000 then .ok (.lst ds) μ else .bad := rfl
theorem strM_s : strM [.str x] μ = .ok (.str x) μ := rfl
theorem strM_i (h : i.natAbs.log2 < 1920) : strM [.int i] μ = .ok (.str (toString i)) μ := if_pos h
theorem reprM_ap (h : shOk d = true) : reprM [d] μ = .ok (.str (dP d).shown) μ := if_pos h
theorem truB_b : truB (.bl k) μ = .ok k μ := rfl
theorem isBl_b : isBl (.bl k) μ = .ok k μ := rfl
theorem seqL_l : seqL (.lst xs) μ = .ok xs μ := rfl
theorem seqT_t : seqT (.tup xs) μ = .ok xs μ := rfl
theorem isNM_n : isNM .non .non μ = .ok (.bl true) μ := rfl
theorem isNM_i : isNM (.int i) .non μ = .ok (.bl false) μ := rfl
theorem atI_0 : atI (a :: ds) 0 = some a := by
  unfold atI ixN
  simp
theorem atI_nat {n : Nat} (h : n < ds.length) : atI ds (n : Int) = some ds[n] := by
  unfold atI ixN
  rw [if_pos (by omega : (0 : Int) ≤ (n : Int)), if_pos (by omega)]
  simp [h]
theorem atI_of {n : Nat} (hi : i = n) (h : ds[n]? = some a) : atI ds i = some a := by
  subst hi
  obtain ⟨h1, h2⟩ := List.getElem?_eq_some_iff.mp h
  rw [atI_nat h1, h2]
theorem ixM_t (h : atI xs i = some d) : ixM (.tup xs) (.int i) μ = .ok d μ := by
  show (match atI xs i with | some d => Res.ok d μ | none => .bad) = _
  rw [h]
theorem ixM_l (h : atI xs i = some d) : ixM (.lst xs) (.int i) μ = .ok d μ := by
  show (match atI xs i with | some d => Res.ok d μ | none => .bad) = _
  rw [h]
theorem ixM_r (h : atI xs i = some d) : ixM (.ro xs) (.int i) μ = .ok d μ := by
  show (match atI xs i with | some d => Res.ok d μ | none => .bad) = _
  rw [h]
theorem ixM_o {l : Nat} (hl : μ[l]? = some (.lst xs)) (h : atI xs i = some d) : ixM (.loc l) (.int i) μ = .ok d μ := by
  show (match μ[l]? with
    | some (.lst xs) => (match atI xs i with | some d => Res.ok d μ | none => .bad)
    | _ => .bad) = _
  rw [hl]
  dsimp only
  rw [h]
theorem newM_ap : newM ds μ = if ds.length ≤ 100000 then .ok (.loc μ.length) (μ ++ [.lst ds]) else .bad := rfl
theorem rng1M_i (h : j ≤ 100000 ∧ -100000 ≤ j) : rng1M [.int j] μ = .ok (rngL 0 j.toNat) μ := if_pos h
theorem isiM_of {T t : String} {k : Bool} (h1 : tyD μ d = some t) (h2 : kitB t T = some k) : isiM [d, .ty T] μ = .ok (.bl k) μ := by
  show (match tyD μ d with
    | some t => (match kitB t T with
      | some b => Res.ok (D.bl b) μ
      | none => .bad)
    | none => .bad) = _
  rw [h1]
  dsimp only
  rw [h2]
end
theorem wr_eq {α : Type} {r : Res α} {x : α} {μ : Mem} : wr r (fun d μ' => d = x ∧ μ' = μ) (fun _ _ => False) ↔ r = .ok x μ := by
  constructor
  · intro h
    cases r with
    | ok a m => obtain ⟨h1, h2⟩ := h; subst h1 h2; rfl
    | exc e m => exact h.elim
    | bad => exact h.elim
  · intro h
    subst h
    exact ⟨rfl, rfl⟩
theorem wr_ex {r : Res D} {x : D} (h : wr r (fun d _ => d = x) (fun _ _ => False)) : ∃ μ', r = .ok x μ' := by
  cases r with
  | ok a m => exact ⟨m, by rw [show a = x from h]⟩
  | exc e m => exact h.elim
  | bad => exact h.elim
theorem wr_rw {α : Type} {r : Res α} {x : α} {μ : Mem} {Q : α → Mem → Prop} {E : Ex → Mem → Prop} (h : r = .ok x μ) (q : Q x μ) : wr r Q E := by
  rw [h]
  exact q
end SE
local macro_rules | `(tactic| array_mem_dec) => `(tactic| try simp only [SE.wr_eVar, SE.wr_eC, SE.wr_e2, SE.wr_e1, SE.wr_eL, SE.wr_eCall, SE.wr_eCallK, SE.wr_eLL, SE.wr_eSeq, SE.wr_lNil, SE.wr_lCons, SE.wr_bTru, SE.wr_bOf, SE.wr_bNot, SE.wr_bAnd, SE.wr_bOr, SE.wr_isBl, SE.wr_eAnd, SE.wr_eOr, SE.wr_eNot, SE.wr_eIf, SE.wr_e3c, SE.wr_ok, SE.wr_exc, SE.ws_sNext, SE.ws_sSeq, SE.ws_sSet, SE.ws_sDrop, SE.ws_sRet, SE.ws_sRetN, SE.ws_sBrk, SE.ws_sCnt, SE.ws_sIf, SE.ws_sAsg, SE.ws_sPar, SE.ws_sSub, SE.ws_sForE, SE.wr_callM, List.getElem?_cons_zero, List.getElem?_cons_succ, List.set_cons_zero, List.set_cons_succ, List.map_cons, List.map_nil, List.length_cons, List.length_nil, List.cons_append, List.nil_append, List.replicate, List.append_nil, SE.addM_i, SE.subM_i, SE.negM_i, SE.cmpM_i, SE.eqM_i, SE.eqM_s, SE.neM_i, SE.neM_s, SE.absM_i, SE.intM_i, SE.intM_b, SE.max2M_i, SE.min2M_i, SE.lenM_t, SE.lenM_l, SE.lenM_r, SE.tupM_ap, SE.lstM_ap, SE.strM_s, SE.truB_b, SE.isBl_b, SE.newM_ap, Nat.reduceLeDiff, SE.seqL_l, SE.seqT_t, SE.isNM_n, SE.isNM_i, if_true, if_false, Bool.false_eq_true, Bool.not_true, Bool.not_false, Nat.reduceSub, Nat.reduceAdd, Nat.zero_add, eq_self, and_self, and_true, true_and, SE.gN])
namespace SE
open PySem PySem.Spec PyProof.Rows L2
/-! ### the drawing of numbers -/
/-- but for that label the memory stands -/
def Fr (l : Nat) (μ μ' : Mem) : Prop := μ'.length = μ.length ∧ ∀ m, m ≠ l → μ'[m]? = μ[m]?
theorem Fr.refl {l : Nat} {μ : Mem} : Fr l μ μ := ⟨rfl, fun _ _ => rfl⟩
theorem Fr.trans {l : Nat} {μ μ1 μ2 : Mem} (h : Fr l μ μ1) (h' : Fr l μ1 μ2) : Fr l μ μ2 := ⟨h'.1.trans h.1, fun m n => (h'.2 m n).trans (h.2 m n)⟩
theorem Fr.set {l : Nat} {μ : Mem} {o : MO} : Fr l μ (μ.set l o) := ⟨List.length_set, fun m n => by rw [List.getElem?_set]; rw [if_neg (fun h => n h.symm)]⟩
/-- a seed that was drawn from at most n times -/
def Sd (l : Nat) (n : Int) (μ : Mem) : Prop := ∃ a b c : Int, μ[l]? = some (.lst [.int a, .int b, .int c]) ∧ 0 ≤ a ∧ 0 ≤ b ∧ b < 2147483579 ∧ 0 ≤ c ∧ c ≤ n
theorem Sd.mono {l : Nat} {n m : Int} {μ : Mem} (h : Sd l n μ) (w : n ≤ m) : Sd l m μ := by
  obtain ⟨a, b, c, h1, h2, h3, h4, h5, h6⟩ := h
  exact ⟨a, b, c, h1, h2, h3, h4, h5, by omega⟩
theorem Sd.lt {l : Nat} {n : Int} {μ : Mem} (h : Sd l n μ) : l < μ.length := by
  obtain ⟨a, b, c, h1, _⟩ := h
  exact (List.getElem?_eq_some_iff.mp h1).1
def drawB : MS := (sSeq (sIf (bOf (e2 gtM (e2 ixM (eVar 0) (eC (.int 0))) (eC (.int 0)))) (sSeq (sSet 2 (e2 modM (eL intM (lCons (e2 ixM (eVar 0) (eC (.int 0))) lNil)) (eVar 1))) (sSeq (sSub (eVar 0) (eC (.int 0)) (e2 fdivM (e2 ixM (eVar 0) (eC (.int 0))) (eVar 1))) (sRet (eVar 2)))) sNext) (sSeq (sSub (eVar 0) (eC (.int 2)) (e2 addM (e2 ixM (eVar 0) (eC (.int 2))) (eC (.int 1)))) (sSeq (sSet 3 (e2 ixM (eVar 0) (eC (.int 2)))) (sSeq (sSet 4 (e2 modM (e2 powM (eL intM (lCons (e2 addM (e2 addM (e2 ixM (eVar 0) (eC (.int 1))) (e2 mulM (eC (.int 60013)) (eVar 3))) (eC (.int 5))) lNil)) (eC (.int 3))) (eC (.int 2147483543)))) (sRet (e2 modM (e2 fdivM (e2 modM (eL intM (lCons (e2 mulM (eVar 4) (e2 addM (e2 addM (e2 fdivM (eVar 4) (eC (.int 4093))) (e2 mulM (eC (.int 2)) (eVar 3))) (eC (.int 1)))) lNil)) (eC (.int 2147483497))) (eC (.int 16))) (eVar 1)))))))
def seedB : MS := (sSeq (sSet 2 (eC (.int 0))) (sSeq (sIf (bOf (e2 ltM (eVar 1) (eL lenM (lCons (eVar 0) lNil)))) (sSet 2 (e2 ixM (eVar 0) (eVar 1))) sNext) (sSeq (sSet 3 (eL absM (lCons (eVar 2) lNil))) (sSeq (sIf (bOf (e2 ltM (eVar 3) (e2 powM (eC (.int 10)) (eC (.int 18))))) (sSet 3 (eC (.int 0))) sNext) (sRet (eL newM (lCons (eVar 3) (lCons (e2 modM (eL intM (lCons (e2 addM (e2 addM (e2 addM (eVar 2) (e2 mulM (e2 mulM (eC (.int 7307)) (eVar 1)) (eVar 1))) (e2 mulM (eC (.int 911)) (eVar 1))) (eC (.int 23))) lNil)) (eC (.int 2147483579))) (lCons (eC (.int 0)) lNil)))))))))
theorem draw_ok {l : Nat} {n many : Int} {μ : Mem} (hs : Sd l n μ) (hn : n < 1000000000) (h0 : 0 < many) (h1 : many.natAbs < 2 ^ 8000) :
    wr (callM 5 drawB [.loc l, .int many] μ) (fun d μ' => ∃ k, d = .int k ∧ 0 ≤ k ∧ k < many ∧ Sd l (n + 1) μ' ∧ Fr l μ μ') (fun _ _ => False) := by
  obtain ⟨a, b, c, hl, ha, hb, hb2, hc, hc2⟩ := hs
  have hll := (List.getElem?_eq_some_iff.mp hl).1
  unfold drawB
  have i0 : ixM (.loc l) (.int 0) μ = .ok (.int a) μ := ixM_o hl atI_0
  array_mem_dec
  simp only [i0, wr_ok, cmpM_i, wr_isBl]
  array_mem_dec
  by_cases h : 0 < a
  · simp only [decide_eq_true h, if_true]
    array_mem_dec
    simp only [i0, wr_ok, modM_i h0, fdivM_i h0 h1]
    array_mem_dec
    rw [ws_subR hl (show ixN 3 0 = some 0 by rfl)]
    array_mem_dec
    exact ⟨_, rfl, Int.emod_nonneg _ (by omega), Int.emod_lt_of_pos _ h0, ⟨a / many, b, c, by rw [List.getElem?_set]; simp [hll], Int.ediv_nonneg ha (by omega), hb, hb2, hc, by omega⟩, Fr.set⟩
  · simp only [decide_eq_false h, Bool.false_eq_true, if_false]
    have i2 : ixM (.loc l) (.int 2) μ = .ok (.int c) μ := ixM_o hl (atI_of (n := 2) rfl rfl)
    array_mem_dec
    simp only [i2, wr_ok, addM_i]
    rw [ws_subR hl (show ixN 3 2 = some 2 by rfl)]
    have hl' : (μ.set l (.lst [.int a, .int b, .int (c + 1)]))[l]? = some (.lst [.int a, .int b, .int (c + 1)]) := by rw [List.getElem?_set]; simp [hll]
    have i2' : ixM (.loc l) (.int 2) (μ.set l (.lst [.int a, .int b, .int (c + 1)])) = .ok (.int (c + 1)) (μ.set l (.lst [.int a, .int b, .int (c + 1)])) := ixM_o hl' (atI_of (n := 2) rfl rfl)
    have i1' : ixM (.loc l) (.int 1) (μ.set l (.lst [.int a, .int b, .int (c + 1)])) = .ok (.int b) (μ.set l (.lst [.int a, .int b, .int (c + 1)])) := ixM_o hl' (atI_of (n := 1) rfl rfl)
    array_mem_dec
    simp only [i2', i1', wr_ok]
    rw [mulM_i (i := 60013) (j := c + 1) (mulOk_le (B := 2000000000) (by omega) (by omega) (by decide +kernel))]
    array_mem_dec
    rw [powM_i ⟨by omega, by omega, by
      have : (b + 60013 * (c + 1) + 5).natAbs < 2000000000000000 := by omega
      exact Nat.lt_of_lt_of_le this (by decide +kernel)⟩]
    array_mem_dec
    rw [modM_i (j := 2147483543) (by omega)]
    have p0 := Int.emod_nonneg ((b + 60013 * (c + 1) + 5) ^ (Int.toNat 3)) (show (2147483543 : Int) ≠ 0 by omega)
    have p1 := Int.emod_lt_of_pos ((b + 60013 * (c + 1) + 5) ^ (Int.toNat 3)) (show (0 : Int) < 2147483543 by omega)
    generalize ((b + 60013 * (c + 1) + 5) ^ (Int.toNat 3)) % 2147483543 = t at p0 p1 ⊢
    array_mem_dec
    have q0 : 0 ≤ t / 4093 := by omega
    have q1 : t / 4093 ≤ t := by omega
    rw [fdivM_i (i := t) (j := 4093) (by omega) (Nat.lt_of_lt_of_le (show (4093 : Int).natAbs < 2 ^ 13 by decide) (Nat.pow_le_pow_right (by omega) (by omega)))]
    array_mem_dec
    rw [mulM_i (i := 2) (j := c + 1) (mulOk_le (B := 2000000000) (by omega) (by omega) (by decide +kernel))]
    array_mem_dec
    rw [mulM_i (i := t) (mulOk_le (B := 20000000000) (by omega) (by omega) (by decide +kernel))]
    array_mem_dec
    rw [modM_i (j := 2147483497) (by omega)]
    array_mem_dec
    rw [fdivM_i (j := 16) (by omega) (Nat.lt_of_lt_of_le (show (16 : Int).natAbs < 2 ^ 13 by decide) (Nat.pow_le_pow_right (by omega) (by omega)))]
    array_mem_dec
    rw [modM_i h0]
    array_mem_dec
    exact ⟨_, rfl, Int.emod_nonneg _ (by omega), Int.emod_lt_of_pos _ h0, ⟨a, b, c + 1, hl', ha, hb, hb2, by omega, by omega⟩, Fr.set⟩
theorem seed_ok {ns : List Int} {k : Int} {μ : Mem} (h0 : 0 ≤ k) (h1 : k ≤ 1000) :
    wr (callM 4 seedB [.ro (ns.map .int), .int k] μ) (fun d μ' => d = .loc μ.length ∧ Sd μ.length 0 μ' ∧ μ'.length = μ.length + 1 ∧ ∀ m, m < μ.length → μ'[m]? = μ[m]?) (fun _ _ => False) := by
  have hk : k = (k.toNat : Int) := by omega
  have fin : ∀ (z far : Int), 0 ≤ far → wr (Res.ok (D.loc μ.length) (μ ++ [.lst [.int far, .int ((z + 7307 * k * k + 911 * k + 23) % 2147483579), .int 0]])) (fun d μ' => d = .loc μ.length ∧ Sd μ.length 0 μ' ∧ μ'.length = μ.length + 1 ∧ ∀ m, m < μ.length → μ'[m]? = μ[m]?) (fun _ _ => False) := fun z far hf =>
    ⟨rfl, ⟨far, (z + 7307 * k * k + 911 * k + 23) % 2147483579, 0, by simp, hf, Int.emod_nonneg _ (by omega), Int.emod_lt_of_pos _ (by omega), by omega, by omega⟩, by simp, fun m hm => by rw [List.getElem?_append_left hm]⟩
  have m1 : ∀ μ, mulM (.int 7307) (.int k) μ = .ok (.int (7307 * k)) μ := fun μ => mulM_i (mulOk_le (B := 20000000) (by omega) (by omega) (by decide +kernel))
  have m2 : ∀ μ, mulM (.int (7307 * k)) (.int k) μ = .ok (.int (7307 * k * k)) μ := fun μ => mulM_i (mulOk_le (B := 20000000) (by omega) (by omega) (by decide +kernel))
  have m3 : ∀ μ, mulM (.int 911) (.int k) μ = .ok (.int (911 * k)) μ := fun μ => mulM_i (mulOk_le (B := 20000000) (by omega) (by omega) (by decide +kernel))
  have pw : ∀ μ, powM (.int 10) (.int 18) μ = .ok (.int 1000000000000000000) μ := fun μ => by
    rw [powM_i ⟨by omega, by omega, by decide +kernel⟩]
    rfl
  have md : ∀ μ z, modM (.int z) (.int 2147483579) μ = .ok (.int (z % 2147483579)) μ := fun μ z => modM_i (by omega)
  unfold seedB
  rw [wr_callM]
  array_mem_dec
  by_cases h : k < ((ns.map D.int).length : Int)
  · simp only [decide_eq_true h, if_true]
    have hn : k.toNat < (ns.map D.int).length := by omega
    have hz : (ns.map D.int)[k.toNat]? = some (.int (ns[k.toNat]'(by simpa using hn))) := by simp at hn ⊢
    rw [ixM_r (atI_of hk hz)]
    generalize ns[k.toNat]'(by simpa using hn) = z
    array_mem_dec
    simp only [pw, wr_ok]
    array_mem_dec
    by_cases h : (if z < 0 then -z else z) < 1000000000000000000
    · simp only [decide_eq_true h, if_true]
      simp only [m1, m2, m3, md, wr_ok, addM_i, intM_i]
      exact ⟨trivial, (fin z 0 (by omega)).2⟩
    · simp only [decide_eq_false h, Bool.false_eq_true, if_false]
      simp only [m1, m2, m3, md, wr_ok, addM_i, intM_i]
      exact ⟨trivial, (fin z (if z < 0 then -z else z) (by split <;> omega)).2⟩
  · simp only [decide_eq_false h, Bool.false_eq_true, if_false, pw, wr_ok]
    array_mem_dec
    simp only [m1, m2, m3, md, wr_ok, addM_i, intM_i]
    rw [if_pos (by decide)]
    exact ⟨trivial, (fin 0 0 (by omega)).2⟩
end SE

/-! SE9: types, gcd, what may be shown. -/
namespace SE
open PySem PySem.Spec PyProof.Rows L2
/-! ### plain values, the types of values -/
def plD : D → Bool
  | .non | .bl _ | .int _ | .str _ | .tup _ | .lst _ | .ro _ | .dct _ => true
  | _ => false
def isI : D → Bool
  | .int _ => true
  | _ => false
def isB : D → Bool
  | .bl _ => true
  | _ => false
def isT : D → Bool
  | .tup _ => true
  | _ => false
theorem isi_int {d : D} {μ : Mem} (h : plD d = true) : isiM [d, .ty "int"] μ = .ok (.bl (isI d || isB d)) μ := by
  cases d <;> first | exact isiM_of (k := true) rfl (by decide +kernel) | exact isiM_of (k := false) rfl (by decide +kernel) | cases h
theorem isi_bool {d : D} {μ : Mem} (h : plD d = true) : isiM [d, .ty "bool"] μ = .ok (.bl (isB d)) μ := by
  cases d <;> first | exact isiM_of (k := true) rfl (by decide +kernel) | exact isiM_of (k := false) rfl (by decide +kernel) | cases h
theorem isi_tuple {d : D} {μ : Mem} (h : plD d = true) : isiM [d, .ty "tuple"] μ = .ok (.bl (isT d)) μ := by
  cases d <;> first | exact isiM_of (k := true) rfl (by decide +kernel) | exact isiM_of (k := false) rfl (by decide +kernel) | cases h
theorem eqM_2 {a b c d : Int} {μ : Mem} : eqM (.tup [.int a, .int b]) (.tup [.int c, .int d]) μ = .ok (.bl (decide (a = c) && decide (b = d))) μ := by
  unfold eqM eqB
  have h : ∀ x y : Int, eqOk (lookD μ (.tup [.int x, .int y])) = true := fun x y => rfl
  simp only [scD, h, and_self, if_true, lookD, dP, dPL, PyData.eqv, PyData.eqvAll, Bool.and_true]
  congr 2
theorem neM_2 {a b c d : Int} {μ : Mem} : neM (.tup [.int a, .int b]) (.tup [.int c, .int d]) μ = .ok (.bl (!(decide (a = c) && decide (b = d)))) μ := by
  have := eqM_2 (a := a) (b := b) (c := c) (d := d) (μ := μ)
  unfold eqM at this
  unfold neM
  cases q : eqB μ (.tup [.int a, .int b]) (.tup [.int c, .int d]) with
  | none => rw [q] at this; cases this
  | some k => rw [q] at this; cases this; rfl
/-! ### the great common divisor, by turns -/
theorem gcd_step {x y : Int} (h : 0 < y) : Int.gcd y (x % y) = Int.gcd x y := by
  rw [Int.gcd_comm x y]
  have e : x % y = x - y * (x / y) := by
    have := Int.emod_add_mul_ediv x y
    omega
  rw [e]
  rw [show x - y * (x / y) = x + y * (-(x / y)) by rw [Int.mul_neg]; omega]
  rw [Int.gcd_add_mul_left_right]
theorem abs_gcd {a b : Int} : Int.gcd (if a < 0 then -a else a) b = Int.gcd a b := by
  split
  · exact Int.neg_gcd
  · rfl
theorem gcd_end {x : Int} (h : 0 ≤ x) : ((Int.gcd x 0 : Nat) : Int) = x := by
  rw [Int.gcd_zero_right]
  omega
theorem gcd_one {a b : Int} (hb : 1 ≤ b) : (a / (Int.gcd a b : Int) = a ∧ b / (Int.gcd a b : Int) = b) ↔ Int.gcd a b = 1 := by
  constructor
  · intro h
    have hg : (0 : Int) < Int.gcd a b := by
      have := Int.gcd_pos_of_ne_zero_right a (show b ≠ 0 by omega)
      omega
    have h1 : (Int.gcd a b : Int) * (b / (Int.gcd a b : Int)) = b := Int.mul_ediv_cancel' (Int.gcd_dvd_right _ _)
    rw [h.2] at h1
    have h2 : ((Int.gcd a b : Int) - 1) * b = 0 := by
      rw [Int.sub_mul]
      omega
    rcases Int.mul_eq_zero.mp h2 with z | z <;> omega
  · intro h
    rw [h]
    simp
theorem gcd_le {a b : Int} (hb : 1 ≤ b) : (0 : Int) < Int.gcd a b ∧ (Int.gcd a b : Int) ≤ b := by
  have h1 := Int.gcd_pos_of_ne_zero_right a (show b ≠ 0 by omega)
  have h2 : (Int.gcd a b : Int) ∣ b := Int.gcd_dvd_right _ _
  exact ⟨by omega, Int.le_of_dvd (by omega) h2⟩
/-! ### what may be shown -/
theorem lt_pw {i : Nat} {n m : Nat} (h : i < 2 ^ n) (w : n ≤ m) : i < 2 ^ m := Nat.lt_of_lt_of_le h (Nat.pow_le_pow_right (by omega) w)
theorem log_lt {i : Nat} {n : Nat} (h : i < 2 ^ n) (h0 : 0 < n) : i.log2 < n := by
  by_cases z : i = 0
  · subst z
    rw [Nat.log2_zero]
    exact h0
  · exact (Nat.log2_lt z).mpr h
theorem lt_log {i : Nat} {n : Nat} (h : i.log2 < n) : i < 2 ^ n := by
  by_cases z : i = 0
  · subst z
    exact Nat.pow_pos (by omega)
  · exact (Nat.log2_lt z).mp h
theorem show_i {i : Int} (h : i.natAbs < 2 ^ 250) : i.natAbs.log2 < 1920 := log_lt (lt_pw h (by omega)) (by omega)
theorem wr_to {α : Type} {r : Res α} {Q Q' : α → Mem → Prop} (h : wr r Q fun _ _ => False) (hq : ∀ x μ, Q x μ → Q' x μ) : wr r Q' fun _ _ => False := wr_mono h hq fun _ _ z => z
theorem lt_big {i : Int} {B : Nat} (h : i.natAbs ≤ B) (hB : B < 2 ^ 250) : i.natAbs < 2 ^ 8000 := lt_pw (Nat.lt_of_le_of_lt h hB) (by omega)
section
variable {μ : Mem}
/-! what may be shown, of pieces -/
def Pw (c : Nat) (d : D) : Prop := isP d = true ∧ (dP d).showable = true ∧ (dP d).depth ≤ c ∧ cost d ≤ 10000 * c
def Qw (c : Nat) (d : D) : Prop := isQ d = true ∧ (dP d).showable = true ∧ (dP d).depth ≤ c ∧ cost d ≤ 10000 * c
theorem Pw.sh {c : Nat} {d : D} (h : Pw c d) (hc : c ≤ 60) : shOk d = true := by
  obtain ⟨h1, h2, h3, h4⟩ := h
  unfold shOk
  rw [h1, h2, decide_eq_true (show (dP d).depth ≤ 60 by omega), decide_eq_true (show cost d ≤ 16000000 by omega)]
  rfl
theorem Qw.sh {c : Nat} {d : D} (h : Qw c d) (hc : c ≤ 60) : shOk d = true := by
  obtain ⟨h1, h2, h3, h4⟩ := h
  unfold shOk
  rw [h1, h2, decide_eq_true (show (dP d).depth ≤ 60 by omega), decide_eq_true (show cost d ≤ 16000000 by omega)]
  simp
theorem Pw.i {i : Int} (h : i.natAbs < 2 ^ 250) : Pw 1 (.int i) := ⟨rfl, decide_eq_true (show_i h), by simp [dP, PyData.depth], by simp [cost]⟩
theorem Qw.i {i : Int} (h : i.natAbs < 2 ^ 250) : Qw 1 (.int i) := ⟨rfl, decide_eq_true (show_i h), by simp [dP, PyData.depth], by simp [cost]⟩
theorem Pw.t0 : Pw 1 (.tup []) := ⟨rfl, rfl, by decide, by decide⟩
theorem Pw.t1 {c : Nat} {x : D} (hx : Pw c x) : Pw (c + 1) (.tup [x]) := by
  obtain ⟨h1, h2, h3, h4⟩ := hx
  refine ⟨by simp [isP, isPL, h1], by simp [dP, dPL, PyData.showable, PyData.showableAll, h2], ?_, ?_⟩
  · simp [dP, dPL, PyData.depth, PyData.depthAll]; omega
  · simp [cost, costL]; omega
theorem Pw.t2 {c : Nat} {x y : D} (hx : Pw c x) (hy : Pw c y) : Pw (2 * c + 1) (.tup [x, y]) := by
  obtain ⟨h1, h2, h3, h4⟩ := hx
  obtain ⟨k1, k2, k3, k4⟩ := hy
  refine ⟨by simp [isP, isPL, h1, k1], by simp [dP, dPL, PyData.showable, PyData.showableAll, h2, k2], ?_, ?_⟩
  · simp [dP, dPL, PyData.depth, PyData.depthAll]; omega
  · simp [cost, costL]; omega
theorem Pw.l2 {c : Nat} {x y : D} (hx : Pw c x) (hy : Pw c y) : Pw (2 * c + 1) (.lst [x, y]) := by
  obtain ⟨h1, h2, h3, h4⟩ := hx
  obtain ⟨k1, k2, k3, k4⟩ := hy
  refine ⟨by simp [isP, isPL, h1, k1], by simp [dP, dPL, PyData.showable, PyData.showableAll, h2, k2], ?_, ?_⟩
  · simp [dP, dPL, PyData.depth, PyData.depthAll]; omega
  · simp [cost, costL]; omega
theorem Pw.t3 {c : Nat} {x y z : D} (hx : Pw c x) (hy : Pw c y) (hz : Pw c z) : Pw (3 * c + 1) (.tup [x, y, z]) := by
  obtain ⟨h1, h2, h3, h4⟩ := hx
  obtain ⟨k1, k2, k3, k4⟩ := hy
  obtain ⟨j1, j2, j3, j4⟩ := hz
  refine ⟨by simp [isP, isPL, h1, k1, j1], by simp [dP, dPL, PyData.showable, PyData.showableAll, h2, k2, j2], ?_, ?_⟩
  · simp [dP, dPL, PyData.depth, PyData.depthAll]; omega
  · simp [cost, costL]; omega
theorem Qw.t2 {c : Nat} {x y : D} (hx : Qw c x) (hy : Qw c y) : Qw (2 * c + 1) (.tup [x, y]) := by
  obtain ⟨h1, h2, h3, h4⟩ := hx
  obtain ⟨k1, k2, k3, k4⟩ := hy
  refine ⟨by simp [SE.isQ, SE.isQL, h1, k1], by simp [dP, dPL, PyData.showable, PyData.showableAll, h2, k2], ?_, ?_⟩
  · simp [dP, dPL, PyData.depth, PyData.depthAll]; omega
  · simp [cost, costL]; omega
theorem Pw.mono {c e : Nat} {d : D} (h : Pw c d) (w : c ≤ e) : Pw e d := ⟨h.1, h.2.1, Nat.le_trans h.2.2.1 w, Nat.le_trans h.2.2.2 (Nat.mul_le_mul_left _ w)⟩
theorem Qw.mono {c e : Nat} {d : D} (h : Qw c d) (w : c ≤ e) : Qw e d := ⟨h.1, h.2.1, Nat.le_trans h.2.2.1 w, Nat.le_trans h.2.2.2 (Nat.mul_le_mul_left _ w)⟩
theorem strM_p {i : Int} (h : i.natAbs ≤ 10 ^ 40) : strM [.int i] μ = .ok (.str (toString i)) μ := strM_i (show_i (Nat.lt_of_le_of_lt h (by decide +kernel)))
/-! texts -/
def okS (x : Str) : Prop := ∀ c ∈ x.cps.toList, c < 16 ^ 8
theorem okS.of (s : String) : okS (PySem.Str.ofString s) := by
  intro c h
  rw [PySem.Str.ofString_eq_toList] at h
  simp only [List.mem_map] at h
  obtain ⟨k, _, rfl⟩ := h
  have := k.valid
  rcases this with z | z
  · exact Nat.lt_of_lt_of_le z (by decide)
  · exact Nat.lt_of_lt_of_le z.2 (by decide)
theorem okS.app {x y : Str} (hx : okS x) (hy : okS y) : okS (x ++ y) := by
  intro c h
  have e : (x ++ y).cps.toList = x.cps.toList ++ y.cps.toList := by
    show (x.cps ++ y.cps).toList = _
    rw [Array.toList_append]
  rw [e] at h
  rcases List.mem_append.mp h with z | z
  · exact hx c z
  · exact hy c z
theorem app_len (x y : Str) : (x ++ y).length = x.length + y.length := by
  show (x.cps ++ y.cps).size = _
  rw [Array.size_append]
  rfl
theorem Pw.s {c : Nat} {x : Str} (h : okS x) (hl : 10 * x.length + 2 ≤ 10000 * c) : Pw c (.str x) := ⟨rfl, rfl, Nat.zero_le _, Nat.le_trans (PySem.StrLaws.reprText_len x h) hl⟩
theorem ixM_mem {xs : List D} {k : Int} (h0 : 0 ≤ k) (h1 : k < xs.length) : ∃ o ∈ xs, ∀ μ, ixM (.lst xs) (.int k) μ = .ok o μ := by
  have h : k.toNat < xs.length := by omega
  exact ⟨xs[k.toNat], List.getElem_mem h, fun μ => ixM_l (atI_of (n := k.toNat) (by omega) (List.getElem?_eq_getElem h))⟩
theorem wr_ix {xs : List D} {k : Int} {P : D → Mem → Prop} {E : Ex → Mem → Prop} (h0 : 0 ≤ k) (h1 : k < xs.length) (h : ∀ e ∈ xs, P e μ) : wr (ixM (.lst xs) (.int k) μ) P E := by
  obtain ⟨o, ho, hx⟩ := ixM_mem h0 h1
  rw [hx]
  exact h o ho
end
end SE

/-! SEj: reckoning with exceptions, lambdas. -/
namespace SE
open PySem PySem.Spec PyProof.Rows L2
section
variable {ρ : Ev} {μ μ1 : Mem} {P : D → Mem → Prop} {T : Bool → Mem → Prop} {E : Ex → Mem → Prop} {N B C : Ev → Mem → Prop} {R : D → Mem → Prop} {a b : Ev → M D} {l : Ev → M (List D)} {m : List D → M D} {ds : List D} {d : D} {c fld : Str} {fs : List (Str × D)}
theorem wr_eM1 {chk : D → Bool} {f : D → D → M D} : wr (eM1 chk f a b ρ μ) P E = wr (a ρ μ) (fun x μ1 => if chk x = true then wr (b ρ μ1) (fun y μ2 => wr (f x y μ2) P E) E else False) E := by
  show wr (M.bind (a ρ) (fun x => if chk x = true then M.bind (b ρ) (fun y => f x y) else M.bad) μ) P E = _
  unfold M.bind wr
  cases a ρ μ with
  | ok x μ1 =>
    dsimp only
    by_cases h : chk x = true
    · simp only [if_pos h]
      cases b ρ μ1 <;> rfl
    · simp only [if_neg h]
      rfl
  | _ => rfl
theorem wr_noExc {d : D} (h : m ds μ = .ok d μ1) : wr (noExc m ds μ) P E = P d μ1 := by
  unfold noExc
  rw [h]
  rfl
theorem ws_sRaise : ws (sRaise c fld l ρ μ) N R B C E = wr (l ρ μ) (fun ds μ1 => match ds with
  | [d] => E ⟨c, [(fld, d)]⟩ μ1
  | _ => False) E := by
  unfold sRaise
  rw [ws_bindS]
  unfold wr
  cases l ρ μ with
  | ok x μ1 =>
    match x with
    | [] => rfl
    | [_] => rfl
    | _ :: _ :: _ => rfl
  | _ => rfl
theorem eLam_ap {m : (Ev → M D) → List D → M D} {mb : Ev → M D} (h : m mb [.clo (ρ.map keepE)] μ = .ok d μ1) (n : noErr d = true) : eLam m mb ρ μ = .ok d μ1 := by
  show outM (m mb [.clo (ρ.map keepE)]) μ = _
  unfold outM
  rw [h]
  dsimp only
  rw [if_pos n]
theorem keep_some (h : noErr d = true) : keepE (some d) = some d := by
  unfold keepE
  dsimp only
  rw [if_pos h]
theorem atM_ap {cs : List Str} {f : Str} (h1 : cs.contains c = true) (h2 : fs.lookup f = some d) : atM cs f (.err c fs) μ = .ok d μ := by
  unfold atM
  simp only [if_pos h1, h2]
end
mutual
/-- plain values hold no exception -/
theorem isP_no : ∀ d : D, isP d = true → noErr d = true
  | .non, _ => rfl
  | .bl _, _ => rfl
  | .int _, _ => rfl
  | .str _, _ => rfl
  | .tup xs, h => isPL_no xs h
  | .lst xs, h => isPL_no xs h
  | .ro xs, h => isPL_no xs h
  | .dct _, h => by cases h
  | .loc _, h => by cases h
  | .ty _, h => by cases h
  | .gl _, h => by cases h
  | .err _ _, h => by cases h
  | .clo _, h => by cases h
  | .obj _ _, h => by cases h
theorem isPL_no : ∀ ds : List D, isPL ds = true → noErrL ds = true
  | [], _ => rfl
  | d :: ds, h => Bool.and_eq_true_iff.mpr ⟨isP_no d (andB h).1, isPL_no ds (andB h).2⟩
end
mutual
theorem isQ_no : ∀ d : D, SE.isQ d = true → noErr d = true
  | .non, _ => rfl
  | .bl _, _ => rfl
  | .int _, _ => rfl
  | .str _, _ => rfl
  | .tup xs, h => isQL_no xs h
  | .lst xs, h => isQL_no xs h
  | .ro xs, h => isQL_no xs h
  | .dct kvs, h => isQK_no kvs h
  | .loc _, h => by cases h
  | .ty _, h => by cases h
  | .gl _, h => by cases h
  | .err _ _, h => by cases h
  | .clo _, h => by cases h
  | .obj _ _, h => by cases h
theorem isQL_no : ∀ ds : List D, isQL ds = true → noErrL ds = true
  | [], _ => rfl
  | d :: ds, h => Bool.and_eq_true_iff.mpr ⟨isQ_no d (andB h).1, isQL_no ds (andB h).2⟩
theorem isQK_no : ∀ ds : List (Key × D), isQK ds = true → noErrK ds = true
  | [], _ => rfl
  | (_, d) :: ds, h => Bool.and_eq_true_iff.mpr ⟨isQ_no d (andB h).1, isQK_no ds (andB h).2⟩
end
theorem shOk_no {d : D} (h : shOk d = true) : noErr d = true := by
  unfold shOk at h
  obtain ⟨h, _⟩ := andB h
  obtain ⟨h, _⟩ := andB h
  obtain ⟨h, _⟩ := andB h
  rcases Bool.or_eq_true_iff.mp h with h | h
  · exact isP_no d h
  · exact isQ_no d h
section
variable {b : MS} {hs : List HM} {ρ ρ' : Ev} {μ μ' : Mem} {e : Ex} {r : RS} {m : HM} {d : D} {ds : List D} {n : Nat}
theorem try_exc (h : b ρ μ = .exc e ρ' μ') (h2 : handleM hs e ρ' μ' = r) : sTry b hs ρ μ = r := by
  unfold sTry
  rw [h]
  exact h2
theorem try_ok {f : Fl} (h : b ρ μ = .ok f μ') : sTry b hs ρ μ = .ok f μ' := by
  unfold sTry
  rw [h]
theorem handle_in (h : m.mt e.cls = some true) {k : RS} (h2 : suiteEnd m.i (m.b (putE m.i (.err e.cls e.fs) ρ) μ) = k) : handleM (m :: hs) e ρ μ = k := by
  unfold handleM
  rw [h]
  exact h2
theorem handle_out (h : m.mt e.cls = some false) {k : RS} (h2 : handleM hs e ρ μ = k) : handleM (m :: hs) e ρ μ = k := by
  unfold handleM
  rw [h]
  exact h2
theorem suite_rt {i : Option Nat} (h : r = .ok (.rt d) μ) (h2 : noErr d = true) : suiteEnd i r = .ok (.rt d) μ := by
  rw [h]
  show (if noErr d = true then RS.ok (.rt d) μ else .bad) = _
  rw [if_pos h2]
theorem callM_rt (h : b (ds.map some ++ List.replicate (n - ds.length) none) μ = .ok (.rt d) μ') : callM n b ds μ = .ok d μ' := by
  unfold callM
  rw [h]
end
end SE

/-! SEk: x in xs, all, list, slices; what the top keeps in a name; comprehensions; match. -/
namespace SE
open PySem PySem.Spec PyProof.Rows L2
/-! ### x in xs -/
def seqIn (a : D) (xs : List D) : Option Bool := if (isPL xs && (isP a && decide ((dP a).depth ≤ 50))) = true then some ((dPL xs).any fun z => PyData.eqv z (dP a)) else none
def inB (a b : D) : Option Bool := match b with
  | .tup xs => seqIn a xs
  | .lst xs => seqIn a xs
  | .ro xs => seqIn a xs
  | .str y => (match a with
    | .str x => (match x.cps.toList with
      | [c] => some (decide (c ∈ y.cps.toList))
      | _ => none)
    | _ => none)
  | _ => none
def inM (a b : D) : M D := fun μ => match inB a b with
  | some k => .ok (.bl k) μ
  | none => .bad
def niM (a b : D) : M D := fun μ => match inB a b with
  | some k => .ok (.bl (!k)) μ
  | none => .bad
def rInP (K : PySem.W.Frag) (neg : Bool) : R2 := fun x y H Q => (∃ p vs ds d, y = .ref p ∧ (SqL K H p vs ∨ SqT K H p vs) ∧ DpAll K H vs ds ∧ Dp K H x d ∧ PyData.plainAll ds = true ∧ d.plain = true ∧ d.depth ≤ 50 ∧
    Q (.bl (if neg then !(ds.any fun z => PyData.eqv z d) else ds.any fun z => PyData.eqv z d)) H) ∨
  ∃ (c : Nat) (z : Str), x = .str ⟨#[c]⟩ ∧ y = .str z ∧ Q (.bl (if neg then !decide (c ∈ z.cps.toList) else decide (c ∈ z.cps.toList))) H
theorem any_read {h : Heap} {its : List Value} {ds : List PyData} {as : List Addr} {d : PyData} (ra : ReadsAll h its ds as) (hp : PyData.plainAll ds = true) : (its.toArray.any fun z => PyData.eqv (SeqAt.readOf h z) d) = ds.any fun z => PyData.eqv z d := by
  rw [List.any_toArray, ← SeqAt.readsAll_map_plain ds its as hp ra, List.any_map]
  rfl
section
variable {X : Cx} {G : Gx}
theorem op_inP (hu : X.A.units + 64 < cLine) : OpR X (compareOp .In) (rInP X.K false) := by
  intro pins s σ H x y v u Q I rx ry h
  rcases h with ⟨p, vs, ds, d, rfl, hs, hd, hx, h1, h2, h3, q⟩ | h
  · cases ry
    obtain ⟨bs, rb⟩ := Dp.reads I d x v hx rx
    rcases hs with hs | hs
    · obtain ⟨its, rv, pl, hlen⟩ := I.list hs
      obtain ⟨as, ra⟩ := Dp.readsAll I ds vs its hd rv
      have ra' : ReadsAll s.heap its.toArray.toList ds as := ra
      refine SeqAt.in_listAt (fun z => PyData.eqv (SeqAt.readOf s.heap z) d) pl.isList (SeqAt.items_plain ra' rb h1 h2 (by have := Nat.min_le_right (PyData.depthAll ds) d.depth; omega)) ⟨.bl _, H, I, rfl, ?_⟩
      rw [any_read ra h1]
      exact q
    · obtain ⟨its, rv, pl, hlen⟩ := I.tuple hs
      obtain ⟨as, ra⟩ := Dp.readsAll I ds vs its hd rv
      have ra' : ReadsAll s.heap its.toArray.toList ds as := ra
      refine SeqAt.in_tupleAt (fun z => PyData.eqv (SeqAt.readOf s.heap z) d) pl (SeqAt.items_plain ra' rb h1 h2 (by have := Nat.min_le_right (PyData.depthAll ds) d.depth; omega)) ⟨.bl _, H, I, rfl, ?_⟩
      rw [any_read ra h1]
      exact q
  · exact op_in_sign pins s σ H x y v u Q I rx ry h
theorem op_niP (hu : X.A.units + 64 < cLine) : OpR X (compareOp .NotIn) (rInP X.K true) := by
  intro pins s σ H x y v u Q I rx ry h
  rcases h with ⟨p, vs, ds, d, rfl, hs, hd, hx, h1, h2, h3, q⟩ | h
  · cases ry
    obtain ⟨bs, rb⟩ := Dp.reads I d x v hx rx
    rcases hs with hs | hs
    · obtain ⟨its, rv, pl, hlen⟩ := I.list hs
      obtain ⟨as, ra⟩ := Dp.readsAll I ds vs its hd rv
      have ra' : ReadsAll s.heap its.toArray.toList ds as := ra
      refine SeqAt.notIn_listAt (fun z => PyData.eqv (SeqAt.readOf s.heap z) d) pl.isList (SeqAt.items_plain ra' rb h1 h2 (by have := Nat.min_le_right (PyData.depthAll ds) d.depth; omega)) ⟨.bl _, H, I, rfl, ?_⟩
      rw [any_read ra h1]
      exact q
    · obtain ⟨its, rv, pl, hlen⟩ := I.tuple hs
      obtain ⟨as, ra⟩ := Dp.readsAll I ds vs its hd rv
      have ra' : ReadsAll s.heap its.toArray.toList ds as := ra
      refine SeqAt.notIn_tupleAt (fun z => PyData.eqv (SeqAt.readOf s.heap z) d) pl (SeqAt.items_plain ra' rb h1 h2 (by have := Nat.min_le_right (PyData.depthAll ds) d.depth; omega)) ⟨.bl _, H, I, rfl, ?_⟩
      rw [any_read ra h1]
      exact q
  · exact op_notIn_sign pins s σ H x y v u Q I rx ry h
theorem seqIn_i {φ : Lab} {μ : Mem} {H : Hp} {a : D} {x : V} {xs : List D} {vs : List V} {p : Addr} {k neg : Bool} {Q : VK} (h : seqIn a xs = some k) (ra : Rp G φ H a x) (rl : RpL G φ H xs vs) (hs : SqL G.K H p vs ∨ SqT G.K H p vs) (q : Q (.bl (if neg then !k else k)) H) : rInP G.K neg x (.ref p) H Q := by
  unfold seqIn at h
  by_cases c : (isPL xs && (isP a && decide ((dP a).depth ≤ 50))) = true
  · rw [if_pos c] at h
    cases h
    obtain ⟨c1, c2⟩ := andB c
    obtain ⟨c2, c3⟩ := andB c2
    exact .inl ⟨p, vs, dPL xs, dP a, rfl, hs, rl.dp c1, ra.dp c2, isPL_plain xs c1, isP_plain a c2, of_decide_eq_true c3, q⟩
  · rw [if_neg c] at h
    cases h
theorem inB_i {φ : Lab} {μ : Mem} {H : Hp} {a b : D} {x y : V} {k neg : Bool} {Q : VK} (h : inB a b = some k) (ra : Rp G φ H a x) (rb : Rp G φ H b y) (q : Q (.bl (if neg then !k else k)) H) : rInP G.K neg x y H Q := by
  cases rb with
  | tup hs r => exact seqIn_i (μ := μ) h ra r (.inr hs.t) q
  | lst hs _ r => exact seqIn_i (μ := μ) h ra r (.inl (SqL.of hs)) q
  | ro hs r => exact seqIn_i (μ := μ) h ra r (.inl hs.t) q
  | str z =>
    cases ra with
    | str w =>
      unfold inB at h
      dsimp only at h
      split at h
      · rename_i c e
        cases h
        refine .inr ⟨c, z, ?_, rfl, q⟩
        obtain ⟨l⟩ := w
        have e2 : l = #[c] := by
          apply Array.ext'
          rw [e]
        rw [e2]
      · cases h
    | _ => cases h
  | _ => cases h
theorem in_i : OpI G inM (rInP G.K false) := by
  intro φ μ H a b x y Q E R ra rb p
  unfold inM at p
  cases q : inB a b with
  | none => simp only [q] at p; exact p.elim
  | some k =>
    simp only [q] at p
    exact inB_i (μ := μ) (neg := false) q ra rb (Post.pure p R (.bl _))
theorem ni_i : OpI G niM (rInP G.K true) := by
  intro φ μ H a b x y Q E R ra rb p
  unfold niM at p
  cases q : inB a b with
  | none => simp only [q] at p; exact p.elim
  | some k =>
    simp only [q] at p
    exact inB_i (μ := μ) (neg := true) q ra rb (Post.pure p R (.bl _))
/-! ### all, any of a list of truths; list of a tuple, of a list -/
def blsOf : List D → Option (List Bool)
  | [] => some []
  | .bl b :: r => (match blsOf r with
    | some bs => some (b :: bs)
    | none => none)
  | _ :: _ => none
def allM : List D → M D
  | [.lst xs], μ => (match blsOf xs with
    | some bs => .ok (.bl (bs.all id)) μ
    | none => .bad)
  | _, _ => .bad
def anyM : List D → M D
  | [.lst xs], μ => (match blsOf xs with
    | some bs => .ok (.bl (bs.any id)) μ
    | none => .bad)
  | _, _ => .bad
theorem bls_v {φ : Lab} {H : Hp} : ∀ {xs : List D} {vs : List V} {bs : List Bool}, RpL G φ H xs vs → blsOf xs = some bs → vs = bs.map V.bl
  | _, _, _, .nil, h => by cases h; rfl
  | _, _, _, .cons (d := d) (ds := ds) r t, h => by
    cases r with
    | bl b =>
      unfold blsOf at h
      cases q : blsOf ds with
      | none => simp only [q] at h; cases h
      | some cs =>
        simp only [q] at h
        cases h
        rw [bls_v t q]
        rfl
    | _ => cases h
theorem all_i : CallI G allM (rAll G.K) := by
  intro φ μ H a x Q E R r p
  unfold allM at p
  split at p
  · obtain ⟨v, rfl, r1⟩ := r.one
    rename_i xs
    cases r1 with
    | @lst a vs _ hs _ rl =>
      cases q : blsOf xs with
      | none => simp only [q] at p; exact p.elim
      | some bs =>
        simp only [q] at p
        exact ⟨a, bs, rfl, by rw [← bls_v rl q]; exact SqL.of hs, Post.pure p R (.bl _)⟩
  · exact p.elim
theorem any_i : CallI G anyM (rAny G.K) := by
  intro φ μ H a x Q E R r p
  unfold anyM at p
  split at p
  · obtain ⟨v, rfl, r1⟩ := r.one
    rename_i xs
    cases r1 with
    | @lst a vs _ hs _ rl =>
      cases q : blsOf xs with
      | none => simp only [q] at p; exact p.elim
      | some bs =>
        simp only [q] at p
        exact ⟨a, bs, rfl, by rw [← bls_v rl q]; exact SqL.of hs, Post.pure p R (.bl _)⟩
  · exact p.elim
def listM : List D → M D
  | [.tup xs], μ => .ok (.lst xs) μ
  | [.lst xs], μ => .ok (.lst xs) μ
  | [.ro xs], μ => .ok (.lst xs) μ
  | _, _ => .bad
theorem list_i : CallI G listM (fun xs H Q => ∃ p ys, xs = [.ref p] ∧ (SqL G.K H p ys ∨ SqT G.K H p ys) ∧ ∀ l, H l = none → Q (.ref l) (upd H l (.lst ys))) := by
  intro φ μ H a x Q E R r p
  have fin : ∀ {xs : List D} {vs : List V}, Post G (tieD G) φ H (.ok (.lst xs) μ) Q E → RpL G φ H xs vs → ∀ l, H l = none → Q (.ref l) (upd H l (.lst vs)) := fun p rl l hl =>
    p φ _ _ (Grow.laid hl) (R.laid hl) (.lst upd_same (R.out hl) (rl.grow (Grow.laid hl)))
  unfold listM at p
  split at p
  · obtain ⟨v, rfl, r1⟩ := r.one
    cases r1 with
    | tup hs rl => exact ⟨_, _, rfl, .inr hs.t, fin p rl⟩
  · obtain ⟨v, rfl, r1⟩ := r.one
    cases r1 with
    | lst hs _ rl => exact ⟨_, _, rfl, .inl (SqL.of hs), fin p rl⟩
  · obtain ⟨v, rfl, r1⟩ := r.one
    cases r1 with
    | ro hs rl => exact ⟨_, _, rfl, .inl hs.t, fin p rl⟩
  · exact p.elim
end
/-! ### slices -/
def cutD {α : Type} (xs : List α) (lo hi : Option Int) : List α := (xs.drop (HT.sIx xs.length 0 lo)).take (HT.sIx xs.length xs.length hi - HT.sIx xs.length 0 lo)
def slM (d : D) (lo hi : Option Int) : M D := fun μ => match d with
  | .tup xs => .ok (.tup (cutD xs lo hi)) μ
  | .lst xs => .ok (.lst (cutD xs lo hi)) μ
  | .ro xs => .ok (.lst (cutD xs lo hi)) μ
  | .str z => if z.length ≤ 1000000 then .ok (.str (cutS z lo hi)) μ else .bad
  | _ => .bad
def oN : Ev → M (Option Int) := fun _ => M.pure none
def intO (d : D) : M (Option Int) := fun μ => match d with
  | .int i => .ok (some i) μ
  | _ => .bad
def oI (m : Ev → M D) : Ev → M (Option Int) := fun ρ => M.bind (m ρ) intO
def eSl (ma : Ev → M D) (ml mh : Ev → M (Option Int)) : Ev → M D := fun ρ => M.bind (ma ρ) fun x => M.bind (ml ρ) fun l => M.bind (mh ρ) fun h => slM x l h
def tieO : Tie (Option Int) (Option Int) := fun _ _ a b => b = a
abbrev JO (X : Cx) (Γ : Gs) (W : WX) (e : Option Expr) (m : Ev → M (Option Int)) : Prop := PO X e (tG (X.G Γ) tieO W m)
theorem po_w {X : Cx} {e : Option Expr} {t t' : TO} (h : PO X e t) (w : ∀ σ H Q, t' σ H Q → t σ H Q) : PO X e t' := ⟨fun pins s σ H Q I q => h.run pins s σ H Q I (w σ H Q q)⟩
section
variable {X : Cx} {W : WX} {Γ : Gs} {e : Expr} {m : Ev → M D} {pos p2 : Pos}
theorem jo_none : JO X Γ W none oN := po_w po_none fun σ H Q h => by
  obtain ⟨φ, ρ, μ, ev, r, p⟩ := h
  exact Post.pure p r rfl
theorem jo_some (he : JE X Γ W e m) : JO X Γ W (some e) (oI m) := po_w (po_some he) fun σ H Q h => by
  refine bE h fun φ1 H1 x v ρ μ1 ev r rv p => ?_
  cases rv with
  | int i => exact ⟨i, rfl, Post.pure p r rfl⟩
  | _ => exact p.elim
theorem RpL.cut {G : Gx} {φ : Lab} {H : Hp} {ds : List D} {vs : List V} (r : RpL G φ H ds vs) (lo hi : Option Int) : RpL G φ H (cutD ds lo hi) (cutV vs lo hi) := by
  unfold cutD cutV
  rw [r.length]
  exact (r.drop _).take _
theorem j_slice {lo hi : Option Expr} {ml mh : Ev → M (Option Int)} (he : JE X Γ W e m) (hl : JO X Γ W lo ml) (hh : JO X Γ W hi mh) : JE X Γ W (.Subscript e (.Slice lo hi none p2) pos) (eSl m ml mh) := by
  refine pe_w (pe_slice (sl_tupA.or (sl_list.or sl_str)) he hl hh) fun σ H Q h => ?_
  refine bE h fun φ1 H1 d v ρ μ1 e1 r1 rv p1 => ?_
  refine bG e1 r1 p1 fun φ2 H2 l l' μ2 g2 e2 r2 el p2 => ?_
  cases (show l' = l from el)
  refine bG e2 r2 p2 fun φ3 H3 h h' μ3 g3 e3 r3 eh p3 => ?_
  cases (show h' = h from eh)
  have rv := (rv.grow g2).grow g3
  unfold slM at p3
  cases rv with
  | @tup a vs ds hs rl =>
    refine .inl ⟨a, vs, rfl, hs.t, fun w => ?_, fun w p hp => ?_⟩
    · have e : cutD ds l h = ds := by
        unfold cutD
        rw [rl.length, w.1, w.2, List.drop_zero, Nat.sub_zero, ← rl.length, List.take_length]
      dsimp only at p3
      rw [e] at p3
      exact Post.pure p3 r3 (.tup hs rl)
    · exact p3 φ3 _ _ (Grow.laid hp) (r3.laid hp) (.tup (.inl ⟨.inl upd_same, r3.out hp⟩) ((rl.cut l h).grow (Grow.laid hp)))
  | @lst a vs ds hs hn rl => exact .inr (.inl ⟨a, vs, rfl, SqL.of hs, fun p hp => p3 φ3 _ _ (Grow.laid hp) (r3.laid hp) (.lst upd_same (r3.out hp) ((rl.cut l h).grow (Grow.laid hp)))⟩)
  | @ro a vs ds hs rl => exact .inr (.inl ⟨a, vs, rfl, hs.t, fun p hp => p3 φ3 _ _ (Grow.laid hp) (r3.laid hp) (.lst upd_same (r3.out hp) ((rl.cut l h).grow (Grow.laid hp)))⟩)
  | str z =>
    by_cases hz : z.length ≤ 1000000
    · simp only [if_pos hz] at p3
      exact .inr (.inr ⟨z, rfl, by rw [sizeLine_eq]; omega, Post.pure p3 r3 (.str _)⟩)
    · simp only [if_neg hz] at p3
      exact p3.elim
  | _ => exact p3.elim
end
/-! ### what the top keeps in a name -/
mutual
theorem datB_ok {K : PySem.W.Frag} : ∀ {d : D} {u : Value}, datB K d u = true → ∃ v, RelV v u ∧ ∀ (mg : Str → Option Value) (s : Gs) (P : Program) (w : World) (φ : Lab) (H : Hp), Rp ⟨K, mg, s, P, w⟩ φ H d v
  | .non, .none, _ => ⟨.non, rfl, fun _ _ _ _ _ _ => .non⟩
  | .bl b, .bool c, h => by
    cases of_decide_eq_true (show decide (b = c) = true from h)
    exact ⟨.bl b, rfl, fun _ _ _ _ _ _ => .bl b⟩
  | .int i, .int j t, h => by
    cases of_decide_eq_true (show decide (i = j) = true from h)
    exact ⟨.int i, ⟨t, rfl⟩, fun _ _ _ _ _ _ => .int i⟩
  | .str x, .str y t, h => by
    cases of_decide_eq_true (show decide (x = y) = true from h)
    exact ⟨.str x, ⟨t, rfl⟩, fun _ _ _ _ _ _ => .str x⟩
  | .tup ds, .ref a, h => by
    unfold datB at h
    cases q : K.lookup a with
    | none => rw [q] at h; cases h
    | some o =>
      rw [q] at h
      obtain ⟨cl, od, dt, sl⟩ := o
      cases dt with
      | seq its n =>
        obtain ⟨h1, h⟩ := andB h
        obtain ⟨h2, h3⟩ := andB h
        obtain ⟨vs, rv, rl⟩ := datLB_ok h3
        refine ⟨.ref a, rfl, fun mg s P w φ H => .tup (.inr (.inr ⟨_, its, n, q, of_decide_eq_true h1, rfl, of_decide_eq_true h2, rv⟩)) (rl mg s P w φ H)⟩
      | _ => cases h
theorem datLB_ok {K : PySem.W.Frag} : ∀ {ds : List D} {us : List Value}, datLB K ds us = true → ∃ vs, Vals vs us ∧ ∀ (mg : Str → Option Value) (s : Gs) (P : Program) (w : World) (φ : Lab) (H : Hp), RpL ⟨K, mg, s, P, w⟩ φ H ds vs
  | [], [], _ => ⟨[], .nil, fun _ _ _ _ _ _ => .nil⟩
  | d :: ds, u :: us, h => by
    obtain ⟨h1, h2⟩ := andB h
    obtain ⟨v, r, f⟩ := datB_ok h1
    obtain ⟨vs, rs, fs⟩ := datLB_ok h2
    exact ⟨v :: vs, .cons r rs, fun mg s P w φ H => .cons (f mg s P w φ H) (fs mg s P w φ H)⟩
end
/-- a global name keeps d -/
def ConG (K : PySem.W.Frag) (mg : Str → Option Value) (x : Str) (d : D) : Prop := ∃ u, mg x = some u ∧ ∃ v, RelV v u ∧ ∀ (s : Gs) (P : Program) (w : World) (φ : Lab) (H : Hp), Rp ⟨K, mg, s, P, w⟩ φ H d v
theorem conB_ok {K : PySem.W.Frag} {h : Heap} {mg : Str → Option Value} {x : Str} {d : D} (X : K.In h) (G : h.Ns mainGlobals mg) (c : conB K x d = true) : ConG K mg x d := by
  unfold conB at c
  split at c
  · rename_i u e
    obtain ⟨v, r, f⟩ := datB_ok c
    exact ⟨u, PySem.W.mg_of X G e, v, r, f mg⟩
  · cases c
theorem j_con {X : Cx} {W : WX} {Γ : Gs} {x : Str} {d : D} {pos : Pos} (hg : Gl X x) (hm : ConG X.K X.mg x d) (hdb : (x == ("__debug__" : Str)) = false := by decide) : JE X Γ W (.Name x pos) (eC d) := by
  obtain ⟨u, h1, v, r, f⟩ := hm
  refine ⟨fun pins s σ H Q I h => ld_glob I hg h1 ?_ hdb⟩
  obtain ⟨φ, ρ, μ, ev, rm, p⟩ := h
  exact ⟨v, H, I, r, Post.pure p rm (f _ _ _ _ _)⟩
/-! ### walked: a list, a tuple, a text's signs -/
def chars (z : Str) : List D := z.cps.toList.map fun c => .str ⟨#[c]⟩
def seqA (d : D) : M (List D) := fun μ => match d with
  | .lst xs => .ok xs μ
  | .ro xs => .ok xs μ
  | .tup xs => .ok xs μ
  | .str z => .ok (chars z) μ
  | _ => .bad
theorem its_tie {G : Gx} {φ : Lab} {H : Hp} (z : Str) : tieI G φ H (chars z) (Its z) := by
  intro φ1 H1 g i
  have hl : (chars z).length = z.cps.size := by simp [chars]
  refine ⟨fun d hd => ?_, fun h => by rw [hl] at h; exact h⟩
  have hi : i < z.cps.size := by
    have := (List.getElem?_eq_some_iff.mp hd).1
    rw [hl] at this
    exact this
  refine ⟨hi, fun x H2 μ R hy => ?_⟩
  obtain ⟨e1, c, e2, e3⟩ := (show H2 = H1 ∧ ∃ c, z.cps[i]? = some c ∧ x = .str ⟨#[c]⟩ from hy)
  subst e1 e3
  have : d = .str ⟨#[c]⟩ := by
    unfold chars at hd
    rw [List.getElem?_map, Array.getElem?_toList, e2] at hd
    exact (Option.some.inj hd).symm
  subst this
  exact ⟨Grow.refl _ _, R, .str _⟩
section
variable {X : Cx} {W : WX} {Γ : Gs} {tg l : Expr} {ml : Ev → M D}
theorem iter_v {pins : List (Addr × Obj)} {σ : L2.St} {H1 : Hp} {s1 : Shared} {φ : Lab} {μ : Mem} {d : D} {x : V} {v : Value} {R : It → Hp → Prop} {E : XK} (I : Inv X pins σ H1 s1) (r : RelV x v) (rm : MemR (X.G Γ) φ μ H1) (rd : Rp (X.G Γ) φ H1 d x) (p : Post (X.G Γ) (tieI (X.G Γ)) φ H1 (seqA d μ) R E) :
    wpAny (model X.prog X.w) X.A (pyIter v) (PIE X pins σ tg R) X.xe s1 := by
  cases rd with
  | lst h1 n1 r1 =>
    cases r
    obtain ⟨its, rv, pl, hz⟩ := I.list (SqL.of h1)
    exact wpAny_pyIter_list pl.isList (pi_one (tk := s1.toks) I _ (turn_list _ _) ⟨_, Heap.get?_push_size _ rfl, rfl, rfl⟩ (Post.pure p rm (itl_tie' (fun φ2 H2 g => SqL.of (g.st _ _ h1 n1 fun _ z => nomatch z)) r1)))
  | ro h1 r1 =>
    cases r
    obtain ⟨its, rv, pl, hz⟩ := I.list h1.t
    exact wpAny_pyIter_list pl.isList (pi_one (tk := s1.toks) I _ (turn_list _ _) ⟨_, Heap.get?_push_size _ rfl, rfl, rfl⟩ (Post.pure p rm (itl_tie' (fun φ2 H2 g => (h1.grow g).t) r1)))
  | tup h1 r1 =>
    cases r
    obtain ⟨its, rv, pl, hz⟩ := I.tuple h1.t
    exact wpAny_pyIter_tuple (items := its.toArray) pl (pi_one (tk := s1.toks) I _ (turn_tuple _ _) ⟨_, Heap.get?_push_size _ rfl, rfl, rfl⟩ (Post.pure p rm (itt_tie h1 r1)))
  | str z =>
    obtain ⟨t, rfl⟩ := r
    have q := Post.pure p rm (its_tie z)
    cases ha : z.cps.all (· < 128)
    · exact wpAny_pyIter_wide ha (pi_one (tk := s1.toks) I _ (turn_str _ z t "str_iterator" (.inr rfl)) ⟨_, Heap.get?_push_size _ rfl, rfl, rfl⟩ q)
    · exact wpAny_pyIter_ascii ha (pi_one (tk := s1.toks) I _ (turn_str _ z t "str_ascii_iterator" (.inl rfl)) ⟨_, Heap.get?_push_size _ rfl, rfl, rfl⟩ q)
  | _ => exact p.elim
theorem i_any (hl : JE X Γ W l ml) : JI X Γ W tg l (eSeq seqA ml) := by
  refine ⟨fun pins s σ H R I h => ?_⟩
  have key : tG (X.G Γ) (tieD (X.G Γ)) W ml σ H fun x H1 => ∃ φ μ d, MemR (X.G Γ) φ μ H1 ∧ Rp (X.G Γ) φ H1 d x ∧ Post (X.G Γ) (tieI (X.G Γ)) φ H1 (seqA d μ) R fun cls dd H' => W cls dd σ H' :=
    bE h fun φ1 H1 d x ρ μ1 e r rd p => ⟨φ1, μ1, d, r, rd, p⟩
  exact thn (hl.run pins s σ H _ I key) fun v s1 ⟨x, H1, I1, r1, φ, μ, d, rm, rd, p⟩ => iter_v I1 r1 rm rd p
end
/-! ### comprehensions -/
/-- nothing may be raised -/
def noE {α : Type} (m : M α) : M α := fun μ => match m μ with
  | .exc _ _ => .bad
  | r => r
def lcF (i : Nat) (mt : Ev → M Bool) (me : Ev → M D) (ρ : Ev) : List D → List D → M D
  | [], acc => fun μ => .ok (.lst acc) μ
  | d :: ds, acc => M.bind (noE (mt ((ρ.set i none).set i (some d)))) fun b => if b = true then (M.bind (noE (me ((ρ.set i none).set i (some d)))) fun y => if acc.length < 100000 then lcF i mt me ρ ds (acc ++ [y]) else M.bad) else lcF i mt me ρ ds acc
def eLc (i : Nat) (mi : Ev → M (List D)) (mt : Ev → M Bool) (me : Ev → M D) : Ev → M D := fun ρ => M.bind (mi ρ) fun ds => lcF i mt me ρ ds []
def bYes : Ev → M Bool := fun _ => M.pure true
abbrev W0 : WX := fun _ _ _ _ => False
abbrev JTs (X : Cx) (Γ : Gs) (es : List Expr) (m : Ev → M Bool) : Prop := PTs X es (tG (X.G Γ) tieB W0 m)
theorem pts_w {X : Cx} {e : List Expr} {t t' : TT} (h : PTs X e t) (w : ∀ σ H Q, t' σ H Q → t σ H Q) : PTs X e t' := ⟨fun pins s σ H Q I q => h.run pins s σ H Q I (w σ H Q q)⟩
theorem jts_nil {X : Cx} {Γ : Gs} : JTs X Γ [] bYes := pts_w pts_nil fun σ H Q h => by
  obtain ⟨φ, ρ, μ, ev, r, p⟩ := h
  exact Post.pure p r rfl
theorem jts_one {X : Cx} {Γ : Gs} {c : Expr} {m : Ev → M Bool} (h : JT X Γ W0 c m) : JTs X Γ [c] m := pts_one h
/-! what is hidden while it is made -/
def Lab.hide (φ : Lab) (D : Addr) : Lab := ⟨φ.l, D :: φ.h⟩
def Lab.bare (φ : Lab) (D : Addr) : Lab := ⟨φ.l, φ.h.filter fun a => decide (a ≠ D)⟩
section
variable {G : Gx} {φ φ' : Lab} {μ : Mem} {H H' : Hp} {D : Addr}
theorem Grow.hide {o : HO} (h : H D = none) : Grow φ H (φ.hide D) (upd H D o) :=
  ⟨⟨[], by simp [Lab.hide], fun _ z => nomatch z⟩, fun a z n u e => by
    rcases List.mem_cons.mp z with z | z
    · rw [z, h] at e; cases e
    · exact absurd z n, fun _ z => List.mem_cons_of_mem _ z, fun b u e _ _ => by rw [upd_ne (ne_of_none e h)]; exact e, dm_laid h, fun b o u e => by rw [upd_ne (ne_of_none e h)]; exact e⟩
theorem MemR.hideG {o : HO} (R : MemR G φ μ H) (h : H D = none) (ho : Hid D o) : MemR G (φ.hide D) μ (upd H D o) :=
  ⟨R.tb.ext (keep_laid h), let ⟨o, e⟩ := R.sm; ⟨o, keep_laid h _ _ e⟩, R.len, R.nd, fun l o e => by
    obtain ⟨a, h1, h2⟩ := R.at_ l o e
    exact ⟨a, h1, h2.growW (Grow.hide h).w fun u e _ => keep_laid h _ _ e⟩, fun a ha => by
    rcases List.mem_cons.mp ha with z | z
    · exact ⟨_, by rw [z, upd_same], by rw [z]; exact ho⟩
    · obtain ⟨u, e, z⟩ := R.hd a z
      exact ⟨u, keep_laid h _ _ e, z⟩⟩
theorem MemR.hide {vs : List V} (R : MemR G φ μ H) (h : H D = none) : MemR G (φ.hide D) μ (upd H D (.lst vs)) := R.hideG h (.inl (.inl ⟨vs, rfl⟩))
theorem Gw.wrH {o : HO} (hD : D ∈ φ.h) : Gw φ H φ (upd H D o) := ⟨⟨[], by simp⟩, fun _ _ n => n, fun b u e n _ => by rw [upd_ne (fun z => n (.inr (by rw [z]; exact hD)))]; exact e⟩
theorem MemR.wrHG {u0 : HO} (R : MemR G φ μ H) (hD : D ∈ φ.h) (nl : D ∉ φ.l) (hu : Hid D u0) : MemR G φ μ (upd H D u0) := by
  obtain ⟨v0, e0, z0⟩ := R.hd D hD
  have tb : LamX.Tabs G.s.T (upd H D u0) := tabs_upd R.tb e0 z0.live.nt z0.live.nc
  refine ⟨tb, ?_, R.len, R.nd, fun l o e => ?_, fun a ha => ?_⟩
  · obtain ⟨o, e⟩ := R.sm
    exact ⟨o, by rw [upd_ne (fun z => by rw [z, e0] at e; exact z0.nf _ _ (Option.some.inj e))]; exact e⟩
  · obtain ⟨a, h1, h2⟩ := R.at_ l o e
    exact ⟨a, h1, h2.growW (Gw.wrH hD) fun u e _ => by rw [upd_ne (fun z => nl (by rw [← z]; exact List.mem_of_getElem? h1))]; exact e⟩
  · by_cases q : a = D
    · exact ⟨_, by rw [q, upd_same], by rw [q]; exact hu⟩
    · obtain ⟨u, e, z⟩ := R.hd a ha
      exact ⟨u, by rw [upd_ne q]; exact e, z⟩
theorem MemR.wrH {vs : List V} (R : MemR G φ μ H) (hD : D ∈ φ.h) (nl : D ∉ φ.l) : MemR G φ μ (upd H D (.lst vs)) := R.wrHG hD nl (.inl (.inl ⟨vs, rfl⟩))
theorem bare_mem {a : Addr} (h : a ∈ φ.bare D) : a ∈ φ := by
  rcases h with h | h
  · exact .inl h
  · exact .inr (List.mem_filter.mp h).1
theorem Gw.bare : Gw φ H (φ.bare D) H := ⟨⟨[], by simp [Lab.bare]⟩, fun _ _ n z => n (bare_mem z), fun _ _ e _ _ => e⟩
theorem MemR.bare (R : MemR G φ μ H) : MemR G (φ.bare D) μ H :=
  ⟨R.tb, R.sm, R.len, R.nd, fun l o e => by
    obtain ⟨a, h1, h2⟩ := R.at_ l o e
    exact ⟨a, h1, h2.growW Gw.bare fun u e _ => e⟩, fun a ha => R.hd a (List.mem_filter.mp ha).1⟩
theorem bare_out (nl : D ∉ φ.l) : D ∉ φ.bare D := by
  rintro (h | h)
  · exact nl h
  · have := (List.mem_filter.mp h).2
    simp at this
theorem Grow.bare (g : Grow φ H φ' H') (nD : D ∉ φ.h) : Grow φ H (φ'.bare D) H' :=
  ⟨g.ex, fun a z n => g.hx a (List.mem_filter.mp z).1 n, fun a z => List.mem_filter.mpr ⟨g.hs a z, decide_eq_true fun e => nD (by rw [← e]; exact z)⟩, g.kp, g.dm, g.kf⟩
theorem Grow.wrNew {o : HO} (g : Grow φ H φ' H') (h : H D = none) : Grow φ H φ' (upd H' D o) :=
  ⟨g.ex, g.hx, g.hs, fun b u e n t => by rw [upd_ne (ne_of_none e h)]; exact g.kp b u e n t, fun b u e t => by
    obtain ⟨v, e2, t2⟩ := g.dm b u e t
    exact ⟨v, by rw [upd_ne (ne_of_none e h)]; exact e2, t2⟩, fun b o u e => by rw [upd_ne (ne_of_none e h)]; exact g.kf b o u e⟩
theorem bN {α ν β : Type} {T : Tie α ν} {m : Ev → M α} {k : α → M β} {ρ : Ev} {σ : L2.St} {R : ν → Hp → Prop} (P : Res β → Prop) (nb : ¬ P .bad)
    (e : EvR G φ H ρ σ) (r : MemR G φ μ H) (p : P (M.bind (noE (m ρ)) k μ))
    (hk : ∀ φ1 H1 x v μ1, Grow φ H φ1 H1 → EvR G φ1 H1 ρ σ → MemR G φ1 μ1 H1 → T φ1 H1 x v → P (k x μ1) → R v H1) : tG G T W0 m σ H R := by
  refine ⟨φ, ρ, μ, e, r, ?_⟩
  unfold M.bind noE at p
  cases q : m ρ μ with
  | ok d μ1 =>
    rw [q] at p
    intro φ1 H1 v g r1 rv
    exact hk φ1 H1 d v μ1 g (e.grow g) r1 rv p
  | exc x μ1 =>
    rw [q] at p
    exact (nb p).elim
  | bad =>
    rw [q] at p
    exact (nb p).elim
end
theorem tLc_i {X : Cx} {Γ : Gs} {W : WX} {i : Nat} {mi : Ev → M (List D)} {mt : Ev → M Bool} {me : Ev → M D} {σ : L2.St} {H : Hp} {Q : VK} (h : tG (X.G Γ) (tieD (X.G Γ)) W (eLc i mi mt me) σ H Q) :
    tLc (tG (X.G Γ) (tieI (X.G Γ)) W mi) (gName i) (tG (X.G Γ) tieB W0 mt) (tG (X.G Γ) (tieD (X.G Γ)) W0 me) [i] σ H Q := by
  refine bE h fun φ1 H1 items J ρ μ1 e1 r1 rj p1 => ?_
  intro D hD
  have nD1 : D ∉ φ1.h := fun z => r1.out hD (.inr z)
  have nL1 : D ∉ φ1.l := fun z => r1.out hD (.inl z)
  have gD : Grow φ1 H1 (φ1.hide D) (upd H1 D (.lst [])) := Grow.hide hD
  refine ⟨fun k m H => k + m = items.length ∧ ∃ φ μ acc av, Grow φ1 H1 φ H ∧ H D = some (.lst av) ∧ D ∈ φ.h ∧ D ∉ φ.l ∧ RpL (X.G Γ) φ H acc av ∧ EvR (X.G Γ) φ H ρ σ ∧ MemR (X.G Γ) φ μ H ∧ Post (X.G Γ) (tieD (X.G Γ)) φ1 H1 (lcF i mt me ρ (items.drop k) acc μ) Q fun cls dd H' => W cls dd σ H',
    ⟨items.length, by omega, φ1.hide D, μ1, [], [], gD, upd_same, List.mem_cons_self, nL1, .nil, e1.grow gD, r1.hide hD, p1⟩, ?_⟩
  rintro k m H ⟨hm, φ, μ, acc, av, g, hDl, hDh, nL, ra, ev, r, p⟩
  obtain ⟨jg, js⟩ := rj φ H g k
  by_cases hi : k < items.length
  · have hd : items[k]? = some items[k] := List.getElem?_eq_getElem hi
    obtain ⟨j1, j2⟩ := jg _ hd
    rw [List.drop_eq_getElem_cons hi] at p
    refine .inr ⟨j1, fun H' => k + 1 + (m - 1) = items.length ∧ ∃ φ μ acc av, Grow φ1 H1 φ H' ∧ H' D = some (.lst av) ∧ D ∈ φ.h ∧ D ∉ φ.l ∧ RpL (X.G Γ) φ H' acc av ∧ EvR (X.G Γ) φ H' ρ σ ∧ MemR (X.G Γ) φ μ H' ∧ Post (X.G Γ) (tieD (X.G Γ)) φ1 H1 (lcF i mt me ρ (items.drop (k + 1)) acc μ) Q fun cls dd H' => W cls dd σ H', fun H' w => ⟨m - 1, by omega, w⟩, fun x H2 hy => ?_⟩
    obtain ⟨g2, r2, rx⟩ := j2 x H2 μ r hy
    have ev2 := ev.grow g2
    show wipe ((wipe σ [i]).set i (some x)) [i] = wipe σ [i] ∧ _
    refine ⟨by show ((σ.set i none).set i (some x)).set i none = σ.set i none; rw [List.set_set, List.set_set], ?_⟩
    have evB : EvR (X.G Γ) φ H2 ((ρ.set i none).set i (some items[k])) ((wipe σ [i]).set i (some x)) := (ev2.forget i none).set i rx
    unfold lcF at p
    have nb : ¬ Post (X.G Γ) (tieD (X.G Γ)) φ1 H1 .bad Q fun cls dd H' => W cls dd σ H' := fun z => z
    refine bN (T := tieB) (fun r => Post (X.G Γ) (tieD (X.G Γ)) φ1 H1 r Q fun cls dd H' => W cls dd σ H') nb evB r2 p fun φ3 H3 b b' μ3 g3 e3 r3 eb p3 => ?_
    cases (show b' = b from eb)
    have G3 := (g.trans g2).trans g3
    have tb : ∀ {vs : List V} ps, HO.lst vs ≠ .tbl ps := fun _ z => nomatch z
    have hD2 := g2.kp _ _ hDl nL tb
    have nD2 := g2.outL hDl tb nL
    have hD3 := g3.kp _ _ hD2 nD2 tb
    have nD3 := g3.outL hD2 tb nD2
    have hH3 := g3.hs _ (g2.hs _ hDh)
    cases b with
    | false =>
      show _ ∧ _
      exact ⟨by omega, φ3, μ3, acc, av, G3, hD3, hH3, nD3, (ra.grow g2).grow g3, ev2.grow g3, r3, p3⟩
    | true =>
      rw [if_pos rfl] at p3
      show tG _ _ _ _ _ _ _
      refine bN (T := tieD (X.G Γ)) (fun r => Post (X.G Γ) (tieD (X.G Γ)) φ1 H1 r Q fun cls dd H' => W cls dd σ H') nb e3 r3 p3 fun φ4 H4 y yv μ4 g4 e4 r4 ry p4 => ?_
      have hD4 := g4.kp _ _ hD3 nD3 tb
      have nD4 := g4.outL hD3 tb nD3
      have hH4 := g4.hs _ hH3
      by_cases hl : acc.length < 100000
      · rw [if_pos hl] at p4
        have rav := ((ra.grow g2).grow g3).grow g4
        refine ⟨av, hD4, by rw [← rav.length, sizeLine_eq]; omega, by omega, ?_⟩
        have g5 : Gw φ4 H4 φ4 (upd H4 D (.lst (av ++ [yv]))) := Gw.wrH hH4
        exact ⟨φ4, μ4, acc ++ [y], av ++ [yv], (G3.trans g4).wrNew hD, upd_same, hH4, nD4, (rav.append (.cons ry .nil)).growW g5, ((ev2.grow g3).grow g4).growW g5, r4.wrH hH4 nD4, p4⟩
      · rw [if_neg hl] at p4
        exact p4.elim
  · have : items.drop k = [] := List.drop_of_length_le (by omega)
    rw [this] at p
    exact .inl ⟨js (by omega), p (φ.bare D) H (.ref D) (g.bare nD1) r.bare (.lst hDl (bare_out nL) (ra.growW Gw.bare))⟩
section
variable {X : Cx} {Γ : Gs} {W : WX} {elt iter : Expr} {ifs : List Expr} {x : Str} {i : Nat} {scope : Scope} {p1 pos : Pos} {mi : Ev → M (List D)} {mt : Ev → M Bool} {me : Ev → M D}
/-- [elt for x in iter if ..] -/
theorem j_lc (hc : X.calm = true) (hN : X.N.Nodup) (hi : JI X Γ W (.Name x p1) iter mi) (ok : blkC X.N X.env.scope scope [(x, i)] = true)
    (hg : ∀ (s : Shared) (H : Hp) (C : Addr) (cl : List (Str × Addr)) (fp : List Addr), PG (X.blk s H scope (compEnvC scope cl C X.env) fp) (.Name x p1) (gName i))
    (ht : ∀ (s : Shared) (H : Hp) (C : Addr) (cl : List (Str × Addr)) (fp : List Addr), JTs (X.blk s H scope (compEnvC scope cl C X.env) fp) Γ ifs mt)
    (he : ∀ (s : Shared) (H : Hp) (C : Addr) (cl : List (Str × Addr)) (fp : List Addr), JE (X.blk s H scope (compEnvC scope cl C X.env) fp) Γ W0 elt me) (hs : ∀ x, foldedSetIterable iter X.env x = pure x := by intro _; rfl) :
    JE X Γ W (.ListComp elt [⟨.Name x p1, iter, ifs, 0⟩] scope pos) (eLc i mi mt me) :=
  pe_w (pe_lc (own := [(x, i)]) (g := gName i) hc hN hi (blkOk_by ok) hg ht he hs) fun σ H Q h => tLc_i h
/-- y = [..] on one line -/
theorem s_setLc {j : Nat} {y : Str} {py spos : Pos} (hc : X.calm = true) (hN : X.N.Nodup) (hy : X.N[j]? = some y) (hyl : X.env.scope.names.lookup y = some .local)
    (hsw : swapsWith (.ListComp elt [⟨.Name x p1, iter, ifs, 0⟩] scope pos) (some (.Name y py)) spos.line X.env = pure true) (hi : JI X Γ W (.Name x p1) iter mi) (ok : blkC X.N X.env.scope scope [(x, i)] = true)
    (hg : ∀ (s : Shared) (H : Hp) (C : Addr) (cl : List (Str × Addr)) (fp : List Addr), PG (X.blk s H scope (compEnvC scope cl C X.env) fp) (.Name x p1) (gName i))
    (ht : ∀ (s : Shared) (H : Hp) (C : Addr) (cl : List (Str × Addr)) (fp : List Addr), JTs (X.blk s H scope (compEnvC scope cl C X.env) fp) Γ ifs mt)
    (he : ∀ (s : Shared) (H : Hp) (C : Addr) (cl : List (Str × Addr)) (fp : List Addr), JE (X.blk s H scope (compEnvC scope cl C X.env) fp) Γ W0 elt me) (hs : ∀ x, foldedSetIterable iter X.env x = pure x := by intro _; rfl) :
    JS X Γ W (.Assign [.Name y py] (.ListComp elt [⟨.Name x p1, iter, ifs, 0⟩] scope pos) spos) (sSet j (eLc i mi mt me)) :=
  ps_w (ps_setLc (own := [(x, i)]) (g := gName i) hc hN hy hyl hsw hi (blkOk_by ok) hg ht he hs) fun Z σ H h => by
    obtain ⟨φ, ρ, μ, ev, r, p⟩ := h
    exact tLc_i (bS ev r p fun φ1 H1 d v μ1 g e1 r1 rv p1 => p1 φ1 H1 _ (Grow.refl _ _) r1 (e1.set j rv))
end
theorem takes_W0 {X : Cx} : L2N.Takes X W0 := fun u s' ⟨_, _, _, _, _, _, _, _, _, _, _, _, _, _, _, _, w⟩ => w.elim
/-! ### match -/
def mcNil : D → MS := fun _ => sNext
def mcVal (c : D) (b : MS) (f : D → MS) : D → MS := fun d ρ μ => bindS (M.bind (eqM d c) isBl μ) ρ fun k μ' => if k = true then b ρ μ' else f d ρ μ'
def mcAny (b : MS) : D → MS := fun _ => b
def sMatch (m : Ev → M D) (f : D → MS) : MS := fun ρ μ => bindS (m ρ μ) ρ fun d μ' => f d ρ μ'
structure JMc (X : Cx) (Γ : Gs) (W : WX) (cs : List MatchCase) (f : D → MS) : Prop where
  run : ∀ (pins : List (Addr × Obj)) (s : Shared) (σ : L2.St) (H : Hp) (v : V) (u : Value) (Z : Ends) (first : Bool) (φ : Lab) (d : D) (ρ : Ev) (μ : Mem), Inv X pins σ H s → RelV v u → EvR (X.G Γ) φ H ρ σ → MemR (X.G Γ) φ μ H → Rp (X.G Γ) φ H d v →
    PostS (X.G Γ) φ H (f d ρ μ) Z W → wpAny (model X.prog X.w) X.A (matchCases cs X.env u first) (SP X pins Z) X.xe s
section
variable {X : Cx} {Γ : Gs} {W : WX} {e : Expr} {c : D} {body : List Stmt} {b : MS} {rest : List MatchCase} {f : D → MS} {p pos : Pos}
theorem mc_nil : JMc X Γ W [] mcNil := ⟨fun pins s σ H v u Z first φ d ρ μ I rv ev rm rd q => wpAny_matchCases_nil ⟨σ, H, I, q φ H σ (Grow.refl _ _) rm ev⟩⟩
theorem mc_any (hb : JSs X Γ W body b) : JMc X Γ W (⟨.MatchAs none none p, none, body⟩ :: rest) (mcAny b) := ⟨fun pins s σ H v u Z first φ d ρ μ I rv ev rm rd q =>
  wpAny_matchCases_cons (wpAny_matchPattern_Capture (wpAny_assignInOrder_none (hb.run pins s σ H Z I ⟨φ, ρ, μ, ev, rm, q⟩)))⟩
theorem mc_val {rr : R2} (he : JE X Γ W e (eC c)) (ho : OpR X (compareOp .Eq) rr) (hi : OpI (X.G Γ) eqM rr) (hb : JSs X Γ W body b) (hr : JMc X Γ W rest f) : JMc X Γ W (⟨.MatchValue e p, none, body⟩ :: rest) (mcVal c b f) := by
  refine ⟨fun pins s σ H v u Z first φ d ρ μ I rv ev rm rd q => ?_⟩
  have key : tG (X.G Γ) (tieD (X.G Γ)) W (eC c) σ H fun x H1 => rr v x H1 fun z H2 => ∃ k φ2 μ2, z = .bl k ∧ EvR (X.G Γ) φ2 H2 ρ σ ∧ MemR (X.G Γ) φ2 μ2 H2 ∧ Rp (X.G Γ) φ2 H2 d v ∧ PostS (X.G Γ) φ2 H2 (if k = true then b ρ μ2 else f d ρ μ2) Z W := by
    refine ⟨φ, ρ, μ, ev, rm, ?_⟩
    intro φ1 H1 x g1 r1 rx
    refine hi φ1 μ H1 d c v x _ (fun cls dd H' => W cls dd σ H') r1 (rd.grow g1) rx ?_
    unfold mcVal M.bind at q
    cases e : eqM d c μ with
    | ok z μ2 =>
      rw [e] at q
      intro φ2 H2 zz g2 r2 rz
      have G := g1.trans g2
      cases rz with
      | bl k => exact ⟨k, φ2, μ2, rfl, ev.grow G, r2, rd.grow G, PostS.grow G q⟩
      | _ => exact q.elim
    | exc x μ2 =>
      rw [e] at q
      intro φ2 H2 cls dd g2 r2 ex
      have G := g1.trans g2
      exact q φ2 H2 σ cls dd G r2 (ev.grow G) ex
    | bad =>
      rw [e] at q
      exact q.elim
  refine wpAny_matchCases_cons (wpAny_matchPattern_Value (thn (he.run pins s σ H _ I key) fun x s1 ⟨xv, H1, I1, rx, q1⟩ => thn (ho pins s1 σ H1 v xv u x _ I1 rv rx q1) fun y s2 ⟨z, H2, I2, ry, k, φ2, μ2, ez, ev2, r2, rd2, q2⟩ => ?_))
  subst ez
  cases (show y = Value.bool k from ry)
  refine wpAny_truthy_bool ?_
  cases k with
  | true => exact wpAny_assignInOrder_none (hb.run pins s2 σ H2 Z I2 ⟨φ2, ρ, μ2, ev2, r2, q2⟩)
  | false => exact hr.run pins s2 σ H2 v u Z false φ2 d ρ μ2 I2 rv ev2 r2 rd2 q2
theorem s_match {m : Ev → M D} {cs : List MatchCase} (he : JE X Γ W e m) (hm : JMc X Γ W cs f) : JS X Γ W (.Match e cs pos) (sMatch m f) := by
  refine ⟨fun pins s σ H Z I h => wpAny_Match ?_⟩
  obtain ⟨φ, ρ, μ, ev, r, q⟩ := h
  have key : tG (X.G Γ) (tieD (X.G Γ)) W m σ H fun v H1 => ∃ φ1 d μ1, EvR (X.G Γ) φ1 H1 ρ σ ∧ MemR (X.G Γ) φ1 μ1 H1 ∧ Rp (X.G Γ) φ1 H1 d v ∧ PostS (X.G Γ) φ1 H1 (f d ρ μ1) Z W :=
    bS ev r q fun φ1 H1 d v μ1 g e1 r1 rv p1 => ⟨φ1, d, μ1, e1, r1, rv, p1⟩
  exact thn (he.run pins s σ H _ I key) fun u s1 ⟨v, H1, I1, rv, φ1, d, μ1, e1, r1, rd, p1⟩ => hm.run pins s1 σ H1 v u Z true φ1 d ρ μ1 I1 rv e1 r1 rd p1
end
end SE

/-! SEl: reckoning with comprehensions, slices, match; ratios, shares. -/
namespace SE
open PySem PySem.Spec PyProof.Rows L2
section
variable {α β : Type} {ρ : Ev} {μ : Mem}
theorem wr_bnd {m : M α} {k : α → M β} {P : β → Mem → Prop} {E : Ex → Mem → Prop} : wr (M.bind m k μ) P E = wr (m μ) (fun x μ1 => wr (k x μ1) P E) E := by
  unfold M.bind wr
  cases m μ <;> rfl
variable {P : D → Mem → Prop} {L : List D → Mem → Prop} {B : Bool → Mem → Prop} {O : Option Int → Mem → Prop} {E : Ex → Mem → Prop} {i : Nat} {mi : Ev → M (List D)} {mt : Ev → M Bool} {me ma : Ev → M D} {ml mh : Ev → M (Option Int)}
theorem wr_eLc : wr (eLc i mi mt me ρ μ) P E = wr (mi ρ μ) (fun ds μ1 => wr (lcF i mt me ρ ds [] μ1) P E) E := wr_bnd
theorem wr_eSl : wr (eSl ma ml mh ρ μ) P E = wr (ma ρ μ) (fun x μ1 => wr (ml ρ μ1) (fun l μ2 => wr (mh ρ μ2) (fun h μ3 => wr (slM x l h μ3) P E) E) E) E := by
  unfold eSl
  rw [wr_bnd]
  simp only [wr_bnd]
theorem wr_oN : wr (oN ρ μ) O E = O none μ := rfl
theorem wr_oI : wr (oI ma ρ μ) O E = wr (ma ρ μ) (fun x μ1 => wr (intO x μ1) O E) E := wr_bnd
theorem intO_i {k : Int} : intO (.int k) μ = .ok (some k) μ := rfl
theorem wr_bYes : wr (bYes ρ μ) B E = B true μ := rfl
theorem seqA_l {xs : List D} : seqA (.lst xs) μ = .ok xs μ := rfl
theorem seqA_r {xs : List D} : seqA (.ro xs) μ = .ok xs μ := rfl
theorem seqA_t {xs : List D} : seqA (.tup xs) μ = .ok xs μ := rfl
theorem seqA_s {z : Str} : seqA (.str z) μ = .ok (chars z) μ := rfl
theorem listM_t {xs : List D} : listM [.tup xs] μ = .ok (.lst xs) μ := rfl
theorem listM_l {xs : List D} : listM [.lst xs] μ = .ok (.lst xs) μ := rfl
theorem slM_t {xs : List D} {lo hi : Option Int} : slM (.tup xs) lo hi μ = .ok (.tup (cutD xs lo hi)) μ := rfl
theorem slM_l {xs : List D} {lo hi : Option Int} : slM (.lst xs) lo hi μ = .ok (.lst (cutD xs lo hi)) μ := rfl
variable {N : Ev → Mem → Prop} {R : D → Mem → Prop} {Bk C : Ev → Mem → Prop} {X : Ex → Mem → Prop} {f : D → MS} {b : MS} {d c : D}
theorem ws_sMatch : ws (sMatch ma f ρ μ) N R Bk C X = wr (ma ρ μ) (fun d μ1 => ws (f d ρ μ1) N R Bk C X) X := by
  unfold sMatch
  rw [ws_bindS]
theorem ws_mcNil : ws (mcNil d ρ μ) N R Bk C X = N ρ μ := rfl
theorem ws_mcAny : ws (mcAny b d ρ μ) N R Bk C X = ws (b ρ μ) N R Bk C X := rfl
theorem ws_mcVal : ws (mcVal c b f d ρ μ) N R Bk C X = wr (eqM d c μ) (fun z μ1 => wr (isBl z μ1) (fun k μ2 => if k = true then ws (b ρ μ2) N R Bk C X else ws (f d ρ μ2) N R Bk C X) X) X := by
  unfold mcVal
  rw [ws_bindS, wr_bnd]
  congr 1
  funext z μ1
  congr 1
  funext k μ2
  cases k <;> rfl
/-- a comprehension that maps and keeps all -/
theorem lcF_map {g : D → D} : ∀ {ds acc : List D} {μ : Mem}, (∀ d ∈ ds, ∀ μ, me ((ρ.set i none).set i (some d)) μ = .ok (g d) μ) → acc.length + ds.length ≤ 100000 → lcF i bYes me ρ ds acc μ = .ok (.lst (acc ++ ds.map g)) μ
  | [], acc, μ, _, _ => by
    show Res.ok (D.lst acc) μ = _
    rw [List.map_nil, List.append_nil]
  | d :: ds, acc, μ, h, hl => by
    have e1 := h d List.mem_cons_self μ
    simp only [List.length_cons] at hl
    show M.bind (noE (bYes _)) _ μ = _
    unfold M.bind noE
    dsimp only [bYes, M.pure]
    rw [if_pos rfl]
    rw [e1]
    dsimp only
    rw [if_pos (by omega), lcF_map (g := g) (fun x hx => h x (List.mem_cons_of_mem _ hx)) (by simp; omega)]
    simp
theorem blsOf_map {f : D → Bool} : ∀ ds : List D, blsOf (ds.map fun d => .bl (f d)) = some (ds.map f)
  | [] => rfl
  | d :: ds => by
    show (match blsOf (ds.map fun d => .bl (f d)) with
      | some bs => some (f d :: bs)
      | none => none) = _
    rw [blsOf_map ds]
    rfl
theorem allM_map {f : D → Bool} {ds : List D} : allM [.lst (ds.map fun d => .bl (f d))] μ = .ok (.bl ((ds.map f).all id)) μ := by
  show (match blsOf (ds.map fun d => .bl (f d)) with
    | some bs => Res.ok (D.bl (bs.all id)) μ
    | none => .bad) = _
  rw [blsOf_map]
end
end SE
local macro_rules | `(tactic| array_get_dec) => `(tactic| try simp only [SE.wr_eVar, SE.wr_eC, SE.wr_e2, SE.wr_e1, SE.wr_eL, SE.wr_eCall, SE.wr_eCallK, SE.wr_eLL, SE.wr_eSeq, SE.wr_lNil, SE.wr_lCons, SE.wr_bTru, SE.wr_bOf, SE.wr_bNot, SE.wr_bAnd, SE.wr_bOr, SE.wr_isBl, SE.wr_eAnd, SE.wr_eOr, SE.wr_eNot, SE.wr_eIf, SE.wr_e3c, SE.wr_ok, SE.wr_exc, SE.ws_sNext, SE.ws_sSeq, SE.ws_sSet, SE.ws_sDrop, SE.ws_sRet, SE.ws_sRetN, SE.ws_sBrk, SE.ws_sCnt, SE.ws_sIf, SE.ws_sAsg, SE.ws_sPar, SE.ws_sSub, SE.ws_sForE, SE.wr_callM, List.getElem?_cons_zero, List.getElem?_cons_succ, List.set_cons_zero, List.set_cons_succ, List.map_cons, List.map_nil, List.length_cons, List.length_nil, List.cons_append, List.nil_append, List.replicate, List.append_nil, SE.addM_i, SE.subM_i, SE.negM_i, SE.cmpM_i, SE.eqM_i, SE.eqM_s, SE.neM_i, SE.neM_s, SE.absM_i, SE.intM_i, SE.intM_b, SE.max2M_i, SE.min2M_i, SE.lenM_t, SE.lenM_l, SE.lenM_r, SE.tupM_ap, SE.lstM_ap, SE.strM_s, SE.truB_b, SE.isBl_b, SE.newM_ap, Nat.reduceLeDiff, SE.seqL_l, SE.seqT_t, SE.isNM_n, SE.isNM_i, SE.wr_eLc, SE.wr_eSl, SE.wr_oN, SE.wr_oI, SE.intO_i, SE.seqA_l, SE.seqA_r, SE.seqA_t, SE.listM_t, SE.listM_l, SE.slM_t, SE.slM_l, SE.ws_sMatch, SE.ws_mcNil, SE.ws_mcAny, SE.ws_mcVal, if_true, if_false, Bool.false_eq_true, Bool.not_true, Bool.not_false, Nat.reduceSub, Nat.reduceAdd, Nat.zero_add, eq_self, and_self, and_true, true_and, SE.gN])
namespace SE
open PySem PySem.Spec PyProof.Rows L2
/-! ### ratios, shares, pixels -/
mutual
/-- known by its kind, numbers that are not too large -/
def smD : D → Bool
  | .int i => decide (i.natAbs ≤ 10 ^ 40)
  | .tup xs => smL xs
  | .non | .bl _ | .str _ | .lst _ | .ro _ | .dct _ => true
  | _ => false
def smL : List D → Bool
  | [] => true
  | d :: ds => smD d && smL ds
end
theorem smD_pl {d : D} (h : smD d = true) : plD d = true := by
  cases d <;> first | rfl | cases h
def rat : D → Bool
  | .tup [.int a, .int b] => decide (1 ≤ b) && decide (Int.gcd a b = 1)
  | _ => false
def shr : D → Bool
  | .tup [.int a, .int b] => decide (1 ≤ b) && decide (Int.gcd a b = 1) && (decide (0 ≤ a) && decide (a ≤ b))
  | _ => false
def leP : D → D → Bool
  | .tup [.int a, .int b], .tup [.int c, .int e] => decide (a * e ≤ c * b)
  | _, _ => false
def pix : D → Bool
  | .tup [x, y] => shr x && (shr y && leP x y)
  | _ => false
theorem shr_is {x : D} (h : shr x = true) : ∃ a b : Int, x = .tup [.int a, .int b] ∧ 1 ≤ b ∧ Int.gcd a b = 1 ∧ 0 ≤ a ∧ a ≤ b := by
  unfold shr at h
  split at h
  · rename_i a b
    simp only [Bool.and_eq_true, decide_eq_true_eq] at h
    exact ⟨a, b, rfl, h.1.1, h.1.2, h.2.1, h.2.2⟩
  · cases h
theorem sm_int {i : Int} (h : smD (.int i) = true) : i.natAbs ≤ 10 ^ 40 := of_decide_eq_true h
theorem sm_2 {x y : D} (h : smD (.tup [x, y]) = true) : smD x = true ∧ smD y = true := by
  have h2 : (smD x && (smD y && true)) = true := h
  obtain ⟨a, b⟩ := andB h2
  exact ⟨a, (andB b).1⟩
theorem mulM_l {xs : List D} {k : Int} {μ : Mem} (h : 0 ≤ k ∧ k ≤ 1000 ∧ xs.length ≤ 1000) : mulM (.lst xs) (.int k) μ = .ok (.lst (List.replicate k.toNat xs).flatten) μ := by
  unfold mulM
  exact if_pos h
/-! what may be shown, rows of any length -/
theorem QwL {c : Nat} : ∀ {xs : List D}, (∀ x ∈ xs, Qw c x) → SE.isQL xs = true ∧ PyData.showableAll (dPL xs) = true ∧ PyData.depthAll (dPL xs) ≤ c ∧ costL xs ≤ xs.length * (10000 * c + 2)
  | [], _ => ⟨rfl, rfl, Nat.zero_le _, Nat.zero_le _⟩
  | x :: xs, h => by
    obtain ⟨h1, h2, h3, h4⟩ := h x List.mem_cons_self
    obtain ⟨k1, k2, k3, k4⟩ := QwL fun y hy => h y (List.mem_cons_of_mem _ hy)
    refine ⟨by simp [SE.isQL, h1, k1], by simp [dPL, PyData.showableAll, h2, k2], ?_, ?_⟩
    · simp [dPL, PyData.depthAll]; omega
    · simp only [costL, List.length_cons, Nat.add_mul]; omega
theorem Qw.tn {c n : Nat} {xs : List D} (h : ∀ x ∈ xs, Qw c x) (hn : xs.length ≤ n) (h2 : n ≤ 1000) : Qw (n * c + 1) (.tup xs) := by
  obtain ⟨k1, k2, k3, k4⟩ := QwL h
  have e : xs.length * (10000 * c + 2) ≤ n * (10000 * c + 2) := Nat.mul_le_mul_right _ hn
  have e2 : n * (10000 * c + 2) = 10000 * (n * c) + n * 2 := by rw [Nat.mul_add, ← Nat.mul_assoc, Nat.mul_comm n 10000, Nat.mul_assoc]
  by_cases z : xs = []
  · subst z
    exact ⟨rfl, rfl, by simp [dP, dPL, PyData.depth, PyData.depthAll], by simp [cost, costL]; omega⟩
  have n1 : 1 ≤ n := Nat.le_trans (Nat.pos_of_ne_zero fun q => z (List.length_eq_zero_iff.mp q)) hn
  have cn : c ≤ n * c := Nat.le_mul_of_pos_left _ n1
  refine ⟨k1, by simp [dP, PyData.showable, k2], ?_, ?_⟩
  · simp [dP, PyData.depth]; omega
  · simp only [cost]; omega
theorem Qw.ln {c n : Nat} {xs : List D} (h : ∀ x ∈ xs, Qw c x) (hn : xs.length ≤ n) (h2 : n ≤ 1000) : Qw (n * c + 1) (.lst xs) := by
  obtain ⟨k1, k2, k3, k4⟩ := QwL h
  have e : xs.length * (10000 * c + 2) ≤ n * (10000 * c + 2) := Nat.mul_le_mul_right _ hn
  have e2 : n * (10000 * c + 2) = 10000 * (n * c) + n * 2 := by rw [Nat.mul_add, ← Nat.mul_assoc, Nat.mul_comm n 10000, Nat.mul_assoc]
  by_cases z : xs = []
  · subst z
    exact ⟨rfl, rfl, by simp [dP, dPL, PyData.depth, PyData.depthAll], by simp [cost, costL]; omega⟩
  have n1 : 1 ≤ n := Nat.le_trans (Nat.pos_of_ne_zero fun q => z (List.length_eq_zero_iff.mp q)) hn
  have cn : c ≤ n * c := Nat.le_mul_of_pos_left _ n1
  refine ⟨k1, by simp [dP, PyData.showable, k2], ?_, ?_⟩
  · simp [dP, PyData.depth]; omega
  · simp only [cost]; omega
/-- closed data, looked at -/
theorem Qw.by {c : Nat} {d : D} (h : (SE.isQ d && ((dP d).showable && (decide ((dP d).depth ≤ c) && decide (cost d ≤ 10000 * c)))) = true) : Qw c d := by
  obtain ⟨h1, h⟩ := andB h
  obtain ⟨h2, h⟩ := andB h
  obtain ⟨h3, h4⟩ := andB h
  exact ⟨h1, h2, of_decide_eq_true h3, of_decide_eq_true h4⟩
/-! ### a thunk that is called in a try, its answer shown; a clause that shows a field -/
def cauB (mb : Ev → M D) : MS := sRet (eL lstM (lCons (eC (.str "told")) (lCons (eL reprM (lCons (e1 (callThk mb) (eVar 0)) lNil)) lNil)))
def cauC (m1 : List D → M D) (k : Int) (w : Str) (cs : List Str) (f : Str) (o : Ev → M D) : MS := sRet (eIf (bTru (eCall (noExc m1) (lCons (eVar 1) (lCons (eC (.int k)) lNil)))) (eL lstM (lCons (eC (.str w)) (lCons (eL reprM (lCons (e1 (atM cs f) (eVar 1)) lNil)) lNil))) o)
section
variable {μ μ1 : Mem} {mb : Ev → M D} {ρ : Ev} {d : D}
theorem cau_ok {hs : List HM} (h : mb ρ μ = .ok d μ1) (hd : shOk d = true) : callM 2 (sTry (cauB mb) hs) [.clo ρ] μ = .ok (.lst [.str "told", .str (dP d).shown]) μ1 := by
  have e : e1 (callThk mb) (eVar 0) [some (.clo ρ), none] μ = .ok d μ1 := by
    rw [e1_ap, eVar_ap]
    exact h
  have e2 : eL reprM (lCons (e1 (callThk mb) (eVar 0)) lNil) [some (.clo ρ), none] μ = .ok (.str (dP d).shown) μ1 := by
    simp only [eL_ap, lCons_ap, e, lNil_ap]
    exact reprM_ap hd
  have b1 : cauB mb [some (.clo ρ), none] μ = .ok (.rt (.lst [.str "told", .str (dP d).shown])) μ1 := by
    unfold cauB
    rw [sRet_ap, eL_ap, lCons_ap, eC_ap]
    simp only [lCons_ap, e2, lNil_ap]
    rfl
  refine callM_rt ?_
  show sTry _ _ [some (.clo ρ), none] μ = _
  exact try_ok b1
theorem cau_raise {e : Ex} (h : mb ρ μ = .exc e μ1) : cauB mb [some (.clo ρ), none] μ = .exc e [some (.clo ρ), none] μ1 := by
  have e0 : e1 (callThk mb) (eVar 0) [some (.clo ρ), none] μ = .exc e μ1 := by
    rw [e1_ap, eVar_ap]
    exact h
  unfold cauB
  simp only [sRet_ap, eL_ap, lCons_ap, eC_ap, e0]
  rfl
theorem cau_cl {m1 : List D → M D} {k : Int} {w : Str} {cs : List Str} {f c : Str} {fs : List (Str × D)} {o : Ev → M D} (h1 : m1 [.err c fs, .int k] μ = .ok (.bl true) μ) (h2 : cs.contains c = true) (h3 : fs.lookup f = some d) (hd : shOk d = true) :
    cauC m1 k w cs f o (putE (some 1) (.err c fs) [some (.clo ρ), none]) μ = .ok (.rt (.lst [.str w, .str (dP d).shown])) μ := by
  have n1 : noExc m1 [.err c fs, .int k] μ = .ok (.bl true) μ := by
    unfold noExc
    rw [h1]
  have n2 : atM cs f (.err c fs) μ = .ok d μ := atM_ap h2 h3
  have v1 : eVar 1 [some (.clo ρ), some (.err c fs)] μ = .ok (.err c fs) μ := rfl
  have t1 : bTru (eCall (noExc m1) (lCons (eVar 1) (lCons (eC (.int k)) lNil))) [some (.clo ρ), some (.err c fs)] μ = .ok true μ := by
    simp only [bTru_ap, eCall_ap, lCons_ap, v1, eC_ap, lNil_ap, n1]
    rfl
  have t2 : e1 (atM cs f) (eVar 1) [some (.clo ρ), some (.err c fs)] μ = .ok d μ := by
    rw [e1_ap, v1]
    exact n2
  have t3 : eL reprM (lCons (e1 (atM cs f) (eVar 1)) lNil) [some (.clo ρ), some (.err c fs)] μ = .ok (.str (dP d).shown) μ := by
    simp only [eL_ap, lCons_ap, t2, lNil_ap]
    exact reprM_ap hd
  unfold cauC
  rw [show putE (some 1) (.err c fs) [some (.clo ρ), none] = [some (.clo ρ), some (.err c fs)] from rfl, sRet_ap, eIf_ap, t1]
  dsimp only
  rw [if_pos rfl, eL_ap, lCons_ap, eC_ap]
  simp only [lCons_ap, t3, lNil_ap]
  rfl
/-- the whole, where the clause that is met shows its field -/
theorem cau_exc {hs : List HM} {c : Str} {fs : List (Str × D)} {w : Str} (h : mb ρ μ = .exc ⟨c, fs⟩ μ1) (h2 : handleM hs ⟨c, fs⟩ [some (.clo ρ), none] μ1 = .ok (.rt (.lst [.str w, .str (dP d).shown])) μ1) : callM 2 (sTry (cauB mb) hs) [.clo ρ] μ = .ok (.lst [.str w, .str (dP d).shown]) μ1 := by
  refine callM_rt ?_
  show sTry _ _ [some (.clo ρ), none] μ = _
  exact try_exc (cau_raise h) h2
end
end SE

/-! SEm: texts: split, f-texts, a text that is a number. -/
namespace SE
open PySem PySem.Spec PyProof.Rows L2
/-! ### s.split(t) -/
def splM (d y : D) : M D := fun μ => match d, y with
  | .str a, .str b => if b.length ≠ 0 ∧ a.length ≤ 1000000 then .ok (.lst ((Txt.split a b).map .str)) μ else .bad
  | _, _ => .bad
def isSt : D → Bool
  | .str _ => true
  | _ => false
section
variable {X : Cx} {W : WX} {Γ : Gs} {o e : Expr} {mo me : Ev → M D} {apos pos : Pos}
theorem strs_rp {G : Gx} {φ : Lab} {H : Hp} : ∀ ys : List Str, RpL G φ H (ys.map .str) (ys.map V.str)
  | [] => .nil
  | y :: ys => .cons (.str y) (strs_rp ys)
theorem j_split (ho : JE X Γ W o mo) (he : JE X Γ W e me) (hs : starEach [e] X.env = [(false, eval e X.env)] := by rfl) (hbase : attributeBase o "split" X.env (eval o X.env) = eval o X.env := by rfl) (hline : (apos.endLine == pos.line) = true := by rfl) :
    JE X Γ W (.Call (.Attribute o "split" apos) [e] [] pos) (eM1 isSt splM mo me) := by
  refine pe_w (pe_split ho he hs hbase hline) fun σ H Q q => ?_
  obtain ⟨φ, ρ, μ, ev, r, p⟩ := q
  refine bG ev r p fun φ1 H1 d v μ1 g1 e1 r1 rv p1 => ?_
  cases rv with
  | str a =>
    have p1 : Post (X.G Γ) (tieD (X.G Γ)) φ1 H1 (M.bind (me ρ) (fun y => splM (.str a) y) μ1) Q fun cls dd H' => W cls dd σ H' := p1
    refine ⟨⟨a, rfl⟩, ?_⟩
    refine bG e1 r1 p1 fun φ2 H2 y u μ2 g2 e2' r2 ry p2 => ?_
    cases ry with
    | str b =>
      unfold splM at p2
      dsimp only at p2
      by_cases c : b.length ≠ 0 ∧ a.length ≤ 1000000
      · rw [if_pos c] at p2
        refine ⟨a, b, rfl, rfl, by simpa using c.1, by have := c.2; rw [sizeLine_eq]; omega, fun a' hp => ?_⟩
        exact p2 φ2 _ _ (Grow.laid hp) (r2.laid hp) (.lst upd_same (r2.out hp) (strs_rp _))
      · rw [if_neg c] at p2
        exact p2.elim
    | _ => exact p2.elim
  | _ => exact p1.elim
/-! ### f-texts -/
def fmtM (d : D) : M D := fun μ => match d with
  | .str y => if y.length ≤ 1000000 then .ok (.str y) μ else .bad
  | .int i => if i.natAbs.log2 < 1920 then .ok (.str (toString i)) μ else .bad
  | _ => .bad
theorem j_fmt (he : JE X Γ W e me) : JE X Γ W (.FormattedValue e (-1) none pos) (e1 fmtM me) := by
  refine pe_w (pe_fmt he) fun σ H Q h => ?_
  refine bE h fun φ1 H1 x v ρ μ1 e r rv p => ?_
  cases rv with
  | str y =>
    unfold fmtM at p
    by_cases c : y.length ≤ 1000000
    · simp only [if_pos c] at p
      exact .inl ⟨y, rfl, by rw [sizeLine_eq]; omega, Post.pure p r (.str _)⟩
    · simp only [if_neg c] at p
      exact p.elim
  | int i =>
    unfold fmtM at p
    by_cases c : i.natAbs.log2 < 1920
    · simp only [if_pos c] at p
      exact .inr ⟨i, rfl, c, Post.pure p r (.str _)⟩
    · simp only [if_neg c] at p
      exact p.elim
  | _ => exact p.elim
/-- the pieces one behind the other -/
def catM (acc : Str) (d : D) : M Str := fun μ => match d with
  | .str y => if (acc ++ y).length ≤ 1000000 then .ok (acc ++ y) μ else .bad
  | _ => .bad
def fsF (ρ : Ev) : List (Ev → M D) → Str → M D
  | [], acc => M.pure (.str acc)
  | m :: ms, acc => M.bind (m ρ) fun d => M.bind (catM acc d) fun a => fsF ρ ms a
def eFs (ms : List (Ev → M D)) : Ev → M D := fun ρ => fsF ρ ms Str.empty
inductive JJ (X : Cx) (Γ : Gs) (W : WX) : List Expr → List (Ev → M D) → Prop where
  | nil : JJ X Γ W [] []
  | cons {e : Expr} {m : Ev → M D} {es : List Expr} {ms : List (Ev → M D)} : JE X Γ W e m → JJ X Γ W es ms → JJ X Γ W (e :: es) (m :: ms)
theorem JJ.pj {es : List Expr} {ms : List (Ev → M D)} (h : JJ X Γ W es ms) : PJ X es (ms.map fun m => tG (X.G Γ) (tieD (X.G Γ)) W m) := by
  induction h with
  | nil => exact .nil
  | cons h _ ih => exact .cons h ih
theorem tJs_i {Q : VK} {ρ : Ev} {σ : L2.St} : ∀ (ms : List (Ev → M D)) (acc : Str) (φ : Lab) (μ : Mem) (H : Hp), EvR (X.G Γ) φ H ρ σ → MemR (X.G Γ) φ μ H → Post (X.G Γ) (tieD (X.G Γ)) φ H (fsF ρ ms acc μ) Q (fun cls dd H' => W cls dd σ H') →
    tJs (ms.map fun m => tG (X.G Γ) (tieD (X.G Γ)) W m) acc σ H fun out H1 => Q (.str out) H1
  | [], acc, φ, μ, H, ev, r, p => Post.pure p r (.str _)
  | m :: ms, acc, φ, μ, H, ev, r, p => by
    show tG (X.G Γ) (tieD (X.G Γ)) W m σ H _
    refine bG ev r p fun φ1 H1 d v μ1 g1 e1 r1 rv p1 => ?_
    cases rv with
    | str y =>
      unfold M.bind catM at p1
      dsimp only at p1
      by_cases c : (acc ++ y).length ≤ 1000000
      · rw [if_pos c] at p1
        exact ⟨y, rfl, by rw [sizeLine_eq]; omega, tJs_i ms _ φ1 μ1 H1 e1 r1 p1⟩
      · rw [if_neg c] at p1
        exact p1.elim
    | _ => exact p1.elim
theorem j_fs {v1 v2 : Expr} {rest : List Expr} {ms : List (Ev → M D)} (h : JJ X Γ W (v1 :: v2 :: rest) ms) : JE X Γ W (.JoinedStr (v1 :: v2 :: rest) pos) (eFs ms) := by
  refine pe_w (pe_joined h.pj) fun σ H Q q => ?_
  obtain ⟨φ, ρ, μ, ev, r, p⟩ := q
  exact tJs_i ms _ φ μ H ev r p
end
/-! ### int of a text, too -/
def intSM : List D → M D
  | [.int i], μ => .ok (.int i) μ
  | [.bl k], μ => .ok (.int (if k then 1 else 0)) μ
  | [.str a], μ => (match PySem.intText? a with
    | some n => if a.length ≤ 640 then .ok (.int n) μ else .bad
    | none => .bad)
  | _, _ => .bad
def rIntS : List V → Hp → VK → Prop := fun xs H Q => ((∃ i, xs = [.int i] ∧ Q (.int i) H) ∨ ∃ k, xs = [.bl k] ∧ Q (.int (if k then 1 else 0)) H) ∨ ∃ a n, xs = [.str a] ∧ PySem.intText? a = some n ∧ a.length ≤ 640 ∧ Q (.int n) H
theorem call_intS {X : Cx} : CallR X (.type "int") rIntS := by
  intro pins s σ H xs us Q I r h
  rcases h with h | h
  · exact call_int1 pins s σ H xs us Q I r h
  · exact call_int_str pins s σ H xs us Q I r h
theorem intS_i {G : Gx} : CallI G intSM rIntS := by
  intro φ μ H a x Q E R r p
  unfold intSM at p
  split at p
  · obtain ⟨v, rfl, r1⟩ := r.one
    cases r1
    exact .inl (.inl ⟨_, rfl, Post.pure p R (.int _)⟩)
  · obtain ⟨v, rfl, r1⟩ := r.one
    cases r1
    exact .inl (.inr ⟨_, rfl, Post.pure p R (.int _)⟩)
  · obtain ⟨v, rfl, r1⟩ := r.one
    rename_i a
    cases r1
    cases q : PySem.intText? a with
    | none => simp only [q] at p; exact p.elim
    | some n =>
      simp only [q] at p
      by_cases c : a.length ≤ 640
      · rw [if_pos c] at p
        exact .inr ⟨a, n, rfl, q, c, Post.pure p R (.int _)⟩
      · rw [if_neg c] at p
        exact p.elim
  · exact p.elim
end SE

/-! SEn: join, tuple of a list, targets from a list. -/
namespace SE
open PySem PySem.Spec PyProof.Rows L2
def strsOf : List D → Option (List Str)
  | [] => some []
  | .str x :: r => (match strsOf r with
    | some ys => some (x :: ys)
    | none => none)
  | _ :: _ => none
theorem strs_v {G : Gx} {φ : Lab} {H : Hp} : ∀ {xs : List D} {vs : List V} {ys : List Str}, RpL G φ H xs vs → strsOf xs = some ys → vs = ys.map V.str
  | _, _, _, .nil, h => by cases h; rfl
  | _, _, _, .cons (d := d) (ds := ds) r t, h => by
    cases r with
    | str x =>
      unfold strsOf at h
      cases q : strsOf ds with
      | none => simp only [q] at h; cases h
      | some cs =>
        simp only [q] at h
        cases h
        rw [strs_v t q]
        rfl
    | _ => cases h
def joinS (a : Str) (xs : List D) : Option Str := match strsOf xs with
  | some ys => if (ys.map (·.length)).sum + ys.length * a.length ≤ 1000000 then some (Txt.join a ys) else none
  | none => none
def joinM (d y : D) : M D := fun μ => match d, y with
  | .str a, .lst xs => (match joinS a xs with | some z => .ok (.str z) μ | none => .bad)
  | .str a, .tup xs => (match joinS a xs with | some z => .ok (.str z) μ | none => .bad)
  | .str a, .loc l => (match μ[l]? with
    | some (.lst xs) => (match joinS a xs with | some z => .ok (.str z) μ | none => .bad)
    | _ => .bad)
  | _, _ => .bad
section
variable {X : Cx} {W : WX} {Γ : Gs} {o e : Expr} {mo me : Ev → M D} {apos pos : Pos}
theorem joinS_is {a z : Str} {xs : List D} (h : joinS a xs = some z) : ∃ ys, strsOf xs = some ys ∧ (ys.map (·.length)).sum + ys.length * a.length ≤ 1000000 ∧ z = Txt.join a ys := by
  unfold joinS at h
  cases q : strsOf xs with
  | none => rw [q] at h; cases h
  | some ys =>
    rw [q] at h
    dsimp only at h
    by_cases c : (ys.map (·.length)).sum + ys.length * a.length ≤ 1000000
    · rw [if_pos c] at h
      cases h
      exact ⟨ys, rfl, c, rfl⟩
    · rw [if_neg c] at h
      cases h
theorem j_join (ho : JE X Γ W o mo) (he : JE X Γ W e me) (h : ∀ to te, PE X o to → PE X e te → PE X (.Call (.Attribute o "join" apos) [e] [] pos) (tM1 (fun x xs H Q => ∃ a p, ∃ ys : List Str, x = .str a ∧ xs = [.ref p] ∧ (SqL X.K H p (ys.map V.str) ∨ SqT X.K H p (ys.map V.str)) ∧ (ys.map (·.length)).sum + ys.length * a.length ≤ 16777216 ∧ Q (.str (Txt.join a ys)) H) to te)) :
    JE X Γ W (.Call (.Attribute o "join" apos) [e] [] pos) (eM1 isSt joinM mo me) := by
  refine pe_w (h _ _ ho he) fun σ H Q q => ?_
  obtain ⟨φ, ρ, μ, ev, r, p⟩ := q
  refine bG ev r p fun φ1 H1 d v μ1 g1 e1 r1 rv p1 => ?_
  cases rv with
  | str a =>
    have p1 : Post (X.G Γ) (tieD (X.G Γ)) φ1 H1 (M.bind (me ρ) (fun y => joinM (.str a) y) μ1) Q fun cls dd H' => W cls dd σ H' := p1
    refine ⟨⟨a, rfl⟩, ?_⟩
    refine bG e1 r1 p1 fun φ2 H2 y u μ2 g2 e2' r2 ry p2 => ?_
    unfold joinM at p2
    cases ry with
    | @lst b vs xs hs hn rl =>
      dsimp only at p2
      cases q : joinS a xs with
      | none => rw [q] at p2; exact p2.elim
      | some z =>
        rw [q] at p2
        obtain ⟨ys, e1, e2, rfl⟩ := joinS_is q
        have ev := strs_v rl e1
        subst ev
        exact ⟨a, b, ys, rfl, rfl, .inl (SqL.of hs), by omega, Post.pure p2 r2 (.str _)⟩
    | @tup b vs xs hs rl =>
      dsimp only at p2
      cases q : joinS a xs with
      | none => rw [q] at p2; exact p2.elim
      | some z =>
        rw [q] at p2
        obtain ⟨ys, e1, e2, rfl⟩ := joinS_is q
        have ev := strs_v rl e1
        subst ev
        exact ⟨a, b, ys, rfl, rfl, .inr hs.t, by omega, Post.pure p2 r2 (.str _)⟩
    | @loc b0 l0 hl =>
      dsimp only at p2
      cases q0 : μ2[l0]? with
      | none => rw [q0] at p2; exact p2.elim
      | some ob =>
      cases ob with
      | dT kvs => rw [q0] at p2; exact p2.elim
      | fT kvs => rw [q0] at p2; exact p2.elim
      | lst xs =>
      rw [q0] at p2
      dsimp only at p2
      obtain ⟨b, h1, vs, h3, rl⟩ := r2.at_ _ _ q0
      rw [hl] at h1
      cases h1
      cases q : joinS a xs with
      | none => rw [q] at p2; exact p2.elim
      | some z =>
        rw [q] at p2
        obtain ⟨ys, e1, e2, rfl⟩ := joinS_is q
        have ev := strs_v rl e1
        subst ev
        exact ⟨a, _, ys, rfl, rfl, .inl (SqL.of h3), by omega, Post.pure p2 r2 (.str _)⟩
    | _ => exact p2.elim
  | _ => exact p1.elim
/-! ### tuple(xs) -/
def tupleM : List D → M D
  | [.lst xs], μ => .ok (.tup xs) μ
  | [.ro xs], μ => .ok (.tup xs) μ
  | [.tup xs], μ => .ok (.tup xs) μ
  | _, _ => .bad
theorem tuple_i {G : Gx} : CallI G tupleM (fun xs H Q => ∃ p ys, xs = [.ref p] ∧ ((SqL G.K H p ys ∧ ∀ l, H l = none → Q (.ref l) (upd H l (.tup ys))) ∨ (SqT G.K H p ys ∧ Q (.ref p) H))) := by
  intro φ μ H a x Q E R r p
  have fin : ∀ {xs : List D} {vs : List V}, Post G (tieD G) φ H (.ok (.tup xs) μ) Q E → RpL G φ H xs vs → ∀ l, H l = none → Q (.ref l) (upd H l (.tup vs)) := fun p rl l hl =>
    p φ _ _ (Grow.laid hl) (R.laid hl) (.tup (.inl ⟨.inl upd_same, R.out hl⟩) (rl.grow (Grow.laid hl)))
  unfold tupleM at p
  split at p
  · obtain ⟨v, rfl, r1⟩ := r.one
    cases r1 with
    | lst hs _ rl => exact ⟨_, _, rfl, .inl ⟨SqL.of hs, fin p rl⟩⟩
  · obtain ⟨v, rfl, r1⟩ := r.one
    cases r1 with
    | ro hs rl => exact ⟨_, _, rfl, .inl ⟨hs.t, fin p rl⟩⟩
  · obtain ⟨v, rfl, r1⟩ := r.one
    cases r1 with
    | tup hs rl => exact ⟨_, _, rfl, .inr ⟨hs.t, Post.pure p R (.tup hs rl)⟩⟩
  · exact p.elim
/-- targets from a list of that many -/
def gL (n : Nat) (f : GTs) : GT := fun d ρ => match d with
  | .lst xs => if xs.length = n then f xs ρ else none
  | _ => none
theorem g_lst {ts : List Expr} {f : GTs} {k n : Nat} (h : JGs X Γ ts f) (hp : ∀ t, PGs X ts t → PG X (.Tuple ts k pos) (gLst X.K n t)) : JG X Γ (.Tuple ts k pos) (gL n f) := by
  refine pg_w (hp _ h) fun v σ H Q hh => ?_
  obtain ⟨φ, d, ρ, μ, e, r, rv, q⟩ := hh
  unfold gL at q
  cases rv with
  | lst hs hn rl =>
    rename_i a vs ds
    dsimp only at q
    by_cases hz : ds.length = n
    · rw [if_pos hz] at q
      exact ⟨a, vs, rfl, SqL.of hs, by rw [← rl.length]; exact hz, φ, ds, ρ, μ, e, r, rl, q⟩
    · rw [if_neg hz] at q
      exact q.elim
  | _ => exact q.elim
end
end SE

/-! SEo: objects without fields, methods, lists that grow. -/
namespace SE
open PySem PySem.Spec PyProof.Rows L2
structure Mk0 (K : PySem.W.Frag) (C : Addr) : Prop where
  makes : PySem.W.makesIn K C = true
  init : PySem.W.findIn K (.ref C) "__init__" = some (some (.builtin "object.__init__"))
  kp : PySem.W.keepIn K (.ref C) = true
  top : PySem.W.mroIn K C (.type "object") = some true
  cl : Cls K C
theorem mk0B_ok {K : PySem.W.Frag} {c : Str} (h : mk0B K c = true) : Mk0 K (He.ga K c) := by
  obtain ⟨h1, h⟩ := andB h
  obtain ⟨h2, h⟩ := andB h
  obtain ⟨h3, h⟩ := andB h
  obtain ⟨h4, h⟩ := andB h
  obtain ⟨h5, h⟩ := andB h
  obtain ⟨h6, h⟩ := andB h
  obtain ⟨h7, h8⟩ := andB h
  exact ⟨h1, of_decide_eq_true h2, h3, of_decide_eq_true h4, ⟨h5, h6, h7, of_decide_eq_true h8⟩⟩
theorem methB_ok {K : PySem.W.Frag} {c m : Str} (h : methB K c m = true) : Meth K (He.ga K c) m (He.ma K (He.ga K c) m) := by
  obtain ⟨h1, h⟩ := andB h
  obtain ⟨h2, h3⟩ := andB h
  exact ⟨of_decide_eq_true h1, h2, h3⟩
theorem run_make0 {X : Cx} {pins : List (Addr × Obj)} {σ : L2.St} {H : Hp} {s : Shared} {Q : VK} {C : Addr} (M : Mk0 X.K C) (I : Inv X pins σ H s)
    (h : ∀ x dx, H x = none → H dx = none → dx ≠ x → Q (.ref x) (upd (upd H dx (.own x)) x (.ins C dx []))) : wpAny (model X.prog X.w) X.A (call (.ref C) []) (EP X pins σ Q) X.xe s := by
  have hq := h (s.heap.objs.size + 1) s.heap.objs.size (I.hok.fresh (Nat.le_succ _)) (I.hok.fresh (Nat.le_refl _)) (Nat.ne_of_lt (Nat.lt_succ_self _))
  have I2 := Inv.made (C := C) I
  refine wpAny_call (make_map0 I.kIn M.makes M.init (fun self => PySem.W.Looks.of_pure (PySem.W.oi_bind _)) ?_)
  have e2 : ((s.heap.push PySem.W.emptyDict).push (PySem.W.instObj C s.heap.objs.size)).get? (s.heap.objs.size + 1) = some (PySem.W.instObj C s.heap.objs.size) := by
    have := Heap.get?_push_size (s.heap.push PySem.W.emptyDict) (o := PySem.W.instObj C s.heap.objs.size) rfl
    rwa [Heap.size_push] at this
  have t1 := NwA.type_at (M := model X.prog X.w) e2 rfl
  have t2 : PySem.W.Looks (model X.prog X.w) ((s.heap.push PySem.W.emptyDict).push (PySem.W.instObj C s.heap.objs.size)) (isInstance (.ref (s.heap.objs.size + 1)) (.type "object")) true := t1.andThen (PySem.W.looks_mroIn I2.kIn M.top)
  refine codeAny_call_builtin PySem.W.oi_plain PySem.W.entry_oi (@PySem.W.check_slot (model X.prog X.w) _ _ _ "object.__init__" "object" "__init__" (.ref (s.heap.objs.size + 1)) [] [] _ PySem.W.oi_kind PySem.W.oi_split t2 (NwA.oi_args_any _ _ _) ?_)
  rw [PySem.W.oi_run]
  exact wpAny_pure (And.intro rfl ⟨V.ref (s.heap.objs.size + 1), _, I2, rfl, hq⟩)
section
variable {X : Cx} {W : WX} {Γ : Gs} {k : Nat} {f C : Addr} {fd : FuncData} {ps : List Str} {m : List D → M D} {x nm : Str} {p0 apos pos : Pos} {o e : Expr} {es : List Expr} {mo me : Ev → M D} {ml : Ev → M (List D)}
/-- C() -/
theorem j_new0 (M : Mk0 X.K C) (hg : Gl X x) (hm : X.mg x = some (.ref C)) (hdb : (x == ("__debug__" : Str)) = false := by decide) : JE X Γ W (.Call (.Name x p0) [] [] pos) (eC (.obj x [])) := by
  refine ⟨fun pins s σ H Q I h => ?_⟩
  refine wpAny_Call_Name_kw (ld_glob I hg hm ?_ hdb)
  obtain ⟨φ, ρ, μ, ev, r, p⟩ := h
  refine PySem.W.callWith_K0 I.kIn M.kp (run_make0 M I fun y dx hy hd ne => ?_)
  have hy' : upd H dx (.own y) y = none := by rw [upd_ne (Ne.symm ne)]; exact hy
  have g1 : Grow φ H φ (upd H dx (.own y)) := Grow.laid hd
  have r1 := r.laid (o := .own y) hd
  exact p _ _ _ (g1.trans (Grow.laid hy')) (r1.laid hy') (.obj hm upd_same (r1.out hy') .nil)
/-- o.m(e, ..): o an object of the class c -/
def eMeth (c nm : Str) (m : List D → M D) (mo : Ev → M D) (ml : Ev → M (List D)) : Ev → M D := fun ρ => M.bind (mo ρ) fun x => match x with
  | .obj c' fs => if c' = c ∧ (fs.lookup nm).isNone = true then M.bind (ml ρ) fun ds => m (.obj c' fs :: ds) else M.bad
  | _ => M.bad
theorem RpF.lookup_none {G : Gx} {φ : Lab} {H : Hp} {nm : Str} : ∀ {fs : List (Str × D)} {vs : List (Str × V)}, RpF G φ H fs vs → (fs.lookup nm).isNone = true → vs.lookup nm = none
  | _, _, .nil, _ => rfl
  | _, _, .cons (k := k) r t, h => by
    unfold List.lookup at h ⊢
    by_cases c : (nm == k) = true
    · rw [c] at h; cases h
    · have c' : (nm == k) = false := Bool.eq_false_iff.mpr c
      rw [c'] at h ⊢
      exact RpF.lookup_none t h
theorem j_meth {c : Str} {pl : Sem Bool} (ho : JE X Γ W o mo) (cl : Cls X.K C) (hm : Meth X.K C nm f) (F : FnG Γ X.prog X.w X.K X.mg X.base k f fd ps m) (hr : Room k X.A) (hgd : X.A.guards = some []) (tk : L2N.Takes X W) (hC : X.mg c = some (.ref C))
    (hb : KBg X.K fd ps [] ((e :: es).length + 1) (fun us _ => us) (fun vs _ => vs) (fun ds _ => ds)) (ha : JL X Γ W (e :: es) ml) (hl : ∀ ρ μ ds μ', ml ρ μ = .ok ds μ' → ds.length = (e :: es).length)
    (hst : starEach (e :: es) X.env = (false, eval e X.env) :: starEach es X.env := by rfl) (hpl : (backTo pos (starEach es X.env)).any (·.1) = false := by rfl)
    (ht : eval (.Call (.Attribute o nm apos) (e :: es) [] pos) X.env = (do
      let ov ← eval o X.env
      standAt apos.atName
      let (f, first) ← holding [ov] (getMethod ov nm pl)
      callWith pos f first (backTo pos (starEach (e :: es) X.env)) (backToKw pos (keywordEach [] X.env))) := by rfl) :
    JE X Γ W (.Call (.Attribute o nm apos) (e :: es) [] pos) (eMeth c nm m mo ml) := by
  refine ⟨fun pins s σ H Q I h => ?_⟩
  have key : tG (X.G Γ) (tieD (X.G Γ)) W mo σ H (fun x H1 => ∃ a dx fs, x = .ref a ∧ H1 a = some (.ins C dx fs) ∧ fs.lookup nm = none ∧ tG (X.G Γ) (tieL (X.G Γ)) W ml σ H1 (fun vs H2 => ∃ φ2 ds μ2 d, vs.length = (e :: es).length ∧ RpL (X.G Γ) φ2 H2 (d :: ds) (.ref a :: vs) ∧ MemR (X.G Γ) φ2 μ2 H2 ∧ Post (X.G Γ) (tieD (X.G Γ)) φ2 H2 (m (d :: ds) μ2) Q (fun cls dd H' => W cls dd σ H'))) := by
    obtain ⟨φ, ρ, μ, ev, r, p⟩ := h
    refine bG ev r p fun φ1 H1 d v μ1 g1 e1 r1 rv p1 => ?_
    cases rv with
    | @obj c' C' a dx fs vs0 hc ha' hn rf =>
      dsimp only at p1
      by_cases cc : c' = c ∧ (fs.lookup nm).isNone = true
      · rw [if_pos cc] at p1
        obtain ⟨ec, el⟩ := cc
        have eC : C' = C := by
          have hc' : X.mg c' = some (.ref C') := hc
          rw [ec, hC] at hc'
          cases hc'
          rfl
        subst eC
        refine ⟨a, dx, vs0, rfl, ha', RpF.lookup_none rf el, φ1, ρ, μ1, e1, r1, ?_⟩
        unfold M.bind at p1
        cases q : ml ρ μ1 with
        | ok ds μ2 =>
          rw [q] at p1
          exact fun φ2 H2 vs g2 r2 rv2 => ⟨φ2, ds, μ2, .obj c' fs, by rw [← rv2.length]; exact hl _ _ _ _ q, .cons ((Rp.obj hc ha' hn rf).grow g2) rv2, r2, Post.grow g2 p1⟩
        | exc x μ2 => rw [q] at p1; exact p1
        | bad => rw [q] at p1; exact p1
      · rw [if_neg cc] at p1
        exact p1.elim
    | _ => exact p1.elim
  refine PySem.W.methodCall_KW (pl := pl) (thn (ho.run pins s σ H _ I key) fun u s1 ⟨x, H1, I1, rx, a, dx, fs, ex, ea, l, q⟩ => ?_) ht
  subst ex
  obtain rfl : u = Value.ref a := rx
  refine getmeth_ok I1 ea cl hm l ?_
  refine PySem.W.callWith_K (first := [.ref a]) (h₀ := X.base) I.ok.mod.kin hm.kp (thn (ha.run pos pins s1 σ H1 _ I1 q) fun us s2 ⟨vs, H2, I2, r, φ2, ds, μ2, d, hvl, rd, r2, p2⟩ => ⟨I2.kIn, ?_⟩) hst hpl
  exact run_g (us := .ref a :: us) (ws := []) (vs := .ref a :: vs) (zs := []) (ds := d :: ds) (cs := []) F hr hgd hb tk I2 (.cons rfl r) .nil (by rw [List.length_cons, hvl]) rfl rd .nil r2 p2
/-! ### lists that grow -/
def addNM (a b : D) : M D := fun μ => match a, b with
  | .lst xs, .lst ys => if xs.length + ys.length ≤ 100000 then .ok (.loc μ.length) (μ ++ [.lst (xs ++ ys)]) else .bad
  | _, _ => .bad
theorem addN_i {G : Gx} (h0 : G.s.off = G.s) : OpI G addNM (rAdd G.K) := by
  intro φ μ H a b x y Q E R ra rb p
  cases ra with
  | lst h1 n1 r1 =>
    cases rb with
    | lst h2 n2 r2 =>
      unfold addNM at p
      rename_i a1 v1 d1 a2 v2 d2
      by_cases h : d1.length + d2.length ≤ 100000
      · simp only [if_pos h] at p
        refine .inr (.inr (.inl ⟨_, _, _, _, rfl, rfl, h1, h2, by rw [← r1.length, ← r2.length]; exact line5 h, fun c hc => ?_⟩))
        exact p _ _ _ (Grow.newl hc) (R.newl hc (by rw [Gx.off_eq h0]; exact r1.append r2)) (.loc (by show (φ.l ++ [c])[_]? = _; rw [List.getElem?_append_right (by rw [R.len]; exact Nat.le_refl _), R.len]; simp))
      · simp only [if_neg h] at p
        exact p.elim
    | _ => exact p.elim
  | _ => exact p.elim
/-- x.append(e) -/
def isLoc : D → Bool
  | .loc _ => true
  | _ => false
/-- a label at which a list stands -/
def isLstB (d : D) (μ : Mem) : Bool := match d with
  | .loc l => (match μ[l]? with
    | some (.lst _) => true
    | _ => false)
  | _ => false
def eMM (chk : D → Mem → Bool) (f : D → D → M D) (a b : Ev → M D) : Ev → M D := fun ρ => do
  let x ← a ρ
  fun μ => if chk x μ = true then (do let y ← b ρ; f x y : M D) μ else .bad
def appM (d y : D) : M D := fun μ => match d with
  | .loc l => (match μ[l]? with
    | some (.lst xs) => if xs.length < 100000 then .ok .non (μ.set l (.lst (xs ++ [y]))) else .bad
    | _ => .bad)
  | _ => .bad
theorem lst_at {G : Gx} {φ : Lab} {μ : Mem} {H : Hp} {d : D} {v : V} (r : Rp G φ H d v) (R : MemR G φ μ H) (c : isLstB d μ = true) : ∃ l a vs, d = .loc l ∧ v = .ref a ∧ φ.l[l]? = some a ∧ H a = some (.lst vs) := by
  cases r with
  | @loc a l hl =>
    unfold isLstB at c
    dsimp only at c
    cases q : μ[l]? with
    | none => rw [q] at c; cases c
    | some o =>
      cases o with
      | dT kvs => rw [q] at c; cases c
      | fT kvs => rw [q] at c; cases c
      | lst xs =>
        obtain ⟨b, h1, vs, h3, h4⟩ := R.at_ l _ q
        rw [hl] at h1
        cases h1
        exact ⟨l, _, vs, rfl, rfl, hl, h3⟩
  | _ => cases c
theorem j_app (ho : JE X Γ W o mo) (he : JE X Γ W e me) (h : ∀ to te, PE X o to → PE X e te → PE X (.Call (.Attribute o "append" apos) [e] [] pos) (tBM X.K "list" rAppend to (tCons te tNil))) (h0 : Γ.off = Γ := by rfl) : JE X Γ W (.Call (.Attribute o "append" apos) [e] [] pos) (eMM isLstB appM mo me) := by
  refine pe_w (h _ _ ho he) fun σ H Q q => ?_
  obtain ⟨φ, ρ, μ, ev, r, p⟩ := q
  refine bG ev r p fun φ1 H1 d v μ1 g1 e1 r1 rv p1 => ?_
  have p1 : Post (X.G Γ) (tieD (X.G Γ)) φ1 H1 (if isLstB d μ1 = true then M.bind (me ρ) (fun y => appM d y) μ1 else .bad) Q fun cls dd H' => W cls dd σ H' := p1
  by_cases c : isLstB d μ1 = true
  · rw [if_pos c] at p1
    obtain ⟨l, a, vs0, rfl, rfl, hl, hv0⟩ := lst_at rv r1 c
    refine ⟨.inl ⟨rfl, _, SqL.of hv0⟩, ?_⟩
    refine bG e1 r1 p1 fun φ2 H2 y u μ2 g2 e2' r2 ry p2 => ?_
    unfold appM at p2
    dsimp only at p2
    cases q : μ2[l]? with
    | none => rw [q] at p2; exact p2.elim
    | some ob =>
      cases ob with
      | lst xs =>
        rw [q] at p2
        dsimp only at p2
        by_cases c : xs.length < 100000
        · rw [if_pos c] at p2
          obtain ⟨b, h1, h2⟩ := r2.at_ l _ q
          have hl2 : φ2.l[l]? = some a := by
            obtain ⟨ψ, e, _⟩ := g2.ex
            rw [e, List.getElem?_append_left (List.getElem?_eq_some_iff.mp hl).1]
            exact hl
          rw [hl2] at h1
          cases h1
          obtain ⟨vs, h3, h4⟩ := h2
          have h4' : RpL (X.G Γ) φ2 H2 xs vs := by rw [← Gx.off_eq (G := X.G Γ) h0]; exact h4
          refine ⟨a, vs, u, rfl, rfl, h3, by rw [← h4.length, sizeLine_eq]; omega, ?_⟩
          exact p2 _ _ _ (Grow.wr hl2 (fun _ _ z => by rw [h3] at z; cases z)) (r2.wr hl2 (fun _ _ z => by rw [h3] at z; cases z) (by rw [Gx.off_eq (G := X.G Γ) h0]; exact h4'.append (.cons ry .nil))) .non
        · rw [if_neg c] at p2
          exact p2.elim
      | dT kvs => rw [q] at p2; exact p2.elim
      | fT kvs => rw [q] at p2; exact p2.elim
  · rw [if_neg c] at p1
    exact p1.elim
end
/-! ### a, b, c = x, y, z -/
section
variable {X : Cx} {W : WX} {Γ : Gs} {i j l : Nat} {x y z : Str} {a b c : Expr} {ml : Ev → M (List D)} {px py pz pt pos : Pos} {kt k2 : Nat} {pt2 : Pos}
def sPar3 (i j l : Nat) (ml : Ev → M (List D)) : MS := fun ρ μ => bindS (ml ρ μ) ρ fun ds μ1 => match ds with
  | [u, v, w] => .ok (.nx (((ρ.set i (some u)).set j (some v)).set l (some w))) μ1
  | _ => .bad
theorem s_par3 (ha : JL X Γ W [a, b, c] ml) (h : ∀ ta, PA X [a, b, c] ta → PS X (.Assign [.Tuple [.Name x px, .Name y py, .Name z pz] kt pt] (.Tuple [a, b, c] k2 pt2) pos) (tPar3 i j l ta)) :
    JS X Γ W (.Assign [.Tuple [.Name x px, .Name y py, .Name z pz] kt pt] (.Tuple [a, b, c] k2 pt2) pos) (sPar3 i j l ml) := by
  refine ps_w (h _ ha) fun Z σ H h => ?_
  obtain ⟨φ, ρ, μ, ev, r, p⟩ := h
  refine bS ev r p fun φ1 H1 d v μ1 g e1 r1 rv p1 => ?_
  cases rv with
  | nil => exact p1.elim
  | cons r1' t1 =>
    cases t1 with
    | nil => exact p1.elim
    | cons r2' t2 =>
      cases t2 with
      | nil => exact p1.elim
      | cons r3' t3 =>
        cases t3 with
        | cons _ _ => exact p1.elim
        | nil => exact ⟨_, _, _, rfl, p1 φ1 H1 _ (Grow.refl _ _) r1 (((e1.set i r1').set j r2').set l r3')⟩
end
end SE

/-! SEp: max with a default, enumerate of a tuple, get of a written dict. -/
namespace SE
open PySem PySem.Spec PyProof.Rows L2
/-! ### max(xs, default = d), whole numbers -/
section
variable {prog : Program} {w : World} {A : Around} {R : Result → Shared → Prop} {I : Addr} {fp wr : List Addr} {n : Nat} {P : Nat → Value → Prop} {St : Nat → Heap → Prop} {kw : List (Str × Value)}
theorem maxLoop_kw (W : Walks prog w A.in1 I fp wr n P St) (bt : Nat → Nat → Bool) (hcmp : CmpOf prog w A.in1 CmpOp.Gt P bt) (S : Addr) (hSf : S ∉ fp) :
    ∀ (k j : Nat) (s : Shared) (vb : Value) (c : Nat), n - (j + 1) = k → j + 1 ≤ n → St (j + 1) s.heap → P (argBest bt j) vb → s.heap.get? S = some { cls := Value.type "list", data := Data.seq #[vb, vb] c } →
      (∀ (v : Value) (h' : Heap) (tk : Nat), P (argBest bt (n - 1)) v → (∀ (b : Addr) (o : Obj), b ∉ wr → b ≠ S → s.heap.get? b = some o → h'.get? b = some o) → R (Except.ok (Flow.ret v)) { heap := h', gens := s.gens, drawn := s.drawn, toks := tk, os := s.os }) →
      codeAny (model prog w) A (Code.builtin "max.loop" { pos := [Value.ref I, Value.none, Value.ref S], kw := kw }) R s := by
  have hSw : S ∉ wr := fun h => hSf (W.sub S h)
  intro k
  induction k with
  | zero =>
    intro j s vb c hk hj hst hPb hS hR
    have hin : n = j + 1 := by omega
    refine codeAny_builtin F.entry_max_loop ?_
    rw [Around.under_plainId F.plain_max_loop]
    refine wpAny_bind (wpAny_seqItems hS rfl (wpAny_bind (wpAny_tryCatch (W.done s _ _ (by rw [hin]; exact hst) fun h' tk hk' => ?_))))
    have hS' := hk' S _ hSw hS
    refine wpAny_bind (wpAny_updateSeq hS' rfl (wpAny_bind (wpAny_letGo (wpAny_pure (hR vb _ tk (by rw [hin]; exact hPb) fun b o hbw hbS e => (Heap.get?_update_other _ (Obj.mapSeq fun _ => #[]) (Ne.symm hbS)).trans (hk' b o hbw e))))) ?_ ?_)
    · rw [sizeLine_eq]; simp
    · rw [sizeLine_eq]; simp
  | succ k ih =>
    intro j s vb c hk hj hst hPb hS hR
    have hlt : j + 1 < n := by omega
    refine codeAny_builtin F.entry_max_loop ?_
    rw [Around.under_plainId F.plain_max_loop]
    refine wpAny_bind (wpAny_seqItems hS rfl (wpAny_bind (wpAny_tryCatch (W.item (j + 1) s _ _ hlt hst fun v h' tk hP hst' hk' => ?_))))
    have hS' := hk' S _ hSw hS
    refine wpAny_bind (wpAny_pure ?_)
    refine wpAny_bind (wpAny_tryCatch (wpAny_holding (wpAny_bind (hcmp (j + 1) (argBest bt j) v vb _ _ _ hP hPb ?_))))
    refine wpAny_bind (wpAny_holding (wpAny_truthy_bool (wpAny_bind (wpAny_letGo (wpAny_pure ?_)))))
    have hA : argBest bt (j + 1) = if bt (j + 1) (argBest bt j) = true then j + 1 else argBest bt j := rfl
    cases hb : bt (j + 1) (argBest bt j) with
    | false =>
      refine wpAny_ite_false (by simp) (wpAny_bind (wpAny_letGo ?_))
      refine wpAny_pure ⟨plainId_quiet F.plain_max_loop _, ih (j + 1) _ vb c (by omega) hlt hst' (by rw [hA, hb]; exact hPb) hS' fun v' h'' tk'' hP' hk'' => hR v' h'' tk'' hP' fun b o hbw hbS e => hk'' b o hbw hbS (hk' b o hbw e)⟩
    | true =>
      refine wpAny_ite_true rfl (wpAny_bind (wpAny_updateSeq hS' rfl (wpAny_bind (wpAny_letGo ?_)) (by rw [sizeLine_eq]; simp) (by rw [sizeLine_eq]; simp)))
      refine wpAny_pure ⟨plainId_quiet F.plain_max_loop _, ih (j + 1) _ v _ (by omega) hlt (W.frame (j + 1 + 1) h' _ hst' fun b hbf o e => (Heap.get?_update_other h' (Obj.mapSeq fun _ => #[v, v]) fun z => hSf (by rw [z]; exact hbf)).trans e) (by rw [hA, hb]; exact hP) (Heap.get?_update_self (Obj.mapSeq fun _ => #[v, v]) hS' rfl) fun v' h'' tk'' hP' hk'' => hR v' h'' tk'' hP' fun b o hbw hbS e => hk'' b o hbw hbS ((Heap.get?_update_other h' (Obj.mapSeq fun _ => #[v, v]) (Ne.symm hbS)).trans (hk' b o hbw e))⟩
theorem maxFirst_kw (W : Walks prog w A.in1 I fp wr n P St) (bt : Nat → Nat → Bool) (hcmp : CmpOf prog w A.in1 CmpOp.Gt P bt) (S : Addr) (hSf : S ∉ fp) (hn : 0 < n) {s : Shared} {c : Nat} (hst : St 0 s.heap) (hS : s.heap.get? S = some { cls := Value.type "list", data := Data.seq #[] c })
    (hR : ∀ (v : Value) (h' : Heap) (tk : Nat), P (argBest bt (n - 1)) v → (∀ (b : Addr) (o : Obj), b ∉ wr → b ≠ S → s.heap.get? b = some o → h'.get? b = some o) → R (Except.ok (Flow.ret v)) { heap := h', gens := s.gens, drawn := s.drawn, toks := tk, os := s.os }) :
    codeAny (model prog w) A (Code.builtin "max.loop" { pos := [Value.ref I, Value.none, Value.ref S], kw := kw }) R s := by
  have hSw : S ∉ wr := fun h => hSf (W.sub S h)
  refine codeAny_builtin F.entry_max_loop ?_
  rw [Around.under_plainId F.plain_max_loop]
  refine wpAny_bind (wpAny_seqItems hS rfl (wpAny_bind (wpAny_tryCatch (W.item 0 s _ _ hn hst fun v h' tk hP hst' hk' => ?_))))
  have hS' := hk' S _ hSw hS
  refine wpAny_bind (wpAny_pure ?_)
  refine wpAny_bind (wpAny_updateSeq hS' rfl ?_ (by rw [sizeLine_eq]; simp) (by rw [sizeLine_eq]; simp))
  refine wpAny_pure ⟨plainId_quiet F.plain_max_loop _, maxLoop_kw W bt hcmp S hSf (n - (0 + 1)) 0 _ v _ rfl hn (W.frame (0 + 1) h' _ hst' fun b hbf o e => (Heap.get?_update_other h' (Obj.mapSeq fun _ => #[v, v]) fun z => hSf (by rw [z]; exact hbf)).trans e) hP (Heap.get?_update_self (Obj.mapSeq fun _ => #[v, v]) hS' rfl) fun v' h'' tk'' hP' hk'' => hR v' h'' tk'' hP' fun b o hbw hbS e => hk'' b o hbw hbS ((Heap.get?_update_other h' (Obj.mapSeq fun _ => #[v, v]) (Ne.symm hbS)).trans (hk' b o hbw e))⟩
theorem maxNone_kw {d : Value} {nm : Str} (W : Walks prog w A.in1 I fp wr 0 P St) (S : Addr) (hSf : S ∉ fp) {s : Shared} {c : Nat} (hst : St 0 s.heap) (hS : s.heap.get? S = some { cls := Value.type "list", data := Data.seq #[] c })
    (hR : ∀ (h' : Heap) (tk : Nat), (∀ (b : Addr) (o : Obj), b ∉ wr → s.heap.get? b = some o → h'.get? b = some o) → R (Except.ok (Flow.ret d)) { heap := h', gens := s.gens, drawn := s.drawn, toks := tk, os := s.os }) :
    codeAny (model prog w) A (Code.builtin "max.loop" { pos := [Value.ref I, Value.none, Value.ref S], kw := [(nm, d)] }) R s := by
  refine codeAny_builtin F.entry_max_loop ?_
  rw [Around.under_plainId F.plain_max_loop]
  refine wpAny_bind (wpAny_seqItems hS rfl (wpAny_bind (wpAny_tryCatch (W.done s _ _ hst fun h' tk hk' => ?_))))
  refine wpAny_bind (wpAny_rule ?_)
  exact wpAny_pure (hR h' tk hk')
end
theorem call_tree_kw {prog : Program} {w : World} {A : Around} {E : Value → Shared → Prop} {s : Shared}
    {id : String} {b : Builtin} {args : List Value} {kw : List (Str × Value)} {Q : Value → Shared → Prop}
    (hk : builtinKind id = none) (hp : plainId id = true) (hb : entryFor table id = some b) (ha : argsOk id { pos := args, kw := kw })
    (hc : wpAny (model prog w) A.in1 (b { pos := args, kw := kw })
              (fun fin s' =>
                match fin with
                | Fin.done f =>
                  match Except.ok (ε := Value) f with
                  | Except.ok (Flow.ret v) => Q v s'
                  | Except.ok a => False
                  | Except.error e => E e s'
                | Fin.again c' =>
                  c'.quiet = true ∧
                    codeAny (model prog w) A c'
                      (fun (r : Result) s' =>
                        match r with
                        | Except.ok (Flow.ret v) => Q v s'
                        | Except.ok a => False
                        | Except.error e => E e s')
                      s')
              E s) : wpAny (model prog w) A (call (Value.builtin id) args kw) Q E s := by
  refine wpAny_call (codeAny_call_builtin hp hb ?_)
  unfold checkBuiltinCall
  rw [hk]
  have fin : ∀ t : Sem Unit, t = pure () → wpAny (model prog w) A.in1 t (fun x s₁ => wpAny (model prog w) A.in1 (b { pos := args, kw := kw })
      (fun fin s' =>
        match fin with
        | Fin.done f =>
          match Except.ok (ε := Value) f with
          | Except.ok (Flow.ret v) => Q v s'
          | Except.ok a => False
          | Except.error e => E e s'
        | Fin.again c' =>
          c'.quiet = true ∧
            codeAny (model prog w) A c'
              (fun (r : Result) s' =>
                match r with
                | Except.ok (Flow.ret v) => Q v s'
                | Except.ok a => False
                | Except.error e => E e s')
              s')
      E s₁) E s := fun t e => wpAny_of_eq e hc
  unfold argsOk at ha
  cases q : Manifest.signature? id with
  | none =>
    cases splitId id <;> exact fin _ rfl
  | some sig =>
    rw [q] at ha
    cases splitId id <;> exact fin _ ha
theorem argsD (a d : Value) : argsOk "max" { pos := [a], kw := [(Str.ofString "default", d)] } := rfl
theorem max_rawD {prog : Program} {w : World} {A : Around} {E : Value → Shared → Prop} {s : Shared} {l : Addr} {its : List Value} {ns : List Int} {d : Value} {Q : Value → Shared → Prop} (hh : A.handled = none) (hl : s.heap.IsList l its.toArray) (hi : IntsAre its ns)
    (h : ∀ (h' : Heap) (tk : Nat) (v : Value), (∀ (b : Addr) (o : Obj), s.heap.get? b = some o → h'.get? b = some o) → ((ns = [] ∧ v = d) ∨ ∃ M t', v = Value.int M t' ∧ M ∈ ns ∧ ∀ a ∈ ns, a ≤ M) → Q v { heap := h', gens := s.gens, drawn := s.drawn, toks := tk, os := s.os }) :
    wpAny (model prog w) A (call (Value.builtin "max") [Value.ref l] [(Str.ofString "default", d)]) Q E s := by
  refine call_tree_kw F.kind_max F.plain_max F.entry_max (argsD _ _) ?_
  refine wpAny_bind (wpAny_of_eq (show _ = pure [none, some d] from rfl) ?_)
  refine wpAny_bind (wpAny_pure ?_)
  have hname : toString "max" ++ toString ".loop" = "max.loop" := by decide
  obtain ⟨xs, e⟩ := hi.allInts.items
  have hn : numsOf (intItems xs).toList = ns := by rw [← e]; exact hi.numsOf
  rw [nums_intItems xs] at hn
  rw [e] at hl
  refine wpAny_bind (iter_intList hl fun s₂ es st hfp hlI => ?_)
  have W : Walks prog w A.in1 s.heap.objs.size [s.heap.objs.size, l] [s.heap.objs.size] (intItems xs).size (fun i v => (intItems xs)[i]? = some v) (fun i h => h.IsListIter s.heap.objs.size l i ∧ h.IsList l (intItems xs)) := Walks.list (A := A.in1) hh s.heap.objs.size l hlI (intItems xs)
  subst es
  have kp : ∀ (b : Addr) (o : Obj), s.heap.get? b = some o → b ≠ s.heap.objs.size := fun b o e => Nat.ne_of_lt (Heap.lt_size e)
  refine wpAny_bind (wpAny_newObj_type ?_ (by rw [show sizeOk (Data.seq #[]) = ((#[] : Array Value).size ≤ sizeLine) from rfl, sizeLine_eq]; simp))
  have hSf : s.heap.objs.size + 1 ∉ [s.heap.objs.size, l] := fun hm => by
    have := hfp _ hm
    simp at this
  have hsz : (s.heap.push { cls := Value.type "list_iterator", data := Data.fields #[Value.ref l, Value.int 0 0] }).objs.size = s.heap.objs.size + 1 := Heap.size_push ..
  have hk0 : ∀ (b : Addr) (o : Obj), s.heap.get? b = some o → ((s.heap.push { cls := Value.type "list_iterator", data := Data.fields #[Value.ref l, Value.int 0 0] }).push { cls := Value.type "list", data := Data.seq #[] }).get? b = some o := fun b o e => Heap.get?_push_of_some _ (Heap.get?_push_of_some _ e)
  have hst : ∀ o : Obj, ((s.heap.push { cls := Value.type "list_iterator", data := Data.fields #[Value.ref l, Value.int 0 0] }).push o).IsListIter s.heap.objs.size l 0 ∧ ((s.heap.push { cls := Value.type "list_iterator", data := Data.fields #[Value.ref l, Value.int 0 0] }).push o).IsList l (intItems xs) := fun o => W.frame 0 _ _ st fun b x o e => Heap.get?_push_of_some _ e
  have hS := Heap.get?_push_size (s.heap.push { cls := Value.type "list_iterator", data := Data.fields #[Value.ref l, Value.int 0 0] }) (o := { cls := Value.type "list", data := Data.seq #[] }) rfl
  dsimp only at hst hS ⊢
  rw [hname, hsz]
  rw [hsz] at hS
  refine wpAny_pure ⟨plainId_quiet F.plain_max_loop _, ?_⟩
  by_cases hz : xs.size = 0
  · have hz' : (intItems xs).size = 0 := by unfold intItems; rw [Array.size_map]; exact hz
    rw [hz'] at W
    have hnil : ns = [] := by
      rw [← hn, List.map_eq_nil_iff]
      exact List.eq_nil_of_length_eq_zero (by rw [Array.length_toList]; exact hz)
    refine maxNone_kw W _ hSf (hst _) hS fun h' tk hk => h h' tk d (fun b o e => ?_) (.inl ⟨hnil, rfl⟩)
    exact hk b o (fun z => kp b o e (List.mem_singleton.mp z)) (hk0 b o e)
  · have hz' : 0 < (intItems xs).size := by unfold intItems; rw [Array.size_map]; omega
    refine maxFirst_kw W _ (CmpOf.ints_gt (numAt xs) fun i v => intItems_at) _ hSf hz' (hst _) hS fun v h' tk hP hk => ?_
    obtain ⟨t, rfl⟩ := intItems_at hP
    obtain ⟨h1, h2⟩ := argBest_gt (numAt xs) ((intItems xs).size - 1)
    have hsz2 : (intItems xs).size = ns.length := by rw [← hn]; unfold intItems; rw [Array.size_map, List.length_map, Array.length_toList]
    refine h h' tk _ (fun b o e => hk b o (fun z => kp b o e (List.mem_singleton.mp z)) (fun z => ?_) (hk0 b o e)) (.inr ⟨_, t, rfl, ?_, fun a ha => ?_⟩)
    · exact absurd z (Nat.ne_of_lt (Nat.lt_succ_of_lt (Heap.lt_size e)))
    · rw [numAt_eq, hn]
      exact PySem.getD_mem (Nat.lt_of_le_of_lt h1 (by omega))
    · obtain ⟨j, hj, rfl⟩ := mem_getD ha
      have := h2 j (by omega)
      rw [numAt_eq, hn] at this
      exact this
def maxD (d : Int) : List Int → Int
  | [] => d
  | n :: ns => ns.foldl (fun m k => if k > m then k else m) n
theorem fold_ge : ∀ (ns : List Int) (n : Int), n ≤ ns.foldl (fun m k => if k > m then k else m) n ∧ (∀ a ∈ ns, a ≤ ns.foldl (fun m k => if k > m then k else m) n) ∧ (ns.foldl (fun m k => if k > m then k else m) n = n ∨ ns.foldl (fun m k => if k > m then k else m) n ∈ ns)
  | [], n => ⟨Int.le_refl _, (fun a h => absurd h List.not_mem_nil), .inl rfl⟩
  | k :: ns, n => by
    obtain ⟨h1, h2, h3⟩ := fold_ge ns (if k > n then k else n)
    show _ ≤ ns.foldl _ (if k > n then k else n) ∧ (∀ a ∈ k :: ns, a ≤ ns.foldl _ (if k > n then k else n)) ∧ (ns.foldl _ (if k > n then k else n) = n ∨ ns.foldl _ (if k > n then k else n) ∈ k :: ns)
    refine ⟨?_, fun a ha => ?_, ?_⟩
    · split at h1 <;> (split <;> omega)
    · rcases List.mem_cons.mp ha with rfl | ha
      · split at h1 <;> (split <;> omega)
      · exact h2 a ha
    · rcases h3 with h3 | h3
      · by_cases c : k > n
        · rw [if_pos c] at h3 ⊢
          exact .inr (by rw [h3]; exact List.mem_cons_self)
        · rw [if_neg c] at h3 ⊢
          exact .inl h3
      · exact .inr (List.mem_cons_of_mem _ h3)
theorem maxD_is {d M : Int} {ns : List Int} (h1 : M ∈ ns) (h2 : ∀ a ∈ ns, a ≤ M) : M = maxD d ns := by
  cases ns with
  | nil => cases h1
  | cons n ns =>
    obtain ⟨g1, g2, g3⟩ := fold_ge ns n
    show M = ns.foldl _ n
    have hm : ns.foldl (fun m k => if k > m then k else m) n ≤ M := by
      rcases g3 with g3 | g3
      · rw [g3]; exact h2 n List.mem_cons_self
      · exact h2 _ (List.mem_cons_of_mem _ g3)
    rcases List.mem_cons.mp h1 with rfl | h1
    · omega
    · have := g2 M h1
      omega
/-! ### at the layer -/
def intsOf : List D → Option (List Int)
  | [] => some []
  | .int i :: r => (match intsOf r with
    | some ns => some (i :: ns)
    | none => none)
  | _ :: _ => none
theorem ints_v {G : Gx} {φ : Lab} {H : Hp} : ∀ {xs : List D} {vs : List V} {ns : List Int}, RpL G φ H xs vs → intsOf xs = some ns → vs = ns.map V.int
  | _, _, _, .nil, h => by cases h; rfl
  | _, _, _, .cons (d := d) (ds := ds) r t, h => by
    cases r with
    | int x =>
      unfold intsOf at h
      cases q : intsOf ds with
      | none => simp only [q] at h; cases h
      | some cs =>
        simp only [q] at h
        cases h
        rw [ints_v t q]
        rfl
    | _ => cases h
def sumM : List D → M D
  | [.lst xs], μ => (match intsOf xs with
    | some ns => .ok (.int ns.sum) μ
    | none => .bad)
  | _, _ => .bad
theorem sum_i {G : Gx} : CallI G sumM (rSum G.K) := by
  intro φ μ H a x Q E R r p
  unfold sumM at p
  split at p
  · obtain ⟨v, rfl, r1⟩ := r.one
    rename_i xs
    cases r1 with
    | @lst a vs _ hs _ rl =>
      cases q : intsOf xs with
      | none => simp only [q] at p; exact p.elim
      | some ns =>
        simp only [q] at p
        exact ⟨a, ns, rfl, by rw [← ints_v rl q]; exact SqL.of hs, Post.pure p R (.int _)⟩
  · exact p.elim
def maxDM : List D → List D → M D
  | [.lst xs], [.int d], μ => (match intsOf xs with
    | some ns => .ok (.int (maxD d ns)) μ
    | none => .bad)
  | _, _, _ => .bad
theorem maxDM_is (ds cs : List D) (μ : Mem) : maxDM ds cs μ = .bad ∨ ∃ xs d ns, ds = [.lst xs] ∧ cs = [.int d] ∧ intsOf xs = some ns ∧ maxDM ds cs μ = .ok (.int (maxD d ns)) μ := by
  unfold maxDM
  split
  · rename_i xs d
    cases q : intsOf xs with
    | none => exact .inl (by simp only [q])
    | some ns => exact .inr ⟨xs, d, ns, rfl, rfl, q, by simp only [q]⟩
  · exact .inl rfl
/-- f(e, .., k = e', ..) of a built-in -/
def eBK (m : List D → List D → M D) (ml mk : Ev → M (List D)) : Ev → M D := fun ρ => M.bind (ml ρ) fun x => M.bind (mk ρ) fun y => m x y
section
variable {X : Cx} {W : WX} {Γ : Gs} {x : Str} {e : Expr} {es : List Expr} {kws : List Keyword} {ml mk : Ev → M (List D)} {p0 pos : Pos}
theorem cr_maxD (hc : X.calm = true) : CallRK X (.builtin "max") ["default"] (fun vs zs H Q => ∃ a ns d, vs = [V.ref a] ∧ SqL X.K H a (ns.map V.int) ∧ zs = [V.int d] ∧ Q (.int (maxD d ns)) H) := by
  intro pins s σ H xs zs us ws Q I r rz ⟨a, ns, d, ex, hs, ez, q⟩
  subst ex ez
  rw [Vals.ref1 r]
  obtain ⟨t, ew⟩ : ∃ t, ws = [Value.int d t] := by
    cases rz with
    | cons h t =>
      cases t
      obtain ⟨t, rfl⟩ := h
      exact ⟨t, rfl⟩
  subst ew
  obtain ⟨its, rvs, pl, hl⟩ := I.list hs
  refine max_rawD (I.ok.hd hc) pl.isList (Vals.ints rvs) fun h' tk v hk hv => ?_
  rcases hv with ⟨rfl, rfl⟩ | ⟨M, t', rfl, h1, h2⟩
  · exact ⟨.int d, H, Inv.kept I hk, ⟨t, rfl⟩, q⟩
  · exact ⟨.int M, H, Inv.kept I hk, ⟨t', rfl⟩, by rw [maxD_is (d := d) h1 h2]; exact q⟩
theorem j_maxD (ha : JL X Γ W [e] ml) (hk : PK X kws (tG (X.G Γ) (tieL (X.G Γ)) W mk)) (hc : X.calm = true)
    (h : ∀ t tk, CallRK X (.builtin "max") ["default"] (fun vs zs H Q => ∃ a ns d, vs = [V.ref a] ∧ SqL X.K H a (ns.map V.int) ∧ zs = [V.int d] ∧ Q (.int (maxD d ns)) H) → PA X [e] t → PK X kws tk → PE X (.Call (.Name "max" p0) [e] kws pos) (tCKw (fun vs zs H Q => ∃ a ns d, vs = [V.ref a] ∧ SqL X.K H a (ns.map V.int) ∧ zs = [V.int d] ∧ Q (.int (maxD d ns)) H) t tk)) :
    JE X Γ W (.Call (.Name "max" p0) [e] kws pos) (eBK maxDM ml mk) := by
  refine pe_w (h _ _ (cr_maxD hc) ha hk) fun σ H Q q => ?_
  obtain ⟨φ, ρ, μ, ev, r, p⟩ := q
  refine bG ev r p fun φ1 H1 ds vs μ1 g1 e1 r1 rv p1 => ?_
  refine bG e1 r1 p1 fun φ2 H2 cs zs μ2 g2 e2' r2 rz p2 => ?_
  have rv := RpL.grow g2 rv
  rcases maxDM_is ds cs μ2 with z | ⟨xs, d, ns, rfl, rfl, q, z⟩
  · rw [z] at p2
    exact p2.elim
  · rw [z] at p2
    obtain ⟨v, rfl, r1⟩ := RpL.one rv
    obtain ⟨z, rfl, r3⟩ := RpL.one rz
    cases r3
    cases r1 with
    | @lst a vs _ hs hn rl => exact ⟨a, ns, d, rfl, by rw [← ints_v rl q]; exact SqL.of hs, rfl, Post.pure p2 r2 (.int _)⟩
theorem wr_eBK {m : List D → List D → M D} {ρ : Ev} {μ : Mem} {P : D → Mem → Prop} {E : Ex → Mem → Prop} : wr (eBK m ml mk ρ μ) P E = wr (ml ρ μ) (fun x μ1 => wr (mk ρ μ1) (fun y μ2 => wr (m x y μ2) P E) E) E := by
  unfold eBK
  rw [wr_bnd]
  simp only [wr_bnd]
end
end SE

/-! SEq: get of a written dict; enumerate of a tuple. -/
namespace SE
open PySem PySem.Spec PyProof.Rows L2
/-! ### c.get(e, f), c a dict of texts that the top wrote -/
structure KD (K : PySem.W.Frag) (w : World) (a : Addr) (kvs : List (Str × D)) : Prop where
  ex : ∃ es n, KDict K w a es n ∧ entB K es.toList kvs = true
theorem kd_of {K : PySem.W.Frag} {w : World} {x : Str} {kvs : List (Str × D)} (h : ∃ es n, KDict K w (He.ga K x) es n) (b : kdB K x kvs = true) : KD K w (He.ga K x) kvs := by
  obtain ⟨es, n, k⟩ := h
  refine ⟨es, n, k, ?_⟩
  unfold kdB at b
  rw [k.at_] at b
  exact b
theorem ent_find {K : PySem.W.Frag} {z : Str} : ∀ {es : List DictEntry} {kvs : List (Str × D)}, entB K es kvs = true →
    (match kvs.lookup z with
    | some d => ∃ e, es.find? (fun x => x.key.isStr z) = some e ∧ datB K d e.val = true
    | none => es.find? (fun x => x.key.isStr z) = none) ∧ (es.any fun x => x.refKey) = false
  | [], [], _ => ⟨rfl, rfl⟩
  | e :: es, (k, d) :: r, h => by
    obtain ⟨h1, h⟩ := andB h
    obtain ⟨h2, h3⟩ := andB h
    obtain ⟨i1, i2⟩ := ent_find (z := z) h3
    obtain ⟨hs, ky, vl⟩ := e
    cases ky with
    | str y t =>
      have ey : y = k := of_decide_eq_true h1
      subst ey
      have e1 : (DictEntry.mk hs (.str y t) vl).key.isStr z = (y == z) := rfl
      refine ⟨?_, by rw [List.any_cons, i2]; rfl⟩
      unfold List.lookup
      by_cases c : z = y
      · subst c
        rw [beq_self_eq_true]
        exact ⟨_, by rw [List.find?_cons, e1, beq_self_eq_true], h2⟩
      · have c1 : (z == y) = false := beq_eq_false_iff_ne.mpr c
        have c2 : (y == z) = false := beq_eq_false_iff_ne.mpr (Ne.symm c)
        rw [c1]
        dsimp only
        rw [List.find?_cons, e1, c2]
        exact i1
    | _ => cases h1
theorem kd_ns {K : PySem.W.Frag} {w : World} {a : Addr} {kvs : List (Str × D)} {es : Array DictEntry} {n : Nat} (k : KDict K w a es n) (h : entB K es.toList kvs = true) (z : Str) : match kvs.lookup z with
    | some d => ∃ u, PySem.W.nsIn K a z = some (some u) ∧ datB K d u = true
    | none => PySem.W.nsIn K a z = some none := by
  obtain ⟨h1, h2⟩ := ent_find (z := z) h
  unfold PySem.W.nsIn
  rw [k.at_]
  dsimp only
  cases q : kvs.lookup z with
  | none =>
    rw [q] at h1
    dsimp only at h1 ⊢
    rw [h1]
    dsimp only
    rw [if_neg (by rw [h2]; simp)]
  | some d =>
    rw [q] at h1
    obtain ⟨e, e1, e2⟩ := h1
    dsimp only
    rw [e1]
    exact ⟨_, rfl, e2⟩
def kgM (kvs : List (Str × D)) (x y : D) : M D := fun μ => match x with
  | .str z => .ok ((kvs.lookup z).getD y) μ
  | _ => .bad
section
variable {X : Cx} {W : WX} {Γ : Gs} {x : Str} {e f : Expr} {me mf : Ev → M D} {p0 apos pos : Pos} {kvs : List (Str × D)}
theorem k_get2 {pins : List (Addr × Obj)} {σ : L2.St} {H : Hp} {s : Shared} {a : Addr} {d : V} {u r : Value} {z : Str} {es : Array DictEntry} {n : Nat} {A : Around} {E Q : Value → Shared → Prop} (I : Inv X pins σ H s) (k : KDict X.K X.w a es n) (ry : RelV (.str z) u) (rd : RelV d r)
    (hq : ∀ (w' : Value) (s' : Shared), Inv X pins σ H s' → w' = ((findBy Value.isStrOf es z).getD r) → Q w' s') : wpAny (model X.prog X.w) A (call (Value.builtin "dict.get") [Value.ref a, u, r]) Q E s := by
  obtain ⟨t, rfl⟩ := ry
  have mo : Heap.MapOf (PySem.strKind X.prog X.w) s.heap a fun k => findBy Value.isStrOf es k := PySem.W.mapOf_K I.kIn k.at_ k.lit
  exact call_meetsIn F.slot_dict_get (Heap.MapOf.typeIs mo) F.entry_dict_get (F.args_dict_get_3 (Value.ref a) (Value.str z t) r) (meets_dict_get_default (PySem.strKind X.prog X.w) a (PySem.strKind_is _ _ z t) k.low r) ⟨_, mo, hq _ _ (Inv.tok I (s.toks + 1)) rfl⟩
theorem j_kget (kd : KD X.K X.w (He.ga X.K x) kvs) (hg : Gl X x) (hm : X.mg x = some (.ref (He.ga X.K x))) (he : JE X Γ W e me) (hf : JE X Γ W f mf) (hdb : (x == ("__debug__" : Str)) = false := by decide)
    (hM : M2 X (.Name x p0) "get" apos e f pos := by exact ⟨rfl, rfl, rfl, rfl⟩) : JE X Γ W (.Call (.Attribute (.Name x p0) "get" apos) [e, f] [] pos) (eM1 isSt (kgM kvs) me mf) := by
  obtain ⟨es, n, k, hb⟩ := kd.ex
  refine ⟨fun pins s σ H Q I h => ?_⟩
  refine wpAny_Call_method hM.base hM.few hM.line F.plainAttrs_dict F.slot_dict_get F.type_dict_get (ld_glob I hg hm ?_ hdb)
  have mo : Heap.MapOf (PySem.strKind X.prog X.w) s.heap (He.ga X.K x) fun k => findBy Value.isStrOf es k := PySem.W.mapOf_K I.kIn k.at_ k.lit
  refine ⟨Heap.MapOf.typeIs mo, fun b eb => by cases eb; exact ⟨_, I.kIn _ _ k.at_, rfl⟩, ?_⟩
  rw [hM.trees]
  have key : tG (X.G Γ) (tieD (X.G Γ)) W me σ H (fun y H1 => ∃ z, y = .str z ∧ tG (X.G Γ) (tieD (X.G Γ)) W mf σ H1 (fun v H2 => (kvs.lookup z = none → Q v H2) ∧ (∀ d v0, kvs.lookup z = some d → (∀ φ H, Rp (X.G Γ) φ H d v0) → Q v0 H2))) := by
    refine bE h fun φ1 H1 y v ρ μ1 ev r rv p => ?_
    cases rv with
    | str z =>
      refine ⟨z, rfl, ?_⟩
      have p : Post (X.G Γ) (tieD (X.G Γ)) φ1 H1 (M.bind (mf ρ) (fun y => kgM kvs (.str z) y) μ1) Q fun cls dd H' => W cls dd σ H' := p
      refine bG ev r p fun φ2 H2 y2 v2 μ2 g2 e2' r2 rv2 p2 => ?_
      unfold kgM at p2
      dsimp only at p2
      refine ⟨fun e => ?_, fun d v0 e hv => ?_⟩
      · rw [e] at p2
        exact Post.pure p2 r2 rv2
      · rw [e] at p2
        exact Post.pure p2 r2 (hv _ _)
    | _ => exact p.elim
  refine Calls.callWith_builtin rfl (Calls.evalArgs_plain (Calls.spliced_cons (thn (he.run pins s σ H _ I key) fun u s1 ⟨y, H1, I1, ry, z, ey, q1⟩ => Calls.spliced_cons (thn (hf.run pins s1 σ H1 _ I1 q1) fun r s2 ⟨v, H2, I2, rv, q2⟩ => Calls.spliced_nil ?_))))
  subst ey
  have ns := kd_ns k hb z
  refine k_get2 I2 k ry rv fun w' s' I3 ew => ?_
  cases q : kvs.lookup z with
  | none =>
    rw [q] at ns
    have e := PySem.W.find_K k.at_ ns
    rw [e] at ew
    exact ⟨v, H2, I3, by rw [ew]; exact rv, q2.1 q⟩
  | some d =>
    rw [q] at ns
    obtain ⟨u', e1, e2⟩ := ns
    have e := PySem.W.find_K k.at_ e1
    rw [e] at ew
    obtain ⟨v0, r0, hv⟩ := datB_ok e2
    exact ⟨v0, H2, I3, by rw [ew]; exact r0, q2.2 d v0 q (fun φ H => hv _ _ _ _ φ H)⟩
end
/-! ### for i, x in enumerate(a tuple) -/
theorem meets_newT {v : Value} {o : Obj} {H : Heap → Prop} (B : Begins v o H) : Meets (Builtin.«enumerate.__new__» { pos := [Value.type "enumerate", v] }) fun x R s => H s.heap ∧ R (Except.ok (Flow.ret (Value.ref (s.heap.push o).objs.size)))
    { heap := (s.heap.push o).push { cls := Value.type "enumerate", data := Data.fields #[Value.none, Value.bool false, Value.ref s.heap.objs.size, rawInt 0, Value.none, Value.none] }, gens := s.gens, drawn := s.drawn, toks := s.toks, os := s.os } := by
  refine Meets.of_wp fun prog w A R s h => ?_
  obtain ⟨hp, g, d, tk, os⟩ := s
  obtain ⟨hl, h⟩ := h
  have hsub := sub_enumerate
  refine wpAny_bind (wpAny_bind (wpAny_pure (wpAny_ite_false rfl (wpAny_bind (wpAny_of_eq hsub (wpAny_ite_false rfl (wpAny_pure (wpAny_ite_true rfl (wpAny_bind (wpAny_bind (wpAny_stack_any fun st => wpAny_pure ?_)))))))))))
  have fin : ∀ x : Sem (Value × Option Value), x = pure (v, none) → wpAny (model prog w) A.in1 (x >>= fun __x => match __x with
      | (iterable, _) => do
              let __do_lift ← pyIter iterable
              let __do_lift ←
                Builtin.SmallTypes.newRecord (Value.type "enumerate")
                    (Builtin.SmallTypes.ownedTupleFields ++ [__do_lift, rawInt 0, Value.none, Value.none])
              ret __do_lift) (fun fin s' => ∃ v, fin = Fin.done (Flow.ret v) ∧ R (Except.ok (Flow.ret v)) s') (fun e s' => R (Except.error e) s')
    { heap := hp, gens := g, drawn := d, toks := tk, os := os } := by
    intro x ex
    refine wpAny_bind (wpAny_of_eq ex ?_)
    refine wpAny_bind (B.iter prog w A.in1 _ _ _ hl ?_)
    refine wpAny_bind ?_
    refine wpAny_newObj_type (data := Data.fields #[Value.none, Value.bool false, Value.ref hp.objs.size, rawInt 0, Value.none, Value.none]) ?_ (by show (6 : Nat) ≤ sizeLine + 2; rw [sizeLine_eq]; omega)
    exact wpAny_pure ⟨_, rfl, h⟩
  split
  · rename_i c tail kw snd tail_1 hst
    cases hc : (c == Value.type "enumerate") with
    | true =>
      refine wpAny_ite_true rfl ?_
      exact fin _ rfl
    | false =>
      refine wpAny_ite_false (by simp) ?_
      exact fin _ rfl
  · refine wpAny_ite_false (by simp) ?_
    exact fin _ rfl

theorem call_enumerate_tuple {prog : Program} {w : World} {A : Around} {E : Value → Shared → Prop} {s : Shared} {t : Addr} {items : Array Value} {Q : Value → Shared → Prop} (ht : s.heap.IsTuple t items)
    (h : ∀ (h' : Heap), IsEnum h' (s.heap.objs.size + 1) s.heap.objs.size 0 Value.none → h'.IsTupleIter s.heap.objs.size t 0 → h'.objs.size = s.heap.objs.size + 2 → (∀ (b : Addr) (o : Obj), s.heap.get? b = some o → h'.get? b = some o) → Q (Value.ref (s.heap.objs.size + 1)) { heap := h', gens := s.gens, drawn := s.drawn, toks := s.toks, os := s.os }) :
    wpAny (model prog w) A (call (Value.type "enumerate") [Value.ref t]) Q E s := by
  refine callType_new F.called_enumerate (by decide) (F.typeCall_enumerate_1 (Value.ref t)) (F.newCall_enumerate_1 (Value.ref t)) (fun obj => F.args_object_init_2 obj (Value.ref t)) F.entry_enumerate_new (meets_newT (begins_tuple t items)) ⟨ht, ?_⟩
  have hz := Heap.size_push s.heap { cls := Value.type "tuple_iterator", data := Data.fields #[Value.ref t, Value.int 0 0] }
  rw [hz]
  have en := Heap.get?_push_size (s.heap.push { cls := Value.type "tuple_iterator", data := Data.fields #[Value.ref t, Value.int 0 0] }) (o := { cls := Value.type "enumerate", data := Data.fields #[Value.none, Value.bool false, Value.ref s.heap.objs.size, rawInt 0, Value.none, Value.none] }) rfl
  rw [hz] at en
  have ti := Heap.get?_push_size s.heap (o := { cls := Value.type "tuple_iterator", data := Data.fields #[Value.ref t, Value.int 0 0] }) rfl
  refine ⟨⟨_, en, rfl⟩, h _ en ⟨_, Heap.get?_push_of_some _ ti, rfl, rfl⟩ (by rw [Heap.size_push, hz]) fun b o e => Heap.get?_push_of_some _ (Heap.get?_push_of_some _ e)⟩
def IteT (K : PySem.W.Frag) (a : Addr) (xs : List V) : It where
  go := fun i H => SqT K H a xs ∧ i < xs.length
  yld := fun i H v H' => ∃ T x, xs[i]? = some x ∧ v = V.ref T ∧ H T = none ∧ H' = upd H T (HO.tup [V.int i, x])
  stop := fun i H => SqT K H a xs ∧ xs.length ≤ i
theorem tuple_same {X : Cx} {pins : List (Addr × Obj)} {σ : L2.St} {H : Hp} {s : Shared} {a : Addr} {xs ys : List V} (I : Inv X pins σ H s) (h : SqT X.K H a xs) (h' : SqT X.K H a ys) : xs = ys := by
  obtain ⟨its, r1, t1, _⟩ := I.tuple h
  obtain ⟨jts, r2, t2, _⟩ := I.tuple h'
  obtain ⟨o, e1, c1, n1, d1⟩ := t1
  obtain ⟨o', e2, c2, n2, d2⟩ := t2
  rw [e1] at e2
  cases e2
  rw [d1] at d2
  have e : its.toArray = jts.toArray := by injection d2
  have e' : its = jts := by simpa using congrArg Array.toList e
  subst e'
  exact Vals.inj r1 r2
theorem turn_enumT {P : Program} {w : World} {K : PySem.W.Frag} {elts : List Expr} {kk : Nat} {tpos : Pos} (a e it : Addr) (xs : List V) (h1 : e ≠ it) (h2 : a ≠ it) (h3 : a ≠ e) :
    Turn P w K (.Tuple elts kk tpos) (IteT K a xs) [e, it] e fun i h => (∃ old, IsEnum h e it (i : Int) old) ∧ h.IsTupleIter it a i where
  mem := List.mem_cons_self
  obj := fun i h ⟨⟨old, he⟩, o, ho, hc, hd⟩ b hb => by
    rcases List.mem_cons.mp hb with rfl | hb
    · exact ⟨_, he, fun v q => nomatch q⟩
    · rw [List.mem_singleton.mp hb]
      exact ⟨o, ho, fun v q => by rw [hd] at q; cases q⟩
  keep := fun i h h' ⟨⟨old, he⟩, o, ho, hc, hd⟩ k => ⟨⟨old, k e List.mem_cons_self _ he⟩, o, k it (List.mem_cons_of_mem _ List.mem_cons_self) _ ho, hc, hd⟩
  item := fun X hP hw hK hc i pins s σ H E I hf st hg => by
    subst hP hw hK
    obtain ⟨⟨old, he⟩, hit⟩ := st
    obtain ⟨hq, hlt⟩ := hg
    obtain ⟨x, hx⟩ : ∃ x, xs[i]? = some x := ⟨_, List.getElem?_eq_getElem hlt⟩
    obtain ⟨its, rv, p, hz⟩ := I.tuple hq
    obtain ⟨u, hu, ru⟩ := Vals.get rv hx
    have hel := Heap.lt_size he
    have hil : it < s.heap.objs.size := by obtain ⟨o, ho, _⟩ := hit; exact Heap.lt_size ho
    have hil2 : i < its.toArray.size := by
      have := (List.getElem?_eq_some_iff.mp hu).1
      simpa using this
    refine wpAny_pyNext_enum_itemC (Draws.tuple (A := X.A.in1) (I.ok.hd hc) it a h2 its.toArray) he ⟨hit, p⟩ hil2 h1 (by simp [h1, Ne.symm h3]) fun y h' tk hy ho hst hT hsz hk => ?_
    have ey : y = u := by
      rw [List.getElem?_toArray, hu] at hy
      exact (Option.some.inj hy).symm
    subst ey
    refine ⟨_, rfl, wpAny_letOwnedTupleGo_enum ho fun h'' he' sb => ?_⟩
    have hT2 : h''.get? s.heap.objs.size = some { cls := Value.type "tuple", data := Data.seq #[Value.int (i : Int) tk, y] } := (sb.2 s.heap.objs.size (Nat.ne_of_gt hel)).trans hT
    have new : ObjOk X.prog X.w (upd H s.heap.objs.size (.tup [V.int i, x])) h'' s.heap.objs.size (.tup [V.int i, x]) := ⟨by show (2 : Nat) ≤ sizeLine; rw [sizeLine_eq]; omega, [Value.int (i : Int) tk, y], .cons ⟨tk, rfl⟩ (.cons ru .nil), _, hT2, rfl, 0, rfl⟩
    have I1 := Inv.turnedNew (t' := tk + 1) (ch := [e, it]) I (fun b ob hb q => (sb.2 b fun z => hb (by rw [z]; exact List.mem_cons_self)).trans (hk b ob (fun z => hb (by rw [z]; exact List.mem_cons_self)) (fun z => hb (by rw [z]; exact List.mem_cons_of_mem _ List.mem_cons_self)) q)) hf (Nat.le_refl _) new
    refine ⟨V.ref s.heap.objs.size, _, I1, rfl, ⟨_, x, hx, rfl, HOk.fresh I.hok (Nat.le_refl _), rfl⟩, ⟨⟨y, ?_⟩, ?_⟩, fun b hb => ?_⟩
    · have e1 : ((i + 1 : Nat) : Int) = (i : Int) + 1 := by omega
      rw [e1]
      exact he'
    · obtain ⟨⟨o, q1, q2, q3⟩, _⟩ := hst
      exact ⟨o, (sb.2 it (Ne.symm h1)).trans q1, q2, q3⟩
    · have hb' : b < s.heap.objs.size := by
        rcases List.mem_cons.mp hb with rfl | hb
        · exact hel
        · rw [List.mem_singleton.mp hb]; exact hil
      rw [upd_ne (Nat.ne_of_lt hb')]
      exact (hf b hb).1
  done := fun X hP hw hK hc i pins s σ H E I hf st hg => by
    subst hP hw hK
    obtain ⟨⟨old, he⟩, hit⟩ := st
    obtain ⟨hq, hx⟩ := hg
    obtain ⟨its, rv, p, hz⟩ := I.tuple hq
    obtain ⟨f0, f1, f2, f3, f4, f5⟩ := hf it (List.mem_cons_of_mem _ List.mem_cons_self)
    have hl := Vals.length rv
    have D : Draws X.prog X.w X.A.in1 it [it, a] i (fun _ _ => True) (fun j h => j = i ∧ h.IsTupleIter it a i ∧ h.IsTuple a its.toArray) := {
      live := fun j h ⟨_, ⟨o, ho, _⟩, _⟩ => ⟨o, ho⟩
      frame := fun j h h' ⟨ej, ⟨o, ho, c1, d1⟩, o2, ho2, c2, d2⟩ k => ⟨ej, ⟨o, k it List.mem_cons_self _ ho, c1, d1⟩, o2, k a (List.mem_cons_of_mem _ List.mem_cons_self) _ ho2, c2, d2⟩
      item := fun j s Q E hj ⟨ej, _⟩ _ => absurd ej (Nat.ne_of_lt hj)
      done := fun s Q E st hE => wpAny_nextOf_tuple_end (I.ok.hd hc) st.2.1 st.2.2 (by rw [List.getElem?_toArray, List.getElem?_eq_none_iff]; omega) hE }
    exact wpAny_pyNext_enum_endD D he ⟨rfl, hit, p⟩ fun h' eb => ⟨rfl, Inv.turned I (fun b o hb q => eb b o hb q) f0 f1 f3 f4 f5⟩
  self := fun A i s Q E ⟨⟨old, he⟩, _⟩ h => wpAny_pyIter_enum he h
section
variable {X : Cx} {W : WX} {Γ : Gs} {e : Expr} {me : Ev → M D} {p pos tpos : Pos} {elts : List Expr} {kk : Nat}
def iEnumT (K : PySem.W.Frag) (ta : TA) : TI := fun σ H R => ta σ H fun vs H1 => ∃ a xs, vs = [.ref a] ∧ SqT K H1 a xs ∧ R (IteT K a xs) H1
theorem pi_enumT {ta : TA} (hg : Gl X "enumerate") (hm : X.mg "enumerate" = none) (ha : PA X [e] ta) (hs : starEach [e] X.env = [(false, eval e X.env)] := by rfl) :
    PI X (.Tuple elts kk tpos) (.Call (.Name "enumerate" p) [e] [] pos) (iEnumT X.K ta) := by
  refine ⟨fun pins s σ H R I h => ?_⟩
  refine Call_ (ld_blt I hg hm boot_enumerate (callWith_type1 (thn (ha.run pos pins s σ H _ I h) fun us s1 ⟨vs, H1, I1, r1, a, xs, ev, hq, q⟩ => ?_) (by rw [hs]; rfl) (by rfl)) (by decide) (by decide))
  subst ev
  rw [Vals.ref1 r1]
  obtain ⟨its, rv, pt, hz⟩ := I1.tuple hq
  have ha1 : a < s1.heap.objs.size := by obtain ⟨o, ho, _⟩ := pt; exact Heap.lt_size ho
  refine call_enumerate_tuple pt fun h' en ti hsz hk => wpAny_pyIter_enum en ?_
  have I2 := Inv.kept (t' := s1.toks) I1 hk
  refine ⟨s1.heap.objs.size + 1, [s1.heap.objs.size + 1, s1.heap.objs.size], _, IteT X.K a xs, H1, rfl, I2, turn_enumT a (s1.heap.objs.size + 1) s1.heap.objs.size xs (Nat.succ_ne_self _) (Nat.ne_of_lt ha1) (Nat.ne_of_lt (Nat.lt_succ_of_lt ha1)), ⟨⟨_, en⟩, ti⟩, fun b hb => ?_, q⟩
  rcases List.mem_cons.mp hb with rfl | hb
  · exact Inv.fpOk I1 (Nat.le_succ _) (HOk.fresh I1.hok (Nat.le_succ _))
  · rw [List.mem_singleton.mp hb]
    exact Inv.fpOk I1 (Nat.le_refl _) (HOk.fresh I1.hok (Nat.le_refl _))
def enumL : Nat → List D → List D
  | _, [] => []
  | n, d :: ds => .tup [.int n, d] :: enumL (n + 1) ds
theorem enumL_get : ∀ {ds : List D} {n i : Nat}, (enumL n ds)[i]? = (ds[i]?).map fun d => D.tup [.int ((n + i : Nat) : Int), d]
  | [], _, _ => by simp [enumL]
  | d :: ds, n, 0 => by simp [enumL]
  | d :: ds, n, i + 1 => by
    have := enumL_get (ds := ds) (n := n + 1) (i := i)
    simp only [enumL, List.getElem?_cons_succ]
    rw [this]
    rw [show n + 1 + i = n + (i + 1) by omega]
theorem enumL_len : ∀ {ds : List D} {n : Nat}, (enumL n ds).length = ds.length
  | [], _ => rfl
  | _ :: ds, n => by simp [enumL, enumL_len (ds := ds)]
def enumM : List D → M (List D)
  | [.tup xs], μ => .ok (enumL 0 xs) μ
  | _, _ => .bad
theorem ite_tie {G : Gx} {φ : Lab} {H : Hp} {a : Addr} {vs : List V} {ds : List D} (h : SqTz G.K φ H a vs) (r : RpL G φ H ds vs) : tieI G φ H (enumL 0 ds) (IteT G.K a vs) := by
  intro φ1 H1 g i
  have hh := (h.grow g).t
  refine ⟨fun d hd => ?_, fun hl => ⟨hh, by rw [enumL_len] at hl; rw [← r.length]; exact hl⟩⟩
  rw [enumL_get] at hd
  cases q : ds[i]? with
  | none => rw [q] at hd; cases hd
  | some d0 =>
    rw [q] at hd
    obtain rfl : D.tup [.int ((0 + i : Nat) : Int), d0] = d := Option.some.inj hd
    obtain ⟨v, hv, rv⟩ := r.get q
    have hi : i < vs.length := (List.getElem?_eq_some_iff.mp hv).1
    refine ⟨⟨hh, hi⟩, fun x H2 μ R hy => ?_⟩
    obtain ⟨T, x0, e1, rfl, e2, rfl⟩ := hy
    rw [hv] at e1
    cases e1
    rw [Nat.zero_add]
    have gg := Grow.laid (φ := φ1) (o := .tup [V.int i, v]) e2
    exact ⟨gg, R.laid e2, .tup (.inl ⟨.inl upd_same, R.out e2⟩) (.cons (.int _) (.cons ((rv.grow g).grow gg) .nil))⟩
theorem i_enumT {ml : Ev → M (List D)} (hg : Gl X "enumerate") (hm : X.mg "enumerate" = none) (ha : JL X Γ W [e] ml) (hs : starEach [e] X.env = [(false, eval e X.env)] := by rfl) : JI X Γ W (.Tuple elts kk tpos) (.Call (.Name "enumerate" p) [e] [] pos) (eLL enumM ml) := by
  refine pi_w (pi_enumT hg hm ha hs) fun σ H R h => ?_
  obtain ⟨φ, ρ, μ, ev, r, q⟩ := h
  refine bG ev r q fun φ1 H1 ds vs μ1 g1 e1 r1 rv p1 => ?_
  unfold enumM at p1
  split at p1
  · obtain ⟨v, rfl, r2⟩ := RpL.one rv
    cases r2 with
    | tup hs rl => exact ⟨_, _, rfl, hs.t, Post.pure p1 r1 (ite_tie hs rl)⟩
  · exact p1.elim
end
end SE

/-! SEr: defs that call themselves; patterns with several values; more of lists that may change. -/
namespace SE
open PySem PySem.Spec PyProof.Rows L2
/-- a def that calls itself, that many calls deep at most -/
def fixN (N : Nat) (b : (List D → M D) → MS) : Nat → List D → M D
  | 0 => fun _ => M.bad
  | n + 1 => callM N (b (fixN N b n))
theorem fixN_0 {N : Nat} {b : (List D → M D) → MS} : fixN N b 0 = fun _ => M.bad := rfl
theorem fixN_S {N : Nat} {b : (List D → M D) → MS} {n : Nat} : fixN N b (n + 1) = callM N (b (fixN N b n)) := rfl
/-- nothing is said -/
theorem FnG.none {Γ : Gs} {P : Program} {w : World} {K : PySem.W.Frag} {mg : Str → Option Value} {base : Heap} {k : Nat} {f : Addr} {fd : FuncData} {ps : List Str} : FnG Γ P w K mg base k f fd ps (fun _ => M.bad) :=
  ⟨fun A outer s H args us vs Q E ds φ μ hr gd en hb rv hl rl rm post => (show False from post).elim⟩
/-! ### case 'a' | 'b' -/
section
variable {X : Cx} {Γ : Gs} {W : WX} {e : Expr} {c : D} {body : List Stmt} {b : MS} {rest : List MatchCase} {f : D → MS} {p pos : Pos}
inductive JPs (X : Cx) (Γ : Gs) (W : WX) : List Pattern → List D → Prop where
  | nil : JPs X Γ W [] []
  | cons {e : Expr} {p : Pos} {c : D} {ps : List Pattern} {cs : List D} : JE X Γ W e (eC c) → JPs X Γ W ps cs → JPs X Γ W (.MatchValue e p :: ps) (c :: cs)
def mcOr : List D → MS → (D → MS) → D → MS
  | [], _, f => f
  | c :: cs, b, f => mcVal c b (mcOr cs b f)
theorem mc_or {rr : R2} {ps : List Pattern} {cs : List D} (h : JPs X Γ W ps cs) (ho : OpR X (compareOp .Eq) rr) (hi : OpI (X.G Γ) eqM rr) (hb : JSs X Γ W body b) (hr : JMc X Γ W rest f) : JMc X Γ W (⟨.MatchOr ps p, none, body⟩ :: rest) (mcOr cs b f) := by
  have key : ∀ (ps : List Pattern) (cs : List D), JPs X Γ W ps cs → ∀ (pins : List (Addr × Obj)) (s : Shared) (σ : L2.St) (H : Hp) (v : V) (u : Value) (Z : Ends) (φ : Lab) (d : D) (ρ : Ev) (μ : Mem), Inv X pins σ H s → RelV v u → EvR (X.G Γ) φ H ρ σ → MemR (X.G Γ) φ μ H → Rp (X.G Γ) φ H d v →
      PostS (X.G Γ) φ H (mcOr cs b f d ρ μ) Z W → wpAny (model X.prog X.w) X.A (matchFirst ps X.env u) (fun r s1 => match r with
        | none => ∃ H1 φ1 μ1, Inv X pins σ H1 s1 ∧ EvR (X.G Γ) φ1 H1 ρ σ ∧ MemR (X.G Γ) φ1 μ1 H1 ∧ Rp (X.G Γ) φ1 H1 d v ∧ PostS (X.G Γ) φ1 H1 (f d ρ μ1) Z W
        | some bs => ∃ H1 φ1 μ1, Inv X pins σ H1 s1 ∧ EvR (X.G Γ) φ1 H1 ρ σ ∧ MemR (X.G Γ) φ1 μ1 H1 ∧ PostS (X.G Γ) φ1 H1 (b ρ μ1) Z W) X.xe s := by
    intro ps cs h
    induction h with
    | nil =>
      intro pins s σ H v u Z φ d ρ μ I rv ev rm rd q
      exact wpAny_matchFirst_nil ⟨H, φ, μ, I, ev, rm, rd, q⟩
    | @cons e p c ps cs he _ ih =>
      intro pins s σ H v u Z φ d ρ μ I rv ev rm rd q
      have k2 : tG (X.G Γ) (tieD (X.G Γ)) W (eC c) σ H fun x H1 => rr v x H1 fun z H2 => ∃ k φ2 μ2, z = .bl k ∧ EvR (X.G Γ) φ2 H2 ρ σ ∧ MemR (X.G Γ) φ2 μ2 H2 ∧ Rp (X.G Γ) φ2 H2 d v ∧ PostS (X.G Γ) φ2 H2 (if k = true then b ρ μ2 else mcOr cs b f d ρ μ2) Z W := by
        refine ⟨φ, ρ, μ, ev, rm, ?_⟩
        intro φ1 H1 x g1 r1 rx
        refine hi φ1 μ H1 d c v x _ (fun cls dd H' => W cls dd σ H') r1 (rd.grow g1) rx ?_
        unfold mcOr mcVal M.bind at q
        cases e : eqM d c μ with
        | ok z μ2 =>
          rw [e] at q
          intro φ2 H2 zz g2 r2 rz
          have G := g1.trans g2
          cases rz with
          | bl k => exact ⟨k, φ2, μ2, rfl, ev.grow G, r2, rd.grow G, PostS.grow G q⟩
          | _ => exact q.elim
        | exc x μ2 =>
          rw [e] at q
          intro φ2 H2 cls dd g2 r2 ex
          have G := g1.trans g2
          exact q φ2 H2 σ cls dd G r2 (ev.grow G) ex
        | bad =>
          rw [e] at q
          exact q.elim
      refine wpAny_matchFirst_cons (wpAny_matchPattern_Value (thn (he.run pins s σ H _ I k2) fun x s1 ⟨xv, H1, I1, rx, q1⟩ => thn (ho pins s1 σ H1 v xv u x _ I1 rv rx q1) fun y s2 ⟨z, H2, I2, ry, k, φ2, μ2, ez, ev2, r2, rd2, q2⟩ => ?_))
      subst ez
      cases (show y = Value.bool k from ry)
      refine wpAny_truthy_bool ?_
      cases k with
      | true => exact ⟨H2, φ2, μ2, I2, ev2, r2, q2⟩
      | false => exact ih pins s2 σ H2 v u Z φ2 d ρ μ2 I2 rv ev2 r2 rd2 q2
  have nm : namesOfAll (List.take 1 ps) = [] := by
    cases h with
    | nil => rfl
    | cons _ _ => rfl
  refine ⟨fun pins s σ H v u Z first φ d ρ μ I rv ev rm rd q => ?_⟩
  refine wpAny_matchCases_cons (wpAny_matchPattern_Or (thn (key ps cs h pins s σ H v u Z φ d ρ μ I rv ev rm rd q) fun r s1 hr1 => ?_))
  cases r with
  | none =>
    obtain ⟨H1, φ1, μ1, I1, e1, r1, rd1, q1⟩ := hr1
    exact hr.run pins s1 σ H1 v u Z false φ1 d ρ μ1 I1 rv e1 r1 rd1 q1
  | some bs =>
    obtain ⟨H1, φ1, μ1, I1, e1, r1, q1⟩ := hr1
    dsimp only
    rw [nm]
    exact wpAny_assignInOrder_none (hb.run pins s1 σ H1 Z I1 ⟨φ1, ρ, μ1, e1, r1, q1⟩)
end
/-! ### tuple(xs), list(xs) -/
def seqD (μ : Mem) : D → Option (List D)
  | .lst xs => some xs
  | .ro xs => some xs
  | .tup xs => some xs
  | .loc l => (match μ[l]? with
    | some (.lst xs) => some xs
    | _ => none)
  | _ => none
theorem seq_at {G : Gx} (h0 : G.s.off = G.s) {φ : Lab} {μ : Mem} {H : Hp} {d : D} {v : V} {xs : List D} (r : Rp G φ H d v) (R : MemR G φ μ H) (h : seqD μ d = some xs) : ∃ a vs, v = .ref a ∧ (SqL G.K H a vs ∨ SqT G.K H a vs) ∧ RpL G φ H xs vs := by
  cases r with
  | tup hs rl => cases h; exact ⟨_, _, rfl, .inr hs.t, rl⟩
  | lst hs hn rl => cases h; exact ⟨_, _, rfl, .inl (SqL.of hs), rl⟩
  | ro hs rl => cases h; exact ⟨_, _, rfl, .inl hs.t, rl⟩
  | @loc a l hl =>
    unfold seqD at h
    dsimp only at h
    cases q : μ[l]? with
    | none => rw [q] at h; cases h
    | some o =>
      cases o with
      | lst ys =>
        rw [q] at h
        cases h
        obtain ⟨b, h1, vs, h3, h4⟩ := R.at_ l _ q
        rw [hl] at h1
        cases h1
        exact ⟨_, _, rfl, .inl (SqL.of h3), by rw [← Gx.off_eq h0]; exact h4⟩
      | dT kvs => rw [q] at h; cases h
      | fT kvs => rw [q] at h; cases h
  | _ => cases h
/-- list(xs) that may change -/
def listNM (ds : List D) : M D := fun μ => match ds with
  | [x] => (match seqD μ x with
    | some xs => if xs.length ≤ 100000 then .ok (.loc μ.length) (μ ++ [.lst xs]) else .bad
    | none => .bad)
  | _ => .bad
theorem listN_i {G : Gx} (h0 : G.s.off = G.s) : CallI G listNM (fun xs H Q => ∃ p ys, xs = [.ref p] ∧ (SqL G.K H p ys ∨ SqT G.K H p ys) ∧ ∀ l, H l = none → Q (.ref l) (upd H l (.lst ys))) := by
  intro φ μ H a x Q E R r p
  unfold listNM at p
  split at p
  · obtain ⟨v, rfl, r1⟩ := r.one
    rename_i x
    cases q : seqD μ x with
    | none => rw [q] at p; exact p.elim
    | some xs =>
      rw [q] at p
      dsimp only at p
      obtain ⟨b, vs, rfl, hs, rl⟩ := seq_at h0 r1 R q
      by_cases c : xs.length ≤ 100000
      · rw [if_pos c] at p
        refine ⟨b, vs, rfl, hs, fun l hl => ?_⟩
        exact p _ _ _ (Grow.newl hl) (R.newl hl (by rw [Gx.off_eq h0]; exact rl)) (.loc (by show (φ.l ++ [l])[_]? = _; rw [List.getElem?_append_right (by rw [R.len]; exact Nat.le_refl _), R.len]; simp))
      · rw [if_neg c] at p
        exact p.elim
  · exact p.elim
/-- tuple(xs) of any -/
def tupleAM (ds : List D) : M D := fun μ => match ds with
  | [x] => (match seqD μ x with
    | some xs => .ok (.tup xs) μ
    | none => .bad)
  | _ => .bad
theorem tupleA_i {G : Gx} (h0 : G.s.off = G.s) : CallI G tupleAM (fun xs H Q => ∃ p ys, xs = [.ref p] ∧ ((SqL G.K H p ys ∧ ∀ l, H l = none → Q (.ref l) (upd H l (.tup ys))) ∨ (SqT G.K H p ys ∧ Q (.ref p) H))) := by
  intro φ μ H a x Q E R r p
  unfold tupleAM at p
  split at p
  · obtain ⟨v, rfl, r1⟩ := r.one
    rename_i x
    cases q : seqD μ x with
    | none => rw [q] at p; exact p.elim
    | some xs =>
      rw [q] at p
      dsimp only at p
      have fin : ∀ {vs : List V}, RpL G φ H xs vs → ∀ l, H l = none → Q (.ref l) (upd H l (.tup vs)) := fun {vs} rl l hl =>
        p φ _ _ (Grow.laid hl) (R.laid hl) (.tup (.inl ⟨.inl upd_same, R.out hl⟩) (rl.grow (Grow.laid hl)))
      cases r1 with
      | tup hs rl => cases q; exact ⟨_, _, rfl, .inr ⟨hs.t, Post.pure p R (.tup hs rl)⟩⟩
      | lst hs hn rl => cases q; exact ⟨_, _, rfl, .inl ⟨SqL.of hs, fin rl⟩⟩
      | ro hs rl => cases q; exact ⟨_, _, rfl, .inl ⟨hs.t, fin rl⟩⟩
      | @loc a l hl =>
        unfold seqD at q
        dsimp only at q
        cases q2 : μ[l]? with
        | none => rw [q2] at q; cases q
        | some o =>
          cases o with
          | lst ys =>
            rw [q2] at q
            cases q
            obtain ⟨b, h1, vs, h3, h4⟩ := R.at_ l _ q2
            rw [hl] at h1
            cases h1
            exact ⟨_, _, rfl, .inl ⟨SqL.of h3, fin (by rw [← Gx.off_eq h0]; exact h4)⟩⟩
          | dT kvs => rw [q2] at q; cases q
          | fT kvs => rw [q2] at q; cases q
      | _ => cases q
  · exact p.elim
end SE

/-! SEs: t[::-1] of a tuple. -/
namespace SE
open PySem PySem.Spec PyProof.Rows L2
section
variable {prog : Program} {w : World} {A : Around} {E : Value → Shared → Prop} {s : Shared}
theorem sliceApplied_rev {sl : Addr} {vs : Value} {n : Nat} {Q : Int × Int × Nat → Shared → Prop} (hs : s.heap.IsSliceOf sl .none .none vs) (ps : IsPart vs (some (-1))) (h : Q ((n : Int) - 1, -1, n) s) : wpAny (model prog w) A (Builtin.Slice.sliceApplied (Value.ref sl) (pure (n : Int))) Q E s := by
  obtain ⟨os, hos, hcs, hds⟩ := id hs
  unfold Builtin.Slice.sliceApplied
  refine wpAny_bind ?_
  unfold Builtin.Slice.sliceFields
  refine wpAny_bind (wpAny_field hos hds rfl (wpAny_bind (wpAny_field hos hds rfl (wpAny_bind (wpAny_field hos hds rfl (wpAny_pure ?_))))))
  refine wpAny_bind (HT.slicePart_ ps ?_)
  dsimp only [Option.getD_some]
  refine wpAny_ite_false (by decide) ?_
  refine wpAny_bind (slicePart_none (wpAny_bind (slicePart_none (wpAny_bind (wpAny_pure ?_)))))
  have e1 : Builtin.Slice.sliceAdjust none none (-1) (n : Int) = ((n : Int) - 1, -1) := rfl
  rw [e1]
  dsimp only
  have e2 : Builtin.Slice.slicePlaces ((n : Int) - 1) (-1) (-1) = n := by
    unfold Builtin.Slice.slicePlaces
    rw [if_neg (by omega)]
    by_cases c : n = 0
    · subst c
      rfl
    · rw [if_pos (by omega), show (-(-1 : Int)) = 1 from rfl, Int.ediv_one]
      omega
  rw [e2]
  exact wpAny_pure h
theorem rev_pick (xs : Array Value) : List.filterMap (fun k : Nat => xs[((xs.size : Int) - 1 + (k : Int) * -1).toNat]?) (List.range xs.size) = xs.toList.reverse := by
  have e : List.filterMap (fun k : Nat => xs[((xs.size : Int) - 1 + (k : Int) * -1).toNat]?) (List.range xs.size) = (List.range xs.size).map fun k => xs.toList.reverse.getD k default := by
    have key : ∀ l : List Nat, (∀ k ∈ l, k < xs.size) → List.filterMap (fun k : Nat => xs[((xs.size : Int) - 1 + (k : Int) * -1).toNat]?) l = l.map fun k => xs.toList.reverse.getD k default := by
      intro l
      induction l with
      | nil => intro _; rfl
      | cons k l ih =>
        intro h
        have hk := h k List.mem_cons_self
        have e1 : ((xs.size : Int) - 1 + (k : Int) * -1).toNat = xs.size - 1 - k := by omega
        have e2 : xs[((xs.size : Int) - 1 + (k : Int) * -1).toNat]? = some (xs.toList.reverse.getD k default) := by
          rw [e1, List.getD_eq_getElem?_getD, List.getElem?_reverse (by simpa using hk)]
          simp only [Array.length_toList, Array.getElem?_toList]
          rw [Array.getElem?_eq_getElem (by omega)]
          rfl
        rw [List.filterMap_cons, e2]
        dsimp only
        rw [ih fun j hj => h j (List.mem_cons_of_mem _ hj)]
        rfl
    exact key _ fun k hk => List.mem_range.mp hk
  rw [e]
  apply List.ext_getElem
  · simp
  · intro i h1 h2
    simp only [List.getElem_map, List.getElem_range]
    rw [List.getD_eq_getElem?_getD, List.getElem?_eq_getElem (by simpa using h2)]
    rfl
theorem getItem_tuple_rev {t sl : Addr} {items : Array Value} {vs : Value} {Q : Value → Shared → Prop} (ht : IsTup s.heap t items) (hs : s.heap.IsSliceOf sl .none .none vs) (ps : IsPart vs (some (-1)))
    (h : Q (Value.ref s.heap.objs.size) { heap := s.heap.push { cls := Value.type "tuple", data := Data.seq items.toList.reverse.toArray }, gens := s.gens, drawn := s.drawn, toks := s.toks, os := s.os }) (hsz : items.size ≤ sizeLine) : wpAny (model prog w) A (getItem (Value.ref t) (Value.ref sl)) Q E s := by
  obtain ⟨os, hos, hcs, hds⟩ := id hs
  have hTs : s.TypeIs (Value.ref sl) "slice" := ⟨os, hos, hcs⟩
  refine wpAny_holding (wpAny_bind (wpAny_sequenceKey (IsTup.typeIs ht) (by decide) (wpAny_bind (wpAny_callSpecial?_slot (IsTup.typeIs ht) slot_tuple_getitem (wpAny_call_entry slot_tuple_getitem (IsTup.typeIs ht) entry_tuple_getitem ?_)))))
  refine wpAny_bind (wpAny_of_eq (show _ = pure (Value.ref t, [Value.ref sl]) from rfl) ?_)
  refine wpAny_bind (tupleItemsOf_ ht (wpAny_bind (wpAny_typeOf hTs ?_)))
  refine wpAny_ite_true (by decide) ?_
  refine wpAny_bind (sliceApplied_rev hs ps ?_)
  dsimp only
  refine wpAny_ite_false (by simp) ?_
  rw [rev_pick]
  refine wpAny_bind (wpAny_newObj_type ?_ (by show items.toList.reverse.toArray.size ≤ sizeLine; simpa using hsz))
  exact wpAny_pure ⟨_, rfl, wpAny_pure h⟩
end
def tRevT (K : PySem.W.Frag) (te : TE) : TE := fun σ H Q => te σ H fun x H1 => ∃ a xs, x = .ref a ∧ SqT K H1 a xs ∧ ∀ p, H1 p = none → Q (.ref p) (upd H1 p (.tup xs.reverse))
theorem pe_revT {X : Cx} {e : Expr} {te : TE} {k : Nat} {p1 p2 p3 pos : Pos} (he : PE X e te) : PE X (.Subscript e (.Slice none none (some (.UnaryOp .USub (.Constant (.int 1) k p1) p2)) p3) pos) (tRevT X.K te) := by
  refine ⟨fun pins s σ H Q I h => ?_⟩
  have hst : PO X (some (Expr.UnaryOp .USub (.Constant (.int 1) k p1) p2)) _ := po_some (pe_un un_neg pe_int)
  refine Subscript_ (thn (he.run pins s σ H _ I h) fun v s1 ⟨x, H1, I1, r1, a, xs, ex, hx, q⟩ => ?_)
  subst ex
  obtain rfl : v = Value.ref a := r1
  refine wpAny_Slice (thn (po_none.run pins s1 σ H1 (fun o H2 => o = none ∧ H2 = H1) I1 ⟨rfl, rfl⟩) fun vl s2 ⟨l, H2, I2, pl, el, e2⟩ => ?_)
  subst el e2
  refine thn (po_none.run pins s2 σ H2 (fun o H3 => o = none ∧ H3 = H2) I2 ⟨rfl, rfl⟩) fun vu s3 ⟨u, H3, I3, pu, eu, e3⟩ => ?_
  subst eu e3
  refine thn (hst.run pins s3 σ H3 (fun o H4 => o = some (-1) ∧ H4 = H3) I3 (show ∃ i, V.int 1 = V.int i ∧ _ from ⟨1, rfl, -1, rfl, rfl, rfl⟩)) fun vst s4 ⟨st, H4, I4, pst, est, e4⟩ => ?_
  subst est e4
  have I5 := Inv.kept (t' := s4.toks) I4 fun b o e => Heap.get?_push_of_some { cls := Value.type "slice", data := Data.fields #[vl, vu, vst] } e
  obtain ⟨its, rv, pt, hz⟩ := I5.tuple hx
  cases pl
  cases pu
  refine tail_any (T := "tuple") (IsTup.typeIs pt) slot_tuple_getitem.lookup (getItem_tuple_rev pt (Heap.IsSliceOf.new _ _ _ _) pst ?_ (by rw [List.size_toArray, ← Vals.length rv]; exact hz)) rfl
  rw [List.toList_toArray] at *
  have hsz := Heap.size_push s4.heap { cls := Value.type "slice", data := Data.fields #[Value.none, Value.none, vst] }
  have gt := Heap.get?_push_size (s4.heap.push { cls := Value.type "slice", data := Data.fields #[Value.none, Value.none, vst] }) (o := { cls := Value.type "tuple", data := Data.seq its.reverse.toArray }) rfl
  have new : ObjOk X.prog X.w (upd H4 (s4.heap.push { cls := Value.type "slice", data := Data.fields #[Value.none, Value.none, vst] }).objs.size (.tup xs.reverse)) ((s4.heap.push { cls := Value.type "slice", data := Data.fields #[Value.none, Value.none, vst] }).push { cls := Value.type "tuple", data := Data.seq its.reverse.toArray }) (s4.heap.push { cls := Value.type "slice", data := Data.fields #[Value.none, Value.none, vst] }).objs.size (.tup xs.reverse) := ⟨by rw [List.length_reverse]; exact hz, its.reverse, Vals.reverse rv, _, gt, rfl, 0, rfl⟩
  exact ⟨V.ref _, _, Inv.laid I5 (fun b o e => Heap.get?_push_of_some _ e) (Nat.le_refl _) new, rfl, q _ (HOk.fresh I5.hok (Nat.le_refl _))⟩
def revTM (d : D) : M D := fun μ => match d with
  | .tup xs => .ok (.tup xs.reverse) μ
  | _ => .bad
theorem RpL.reverse {G : Gx} {φ : Lab} {H : Hp} : ∀ {ds : List D} {vs : List V}, RpL G φ H ds vs → RpL G φ H ds.reverse vs.reverse
  | _, _, .nil => .nil
  | _, _, .cons r t => by
    rw [List.reverse_cons, List.reverse_cons]
    exact (RpL.reverse t).append (.cons r .nil)
theorem j_revT {X : Cx} {W : WX} {Γ : Gs} {e : Expr} {me : Ev → M D} {k : Nat} {p1 p2 p3 pos : Pos} (he : JE X Γ W e me) : JE X Γ W (.Subscript e (.Slice none none (some (.UnaryOp .USub (.Constant (.int 1) k p1) p2)) p3) pos) (e1 revTM me) := by
  refine pe_w (pe_revT he) fun σ H Q h => ?_
  refine bE h fun φ1 H1 x v ρ μ1 ev r rv p => ?_
  unfold revTM at p
  cases rv with
  | tup hs rl => exact ⟨_, _, rfl, hs.t, fun l hl => p φ1 _ _ (Grow.laid hl) (r.laid hl) (.tup (.inl ⟨.inl upd_same, r.out hl⟩) ((RpL.reverse rl).grow (Grow.laid hl)))⟩
  | _ => exact p.elim
end SE

/-! SEt: comprehensions with a tuple of names. -/
namespace SE
open PySem PySem.Spec PyProof.Rows L2
def wipeE (ρ : Ev) : List Nat → Ev
  | [] => ρ
  | v :: vs => (wipeE ρ vs).set v none
theorem EvR.wipe {G : Gx} {φ : Lab} {H : Hp} {ρ : Ev} {σ : L2.St} (h : EvR G φ H ρ σ) : ∀ vs : List Nat, EvR G φ H (wipeE ρ vs) (L2.wipe σ vs)
  | [] => h
  | v :: vs => (EvR.wipe h vs).forget v none
/-- a target of a comprehension -/
def TgOk (G : Gx) (g : TG) (f : GT) (vs : List Nat) : Prop := ∀ (φ : Lab) (H : Hp) (d : D) (x : V) (ρ : Ev) (σ : L2.St) (μ : Mem) (Q : L2.St → Hp → Prop), EvR G φ H ρ σ → MemR G φ μ H → Rp G φ H d x →
  (∃ ρ1, f d (wipeE ρ vs) = some ρ1 ∧ ∀ σ2, L2.wipe σ2 vs = L2.wipe σ vs → EvR G φ H ρ1 σ2 → Q σ2 H) → g x (L2.wipe σ vs) H Q
theorem tgOk_1 {G : Gx} {i : Nat} : TgOk G (gName i) (gN i) [i] := by
  intro φ H d x ρ σ μ Q e r rx ⟨ρ1, h1, h2⟩
  cases h1
  refine h2 _ ?_ ((e.wipe [i]).set i rx)
  show ((σ.set i none).set i (some x)).set i none = σ.set i none
  rw [List.set_set, List.set_set]
theorem tgOk_2 {G : Gx} {i j : Nat} (hij : i ≠ j) : TgOk G (gTup G.K 2 (gCons (gName i) (gCons (gName j) gNil))) (gT 2 (gsCons (gN i) (gsCons (gN j) gsNil))) [i, j] := by
  intro φ H d x ρ σ μ Q e r rx ⟨ρ1, h1, h2⟩
  unfold gT at h1
  cases rx with
  | tup hs rl =>
    rename_i a vs ds
    dsimp only at h1
    by_cases hz : ds.length = 2
    · rw [if_pos hz] at h1
      cases rl with
      | nil => exact absurd hz (by decide)
      | @cons d1 v1 ds1 vs1 r1 t1 =>
        cases t1 with
        | nil => exact absurd hz (by simp)
        | @cons d2 v2 ds2 vs2 r2 t2 =>
          cases t2 with
          | cons r3 t3 => exact absurd hz (by simp)
          | nil =>
            cases h1
            refine ⟨a, [v1, v2], rfl, hs.t, rfl, v1, [v2], rfl, v2, [], rfl, rfl, ?_⟩
            refine h2 _ ?_ (((e.wipe [i, j]).set i r1).set j r2)
            show (((((σ.set j none).set i none).set i (some v1)).set j (some v2)).set j none).set i none = (σ.set j none).set i none
            apply List.ext_getElem?
            intro n
            simp only [List.getElem?_set, List.length_set]
            by_cases h1 : i = n <;> by_cases h2 : j = n <;> simp [h1, h2]
    · rw [if_neg hz] at h1
      cases h1
  | _ => cases h1
def lcT (vs : List Nat) (f : GT) (mt : Ev → M Bool) (me : Ev → M D) (ρ : Ev) : List D → List D → M D
  | [], acc => fun μ => .ok (.lst acc) μ
  | d :: ds, acc => match f d (wipeE ρ vs) with
    | some ρ1 => M.bind (noE (mt ρ1)) fun b => if b = true then (M.bind (noE (me ρ1)) fun y => if acc.length < 100000 then lcT vs f mt me ρ ds (acc ++ [y]) else M.bad) else lcT vs f mt me ρ ds acc
    | none => M.bad
def eLcT (vs : List Nat) (f : GT) (mi : Ev → M (List D)) (mt : Ev → M Bool) (me : Ev → M D) : Ev → M D := fun ρ => M.bind (mi ρ) fun ds => lcT vs f mt me ρ ds []
theorem tLcT_i {X : Cx} {Γ : Gs} {W : WX} {g0 : TG} {f : GT} {vs : List Nat} (hT : TgOk (X.G Γ) g0 f vs) {mi : Ev → M (List D)} {mt : Ev → M Bool} {me : Ev → M D} {σ : L2.St} {H : Hp} {Q : VK} (h : tG (X.G Γ) (tieD (X.G Γ)) W (eLcT vs f mi mt me) σ H Q) :
    tLc (tG (X.G Γ) (tieI (X.G Γ)) W mi) g0 (tG (X.G Γ) tieB W0 mt) (tG (X.G Γ) (tieD (X.G Γ)) W0 me) vs σ H Q := by
  refine bE h fun φ1 H1 items J ρ μ1 e1 r1 rj p1 => ?_
  intro D hD
  have nD1 : D ∉ φ1.h := fun z => r1.out hD (.inr z)
  have nL1 : D ∉ φ1.l := fun z => r1.out hD (.inl z)
  have gD : Grow φ1 H1 (φ1.hide D) (upd H1 D (.lst [])) := Grow.hide hD
  refine ⟨fun k m H => k + m = items.length ∧ ∃ φ μ acc av, Grow φ1 H1 φ H ∧ H D = some (.lst av) ∧ D ∈ φ.h ∧ D ∉ φ.l ∧ RpL (X.G Γ) φ H acc av ∧ EvR (X.G Γ) φ H ρ σ ∧ MemR (X.G Γ) φ μ H ∧ Post (X.G Γ) (tieD (X.G Γ)) φ1 H1 (lcT vs f mt me ρ (items.drop k) acc μ) Q fun cls dd H' => W cls dd σ H',
    ⟨items.length, by omega, φ1.hide D, μ1, [], [], gD, upd_same, List.mem_cons_self, nL1, .nil, e1.grow gD, r1.hide hD, p1⟩, ?_⟩
  rintro k m H ⟨hm, φ, μ, acc, av, g, hDl, hDh, nL, ra, ev, r, p⟩
  obtain ⟨jg, js⟩ := rj φ H g k
  by_cases hi : k < items.length
  · have hd : items[k]? = some items[k] := List.getElem?_eq_getElem hi
    obtain ⟨j1, j2⟩ := jg _ hd
    rw [List.drop_eq_getElem_cons hi] at p
    refine .inr ⟨j1, fun H' => k + 1 + (m - 1) = items.length ∧ ∃ φ μ acc av, Grow φ1 H1 φ H' ∧ H' D = some (.lst av) ∧ D ∈ φ.h ∧ D ∉ φ.l ∧ RpL (X.G Γ) φ H' acc av ∧ EvR (X.G Γ) φ H' ρ σ ∧ MemR (X.G Γ) φ μ H' ∧ Post (X.G Γ) (tieD (X.G Γ)) φ1 H1 (lcT vs f mt me ρ (items.drop (k + 1)) acc μ) Q fun cls dd H' => W cls dd σ H', fun H' w => ⟨m - 1, by omega, w⟩, fun x H2 hy => ?_⟩
    obtain ⟨g2, r2, rx⟩ := j2 x H2 μ r hy
    have ev2 := ev.grow g2
    unfold lcT at p
    refine hT φ H2 _ x ρ σ μ _ ev2 r2 rx ?_
    cases qf : f items[k] (wipeE ρ vs) with
    | none => rw [qf] at p; exact p.elim
    | some ρ1 =>
    rw [qf] at p
    dsimp only at p
    refine ⟨ρ1, rfl, fun σ2 hw evB => ⟨hw, ?_⟩⟩
    have nb : ¬ Post (X.G Γ) (tieD (X.G Γ)) φ1 H1 .bad Q fun cls dd H' => W cls dd σ H' := fun z => z
    refine bN (T := tieB) (fun r => Post (X.G Γ) (tieD (X.G Γ)) φ1 H1 r Q fun cls dd H' => W cls dd σ H') nb evB r2 p fun φ3 H3 b b' μ3 g3 e3 r3 eb p3 => ?_
    cases (show b' = b from eb)
    have G3 := (g.trans g2).trans g3
    have tb : ∀ {vs : List V} ps, HO.lst vs ≠ .tbl ps := fun _ z => nomatch z
    have hD2 := g2.kp _ _ hDl nL tb
    have nD2 := g2.outL hDl tb nL
    have hD3 := g3.kp _ _ hD2 nD2 tb
    have nD3 := g3.outL hD2 tb nD2
    have hH3 := g3.hs _ (g2.hs _ hDh)
    cases b with
    | false =>
      show _ ∧ _
      exact ⟨by omega, φ3, μ3, acc, av, G3, hD3, hH3, nD3, (ra.grow g2).grow g3, ev2.grow g3, r3, p3⟩
    | true =>
      rw [if_pos rfl] at p3
      show tG _ _ _ _ _ _ _
      refine bN (T := tieD (X.G Γ)) (fun r => Post (X.G Γ) (tieD (X.G Γ)) φ1 H1 r Q fun cls dd H' => W cls dd σ H') nb e3 r3 p3 fun φ4 H4 y yv μ4 g4 e4 r4 ry p4 => ?_
      have hD4 := g4.kp _ _ hD3 nD3 tb
      have nD4 := g4.outL hD3 tb nD3
      have hH4 := g4.hs _ hH3
      by_cases hl : acc.length < 100000
      · rw [if_pos hl] at p4
        have rav := ((ra.grow g2).grow g3).grow g4
        refine ⟨av, hD4, by rw [← rav.length, sizeLine_eq]; omega, by omega, ?_⟩
        have g5 : Gw φ4 H4 φ4 (upd H4 D (.lst (av ++ [yv]))) := Gw.wrH hH4
        exact ⟨φ4, μ4, acc ++ [y], av ++ [yv], (G3.trans g4).wrNew hD, upd_same, hH4, nD4, (rav.append (.cons ry .nil)).growW g5, ((ev2.grow g3).grow g4).growW g5, r4.wrH hH4 nD4, p4⟩
      · rw [if_neg hl] at p4
        exact p4.elim
  · have : items.drop k = [] := List.drop_of_length_le (by omega)
    rw [this] at p
    exact .inl ⟨js (by omega), p (φ.bare D) H (.ref D) (g.bare nD1) r.bare (.lst hDl (bare_out nL) (ra.growW Gw.bare))⟩
section
variable {X : Cx} {Γ : Gs} {W : WX} {elt iter tg : Expr} {ifs : List Expr} {own : List (Str × Nat)} {scope : Scope} {pos : Pos} {mi : Ev → M (List D)} {mt : Ev → M Bool} {me : Ev → M D} {g : TG} {f : GT}
theorem j_lcT (hc : X.calm = true) (hN : X.N.Nodup) (hi : JI X Γ W tg iter mi) (ok : blkC X.N X.env.scope scope own = true) (hT : TgOk (X.G Γ) g f (own.map (·.2)))
    (hg : ∀ (s : Shared) (H : Hp) (C : Addr) (cl : List (Str × Addr)) (fp : List Addr), PG (X.blk s H scope (compEnvC scope cl C X.env) fp) tg g)
    (ht : ∀ (s : Shared) (H : Hp) (C : Addr) (cl : List (Str × Addr)) (fp : List Addr), JTs (X.blk s H scope (compEnvC scope cl C X.env) fp) Γ ifs mt)
    (he : ∀ (s : Shared) (H : Hp) (C : Addr) (cl : List (Str × Addr)) (fp : List Addr), JE (X.blk s H scope (compEnvC scope cl C X.env) fp) Γ W0 elt me) (hs : ∀ x, foldedSetIterable iter X.env x = pure x := by intro _; rfl) :
    JE X Γ W (.ListComp elt [⟨tg, iter, ifs, 0⟩] scope pos) (eLcT (own.map (·.2)) f mi mt me) :=
  pe_w (pe_lc (own := own) (g := g) hc hN hi (blkOk_by ok) hg ht he hs) fun σ H Q h => tLcT_i hT h
/-- y = [..] on one line -/
theorem s_setLcT {j : Nat} {y : Str} {py spos : Pos} (hc : X.calm = true) (hN : X.N.Nodup) (hy : X.N[j]? = some y) (hyl : X.env.scope.names.lookup y = some .local)
    (hsw : swapsWith (.ListComp elt [⟨tg, iter, ifs, 0⟩] scope pos) (some (.Name y py)) spos.line X.env = pure true) (hi : JI X Γ W tg iter mi) (ok : blkC X.N X.env.scope scope own = true) (hT : TgOk (X.G Γ) g f (own.map (·.2)))
    (hg : ∀ (s : Shared) (H : Hp) (C : Addr) (cl : List (Str × Addr)) (fp : List Addr), PG (X.blk s H scope (compEnvC scope cl C X.env) fp) tg g)
    (ht : ∀ (s : Shared) (H : Hp) (C : Addr) (cl : List (Str × Addr)) (fp : List Addr), JTs (X.blk s H scope (compEnvC scope cl C X.env) fp) Γ ifs mt)
    (he : ∀ (s : Shared) (H : Hp) (C : Addr) (cl : List (Str × Addr)) (fp : List Addr), JE (X.blk s H scope (compEnvC scope cl C X.env) fp) Γ W0 elt me) (hs : ∀ x, foldedSetIterable iter X.env x = pure x := by intro _; rfl) :
    JS X Γ W (.Assign [.Name y py] (.ListComp elt [⟨tg, iter, ifs, 0⟩] scope pos) spos) (sSet j (eLcT (own.map (·.2)) f mi mt me)) :=
  ps_w (ps_setLc (own := own) (g := g) hc hN hy hyl hsw hi (blkOk_by ok) hg ht he hs) fun Z σ H h => by
    obtain ⟨φ, ρ, μ, ev, r, p⟩ := h
    exact tLcT_i hT (bS ev r p fun φ1 H1 d v μ1 g e1 r1 rv p1 => p1 φ1 H1 _ (Grow.refl _ _) r1 (e1.set j rv))
/-! the reckoning -/
theorem wr_eLcT {vs : List Nat} {ρ : Ev} {μ : Mem} {P : D → Mem → Prop} {E : Ex → Mem → Prop} : wr (eLcT vs f mi mt me ρ μ) P E = wr (mi ρ μ) (fun ds μ1 => wr (lcT vs f mt me ρ ds [] μ1) P E) E := wr_bnd
end
end SE

/-! SEu: zip of a text and a tuple. -/
namespace SE
open PySem PySem.Spec PyProof.Rows L2
/-- the pairs of a text's signs and a tuple's members -/
def IteZ (K : PySem.W.Frag) (z : Str) (a : Addr) (xs : List V) : It where
  go := fun i H => SqT K H a xs ∧ i < xs.length ∧ i < z.cps.size
  yld := fun i H v H' => ∃ T x c, xs[i]? = some x ∧ z.cps[i]? = some c ∧ v = V.ref T ∧ H T = none ∧ H' = upd H T (HO.tup [V.str ⟨#[c]⟩, x])
  stop := fun i H => SqT K H a xs ∧ (xs.length ≤ i ∨ z.cps.size ≤ i)
theorem turn_zipT {P : Program} {w : World} {K : PySem.W.Frag} {elts : List Expr} {kk : Nat} {tpos : Pos} (z : Str) (t : Tok) (a e i1 i2 TI TO : Addr) (xs : List V) (S : ZipSep2 e TI TO i1 i2 [i1] [i2, a]) (ha2 : a ≠ i2) :
    Turn P w K (.Tuple elts kk tpos) (IteZ K z a xs) [e, TO, i1, i2, TI] e fun i h => (i ≤ z.cps.size ∧ i ≤ xs.length) ∧ IsZip h e TI TO .none ∧ IsTupOf2 h TI (.ref i1) (.ref i2) ∧ (∃ a1 a2, IsTupOf2 h TO a1 a2) ∧ h.IsStrIter i1 (strIterType z) z t i ∧ h.IsTupleIter i2 a i where
  mem := List.mem_cons_self
  obj := fun i h ⟨_, he, hTI, ⟨a1, a2, hTO⟩, ⟨o1, ho1, hc1, hd1⟩, ⟨o2, ho2, hc2, hd2⟩⟩ b hb => by
    simp only [List.mem_cons, List.not_mem_nil, or_false] at hb
    rcases hb with rfl | rfl | rfl | rfl | rfl
    · exact ⟨_, he, fun v q => nomatch q⟩
    · exact ⟨_, hTO, fun v q => nomatch q⟩
    · exact ⟨o1, ho1, fun v q => by rw [hd1] at q; cases q⟩
    · exact ⟨o2, ho2, fun v q => by rw [hd2] at q; cases q⟩
    · exact ⟨_, hTI, fun v q => nomatch q⟩
  keep := fun i h h' ⟨hi, he, hTI, ⟨a1, a2, hTO⟩, ⟨o1, ho1, hc1, hd1⟩, ⟨o2, ho2, hc2, hd2⟩⟩ k => ⟨hi, k e (by simp) _ he, k TI (by simp) _ hTI, ⟨a1, a2, k TO (by simp) _ hTO⟩, ⟨o1, k i1 (by simp) _ ho1, hc1, hd1⟩, ⟨o2, k i2 (by simp) _ ho2, hc2, hd2⟩⟩
  item := fun X hP hw hK hc i pins s σ H E I hf st hg => by
    subst hP hw hK
    obtain ⟨⟨b1, b2⟩, he, hTI, ⟨a1, a2, hTO⟩, hs1, hs2⟩ := st
    obtain ⟨hq, hlt, hltz⟩ := hg
    obtain ⟨x, hx⟩ : ∃ x, xs[i]? = some x := ⟨_, List.getElem?_eq_getElem hlt⟩
    obtain ⟨its, rv, p, hz⟩ := I.tuple hq
    obtain ⟨u, hu, ru⟩ := Vals.get rv hx
    have hil : i < its.toArray.size := by
      have := (List.getElem?_eq_some_iff.mp hu).1
      simpa using this
    have low : ∀ b ∈ [e, TO, i1, i2, TI], b < s.heap.objs.size := by
      intro b hb
      simp only [List.mem_cons, List.not_mem_nil, or_false] at hb
      rcases hb with rfl | rfl | rfl | rfl | rfl
      · exact Heap.lt_size he
      · exact Heap.lt_size hTO
      · obtain ⟨o, ho, _⟩ := hs1; exact Heap.lt_size ho
      · obtain ⟨o, ho, _⟩ := hs2; exact Heap.lt_size ho
      · exact Heap.lt_size hTI
    have hai : a ≠ i2 := ha2
    refine wpAny_pyNext_zipD2_item S (Draws.text (A := X.A.in1) (I.ok.hd hc) i1 z t) (Draws.tuple (A := X.A.in1) (I.ok.hd hc) i2 a hai its.toArray) he hTI hTO hs1 ⟨hs2, p⟩ hltz hil fun x1 x2 h' tk y1 y2 z1 zO d1 d2 hTn hsz hk => ?_
    obtain ⟨c, u1, hcz, rfl⟩ := y1
    have ey : x2 = u := by
      rw [List.getElem?_toArray, hu] at y2
      exact (Option.some.inj y2).symm
    subst ey
    have le := low e (by simp)
    refine ⟨_, rfl, wpAny_letOwnedTupleGo_zip z1 fun h'' he' sb => ?_⟩
    have hT2 : h''.get? s.heap.objs.size = some { cls := Value.type "tuple", data := Data.seq #[Value.str ⟨#[c]⟩ u1, x2] } := (sb.2 s.heap.objs.size (Nat.ne_of_gt le)).trans hTn
    have new : ObjOk X.prog X.w (upd H s.heap.objs.size (.tup [V.str ⟨#[c]⟩, x])) h'' s.heap.objs.size (.tup [V.str ⟨#[c]⟩, x]) := ⟨by show (2 : Nat) ≤ sizeLine; rw [sizeLine_eq]; omega, [Value.str ⟨#[c]⟩ u1, x2], .cons ⟨u1, rfl⟩ (.cons ru .nil), _, hT2, rfl, 0, rfl⟩
    have I1 := Inv.turnedNew (t' := tk) (ch := [e, TO, i1, i2, TI]) I (fun b ob hb q => (sb.2 b fun z => hb (by rw [z]; simp)).trans (hk b ob (fun z => hb (by rw [z]; simp)) (fun z => hb (by rw [z]; simp)) (fun z => hb (by rw [z]; simp)) (fun z => hb (by rw [z]; simp)) q)) hf (Nat.le_refl _) new
    refine ⟨V.ref s.heap.objs.size, _, I1, rfl, ⟨_, x, c, hx, hcz, rfl, HOk.fresh I.hok (Nat.le_refl _), rfl⟩, ⟨⟨hltz, hlt⟩, he', ?_, ⟨_, _, (sb.2 TO S.TOz).trans zO⟩, ?_, ?_⟩, fun b hb => ?_⟩
    · exact (sb.2 TI S.TIz).trans (hk TI _ S.TIz S.TITO S.TIi1 S.TIi2 hTI)
    · obtain ⟨o, q1, q2, q3⟩ := d1
      exact ⟨o, (sb.2 i1 (Ne.symm S.zi1)).trans q1, q2, q3⟩
    · obtain ⟨⟨o, q1, q2, q3⟩, _⟩ := d2
      exact ⟨o, (sb.2 i2 (Ne.symm S.zi2)).trans q1, q2, q3⟩
    · rw [upd_ne (Nat.ne_of_lt (low b hb))]
      exact (hf b hb).1
  done := fun X hP hw hK hc i pins s σ H E I hf st hg => by
    subst hP hw hK
    obtain ⟨⟨b1, b2⟩, he, hTI, ⟨a1, a2, hTO⟩, hs1, hs2⟩ := st
    obtain ⟨hq, hx⟩ := hg
    obtain ⟨its, rv, p, hz⟩ := I.tuple hq
    have hl := Vals.length rv
    have hl2 : its.toArray.size = xs.length := by rw [List.size_toArray]; exact hl.symm
    refine wpAny_pyNext_zipD2_end S (Draws.text (A := X.A.in1) (I.ok.hd hc) i1 z t) (Draws.tuple (A := X.A.in1) (I.ok.hd hc) i2 a ha2 its.toArray) he hTI hTO hs1 ⟨hs2, p⟩ b1 (by rw [hl2]; exact b2) (by rw [hl2]; omega) fun h' tk hk => ⟨rfl, Inv.turnedL (ch := [e, TO, i1, i2, TI]) I (fun b o hb q => hk b o (fun z => hb (by rw [z]; simp)) (fun z => hb (by rw [z]; simp)) (fun z => hb (by rw [z]; simp)) (fun z => hb (by rw [z]; simp)) q) hf⟩
  self := fun A i s Q E ⟨_, he, _⟩ h => wpAny_pyIter_zip he h
/-! ### the pairs as values -/
def zipL : List D → List D → List D
  | a :: as, b :: bs => .tup [a, b] :: zipL as bs
  | _, _ => []
theorem zipL_get : ∀ {as bs : List D} {i : Nat}, (zipL as bs)[i]? = (match as[i]?, bs[i]? with
    | some a, some b => some (.tup [a, b])
    | _, _ => none)
  | [], bs, i => by simp [zipL]
  | a :: as, [], i => by
    rw [show zipL (a :: as) [] = [] from rfl]
    simp
  | a :: as, b :: bs, 0 => by simp [zipL]
  | a :: as, b :: bs, i + 1 => by
    rw [show zipL (a :: as) (b :: bs) = .tup [a, b] :: zipL as bs from rfl, List.getElem?_cons_succ, zipL_get, List.getElem?_cons_succ, List.getElem?_cons_succ]
theorem zipL_len : ∀ {as bs : List D}, (zipL as bs).length = min as.length bs.length
  | [], bs => by simp [zipL]
  | a :: as, [] => by simp [zipL]
  | a :: as, b :: bs => by simp [zipL, zipL_len (as := as) (bs := bs), Nat.succ_min_succ]
def zipM : List D → M (List D)
  | [.str z, .tup xs], μ => .ok (zipL (chars z) xs) μ
  | _, _ => .bad
theorem itz_tie {G : Gx} {φ : Lab} {H : Hp} {z : Str} {a : Addr} {vs : List V} {ds : List D} (h : SqTz G.K φ H a vs) (r : RpL G φ H ds vs) : tieI G φ H (zipL (chars z) ds) (IteZ G.K z a vs) := by
  intro φ1 H1 g i
  have hh := (h.grow g).t
  have hc : (chars z).length = z.cps.size := by simp [chars]
  refine ⟨fun d hd => ?_, fun hl => ⟨hh, by rw [zipL_len, hc, r.length] at hl; omega⟩⟩
  rw [zipL_get] at hd
  cases q1 : (chars z)[i]? with
  | none => rw [q1] at hd; cases hd
  | some d1 =>
    cases q : ds[i]? with
    | none => rw [q1, q] at hd; cases hd
    | some d0 =>
      rw [q1, q] at hd
      obtain rfl : D.tup [d1, d0] = d := Option.some.inj hd
      obtain ⟨v, hv, rv⟩ := r.get q
      have hi : i < vs.length := (List.getElem?_eq_some_iff.mp hv).1
      have hz : i < z.cps.size := by
        have := (List.getElem?_eq_some_iff.mp q1).1
        rw [hc] at this
        exact this
      refine ⟨⟨hh, hi, hz⟩, fun x H2 μ R hy => ?_⟩
      obtain ⟨T, x0, c, e1, ec, rfl, e2, rfl⟩ := hy
      rw [hv] at e1
      cases e1
      have ed : d1 = .str ⟨#[c]⟩ := by
        unfold chars at q1
        rw [List.getElem?_map, Array.getElem?_toList, ec] at q1
        exact (Option.some.inj q1).symm
      subst ed
      have gg := Grow.laid (φ := φ1) (o := .tup [V.str ⟨#[c]⟩, v]) e2
      exact ⟨gg, R.laid e2, .tup (.inl ⟨.inl upd_same, R.out e2⟩) (.cons (.str _) (.cons ((rv.grow g).grow gg) .nil))⟩
section
variable {X : Cx} {W : WX} {Γ : Gs} {e1 e2 : Expr} {p pos tpos : Pos} {elts : List Expr} {kk : Nat}
def iZipT (K : PySem.W.Frag) (ta : TA) : TI := fun σ H R => ta σ H fun vs H1 => ∃ z a xs, vs = [.str z, .ref a] ∧ SqT K H1 a xs ∧ R (IteZ K z a xs) H1
theorem zip_sep {a : Nat} (n : Nat) (h : a < n) : ZipSep2 (n + 4) (n + 2) (n + 3) n (n + 1) [n] [n + 1, a] where
  TIz := by show (n + 2 : Nat) ≠ n + 4; omega
  TOz := by show (n + 3 : Nat) ≠ n + 4; omega
  TITO := by show (n + 2 : Nat) ≠ n + 3; omega
  TIi1 := by show (n + 2 : Nat) ≠ n; omega
  mem1 := by simp
  zf1 := fun m => by have : (n + 4 : Nat) = n := List.mem_singleton.mp m; omega
  Tf1 := fun m => by have : (n + 3 : Nat) = n := List.mem_singleton.mp m; omega
  TIi2 := by show (n + 2 : Nat) ≠ n + 1; omega
  mem2 := by simp
  zf2 := fun m => by
    rcases List.mem_cons.mp m with (m : (n + 4 : Nat) = n + 1) | m
    · omega
    · have : (n + 4 : Nat) = a := List.mem_singleton.mp m
      omega
  Tf2 := fun m => by
    rcases List.mem_cons.mp m with (m : (n + 3 : Nat) = n + 1) | m
    · omega
    · have : (n + 3 : Nat) = a := List.mem_singleton.mp m
      omega
  sep1_2 := fun m => by
    rcases List.mem_cons.mp m with (m : (n : Nat) = n + 1) | m
    · omega
    · have : (n : Nat) = a := List.mem_singleton.mp m
      omega
  sep2_1 := fun m => by have : (n + 1 : Nat) = n := List.mem_singleton.mp m; omega
theorem pi_zipT {ta : TA} (hg : Gl X "zip") (hm : X.mg "zip" = none) (ha : PA X [e1, e2] ta) (hs : starEach [e1, e2] X.env = (false, eval e1 X.env) :: starEach [e2] X.env := by rfl) (hpl : (backTo pos (starEach [e2] X.env)).any (·.1) = false := by rfl) :
    PI X (.Tuple elts kk tpos) (.Call (.Name "zip" p) [e1, e2] [] pos) (iZipT X.K ta) := by
  refine ⟨fun pins s σ H R I h => ?_⟩
  refine Call_ (ld_blt I hg hm boot_zip (callWith_type1 (thn (ha.run pos pins s σ H _ I h) fun us s1 ⟨vs, H1, I1, r1, z, a, xs, ev, hq, q⟩ => ?_) hs hpl) (by decide) (by decide))
  subst ev
  obtain ⟨u1, u2, rfl, r2, r3⟩ := vals2 r1
  obtain ⟨t, rfl⟩ := r2
  cases r3
  obtain ⟨its, rv, pt, hz⟩ := I1.tuple hq
  have ha1 : a < s1.heap.objs.size := by obtain ⟨o, ho, _⟩ := pt; exact Heap.lt_size ho
  refine zip_begins2 (begins_text z t) (begins_tuple a its.toArray) trivial pt fun h' hzip hTI hTO g1 g2 hsz hk => wpAny_pyIter_zip hzip ?_
  have I2 := Inv.kept (t' := s1.toks) I1 hk
  have S := zip_sep (a := a) s1.heap.objs.size ha1
  refine ⟨s1.heap.objs.size + 4, [s1.heap.objs.size + 4, s1.heap.objs.size + 3, s1.heap.objs.size, s1.heap.objs.size + 1, s1.heap.objs.size + 2], _, IteZ X.K z a xs, H1, rfl, I2, turn_zipT z t a _ _ _ _ _ xs S (Nat.ne_of_lt (Nat.lt_succ_of_lt ha1)), ⟨⟨Nat.zero_le _, Nat.zero_le _⟩, hzip, hTI, ⟨_, _, hTO⟩, ⟨_, g1, rfl, rfl⟩, ⟨_, g2, rfl, rfl⟩⟩, fun b hb => ?_, q⟩
  have hb2 : s1.heap.objs.size ≤ b := by
    simp only [List.mem_cons, List.not_mem_nil, or_false] at hb
    rcases hb with rfl | rfl | rfl | rfl | rfl <;> first | exact Nat.le_refl _ | exact Nat.le_add_right _ _
  exact Inv.fpOk I1 hb2 (HOk.fresh I1.hok hb2)
theorem i_zipT {ml : Ev → M (List D)} (hg : Gl X "zip") (hm : X.mg "zip" = none) (ha : JL X Γ W [e1, e2] ml) (hs : starEach [e1, e2] X.env = (false, eval e1 X.env) :: starEach [e2] X.env := by rfl) (hpl : (backTo pos (starEach [e2] X.env)).any (·.1) = false := by rfl) : JI X Γ W (.Tuple elts kk tpos) (.Call (.Name "zip" p) [e1, e2] [] pos) (eLL zipM ml) := by
  refine pi_w (pi_zipT hg hm ha hs hpl) fun σ H R h => ?_
  obtain ⟨φ, ρ, μ, ev, r, q⟩ := h
  refine bG ev r q fun φ1 H1 ds vs μ1 g1 e1 r1 rv p1 => ?_
  unfold zipM at p1
  split at p1
  · cases rv with
    | cons ra t1 =>
      cases t1 with
      | cons rb t2 =>
        cases t2
        cases ra
        cases rb with
        | tup hs rl => exact ⟨_, _, _, rfl, hs.t, Post.pure p1 r1 (itz_tie hs rl)⟩
  · exact p1.elim
end
end SE

/-! SEv: dicts whose keys are tuples of ints and texts, at labels. -/
namespace SE
open PySem PySem.Spec PyProof.Rows L2
/-! ### keys -/
def keyD : D → Option Key
  | .int i => some (.inl i)
  | .str x => some (.inr x)
  | _ => none
def keysD : List D → Option (List Key)
  | [] => some []
  | d :: ds => match keyD d with
    | some k => (match keysD ds with
      | some ks => some (k :: ks)
      | none => none)
    | none => none
def tkD : D → Option (List Key)
  | .tup ds => keysD ds
  | _ => none
def lookT (kvs : List (List Key × D)) (ks : List Key) : Option D := (kvs.find? fun p => decide (p.1 = ks)).map (·.2)
def putT (kvs : List (List Key × D)) (ks : List Key) (d : D) : List (List Key × D) :=
  if (lookT kvs ks).isSome = true then kvs.map (fun p => if p.1 = ks then (p.1, d) else p) else kvs ++ [(ks, d)]
def dctAt (μ : Mem) : D → Option (List (List Key × D))
  | .loc l => (match μ[l]? with
    | some (.dT kvs) => some kvs
    | some (.fT kvs) => some kvs
    | _ => none)
  | _ => none
/-- one that may be written -/
def dctWr (μ : Mem) : D → Option (List (List Key × D))
  | .loc l => (match μ[l]? with
    | some (.dT kvs) => some kvs
    | _ => none)
  | _ => none
section
variable {G : Gx} {φ : Lab} {H : Hp}
theorem keyD_v {d : D} {v : V} {k : Key} (r : Rp G φ H d v) (h : keyD d = some k) : v = kV k := by
  cases r with
  | int i => cases h; rfl
  | str x => cases h; rfl
  | _ => cases h
theorem keysD_v : ∀ {ds : List D} {vs : List V} {ks : List Key}, RpL G φ H ds vs → keysD ds = some ks → vs = ks.map kV
  | _, _, ks, .nil, h => by cases h; rfl
  | d :: ds, _, ks, .cons r t, h => by
    unfold keysD at h
    cases q : keyD d with
    | none => rw [q] at h; cases h
    | some k =>
      rw [q] at h
      dsimp only at h
      cases q2 : keysD ds with
      | none => rw [q2] at h; cases h
      | some k2 =>
        rw [q2] at h
        cases h
        rw [keyD_v r q, keysD_v t q2]
        rfl
theorem tkD_v {d : D} {v : V} {ks : List Key} (r : Rp G φ H d v) (h : tkD d = some ks) : ∃ b, v = .ref b ∧ SqTz G.K φ H b (ks.map kV) := by
  cases r with
  | tup hs rl =>
    have e := keysD_v rl h
    subst e
    exact ⟨_, rfl, hs⟩
  | _ => cases h
theorem RpT.look {ks : List Key} : ∀ {kvs : List (List Key × D)} {xs : List (List Key × Addr × Value)}, RpT G φ H kvs xs →
    (lookT kvs ks = none → atKey xs ks = none) ∧ ∀ d, lookT kvs ks = some d → ∃ q v, atKey xs ks = some q ∧ Rp G φ H d v ∧ RelV v q.2
  | _, _, .nil => ⟨fun _ => rfl, fun _ h => by cases h⟩
  | _, _, .cons (k := k) (q := q) (d := d) (v := v) (u := u) (ds := ds) (xs := xs) hk r rv t => by
    obtain ⟨i1, i2⟩ := RpT.look (ks := ks) t
    unfold lookT atKey
    rw [List.find?_cons, List.find?_cons]
    by_cases e : k = ks
    · simp only [e, decide_true, Option.map_some]
      exact ⟨fun h => (by cases h), fun d' h => (by cases h; exact ⟨_, v, rfl, r, rv⟩)⟩
    · simp only [decide_eq_false e]
      exact ⟨i1, i2⟩
theorem RpT.map {ks : List Key} {d : D} {v : V} {u : Value} (r : Rp G φ H d v) (rv : RelV v u) : ∀ {kvs : List (List Key × D)} {xs : List (List Key × Addr × Value)}, RpT G φ H kvs xs →
    RpT G φ H (kvs.map fun p => if p.1 = ks then (p.1, d) else p) (xs.map (putAt ks u))
  | _, _, .nil => .nil
  | _, _, .cons (k := k) hk r0 rv0 t => by
    rw [List.map_cons, List.map_cons]
    unfold putAt
    by_cases e : k = ks
    · simp only [e, if_true]
      exact .cons (by rw [← e]; exact hk) r rv (t.map r rv)
    · simp only [e, if_false]
      exact .cons hk r0 rv0 (t.map r rv)
theorem RpT.snoc {ks : List Key} {b : Addr} {d : D} {v : V} {u : Value} (hb : SqTz G.K φ H b (ks.map kV)) (r : Rp G φ H d v) (rv : RelV v u) : ∀ {kvs : List (List Key × D)} {xs : List (List Key × Addr × Value)}, RpT G φ H kvs xs →
    RpT G φ H (kvs ++ [(ks, d)]) (xs ++ [(ks, b, u)])
  | _, _, .nil => .cons hb r rv .nil
  | _, _, .cons hk r0 rv0 t => .cons hk r0 rv0 (t.snoc hb r rv)
theorem RpT.put {ks : List Key} {b : Addr} {d : D} {v : V} {u : Value} {kvs : List (List Key × D)} {xs : List (List Key × Addr × Value)} (t : RpT G φ H kvs xs) (hb : SqTz G.K φ H b (ks.map kV)) (r : Rp G φ H d v) (rv : RelV v u) :
    RpT G φ H (putT kvs ks d) (storedH xs ks b u) := by
  obtain ⟨i1, i2⟩ := t.look (ks := ks)
  unfold putT storedH
  cases q : lookT kvs ks with
  | none =>
    rw [i1 q]
    exact t.snoc hb r rv
  | some d' =>
    obtain ⟨p, v', e, _⟩ := i2 d' q
    rw [e]
    exact t.map r rv
theorem RpT.len : ∀ {kvs : List (List Key × D)} {xs : List (List Key × Addr × Value)}, RpT G φ H kvs xs → kvs.length = xs.length
  | _, _, .nil => rfl
  | _, _, .cons _ _ _ t => congrArg Nat.succ t.len
theorem RpT.keys : ∀ {kvs : List (List Key × D)} {xs : List (List Key × Addr × Value)}, RpT G φ H kvs xs → xs.map (·.1) = kvs.map (·.1)
  | _, _, .nil => rfl
  | _, _, .cons _ _ _ t => by rw [List.map_cons, List.map_cons, t.keys]
theorem RpT.keyAt : ∀ {kvs : List (List Key × D)} {xs : List (List Key × Addr × Value)}, RpT G φ H kvs xs → ∀ x ∈ xs, SqT G.K H x.2.1 (x.1.map kV)
  | _, _, .nil => fun _ h => nomatch h
  | _, _, .cons hk _ _ t => fun x h => by
    rcases List.mem_cons.mp h with e | h
    · subst e
      exact hk.t
    · exact t.keyAt x h
theorem putT_keys (kvs : List (List Key × D)) (ks : List Key) (d : D) : (putT kvs ks d).map (·.1) = if (lookT kvs ks).isSome = true then kvs.map (·.1) else kvs.map (·.1) ++ [ks] := by
  unfold putT
  split
  · rw [List.map_map]
    refine List.map_congr_left fun p _ => ?_
    show (if p.1 = ks then (p.1, d) else p).1 = p.1
    split <;> rfl
  · rw [List.map_append]
    rfl
theorem lookT_none {kvs : List (List Key × D)} {ks : List Key} (h : (lookT kvs ks).isSome = false) : ks ∉ kvs.map (·.1) := by
  intro hm
  obtain ⟨p, hp, e⟩ := List.mem_map.mp hm
  have : (kvs.find? fun p => decide (p.1 = ks)).isSome = true := List.find?_isSome.mpr ⟨p, hp, decide_eq_true e⟩
  unfold lookT at h
  rw [Option.isSome_map] at h
  rw [h] at this
  cases this
theorem putT_nodup {kvs : List (List Key × D)} {ks : List Key} {d : D} (h : (kvs.map (·.1)).Nodup) : ((putT kvs ks d).map (·.1)).Nodup := by
  rw [putT_keys]
  split
  · exact h
  · rename_i c
    rw [List.nodup_append]
    refine ⟨h, by simp, fun a ha b hb => ?_⟩
    rw [List.mem_singleton.mp hb]
    intro e
    subst e
    exact lookT_none (by simpa using c) ha
theorem putT_len (kvs : List (List Key × D)) (ks : List Key) (d : D) : (putT kvs ks d).length ≤ kvs.length + 1 := by
  unfold putT
  split
  · rw [List.length_map]; omega
  · rw [List.length_append]; exact Nat.le_refl _
end
/-! ### the dict in the heap -/
structure DR (K : PySem.W.Frag) (P : Program) (w : World) (H : Hp) (a : Addr) (xs : List (List Key × Addr × Value)) : Prop where
  at_ : H a = some (dctO P w a xs) ∨ ∃ o, H a = some (.frz o (dctO P w a xs))
  ns : (a == sysModules) = false
  len : xs.length ≤ sizeLine
  nd : (xs.map (·.1)).Nodup
  key : ∀ x ∈ xs, SqT K H x.2.1 (x.1.map kV)
section
variable {X : Cx} {Γ : Gs}
theorem dct_at {G : Gx} {φ : Lab} {μ : Mem} {H : Hp} {d : D} {v : V} {kvs : List (List Key × D)} (R : MemR G φ μ H) (r : Rp G φ H d v) (h : dctAt μ d = some kvs) :
    ∃ l a xs, d = .loc l ∧ v = .ref a ∧ φ.l[l]? = some a ∧ (μ[l]? = some (.dT kvs) ∨ μ[l]? = some (.fT kvs)) ∧ DR G.K G.P G.w H a xs ∧ kvs.length ≤ sizeLine ∧ (kvs.map (·.1)).Nodup ∧ RpT G.off φ H kvs xs := by
  cases r with
  | @loc a l hl =>
    unfold dctAt at h
    dsimp only at h
    cases q : μ[l]? with
    | none => rw [q] at h; cases h
    | some o =>
      cases o with
      | lst xs => rw [q] at h; cases h
      | dT kvs' =>
        rw [q] at h
        cases h
        obtain ⟨b, h1, xs, h3, h4, h5, h6, h7⟩ := R.at_ l _ q
        rw [hl] at h1
        cases h1
        exact ⟨l, _, xs, rfl, rfl, hl, .inl q, ⟨.inl h3, h4, by rw [← h7.len]; exact h5, by rw [h7.keys]; exact h6, h7.keyAt⟩, h5, h6, h7⟩
      | fT kvs' =>
        rw [q] at h
        cases h
        obtain ⟨b, h1, xs, h3, h4, h5, h6, h7⟩ := R.at_ l _ q
        rw [hl] at h1
        cases h1
        exact ⟨l, _, xs, rfl, rfl, hl, .inr q, ⟨.inr h3, h4, by rw [← h7.len]; exact h5, by rw [h7.keys]; exact h6, h7.keyAt⟩, h5, h6, h7⟩
  | _ => cases h
theorem dct_wr {G : Gx} {φ : Lab} {μ : Mem} {H : Hp} {d : D} {v : V} {kvs : List (List Key × D)} (R : MemR G φ μ H) (r : Rp G φ H d v) (h : dctWr μ d = some kvs) :
    ∃ l a xs, d = .loc l ∧ v = .ref a ∧ φ.l[l]? = some a ∧ μ[l]? = some (.dT kvs) ∧ H a = some (dctO G.P G.w a xs) ∧ DR G.K G.P G.w H a xs ∧ kvs.length ≤ sizeLine ∧ (kvs.map (·.1)).Nodup ∧ RpT G.off φ H kvs xs := by
  cases r with
  | @loc a l hl =>
    unfold dctWr at h
    dsimp only at h
    split at h
    · rename_i kvs' q
      cases h
      obtain ⟨b, h1, xs, h3, h4, h5, h6, h7⟩ := R.at_ l _ q
      rw [hl] at h1
      cases h1
      exact ⟨l, _, xs, rfl, rfl, hl, q, h3, ⟨.inl h3, h4, by rw [← h7.len]; exact h5, by rw [h7.keys]; exact h6, h7.keyAt⟩, h5, h6, h7⟩
    · cases h
  | _ => cases h
theorem dctO_ok {P : Program} {w : World} {H : Hp} {h : Heap} {a : Addr} {xs : List (List Key × Addr × Value)} (x : ∃ o es ep, h.get? a = some o ∧ o.ExactDict ∧ o.data = .dict es ep ∧ es.toList = xs.map (entryOfKey (tupleKind (mixKind P w)))) : ObjOk P w H h a (dctO P w a xs) :=
  ⟨x, let ⟨o, _, _, e, _⟩ := x; ⟨o, e⟩, fun h1 h2 y k => let ⟨o, es, ep, e, z⟩ := y; ⟨o, es, ep, k o e, z⟩⟩
variable {pins : List (Addr × Obj)} {σ : L2.St} {H : Hp} {s : Shared} {a b : Addr} {xs : List (List Key × Addr × Value)} {ks : List Key} {A : Around} {E : Value → Shared → Prop}
theorem DR.ok (I : Inv X pins σ H s) (D : DR X.K X.prog X.w H a xs) : ObjOk X.prog X.w H s.heap a (dctO X.prog X.w a xs) := by
  rcases D.at_ with e | ⟨o, e⟩
  · exact I.hok a _ e
  · exact (show ObjOk X.prog X.w H s.heap a (.frz o (dctO X.prog X.w a xs)) from I.hok a _ e).2
theorem DR.is (I : Inv X pins σ H s) (D : DR X.K X.prog X.w H a xs) : s.heap.DictOfH (tupleKind (mixKind X.prog X.w)) a xs := by
  obtain ⟨o, es, ep, h1, h2, h3, h4⟩ := (D.ok I).1
  refine ⟨o, es, ep, h1, h2, h3, h4, fun x hx => ?_, D.nd⟩
  obtain ⟨its, r, ⟨oc, e1, e2, n, e3⟩, _⟩ := I.tuple (D.key x hx)
  exact ⟨oc, its.toArray, n, e1, e2, e3, by simpa using items_are r⟩
theorem key_z (I : Inv X pins σ H s) (hb : SqT X.K H b (ks.map kV)) : (tupleKind (mixKind X.prog X.w)).is s.heap ks b := by
  obtain ⟨its, r, ⟨oc, e1, e2, n, e3⟩, _⟩ := I.tuple hb
  exact ⟨oc, its.toArray, n, e1, e2, e3, by simpa using items_are r⟩
theorem DR.ty (I : Inv X pins σ H s) (D : DR X.K X.prog X.w H a xs) : s.TypeIs (.ref a) "dict" ∧ ∀ c, Value.ref a = .ref c → ∃ ob, s.heap.get? c = some ob ∧ ob.dict = none := by
  have dd := D.is I
  refine ⟨dd.typeIs, fun c e => ?_⟩
  cases e
  obtain ⟨ob, _, _, h1, h2, _⟩ := dd
  exact ⟨ob, h1, h2.2.1⟩
theorem dp_set {r : Value} {Q : Unit → Shared → Prop} (hu : A.units + 1 < cLine) (I : Inv X pins σ H s) (D : DR X.K X.prog X.w H a xs) (hw : H a = some (dctO X.prog X.w a xs)) (hb : SqT X.K H b (ks.map kV))
    (h : ∀ s', Inv X pins σ (upd H a (dctO X.prog X.w a (storedH xs ks b r))) s' → Q () s') : wpAny (model X.prog X.w) A (setItem (.ref a) (.ref b) r) Q E s := by
  refine wpAny_setItem_heap (hsz := D.len) (tupleKind_room_in1 hu) (key_z I hb) (D.is I) fun h' dd' hs => h _ ?_
  obtain ⟨q, es, ep, hq, h2, h3, h4, _, h5⟩ := dd'
  exact d_write I (by rw [hw]; exact True.intro) hs ⟨q, hq⟩ (dctO_ok ⟨q, es, ep, hq, h2, h3, h4⟩)
end
/-! ### d[k], k in d -/
def ixDM (x y : D) : M D := fun μ => match dctAt μ x, tkD y with
  | some kvs, some ks => (match lookT kvs ks with
    | some d => .ok d μ
    | none => .bad)
  | _, _ => .bad
def inDB (μ : Mem) (y x : D) : Option Bool := match dctAt μ x, tkD y with
  | some kvs, some ks => some (lookT kvs ks).isSome
  | _, _ => none
def inDM (y x : D) : M D := fun μ => match inDB μ y x with
  | some b => .ok (.bl b) μ
  | none => .bad
def niDM (y x : D) : M D := fun μ => match inDB μ y x with
  | some b => .ok (.bl (!b)) μ
  | none => .bad
section
variable {X : Cx}
def rIxD (K : PySem.W.Frag) (P : Program) (w : World) : R2 := fun x y H Q => ∃ a b xs ks q v, x = .ref a ∧ y = .ref b ∧ DR K P w H a xs ∧ SqT K H b (ks.map kV) ∧ atKey xs ks = some q ∧ RelV v q.2 ∧ Q v H
theorem ix_dct (hu : X.A.units + 64 < cLine) : IxR X (rIxD X.K X.prog X.w) := by
  intro value slice pins s σ H x y v u Q I r1 r2 h hs
  obtain ⟨a, b, xs, ks, q, v0, rfl, rfl, D, hb, hq, rv, h⟩ := h
  cases (show v = Value.ref a from r1)
  cases (show u = Value.ref b from r2)
  have hT := (D.ty I).1
  unfold subscriptTail
  refine wpAny_bind ?_
  rw [getitemInPython_of_ne hT.not_modules]
  refine wpAny_bind (wpAny_specialOf hT PySem.F.slot_dict_getitem.lookup ?_)
  have fin : wpAny (model X.prog X.w) X.A (subscripted slice false (.ref a) (.ref b)) (fun r s₃ => wpAny (model X.prog X.w) X.A (letTemporaryGo value (.ref a) r >>= fun _ => pure r) (EP X pins σ Q) X.xe s₃) X.xe s := by
    rw [hs]
    refine wpAny_operating ?_
    refine wpAny_getItem_heap (tupleKind_room_in1 (by omega)) (key_z I hb) (D.is I) hq ?_
    exact wpAny_bind (wpAny_letTemporaryGo (wpAny_pure ⟨v0, H, I.tok _, rv, h⟩))
  first
    | exact wpAny_pure (wpAny_bind fin)
    | exact wpAny_bind (wpAny_pure (wpAny_bind fin))
    | exact wpAny_bind fin
theorem ixD_i {Γ : Gs} (h0 : Γ.off = Γ) : OpI (X.G Γ) ixDM (rIxD X.K X.prog X.w) := by
  intro φ μ H a b x y Q E R ra rb p
  unfold ixDM at p
  cases q1 : dctAt μ a with
  | none => rw [q1] at p; exact p.elim
  | some kvs =>
    cases q2 : tkD b with
    | none => rw [q1, q2] at p; exact p.elim
    | some ks =>
      rw [q1, q2] at p
      dsimp only at p
      obtain ⟨l, ad, xs, rfl, rfl, hl, hm, D, _, _, T⟩ := dct_at R ra q1
      obtain ⟨bd, rfl, hb⟩ := tkD_v rb q2
      cases q3 : lookT kvs ks with
      | none => rw [q3] at p; exact p.elim
      | some d =>
        rw [q3] at p
        obtain ⟨q, v, e1, e2, e3⟩ := (T.look (ks := ks)).2 d q3
        exact ⟨ad, bd, xs, ks, q, v, rfl, rfl, D, hb.t, e1, e3, Post.pure p R (by rw [← Gx.off_eq (G := X.G Γ) h0]; exact e2)⟩
def rInD (K : PySem.W.Frag) (P : Program) (w : World) (neg : Bool) : R2 := fun y x H Q => ∃ a b xs ks, x = .ref a ∧ y = .ref b ∧ DR K P w H a xs ∧ SqT K H b (ks.map kV) ∧ Q (.bl (neg ^^ (atKey xs ks).isSome)) H
theorem op_inD (hu : X.A.units + 64 < cLine) : OpR X (compareOp .In) (rInD X.K X.prog X.w false) := by
  intro pins s σ H x y v u Q I r1 r2 h
  obtain ⟨a, b, xs, ks, rfl, rfl, D, hb, h⟩ := h
  cases (show v = Value.ref b from r1)
  cases (show u = Value.ref a from r2)
  exact wpAny_in_heap (tupleKind_room_in1 (by omega)) (key_z I hb) D.ns (D.is I) ⟨_, H, I.tok _, by simp only [Bool.false_xor]; exact rfl, h⟩
theorem op_niD (hu : X.A.units + 64 < cLine) : OpR X (compareOp .NotIn) (rInD X.K X.prog X.w true) := by
  intro pins s σ H x y v u Q I r1 r2 h
  obtain ⟨a, b, xs, ks, rfl, rfl, D, hb, h⟩ := h
  cases (show v = Value.ref b from r1)
  cases (show u = Value.ref a from r2)
  exact wpAny_notIn_heap (tupleKind_room_in1 (by omega)) (key_z I hb) D.ns (D.is I) ⟨_, H, I.tok _, by simp only [Bool.true_xor]; exact rfl, h⟩
theorem inD_v {Γ : Gs} {φ : Lab} {μ : Mem} {H : Hp} {a b : D} {x y : V} {k : Bool} (R : MemR (X.G Γ) φ μ H) (ra : Rp (X.G Γ) φ H a x) (rb : Rp (X.G Γ) φ H b y) (h : inDB μ a b = some k) :
    ∃ ad bd xs ks, y = .ref ad ∧ x = .ref bd ∧ DR X.K X.prog X.w H ad xs ∧ SqT X.K H bd (ks.map kV) ∧ (atKey xs ks).isSome = k := by
  unfold inDB at h
  cases q1 : dctAt μ b with
  | none => rw [q1] at h; cases h
  | some kvs =>
    cases q2 : tkD a with
    | none => rw [q1, q2] at h; cases h
    | some ks =>
      rw [q1, q2] at h
      cases h
      obtain ⟨l, ad, xs, rfl, rfl, hl, hm, D, _, _, T⟩ := dct_at R rb q1
      obtain ⟨bd, rfl, hb⟩ := tkD_v ra q2
      refine ⟨ad, bd, xs, ks, rfl, rfl, D, hb.t, ?_⟩
      cases q3 : lookT kvs ks with
      | none => rw [(T.look (ks := ks)).1 q3]; rfl
      | some d =>
        obtain ⟨q, v, e1, _⟩ := (T.look (ks := ks)).2 d q3
        rw [e1]
        rfl
theorem inD_i {Γ : Gs} : OpI (X.G Γ) inDM (rInD X.K X.prog X.w false) := by
  intro φ μ H a b x y Q E R ra rb p
  unfold inDM at p
  cases q : inDB μ a b with
  | none => rw [q] at p; exact p.elim
  | some k =>
    rw [q] at p
    obtain ⟨ad, bd, xs, ks, e1, e2, D, hb, e⟩ := inD_v R ra rb q
    exact ⟨ad, bd, xs, ks, e1, e2, D, hb, by rw [e, Bool.false_xor]; exact Post.pure p R (.bl _)⟩
theorem niD_i {Γ : Gs} : OpI (X.G Γ) niDM (rInD X.K X.prog X.w true) := by
  intro φ μ H a b x y Q E R ra rb p
  unfold niDM at p
  cases q : inDB μ a b with
  | none => rw [q] at p; exact p.elim
  | some k =>
    rw [q] at p
    obtain ⟨ad, bd, xs, ks, e1, e2, D, hb, e⟩ := inD_v R ra rb q
    exact ⟨ad, bd, xs, ks, e1, e2, D, hb, by rw [e, Bool.true_xor]; exact Post.pure p R (.bl _)⟩
end
end SE

/-! SEw: such dicts made, written, read by get. -/
namespace SE
open PySem PySem.Spec PyProof.Rows L2
/-! ### {} -/
def newDM : M D := fun μ => .ok (.loc μ.length) (μ ++ [.dT []])
section
variable {X : Cx} {W : WX} {Γ : Gs} {pos : Pos}
theorem j_newD (h0 : Γ.off = Γ := by rfl) : JE X Γ W (.Dict [] [] pos) (fun _ => newDM) := by
  refine ⟨fun pins s σ H Q I h => ?_⟩
  obtain ⟨φ, ρ, μ, ev, R, p⟩ := h
  have hn : H s.heap.objs.size = none := I.hok.fresh (Nat.le_refl _)
  have hb := I.big
  refine wpAny_Dict_empty ⟨.ref s.heap.objs.size, upd H s.heap.objs.size (dctO X.prog X.w s.heap.objs.size []), I.laid (a := s.heap.objs.size) (o := dctO X.prog X.w s.heap.objs.size []) (t' := s.toks) (fun _ _ q => Heap.get?_push_of_some _ q) (Nat.le_refl _)
    (dctO_ok ⟨_, #[], 0, Heap.get?_push_size _ rfl, ⟨rfl, rfl, rfl⟩, rfl, rfl⟩), rfl, ?_⟩
  exact p _ _ _ (Grow.newl hn) (R.newO hn ⟨[], upd_same, beq_eq_false_iff_ne.mpr (Ne.symm (Nat.ne_of_lt hb)), Nat.zero_le _, List.nodup_nil, .nil⟩)
    (.loc (by show (φ.l ++ [_])[_]? = _; rw [List.getElem?_append_right (by rw [R.len]; exact Nat.le_refl _), R.len]; simp))
end
/-! ### d.get(k, x) -/
def getDM (x y z : D) : M D := fun μ => match dctAt μ x, tkD y with
  | some kvs, some ks => .ok ((lookT kvs ks).getD z) μ
  | _, _ => .bad
def eGet (a b c : Ev → M D) : Ev → M D := fun ρ => do
  let x ← a ρ
  fun μ => if (dctAt μ x).isSome = true then (do let y ← b ρ; let z ← c ρ; getDM x y z : M D) μ else .bad
section
variable {X : Cx} {W : WX} {Γ : Gs} {o e f : Expr} {mo me mf : Ev → M D} {apos cpos : Pos}
theorem j_dget (ho : JE X Γ W o mo) (he : JE X Γ W e me) (hf : JE X Γ W f mf) (hu : X.A.units + 64 < cLine) (h0 : Γ.off = Γ := by rfl)
    (m : M2 X o "get" apos e f cpos := by exact ⟨rfl, rfl, rfl, rfl⟩) : JE X Γ W (.Call (.Attribute o "get" apos) [e, f] [] cpos) (eGet mo me mf) := by
  refine ⟨fun pins s σ H Q I h => ?_⟩
  have key : tG (X.G Γ) (tieD (X.G Γ)) W mo σ H (fun x H1 => ∃ a xs, x = .ref a ∧ DR X.K X.prog X.w H1 a xs ∧ tG (X.G Γ) (tieD (X.G Γ)) W me σ H1 fun y H2 => tG (X.G Γ) (tieD (X.G Γ)) W mf σ H2 fun z H3 =>
      ∃ xs' b ks, DR X.K X.prog X.w H3 a xs' ∧ y = .ref b ∧ SqT X.K H3 b (ks.map kV) ∧ (atKey xs' ks = none → Q z H3) ∧ ∀ q, atKey xs' ks = some q → ∃ v, RelV v q.2 ∧ Q v H3) := by
    refine bE h fun φ1 H1 x v ρ μ1 ev r rv p => ?_
    have p : Post (X.G Γ) (tieD (X.G Γ)) φ1 H1 (if (dctAt μ1 x).isSome = true then M.bind (me ρ) (fun y => M.bind (mf ρ) fun z => getDM x y z) μ1 else .bad) Q fun cls dd H' => W cls dd σ H' := p
    cases q : dctAt μ1 x with
    | none => rw [q] at p; exact p.elim
    | some kvs =>
      rw [q] at p
      obtain ⟨l, a, xs, rfl, rfl, hl, _, D, _⟩ := dct_at r rv q
      refine ⟨a, xs, rfl, D, ?_⟩
      refine bG ev r p fun φ2 H2 y v2 μ2 g2 e2 r2 rv2 p2 => ?_
      refine bG e2 r2 p2 fun φ3 H3 z v3 μ3 g3 e3 r3 rv3 p3 => ?_
      unfold getDM at p3
      cases q3 : dctAt μ3 (.loc l) with
      | none => rw [q3] at p3; exact p3.elim
      | some kvs3 =>
        cases q4 : tkD y with
        | none => rw [q3, q4] at p3; exact p3.elim
        | some ks =>
          rw [q3, q4] at p3
          dsimp only at p3
          obtain ⟨l', a', xs3, el, ea, hl3, _, D3, _, _, T3⟩ := dct_at r3 ((rv.grow g2).grow g3) q3
          cases ea
          obtain ⟨b, rfl, hb⟩ := tkD_v (rv2.grow g3) q4
          refine ⟨xs3, b, ks, D3, rfl, hb.t, fun e => ?_, fun w e => ?_⟩
          · cases q5 : lookT kvs3 ks with
            | none => rw [q5] at p3; exact Post.pure p3 r3 rv3
            | some d =>
              obtain ⟨_, _, e', _⟩ := (T3.look (ks := ks)).2 d q5
              rw [e] at e'
              cases e'
          · cases q5 : lookT kvs3 ks with
            | none =>
              rw [(T3.look (ks := ks)).1 q5] at e
              cases e
            | some d =>
              rw [q5] at p3
              obtain ⟨w', v5, e', rd, rl⟩ := (T3.look (ks := ks)).2 d q5
              rw [e] at e'
              cases e'
              exact ⟨v5, rl, Post.pure p3 r3 (by rw [← Gx.off_eq (G := X.G Γ) h0]; exact rd)⟩
  refine wpAny_Call_method m.base m.few m.line F.plainAttrs_dict F.slot_dict_get F.type_dict_get (thn (ho.run pins s σ H _ I key) fun u s1 ⟨x, H1, I1, rx, a, xs, ex, D, q1⟩ => ?_)
  subst ex
  obtain rfl : u = Value.ref a := rx
  obtain ⟨t1, t2⟩ := D.ty I1
  refine ⟨t1, t2, ?_⟩
  rw [m.trees]
  refine Calls.callWith_builtin rfl (Calls.evalArgs_plain (Calls.spliced_cons (thn (he.run pins s1 σ H1 _ I1 q1) fun iv s2 ⟨y, H2, I2, ry, q2⟩ =>
    Calls.spliced_cons (thn (hf.run pins s2 σ H2 _ I2 q2) fun fv s3 ⟨z, H3, I3, rz, xs3, b, ks, D3, ey, hb, n1, n2⟩ => Calls.spliced_nil ?_))))
  subst ey
  obtain rfl : iv = Value.ref b := ry
  refine call_meetsIn F.slot_dict_get (D3.is I3).typeIs F.entry_dict_get (F.args_dict_get_3 _ _ _) (meetsH_dict_get_default (tupleKind (mixKind X.prog X.w)) a b D3.ns fv) ⟨tupleKind_room_in1 (by omega), ks, xs3, key_z I3 hb, D3.is I3, ?_⟩
  cases q : atKey xs3 ks with
  | none => exact ⟨z, H3, I3.tok _, rz, n1 q⟩
  | some w =>
    obtain ⟨v, rv, hq⟩ := n2 w q
    exact ⟨v, H3, I3.tok _, rv, hq⟩
end
/-! ### d[k] = x -/
def putR (o i d : D) (ρ : Ev) (μ : Mem) : RS := match o, dctWr μ o, tkD i with
  | .loc l, some kvs, some ks => if kvs.length < 100000 then .ok (.nx ρ) (μ.set l (.dT (putT kvs ks d))) else .bad
  | _, _, _ => .bad
def sDPutM (mo mi mv : Ev → M D) : MS := fun ρ μ => bindS (mv ρ μ) ρ fun d μ1 => bindS (mo ρ μ1) ρ fun o μ2 => bindS (mi ρ μ2) ρ fun i μ3 => putR o i d ρ μ3
section
variable {X : Cx} {W : WX} {Γ : Gs} {o i e : Expr} {mo mi m : Ev → M D} {pos pos' : Pos}
theorem s_dput (he : JE X Γ W e m) (ho : JE X Γ W o mo) (hi : JE X Γ W i mi) (hu : X.A.units + 64 < cLine) (hs : swapsWith e (some (.Subscript o i pos')) pos.line X.env = pure false := by rfl) (h0 : Γ.off = Γ := by rfl) :
    JS X Γ W (.Assign [.Subscript o i pos'] e pos) (sDPutM mo mi m) := by
  refine ⟨fun pins s σ H Z I h => ?_⟩
  have key : tG (X.G Γ) (tieD (X.G Γ)) W m σ H fun v H1 => tG (X.G Γ) (tieD (X.G Γ)) W mo σ H1 fun x H2 => tG (X.G Γ) (tieD (X.G Γ)) W mi σ H2 fun y H3 =>
      ∃ a xs b ks, x = .ref a ∧ y = .ref b ∧ DR X.K X.prog X.w H3 a xs ∧ H3 a = some (dctO X.prog X.w a xs) ∧ SqT X.K H3 b (ks.map kV) ∧ ∀ r, RelV v r → Z.nx σ (upd H3 a (dctO X.prog X.w a (storedH xs ks b r))) := by
    obtain ⟨φ, ρ, μ, ev, r, p⟩ := h
    refine bS ev r p fun φ1 H1 d v μ1 g1 e1 r1 rv p1 => ?_
    refine bS e1 r1 p1 fun φ2 H2 od ov μ2 g2 e2 r2 ro p2 => ?_
    refine bS e2 r2 p2 fun φ3 H3 id iv μ3 g3 e3 r3 ri p3 => ?_
    unfold putR at p3
    cases q : dctWr μ3 od with
    | none =>
      rw [q] at p3
      cases od <;> exact p3.elim
    | some kvs =>
      obtain ⟨l, a, xs, rfl, rfl, hl, hm, hw, D, z1, z2, T⟩ := dct_wr r3 (ro.grow g3) q
      rw [q] at p3
      cases q2 : tkD id with
      | none => rw [q2] at p3; exact p3.elim
      | some ks =>
        rw [q2] at p3
        dsimp only at p3
        by_cases c : kvs.length < 100000
        · rw [if_pos c] at p3
          obtain ⟨b, rfl, hb⟩ := tkD_v ri q2
          refine ⟨a, xs, b, ks, rfl, rfl, D, hw, hb.t, fun rr rrv => ?_⟩
          have rl : Live a (dctO X.prog X.w a (storedH xs ks b rr)) := live_dct
          have hh : a ∉ φ3.h := fun z => by
            obtain ⟨u, e, z1⟩ := r3.hd a z
            rw [hw] at e
            exact z1.nd (Option.some.inj e).symm
          have nf : ∀ o v, H3 a ≠ some (.frz o v) := fun _ _ z => by
            rw [hw] at z
            unfold dctO at z
            cases z
          refine p3 φ3 _ _ (Grow.wr hl nf rl.nt) (r3.wrO hl nf rl.nt (fun z => absurd z hh) ?_) (e3.grow (Grow.wr hl nf rl.nt))
          refine ⟨storedH xs ks b rr, upd_same, D.ns, Nat.le_trans (putT_len kvs ks d) (by rw [sizeLine_eq]; omega), putT_nodup z2, ?_⟩
          have eo : (X.G Γ).off = X.G Γ := Gx.off_eq (G := X.G Γ) h0
          have T' : RpT (X.G Γ).off φ3 H3 (putT kvs ks d) (storedH xs ks b rr) := T.put hb (by rw [eo]; exact (rv.grow g2).grow g3) rrv
          exact T'.growW (Grow.wr hl nf rl.nt).w
        · rw [if_neg c] at p3
          exact p3.elim
  refine wpAny_Assign_Subscript (thn (he.run pins s σ H _ I key) fun r s1 ⟨v, H1, I1, rv, q1⟩ => thn (ho.run pins s1 σ H1 _ I1 q1) fun u s2 ⟨x, H2, I2, rx, q2⟩ => thn (hi.run pins s2 σ H2 _ I2 q2) fun iv s3 ⟨y, H3, I3, ry, a, xs, b, ks, ex, ey, D, hw, hb, q3⟩ => ?_) hs
  subst ex ey
  obtain rfl : u = Value.ref a := rx
  obtain rfl : iv = Value.ref b := ry
  exact dp_set (by omega) I3 D hw hb fun s4 I4 => ⟨σ, _, I4, q3 r rv⟩
end
end SE

/-! SEx: written dicts by index, dicts of texts, lists that change, ranges with a step, max of a list. -/
namespace SE
open PySem PySem.Spec PyProof.Rows L2
/-! ### D[k] of a written dict -/
def kixM (kvs : List (Str × D)) (x : D) : M D := fun μ => match x with
  | .str z => (match kvs.lookup z with
    | some d => .ok d μ
    | none => .bad)
  | _ => .bad
section
variable {X : Cx} {W : WX} {Γ : Gs} {x : Str} {e : Expr} {me : Ev → M D} {p0 pos : Pos} {kvs : List (Str × D)}
theorem j_kix (kd : KD X.K X.w (He.ga X.K x) kvs) (hg : Gl X x) (hm : X.mg x = some (.ref (He.ga X.K x))) (he : JE X Γ W e me) (hs : NoSl e := by intro _ _; rfl) (hdb : (x == ("__debug__" : Str)) = false := by decide) :
    JE X Γ W (.Subscript (.Name x p0) e pos) (e1 (kixM kvs) me) := by
  obtain ⟨es, n, k, hb⟩ := kd.ex
  refine ⟨fun pins s σ H Q I h => ?_⟩
  have key : tG (X.G Γ) (tieD (X.G Γ)) W me σ H (fun y H1 => ∃ z, y = .str z ∧ ∃ d, kvs.lookup z = some d ∧ ∀ v0, (∀ φ H, Rp (X.G Γ) φ H d v0) → Q v0 H1) := by
    refine bE h fun φ1 H1 y v ρ μ1 ev r rv p => ?_
    unfold kixM at p
    cases rv with
    | str z =>
      dsimp only at p
      cases q : kvs.lookup z with
      | none => rw [q] at p; exact p.elim
      | some d =>
        rw [q] at p
        exact ⟨z, rfl, d, q, fun v0 hv => Post.pure p r (hv _ _)⟩
    | _ => exact p.elim
  refine subD_of F.slot_dict_getitem.lookup hs (ld_glob I hg hm ?_ hdb)
  refine thn (he.run pins s σ H _ I key) fun u s1 ⟨y, H1, I1, ry, z, ey, d, q, q1⟩ => ?_
  subst ey
  obtain ⟨t, rfl⟩ := ry
  have mo : Heap.MapOf (PySem.strKind X.prog X.w) s1.heap (He.ga X.K x) fun k => findBy Value.isStrOf es k := PySem.W.mapOf_K I1.kIn k.at_ k.lit
  have ns := kd_ns k hb z
  rw [q] at ns
  obtain ⟨u', e1', e2'⟩ := ns
  have e' := PySem.W.find_K k.at_ e1'
  obtain ⟨v0, r0, hv⟩ := datB_ok e2'
  exact ⟨mo.typeIs, wpAny_getItem_of (PySem.strKind_is _ _ z t) mo e' ⟨v0, H1, I1.tok _, r0, q1 v0 fun φ H => hv _ _ _ _ φ H⟩⟩
end
/-! ### {'a': 'b', ..} of texts, and its get -/
def stK (kvs : List (Str × Str)) : List (Key × D) := kvs.map fun p => (Sum.inr p.1, .str p.2)
def stV (kvs : List (Str × Str)) : List (Key × V) := kvs.map fun p => (Sum.inr p.1, .str p.2)
def stT (kvs : List (Str × Str)) : List (TE × TE) := kvs.map fun p => (tC (.str p.1), tC (.str p.2))
theorem stT_run (σ : L2.St) (H : Hp) (Q : List (V × V) → Hp → Prop) : ∀ kvs : List (Str × Str), Q (kvs.map fun p => (V.str p.1, V.str p.2)) H → tPairs (stT kvs) σ H Q
  | [], q => q
  | p :: r, q => stT_run σ H (fun ps H3 => Q ((V.str p.1, V.str p.2) :: ps) H3) r q
theorem stK_rp {G : Gx} {φ : Lab} {H : Hp} : ∀ kvs : List (Str × Str), RpK G φ H (stK kvs) (stV kvs)
  | [] => .nil
  | p :: r => .cons (.str _) (stK_rp r)
theorem stV_new : ∀ (more : List (Str × Str)) (acc : List (Key × V)), (∀ p ∈ more, Sum.inr p.1 ∉ acc.map (·.1)) → (more.map (·.1)).Nodup → mergeK acc (stV more) = acc ++ stV more
  | [], acc, _, _ => by
    show acc = acc ++ []
    rw [List.append_nil]
  | p :: r, acc, h, n => by
    obtain ⟨n1, n2⟩ := List.nodup_cons.mp n
    show mergeK (putK acc (Sum.inr p.1) (.str p.2)) (stV r) = _
    have e : putK acc (Sum.inr p.1) (.str p.2) = acc ++ [(Sum.inr p.1, .str p.2)] := by
      refine putK_new _ ?_
      cases q : valV acc (Sum.inr p.1) with
      | none => rfl
      | some v =>
        exfalso
        unfold valV at q
        obtain ⟨kv, h1, h2⟩ := Option.map_eq_some_iff.mp q
        have h3 := List.find?_some h1
        exact h p List.mem_cons_self (List.mem_map.mpr ⟨kv, List.mem_of_find?_eq_some h1, of_decide_eq_true h3⟩)
    rw [e, stV_new r _ ?_ n2, List.append_assoc]
    · rfl
    · intro q hq hm
      rw [List.map_append] at hm
      rcases List.mem_append.mp hm with hm | hm
      · exact h q (List.mem_cons_of_mem _ hq) hm
      · have e2 : (Sum.inr q.1 : Key) = Sum.inr p.1 := List.mem_singleton.mp hm
        injection e2 with e3
        exact n1 (List.mem_map.mpr ⟨q, hq, e3⟩)
section
variable {X : Cx} {W : WX} {Γ : Gs} {pos : Pos} {keys : List (Option Expr)} {values : List Expr}
theorem j_disp (kvs : List (Str × Str)) (h : PPs X pos keys values (stT kvs)) (hall : keys.all (·.isSome) = true := by rfl) (hl : keys.length = values.length := by rfl) (h0 : keys ≠ [] := by exact fun z => nomatch z) (h15 : keys.length ≤ 15 := by decide)
    (nd : (kvs.map (·.1)).Nodup := by decide) (hk : kvs.length ≤ 15 := by decide) : JE X Γ W (.Dict keys values pos) (eC (.dct (stK kvs))) := by
  refine pe_w (pe_disp h hall hl h0 h15) fun σ H Q q => ?_
  obtain ⟨φ, ρ, μ, ev, r, p⟩ := q
  intro a ha
  refine stT_run σ _ _ kvs ⟨upd_same, stV kvs, by unfold stV; rw [List.map_map]; rfl, by unfold stV; rw [List.length_map]; exact hk, ?_⟩
  rw [upd_upd, stV_new kvs [] (fun _ _ z => nomatch z) nd, List.nil_append]
  exact p φ _ _ (Grow.laid ha) (r.laid ha) (.dct upd_same (r.out ha) (stK_rp kvs))
end
def lookK (kvs : List (Key × D)) (k : Key) : Option D := (kvs.find? fun p => decide (p.1 = k)).map (·.2)
theorem RpK.look {G : Gx} {φ : Lab} {H : Hp} {k : Key} : ∀ {kvs : List (Key × D)} {vs : List (Key × V)}, RpK G φ H kvs vs →
    (lookK kvs k = none → valV vs k = none) ∧ ∀ d, lookK kvs k = some d → ∃ v, valV vs k = some v ∧ Rp G φ H d v
  | _, _, .nil => ⟨fun _ => rfl, fun _ h => by cases h⟩
  | _, _, .cons (k := k') (d := d) (v := v) r t => by
    obtain ⟨i1, i2⟩ := RpK.look (k := k) t
    unfold lookK valV
    rw [List.find?_cons, List.find?_cons]
    by_cases e : k' = k
    · simp only [e, decide_true, Option.map_some]
      exact ⟨fun h => (by cases h), fun d' h => (by cases h; exact ⟨v, rfl, r⟩)⟩
    · simp only [decide_eq_false e]
      exact ⟨i1, i2⟩
def isDct : D → Bool
  | .dct _ => true
  | _ => false
def getKM (x y z : D) : M D := fun μ => match x, keyD y with
  | .dct kvs, some k => .ok ((lookK kvs k).getD z) μ
  | _, _ => .bad
def eGetK (a b c : Ev → M D) : Ev → M D := fun ρ => do
  let x ← a ρ
  if isDct x = true then (do let y ← b ρ; let z ← c ρ; getKM x y z) else M.bad
section
variable {X : Cx} {W : WX} {Γ : Gs} {o e f : Expr} {mo me mf : Ev → M D} {apos cpos : Pos}
theorem j_lget (ho : JE X Γ W o mo) (he : JE X Γ W e me) (hf : JE X Γ W f mf) (hu : X.A.units + 64 < cLine)
    (m : M2 X o "get" apos e f cpos := by exact ⟨rfl, rfl, rfl, rfl⟩) : JE X Γ W (.Call (.Attribute o "get" apos) [e, f] [] cpos) (eGetK mo me mf) := by
  refine pe_w (pe_dget2 (by omega) ho he hf m) fun σ H Q h => ?_
  refine bE h fun φ1 H1 x v ρ μ1 ev r rv p => ?_
  cases rv with
  | @dct a vs ds ha hn rk =>
    have p : Post (X.G Γ) (tieD (X.G Γ)) φ1 H1 (M.bind (me ρ) (fun y => M.bind (mf ρ) fun z => getKM (.dct ds) y z) μ1) Q fun cls dd H' => W cls dd σ H' := p
    refine ⟨a, rfl, .inl ⟨_, .inl ha⟩, ?_⟩
    refine bG ev r p fun φ2 H2 y v2 μ2 g2 e2 r2 rv2 p2 => ?_
    refine bG e2 r2 p2 fun φ3 H3 z v3 μ3 g3 e3 r3 rv3 p3 => ?_
    unfold getKM at p3
    cases q : keyD y with
    | none => rw [q] at p3; exact p3.elim
    | some k =>
      rw [q] at p3
      dsimp only at p3
      cases keyD_v rv2 q
      have ha3 : H3 a = some (.dK vs) := by
        have h2 := g2.st _ _ ha hn fun _ z => nomatch z
        exact g3.st _ _ h2 (g2.out ha (fun _ z => nomatch z) hn) fun _ z => nomatch z
      have rk3 := (rk.grow g2).grow g3
      refine ⟨valV vs k, DGet.k ha3, ?_⟩
      cases q2 : lookK ds k with
      | none =>
        rw [(rk3.look (k := k)).1 q2]
        rw [q2] at p3
        exact Post.pure p3 r3 rv3
      | some d =>
        obtain ⟨w, ew, rw'⟩ := (rk3.look (k := k)).2 d q2
        rw [ew]
        rw [q2] at p3
        exact Post.pure p3 r3 rw'
  | _ => exact p.elim
end
/-! ### xs.pop(i) of a list that changes -/
def popM (d y : D) : M D := fun μ => match d, y with
  | .loc l, .int i => (match μ[l]? with
    | some (.lst xs) => if -1000000 ≤ i ∧ i ≤ 1000000 then (match seqIndex? i xs.length with
      | some k => (match xs[k]? with
        | some x => .ok x (μ.set l (.lst (xs.eraseIdx k)))
        | none => .bad)
      | none => .bad) else .bad
    | _ => .bad)
  | _, _ => .bad
theorem RpL.erase {G : Gx} {φ : Lab} {H : Hp} : ∀ {ds : List D} {vs : List V} (k : Nat), RpL G φ H ds vs → RpL G φ H (ds.eraseIdx k) (vs.eraseIdx k)
  | _, _, _, .nil => .nil
  | _, _, 0, .cons _ t => t
  | _, _, k + 1, .cons r t => .cons r (t.erase k)
section
variable {X : Cx} {W : WX} {Γ : Gs} {o e : Expr} {mo me : Ev → M D} {apos pos : Pos}
theorem j_pop (ho : JE X Γ W o mo) (he : JE X Γ W e me) (h : ∀ to te, PE X o to → PE X e te → PE X (.Call (.Attribute o "pop" apos) [e] [] pos) (tBM X.K "list" rPopAt to (tCons te tNil))) (h0 : Γ.off = Γ := by rfl) : JE X Γ W (.Call (.Attribute o "pop" apos) [e] [] pos) (eMM isLstB popM mo me) := by
  refine pe_w (h _ _ ho he) fun σ H Q q => ?_
  obtain ⟨φ, ρ, μ, ev, r, p⟩ := q
  refine bG ev r p fun φ1 H1 d v μ1 g1 e1 r1 rv p1 => ?_
  have p1 : Post (X.G Γ) (tieD (X.G Γ)) φ1 H1 (if isLstB d μ1 = true then M.bind (me ρ) (fun y => popM d y) μ1 else .bad) Q fun cls dd H' => W cls dd σ H' := p1
  by_cases c : isLstB d μ1 = true
  · rw [if_pos c] at p1
    obtain ⟨l, a, vs0, rfl, rfl, hl, hv0⟩ := lst_at rv r1 c
    refine ⟨.inl ⟨rfl, _, SqL.of hv0⟩, ?_⟩
    refine bG e1 r1 p1 fun φ2 H2 y u μ2 g2 e2' r2 ry p2 => ?_
    unfold popM at p2
    cases ry with
    | int i =>
      dsimp only at p2
      cases q : μ2[l]? with
      | none => rw [q] at p2; exact p2.elim
      | some ob =>
        cases ob with
        | dT kvs => rw [q] at p2; exact p2.elim
        | fT kvs => rw [q] at p2; exact p2.elim
        | lst xs =>
          rw [q] at p2
          dsimp only at p2
          by_cases cz : -1000000 ≤ i ∧ i ≤ 1000000
          · rw [if_pos cz] at p2
            cases q3 : seqIndex? i xs.length with
            | none => rw [q3] at p2; exact p2.elim
            | some k =>
              rw [q3] at p2
              dsimp only at p2
              cases q4 : xs[k]? with
              | none => rw [q4] at p2; exact p2.elim
              | some x =>
                rw [q4] at p2
                dsimp only at p2
                obtain ⟨b, h1, h2⟩ := r2.at_ l _ q
                have hl2 : φ2.l[l]? = some a := by
                  obtain ⟨ψ, e, _⟩ := g2.ex
                  rw [e, List.getElem?_append_left (List.getElem?_eq_some_iff.mp hl).1]
                  exact hl
                rw [hl2] at h1
                cases h1
                obtain ⟨vs, h3, h4⟩ := h2
                obtain ⟨yv, e4, ry4⟩ := h4.get q4
                refine ⟨a, vs, i, k, yv, rfl, rfl, h3, by omega, by omega, by rw [← h4.length]; exact q3, e4, ?_⟩
                exact p2 _ _ _ (Grow.wr hl2 (fun _ _ z => by rw [h3] at z; cases z)) (r2.wr hl2 (fun _ _ z => by rw [h3] at z; cases z) (h4.erase k)) ((Rp.on ry4).grow (Grow.wr hl2 (fun _ _ z => by rw [h3] at z; cases z)))
          · rw [if_neg cz] at p2
            exact p2.elim
    | _ => exact p2.elim
  · rw [if_neg c] at p1
    exact p1.elim
end
/-! ### xs + ys, one of them changes -/
def lsAt (μ : Mem) : D → Option (List D)
  | .lst xs => some xs
  | .loc l => (match μ[l]? with
    | some (.lst xs) => some xs
    | _ => none)
  | _ => none
def addLM (a b : D) : M D := fun μ => match lsAt μ a, lsAt μ b with
  | some xs, some ys => if xs.length + ys.length ≤ 100000 then .ok (.lst (xs ++ ys)) μ else .bad
  | _, _ => .bad
theorem lsAt_v {G : Gx} (h0 : G.s.off = G.s) {φ : Lab} {μ : Mem} {H : Hp} {d : D} {v : V} {xs : List D} (r : Rp G φ H d v) (R : MemR G φ μ H) (h : lsAt μ d = some xs) : ∃ a vs, v = .ref a ∧ H a = some (.lst vs) ∧ RpL G φ H xs vs := by
  cases r with
  | lst hs hn rl => cases h; exact ⟨_, _, rfl, hs, rl⟩
  | @loc a l hl =>
    unfold lsAt at h
    dsimp only at h
    cases q : μ[l]? with
    | none => rw [q] at h; cases h
    | some o =>
      cases o with
      | dT kvs => rw [q] at h; cases h
      | fT kvs => rw [q] at h; cases h
      | lst ys =>
        rw [q] at h
        cases h
        obtain ⟨b, h1, vs, h3, h4⟩ := R.at_ l _ q
        rw [hl] at h1
        cases h1
        exact ⟨_, _, rfl, h3, by rw [← Gx.off_eq h0]; exact h4⟩
  | _ => cases h
theorem addL_i {G : Gx} (h0 : G.s.off = G.s) : OpI G addLM (rAdd G.K) := by
  intro φ μ H a b x y Q E R ra rb p
  unfold addLM at p
  cases q1 : lsAt μ a with
  | none => rw [q1] at p; exact p.elim
  | some xs =>
    cases q2 : lsAt μ b with
    | none => rw [q1, q2] at p; exact p.elim
    | some ys =>
      rw [q1, q2] at p
      dsimp only at p
      obtain ⟨a1, vs, rfl, h1, r1⟩ := lsAt_v h0 ra R q1
      obtain ⟨a2, ws, rfl, h2, r2⟩ := lsAt_v h0 rb R q2
      by_cases h : xs.length + ys.length ≤ 100000
      · rw [if_pos h] at p
        refine .inr (.inr (.inl ⟨_, _, _, _, rfl, rfl, h1, h2, by rw [← r1.length, ← r2.length]; exact line5 h, fun c hc => ?_⟩))
        exact p φ _ _ (Grow.laid hc) (R.laid hc) (.lst upd_same (R.out hc) ((r1.append r2).grow (Grow.laid hc)))
      · rw [if_neg h] at p
        exact p.elim
/-! ### range(a, b, c) -/
def rngC (lo c : Int) (n : Nat) : List D := (List.range n).map fun (i : Nat) => D.int (lo + i * c)
def rngN (i j c : Int) : Nat := if i < j then ((j - i - 1) / c + 1).toNat else 0
def rng3M : List D → M (List D)
  | [.int i, .int j, .int c], μ => if (0 ≤ i ∧ i ≤ 100000 ∧ 0 ≤ j ∧ j ≤ 100000) ∧ 0 < c ∧ c ≤ 1000 then .ok (rngC i c (rngN i j c)) μ else .bad
  | _, _ => .bad
theorem itc_tie {G : Gx} {φ : Lab} {H : Hp} (lo c : Int) (n : Nat) : tieI G φ H (rngC lo c n) (Itc lo c n) := by
  intro φ1 H1 g i
  have hl : (rngC lo c n).length = n := by simp [rngC]
  refine ⟨fun d hd => ?_, fun h => by rw [hl] at h; exact h⟩
  have hi : i < n := by
    have := (List.getElem?_eq_some_iff.mp hd).1
    rw [hl] at this
    exact this
  have e : d = .int (lo + (i : Nat) * c) := by
    unfold rngC at hd
    rw [List.getElem?_map, List.getElem?_range hi] at hd
    exact (Option.some.inj hd).symm
  refine ⟨hi, fun x H2 μ R ⟨e1, e2⟩ => ?_⟩
  subst e1 e2 e
  exact ⟨Grow.refl _ _, R, .int _⟩
theorem rgC_of {i j c : Int} (h1 : 0 ≤ i ∧ i ≤ 100000 ∧ 0 ≤ j ∧ j ≤ 100000) (h2 : 0 < c ∧ c ≤ 1000) : RgC i j c (rngN i j c) := by
  have sz : Builtin.Range.rangeSize i j c = (rngN i j c : Int) := by
    unfold Builtin.Range.rangeSize rngN
    rw [if_pos (show c > 0 from h2.1)]
    split
    · have : 0 ≤ (j - i - 1) / c := Int.ediv_nonneg (by omega) (by omega)
      omega
    · rfl
  have hb : (rngN i j c : Int) ≤ 100000 := by
    unfold rngN
    split
    · have a : 0 ≤ (j - i - 1) / c := Int.ediv_nonneg (by omega) (by omega)
      have b : (j - i - 1) / c ≤ j - i - 1 := Int.ediv_le_self _ (by omega)
      omega
    · show (0 : Int) ≤ 100000
      omega
  have hp : ((rngN i j c : Int)) * c ≤ 100000 * 1000 := Int.mul_le_mul hb h2.2 (by omega) (by omega)
  have hp0 : 0 ≤ ((rngN i j c : Int)) * c := Int.mul_nonneg (by omega) (by omega)
  refine ⟨by omega, by omega, ?_, sz⟩
  unfold Builtin.Range.small
  rw [sz]
  simp only [Builtin.Range.rangeFitsLong, Bool.and_eq_true, Bool.or_eq_true, decide_eq_true_eq, beq_iff_eq, show c > 0 from h2.1, if_true]
  omega
section
variable {X : Cx} {W : WX} {Γ : Gs}
theorem i_rng3 {tg a b c : Expr} {ml : Ev → M (List D)} {p0 pos : Pos} (hg : Gl X "range") (hm : X.mg "range" = none) (ha : JL X Γ W [a, b, c] ml)
    (hs : starEach [a, b, c] X.env = (false, eval a X.env) :: starEach [b, c] X.env := by rfl) (hpl : (backTo pos (starEach [b, c] X.env)).any (·.1) = false := by rfl) : JI X Γ W tg (.Call (.Name "range" p0) [a, b, c] [] pos) (eLL rng3M ml) := by
  refine pi_w (pi_range3 hg hm ha hs hpl) fun σ H R h => ?_
  refine bE h fun φ1 H1 x v ρ μ1 e r rv p => ?_
  unfold rng3M at p
  split at p
  · rename_i i j k
    cases rv with
    | cons r1 rv =>
      cases rv with
      | cons r2 rv =>
        cases rv with
        | cons r3 rv =>
          cases rv
          cases r1
          cases r2
          cases r3
          by_cases hz : (0 ≤ i ∧ i ≤ 100000 ∧ 0 ≤ j ∧ j ≤ 100000) ∧ 0 < k ∧ k ≤ 1000
          · simp only [if_pos hz] at p
            exact ⟨i, j, k, _, rfl, rgC_of hz.1 hz.2, Post.pure p r (itc_tie i k _)⟩
          · simp only [if_neg hz] at p
            exact p.elim
  · exact p.elim
end
/-! ### max of a list of ints -/
def intsD : List D → Option (List Int)
  | [] => some []
  | .int i :: r => (intsD r).map (i :: ·)
  | _ :: _ => none
def maxI : Int → List Int → Int
  | m, [] => m
  | m, i :: r => maxI (if m < i then i else m) r
theorem maxI_spec : ∀ (r : List Int) (m : Int), (maxI m r = m ∨ maxI m r ∈ r) ∧ m ≤ maxI m r ∧ ∀ y ∈ r, y ≤ maxI m r
  | [], m => ⟨.inl rfl, Int.le_refl _, fun _ h => nomatch h⟩
  | i :: r, m => by
    obtain ⟨h1, h2, h3⟩ := maxI_spec r (if m < i then i else m)
    have hm : m ≤ (if m < i then i else m) ∧ i ≤ (if m < i then i else m) := by split <;> omega
    show (maxI (if m < i then i else m) r = m ∨ _) ∧ m ≤ maxI (if m < i then i else m) r ∧ ∀ y ∈ i :: r, y ≤ maxI (if m < i then i else m) r
    refine ⟨?_, by omega, fun y hy => ?_⟩
    · rcases h1 with h1 | h1
      · by_cases c : m < i
        · rw [if_pos c] at h1
          exact .inr (by
            have e : maxI m (i :: r) = i := by
              show maxI (if m < i then i else m) r = i
              rw [if_pos c]
              exact h1
            rw [e]
            exact List.mem_cons_self)
        · rw [if_neg c] at h1
          exact .inl (by
            show maxI (if m < i then i else m) r = m
            rw [if_neg c]
            exact h1)
      · exact .inr (List.mem_cons_of_mem _ h1)
    · rcases List.mem_cons.mp hy with e | hy
      · subst e
        omega
      · exact h3 y hy
def maxLM (ds : List D) : M D := fun μ => match ds with
  | [.lst xs] => (match intsD xs with
    | some (i :: r) => .ok (.int (maxI i r)) μ
    | _ => .bad)
  | _ => .bad
theorem intsD_v {G : Gx} {φ : Lab} {H : Hp} : ∀ {ds : List D} {vs : List V} {ns : List Int}, RpL G φ H ds vs → intsD ds = some ns → vs = ns.map V.int
  | _, _, _, .nil, h => by cases h; rfl
  | d :: ds, _, ns, .cons r t, h => by
    cases r with
    | int i =>
      unfold intsD at h
      obtain ⟨ms, e1, e2⟩ := Option.map_eq_some_iff.mp h
      subst e2
      rw [intsD_v t e1]
      rfl
    | _ => cases h
theorem maxL_i {G : Gx} : CallI G maxLM (rMax G.K) := by
  intro φ μ H a x Q E R ra p
  unfold maxLM at p
  split at p
  · rename_i xs
    obtain ⟨v, rfl, r1⟩ := ra.one
    cases q : intsD xs with
    | none => rw [q] at p; exact p.elim
    | some ns =>
      cases ns with
      | nil => rw [q] at p; exact p.elim
      | cons i r =>
        rw [q] at p
        cases r1 with
        | lst h1 n1 rl =>
          have e := intsD_v rl q
          subst e
          refine ⟨_, i :: r, rfl, SqL.of h1, by simp, fun m hm hy => ?_⟩
          obtain ⟨h1, h2, h3⟩ := maxI_spec r i
          have em : m = maxI i r := by
            have a1 : m ≤ maxI i r := by
              rcases List.mem_cons.mp hm with e | hm
              · omega
              · exact h3 m hm
            have a2 : maxI i r ≤ m := by
              refine hy _ ?_
              rcases h1 with h1 | h1
              · rw [h1]; exact List.mem_cons_self
              · exact List.mem_cons_of_mem _ h1
            omega
          rw [em]
          exact Post.pure p R (.int _)
  · exact p.elim
end SE

/-! SEy: comprehensions whose list changes; dict(pairs) with tuples as keys. -/
namespace SE
open PySem PySem.Spec PyProof.Rows L2
section
variable {G : Gx} {φ φ' : Lab} {μ : Mem} {H H' : Hp} {D : Addr}
theorem Grow.show (g : Grow φ H φ' H') (nD : D ∉ φ.h) (h : H D = none) : Grow φ H ((φ'.bare D).add D) H' := by
  have gb := g.bare nD
  obtain ⟨ψ, e, hn⟩ := gb.ex
  refine ⟨⟨ψ ++ [D], ?_, fun a ha u hu => ?_⟩, gb.hx, gb.hs, gb.kp, gb.dm, gb.kf⟩
  · show (φ'.bare D).l ++ [D] = _
    rw [e, List.append_assoc]
  · rcases List.mem_append.mp ha with z | z
    · exact hn a z u hu
    · rw [List.mem_singleton.mp z, h] at hu
      cases hu
theorem MemR.show {av : List V} {acc : List SE.D} (R : MemR G φ μ H) (hD : H D = some (.lst av)) (hDh : D ∈ φ.h) (nl : D ∉ φ.l) (r : RpL G.off φ H acc av) : MemR G ((φ.bare D).add D) (μ ++ [.lst acc]) H := by
  have gw : Gw φ H ((φ.bare D).add D) H := by
    refine ⟨⟨[D], by simp [Lab.bare, Lab.add]⟩, fun {a u} e t n z => ?_, fun _ _ e _ _ => e⟩
    rcases z with z | z
    · rcases List.mem_append.mp z with z | z
      · exact n (.inl z)
      · rw [List.mem_singleton.mp z] at n
        exact n (.inr hDh)
    · exact n (.inr (List.mem_filter.mp z).1)
  refine ⟨R.tb, R.sm, by simp [R.len, Lab.add, Lab.bare], ?_, fun l o e => ?_, fun a ha => R.hd a (List.mem_filter.mp ha).1⟩
  · show (φ.l ++ [D]).Nodup
    rw [List.nodup_append]
    refine ⟨R.nd, by simp, fun a ha b hb => ?_⟩
    rw [List.mem_singleton.mp hb]
    intro z
    subst z
    exact nl ha
  · by_cases hl : l < μ.length
    · rw [List.getElem?_append_left hl] at e
      obtain ⟨a, h1, h2⟩ := R.at_ l o e
      exact ⟨a, by show (φ.l ++ [D])[l]? = _; rw [List.getElem?_append_left (by rw [R.len]; exact hl)]; exact h1, h2.growW gw fun u e _ => e⟩
    · have hl2 : l = μ.length := by
        have := (List.getElem?_eq_some_iff.mp e).1
        simp at this
        omega
      subst hl2
      rw [List.getElem?_append_right (Nat.le_refl _)] at e
      simp at e
      subst e
      exact ⟨D, by show (φ.l ++ [D])[_]? = _; rw [List.getElem?_append_right (by rw [R.len]; exact Nat.le_refl _), R.len]; simp, av, hD, r.growW gw⟩
end
def lcTN (vs : List Nat) (f : GT) (mt : Ev → M Bool) (me : Ev → M D) (ρ : Ev) : List D → List D → M D
  | [], acc => fun μ => .ok (.loc μ.length) (μ ++ [.lst acc])
  | d :: ds, acc => match f d (wipeE ρ vs) with
    | some ρ1 => M.bind (noE (mt ρ1)) fun b => if b = true then (M.bind (noE (me ρ1)) fun y => if acc.length < 100000 then lcTN vs f mt me ρ ds (acc ++ [y]) else M.bad) else lcTN vs f mt me ρ ds acc
    | none => M.bad
def eLcTN (vs : List Nat) (f : GT) (mi : Ev → M (List D)) (mt : Ev → M Bool) (me : Ev → M D) : Ev → M D := fun ρ => M.bind (mi ρ) fun ds => lcTN vs f mt me ρ ds []
theorem tLcTN_i {X : Cx} {Γ : Gs} {W : WX} {g0 : TG} {f : GT} {vs : List Nat} (hT : TgOk (X.G Γ) g0 f vs) (h0 : Γ.off = Γ) {mi : Ev → M (List D)} {mt : Ev → M Bool} {me : Ev → M D} {σ : L2.St} {H : Hp} {Q : VK} (h : tG (X.G Γ) (tieD (X.G Γ)) W (eLcTN vs f mi mt me) σ H Q) :
    tLc (tG (X.G Γ) (tieI (X.G Γ)) W mi) g0 (tG (X.G Γ) tieB W0 mt) (tG (X.G Γ) (tieD (X.G Γ)) W0 me) vs σ H Q := by
  refine bE h fun φ1 H1 items J ρ μ1 e1 r1 rj p1 => ?_
  intro D hD
  have nD1 : D ∉ φ1.h := fun z => r1.out hD (.inr z)
  have nL1 : D ∉ φ1.l := fun z => r1.out hD (.inl z)
  have gD : Grow φ1 H1 (φ1.hide D) (upd H1 D (.lst [])) := Grow.hide hD
  refine ⟨fun k m H => k + m = items.length ∧ ∃ φ μ acc av, Grow φ1 H1 φ H ∧ H D = some (.lst av) ∧ D ∈ φ.h ∧ D ∉ φ.l ∧ RpL (X.G Γ) φ H acc av ∧ EvR (X.G Γ) φ H ρ σ ∧ MemR (X.G Γ) φ μ H ∧ Post (X.G Γ) (tieD (X.G Γ)) φ1 H1 (lcTN vs f mt me ρ (items.drop k) acc μ) Q fun cls dd H' => W cls dd σ H',
    ⟨items.length, by omega, φ1.hide D, μ1, [], [], gD, upd_same, List.mem_cons_self, nL1, .nil, e1.grow gD, r1.hide hD, p1⟩, ?_⟩
  rintro k m H ⟨hm, φ, μ, acc, av, g, hDl, hDh, nL, ra, ev, r, p⟩
  obtain ⟨jg, js⟩ := rj φ H g k
  by_cases hi : k < items.length
  · have hd : items[k]? = some items[k] := List.getElem?_eq_getElem hi
    obtain ⟨j1, j2⟩ := jg _ hd
    rw [List.drop_eq_getElem_cons hi] at p
    refine .inr ⟨j1, fun H' => k + 1 + (m - 1) = items.length ∧ ∃ φ μ acc av, Grow φ1 H1 φ H' ∧ H' D = some (.lst av) ∧ D ∈ φ.h ∧ D ∉ φ.l ∧ RpL (X.G Γ) φ H' acc av ∧ EvR (X.G Γ) φ H' ρ σ ∧ MemR (X.G Γ) φ μ H' ∧ Post (X.G Γ) (tieD (X.G Γ)) φ1 H1 (lcTN vs f mt me ρ (items.drop (k + 1)) acc μ) Q fun cls dd H' => W cls dd σ H', fun H' w => ⟨m - 1, by omega, w⟩, fun x H2 hy => ?_⟩
    obtain ⟨g2, r2, rx⟩ := j2 x H2 μ r hy
    have ev2 := ev.grow g2
    unfold lcTN at p
    refine hT φ H2 _ x ρ σ μ _ ev2 r2 rx ?_
    cases qf : f items[k] (wipeE ρ vs) with
    | none => rw [qf] at p; exact p.elim
    | some ρ1 =>
    rw [qf] at p
    dsimp only at p
    refine ⟨ρ1, rfl, fun σ2 hw evB => ⟨hw, ?_⟩⟩
    have nb : ¬ Post (X.G Γ) (tieD (X.G Γ)) φ1 H1 .bad Q fun cls dd H' => W cls dd σ H' := fun z => z
    refine bN (T := tieB) (fun r => Post (X.G Γ) (tieD (X.G Γ)) φ1 H1 r Q fun cls dd H' => W cls dd σ H') nb evB r2 p fun φ3 H3 b b' μ3 g3 e3 r3 eb p3 => ?_
    cases (show b' = b from eb)
    have G3 := (g.trans g2).trans g3
    have tb : ∀ {vs : List V} ps, HO.lst vs ≠ .tbl ps := fun _ z => nomatch z
    have hD2 := g2.kp _ _ hDl nL tb
    have nD2 := g2.outL hDl tb nL
    have hD3 := g3.kp _ _ hD2 nD2 tb
    have nD3 := g3.outL hD2 tb nD2
    have hH3 := g3.hs _ (g2.hs _ hDh)
    cases b with
    | false =>
      show _ ∧ _
      exact ⟨by omega, φ3, μ3, acc, av, G3, hD3, hH3, nD3, (ra.grow g2).grow g3, ev2.grow g3, r3, p3⟩
    | true =>
      rw [if_pos rfl] at p3
      show tG _ _ _ _ _ _ _
      refine bN (T := tieD (X.G Γ)) (fun r => Post (X.G Γ) (tieD (X.G Γ)) φ1 H1 r Q fun cls dd H' => W cls dd σ H') nb e3 r3 p3 fun φ4 H4 y yv μ4 g4 e4 r4 ry p4 => ?_
      have hD4 := g4.kp _ _ hD3 nD3 tb
      have nD4 := g4.outL hD3 tb nD3
      have hH4 := g4.hs _ hH3
      by_cases hl : acc.length < 100000
      · rw [if_pos hl] at p4
        have rav := ((ra.grow g2).grow g3).grow g4
        refine ⟨av, hD4, by rw [← rav.length, sizeLine_eq]; omega, by omega, ?_⟩
        have g5 : Gw φ4 H4 φ4 (upd H4 D (.lst (av ++ [yv]))) := Gw.wrH hH4
        exact ⟨φ4, μ4, acc ++ [y], av ++ [yv], (G3.trans g4).wrNew hD, upd_same, hH4, nD4, (rav.append (.cons ry .nil)).growW g5, ((ev2.grow g3).grow g4).growW g5, r4.wrH hH4 nD4, p4⟩
      · rw [if_neg hl] at p4
        exact p4.elim
  · have : items.drop k = [] := List.drop_of_length_le (by omega)
    rw [this] at p
    exact .inl ⟨js (by omega), p ((φ.bare D).add D) H (.ref D) (g.show nD1 hD) (r.show hDl hDh nL (by rw [Gx.off_eq (G := X.G Γ) h0]; exact ra)) (.loc (by show (φ.l ++ [D])[_]? = _; rw [List.getElem?_append_right (by rw [r.len]; exact Nat.le_refl _), r.len]; simp))⟩
section
variable {X : Cx} {Γ : Gs} {W : WX} {elt iter tg : Expr} {ifs : List Expr} {own : List (Str × Nat)} {scope : Scope} {pos : Pos} {mi : Ev → M (List D)} {mt : Ev → M Bool} {me : Ev → M D} {g : TG} {f : GT}
theorem j_lcTN (hc : X.calm = true) (hN : X.N.Nodup) (hi : JI X Γ W tg iter mi) (ok : blkC X.N X.env.scope scope own = true) (hT : TgOk (X.G Γ) g f (own.map (·.2)))
    (hg : ∀ (s : Shared) (H : Hp) (C : Addr) (cl : List (Str × Addr)) (fp : List Addr), PG (X.blk s H scope (compEnvC scope cl C X.env) fp) tg g)
    (ht : ∀ (s : Shared) (H : Hp) (C : Addr) (cl : List (Str × Addr)) (fp : List Addr), JTs (X.blk s H scope (compEnvC scope cl C X.env) fp) Γ ifs mt)
    (he : ∀ (s : Shared) (H : Hp) (C : Addr) (cl : List (Str × Addr)) (fp : List Addr), JE (X.blk s H scope (compEnvC scope cl C X.env) fp) Γ W0 elt me) (hs : ∀ x, foldedSetIterable iter X.env x = pure x := by intro _; rfl) (h0 : Γ.off = Γ := by rfl) :
    JE X Γ W (.ListComp elt [⟨tg, iter, ifs, 0⟩] scope pos) (eLcTN (own.map (·.2)) f mi mt me) :=
  pe_w (pe_lc (own := own) (g := g) hc hN hi (blkOk_by ok) hg ht he hs) fun σ H Q h => tLcTN_i hT h0 h
/-- y = [..] on one line -/
theorem s_setLcTN {j : Nat} {y : Str} {py spos : Pos} (hc : X.calm = true) (hN : X.N.Nodup) (hy : X.N[j]? = some y) (hyl : X.env.scope.names.lookup y = some .local)
    (hsw : swapsWith (.ListComp elt [⟨tg, iter, ifs, 0⟩] scope pos) (some (.Name y py)) spos.line X.env = pure true) (hi : JI X Γ W tg iter mi) (ok : blkC X.N X.env.scope scope own = true) (hT : TgOk (X.G Γ) g f (own.map (·.2)))
    (hg : ∀ (s : Shared) (H : Hp) (C : Addr) (cl : List (Str × Addr)) (fp : List Addr), PG (X.blk s H scope (compEnvC scope cl C X.env) fp) tg g)
    (ht : ∀ (s : Shared) (H : Hp) (C : Addr) (cl : List (Str × Addr)) (fp : List Addr), JTs (X.blk s H scope (compEnvC scope cl C X.env) fp) Γ ifs mt)
    (he : ∀ (s : Shared) (H : Hp) (C : Addr) (cl : List (Str × Addr)) (fp : List Addr), JE (X.blk s H scope (compEnvC scope cl C X.env) fp) Γ W0 elt me) (hs : ∀ x, foldedSetIterable iter X.env x = pure x := by intro _; rfl) (h0 : Γ.off = Γ := by rfl) :
    JS X Γ W (.Assign [.Name y py] (.ListComp elt [⟨tg, iter, ifs, 0⟩] scope pos) spos) (sSet j (eLcTN (own.map (·.2)) f mi mt me)) :=
  ps_w (ps_setLc (own := own) (g := g) hc hN hy hyl hsw hi (blkOk_by ok) hg ht he hs) fun Z σ H h => by
    obtain ⟨φ, ρ, μ, ev, r, p⟩ := h
    exact tLcTN_i hT h0 (bS ev r p fun φ1 H1 d v μ1 g e1 r1 rv p1 => p1 φ1 H1 _ (Grow.refl _ _) r1 (e1.set j rv))
/-! the reckoning -/
theorem wr_eLcTN {vs : List Nat} {ρ : Ev} {μ : Mem} {P : D → Mem → Prop} {E : Ex → Mem → Prop} : wr (eLcTN vs f mi mt me ρ μ) P E = wr (mi ρ μ) (fun ds μ1 => wr (lcTN vs f mt me ρ ds [] μ1) P E) E := wr_bnd
end
/-! ### dict(pairs), the keys are tuples -/
/-- a pair of a tuple and a value -/
def pairT : D → Option (List Key × D)
  | .tup [k, d] => (tkD k).map fun ks => (ks, d)
  | _ => none
def pairsT : List D → Option (List (List Key × D))
  | [] => some []
  | x :: xs => match pairT x, pairsT xs with
    | some p, some ps => some (p :: ps)
    | _, _ => none
def putAll (acc ps : List (List Key × D)) : List (List Key × D) := ps.foldl (fun a p => putT a p.1 p.2) acc
def dictM (ds : List D) : M D := fun μ => match ds with
  | [.lst xs] => (match pairsT xs with
    | some ps => if ps.length ≤ 100000 then .ok (.loc μ.length) (μ ++ [.dT (putAll [] ps)]) else .bad
    | none => .bad)
  | _ => .bad
/-- the pairs in the heap -/
inductive PTs (K : PySem.W.Frag) (H : Hp) : List V → List (List Key × Addr × V) → Prop
  | nil : PTs K H [] []
  | cons {p q : Addr} {ks : List Key} {v : V} {vs : List V} {ts : List (List Key × Addr × V)} : SqT K H p [.ref q, v] → SqT K H q (ks.map kV) → PTs K H vs ts → PTs K H (.ref p :: vs) ((ks, q, v) :: ts)
inductive RVs : List (List Key × Addr × V) → List (List Key × Addr × Value) → Prop
  | nil : RVs [] []
  | cons {k : List Key} {q : Addr} {v : V} {u : Value} {ts : List (List Key × Addr × V)} {xs : List (List Key × Addr × Value)} : RelV v u → RVs ts xs → RVs ((k, q, v) :: ts) ((k, q, u) :: xs)
def rDictT (K : PySem.W.Frag) (P : Program) (w : World) : List V → Hp → VK → Prop := fun xs H Q => ∃ (a : Addr) (vs : List V) (ts : List (List Key × Addr × V)), xs = [.ref a] ∧ (H a = some (.lst vs)) ∧ vs.length ≤ 100000 ∧ PTs K H vs ts ∧
  ∀ p us, H p = none → (p == sysModules) = false → RVs ts us → Q (.ref p) (upd H p (dctO P w p (storedAllH [] us)))
section
variable {X : Cx} {pins : List (Addr × Obj)} {σ : L2.St} {H : Hp} {s : Shared}
theorem pts_raw (I : Inv X pins σ H s) : ∀ {vs : List V} {ts : List (List Key × Addr × V)} {its : List Value}, PTs X.K H vs ts → Vals vs its → ∃ (us : List (List Key × Addr × Value)) (Ts : Nat → Addr), RVs ts us ∧ us.length = its.length ∧ (∀ j x, us[j]? = some x → its[j]? = some (.ref (Ts j)) ∧ IsTup s.heap (Ts j) #[.ref x.2.1, x.2.2] ∧ SqT X.K H x.2.1 (x.1.map kV))
  | _, _, _, .nil, r => by
    cases r
    exact ⟨[], fun _ => 0, .nil, rfl, fun j x h => by simp at h⟩
  | _, _, _, .cons (p := p) (q := q) hp hq t, r => by
    cases r with
    | cons r1 r2 =>
      cases r1
      obtain ⟨us, Ts, h1, h2, h3⟩ := pts_raw I t r2
      obtain ⟨its2, rv2, ht, _⟩ := I.tuple hp
      obtain ⟨u1, u2, ei, ru1, ru2⟩ := vals2 rv2
      subst ei
      cases ru1
      refine ⟨(_, q, u2) :: us, fun j => if j = 0 then p else Ts (j - 1), .cons ru2 h1, by rw [List.length_cons, List.length_cons, h2], fun j x h => ?_⟩
      cases j with
      | zero =>
        cases (show (_, q, u2) = x from Option.some.inj h)
        exact ⟨rfl, ht, hq⟩
      | succ j =>
        obtain ⟨g1, g2, g3⟩ := h3 j x (by simpa using h)
        simp only [Nat.add_one_ne_zero, if_false, Nat.add_sub_cancel]
        exact ⟨by simpa using g1, g2, g3⟩
theorem call_dictT (hc : X.calm = true) (hu : X.A.units + 64 < cLine) : CallR X (.type "dict") (rDictT X.K X.prog X.w) := by
  intro pins s σ H xs us0 Q I r q
  obtain ⟨a, vs, ts, rfl, hs, hz, pt, q⟩ := q
  obtain ⟨u, eu, rx⟩ := vals1 r
  subst eu
  cases rx
  have fin : ∀ (T : String) (its : List Value), Vals vs its → PlainSeq T s.heap a its.toArray → (∀ Ts ps, PairArg X.prog X.w T a (a :: (List.range ps.length).map Ts) [] ps.length (PairRel ps) (fun h => PlainSeq T h a its.toArray ∧ PairItems h its.toArray Ts ps)) →
      wpAny (model X.prog X.w) X.A (call (.type "dict") [.ref a]) (EP X pins σ Q) X.xe s := by
    intro T its rv pl PA0
    obtain ⟨us, Ts, h1, h2, h3⟩ := pts_raw I pt rv
    have hlen : its.length = vs.length := rv.length.symm
    have pi : PairItems s.heap its.toArray Ts (us.map fun x => (Value.ref x.2.1, x.2.2)) := by
      refine ⟨by simp [h2], fun j k v hj => ?_⟩
      rw [List.getElem?_map] at hj
      cases e : us[j]? with
      | none => rw [e] at hj; cases hj
      | some x =>
        rw [e] at hj
        cases hj
        obtain ⟨g1, ⟨o, ho, hcl, n, hd⟩, _⟩ := h3 j x e
        exact ⟨by simpa using g1, .inl ⟨o, ho, hcl, n, hd⟩⟩
    have keyIs : ∀ h' : Heap, (∀ b o, b ≠ s.heap.objs.size → b ∉ ([] : List Addr) → s.heap.get? b = some o → h'.get? b = some o) → ∀ x ∈ us, (tupleKind (mixKind X.prog X.w)).is h' x.1 x.2.1 := by
      intro h' hk x hx
      obtain ⟨j, hj⟩ := List.mem_iff_getElem?.mp hx
      obtain ⟨_, _, g3⟩ := h3 j x hj
      obtain ⟨oc, its3, n, e1, e2, e3, e4⟩ := key_z I g3
      exact ⟨oc, its3, n, hk _ _ (Nat.ne_of_lt (Heap.lt_size e1)) List.not_mem_nil e1, e2, e3, e4⟩
    refine call_dict_pairsH (knd := tupleKind (mixKind X.prog X.w)) (ps := us) (PA0 Ts (us.map fun x => (Value.ref x.2.1, x.2.2))) (I.ok.hd hc) (by show X.A.units + 1 + 1 < cLine; omega) ⟨pl, pi⟩ ⟨by simp, fun i key v hr => ?_⟩ keyIs (by rw [List.length_map, h2, hlen, sizeLine_eq]; omega) fun h' tk dd hk => ?_
    · rw [PairRel, List.getElem?_map] at hr
      cases e : us[i]? with
      | none => rw [e] at hr; cases hr
      | some x =>
        rw [e] at hr
        cases hr
        exact ⟨x.1, x.2.1, rfl, rfl⟩
    · obtain ⟨o, es, ep, g1, g2, g3, g4, _, _⟩ := dd
      have hm : (s.heap.objs.size == sysModules) = false := beq_eq_false_iff_ne.mpr (Nat.ne_of_gt I.big)
      exact ⟨.ref s.heap.objs.size, upd H s.heap.objs.size (dctO X.prog X.w s.heap.objs.size (storedAllH [] us)), I.laid (t' := tk) (fun b o e => hk b o List.not_mem_nil e) (Nat.le_refl _) (dctO_ok ⟨o, es, ep, g1, g2, g3, g4⟩), rfl, q _ us (I.hok.fresh (Nat.le_refl _)) hm h1⟩
  obtain ⟨its, rv, pl, _⟩ := I.list (SqL.of (K := X.K) hs)
  obtain ⟨o, n, ho, hc', hd, hdat⟩ := pl
  exact fin "list" its rv ⟨o, n, ho, hc', hd, hdat⟩ fun Ts ps => PairArg.list a its.toArray Ts ps
end
theorem RpT.all {G : Gx} {φ : Lab} {H : Hp} : ∀ {ps : List (List Key × D)} {us : List (List Key × Addr × Value)} {acc : List (List Key × D)} {xs : List (List Key × Addr × Value)}, RpT G φ H ps us → RpT G φ H acc xs → RpT G φ H (putAll acc ps) (storedAllH xs us)
  | _, _, _, _, .nil, a => a
  | _, _, acc, xs, .cons (k := k) (q := q) (d := d) (u := u) (ds := ds) (xs := xs') hk r rv t, a => by
    show RpT G φ H (putAll (putT acc k d) ds) (storedAllH (storedH xs k q u) xs')
    exact RpT.all t (a.put hk r rv)
theorem putAll_nodup : ∀ (ps acc : List (List Key × D)), (acc.map (·.1)).Nodup → ((putAll acc ps).map (·.1)).Nodup
  | [], _, h => h
  | p :: ps, acc, h => putAll_nodup ps (putT acc p.1 p.2) (putT_nodup h)
theorem putAll_len : ∀ (ps acc : List (List Key × D)), (putAll acc ps).length ≤ acc.length + ps.length
  | [], _ => Nat.le_refl _
  | p :: ps, acc => by
    have h1 := putAll_len ps (putT acc p.1 p.2)
    have h2 := putT_len acc p.1 p.2
    show (putAll (putT acc p.1 p.2) ps).length ≤ _
    rw [List.length_cons]
    omega
theorem pairs_v {G : Gx} {φ : Lab} {H : Hp} : ∀ {ds : List D} {vs : List V} {ps : List (List Key × D)}, RpL G φ H ds vs → pairsT ds = some ps → ∃ ts, PTs G.K H vs ts ∧ ∀ us, RVs ts us → RpT G φ H ps us
  | _, _, _, .nil, h => by
    cases h
    exact ⟨[], .nil, fun us r => by cases r; exact .nil⟩
  | d :: ds, v :: vs, ps, .cons r t, h => by
    unfold pairsT at h
    cases q1 : pairT d with
    | none => rw [q1] at h; cases h
    | some p =>
      cases q2 : pairsT ds with
      | none => rw [q1, q2] at h; cases h
      | some ps2 =>
        rw [q1, q2] at h
        cases h
        obtain ⟨ts, h1, h2⟩ := pairs_v t q2
        unfold pairT at q1
        split at q1
        · rename_i k d'
          cases r with
          | tup hs rl =>
            cases rl with
            | cons rk rl =>
              cases rl with
              | cons rd rl =>
                cases rl
                obtain ⟨ks, e1, e2⟩ := Option.map_eq_some_iff.mp q1
                subst e2
                obtain ⟨b, rfl, hb⟩ := tkD_v rk e1
                exact ⟨(ks, b, _) :: ts, .cons hs.t hb.t h1, fun us ru => by
                  cases ru with
                  | cons ru1 ru2 => exact .cons hb rd ru1 (h2 _ ru2)⟩
        · cases q1
theorem pairs_len : ∀ {ds : List D} {ps : List (List Key × D)}, pairsT ds = some ps → ds.length = ps.length
  | [], _, h => by cases h; rfl
  | d :: ds, ps, h => by
    unfold pairsT at h
    cases q1 : pairT d with
    | none => rw [q1] at h; cases h
    | some p =>
      cases q2 : pairsT ds with
      | none => rw [q1, q2] at h; cases h
      | some ps2 =>
        rw [q1, q2] at h
        cases h
        rw [List.length_cons, List.length_cons, pairs_len q2]
theorem dictT_i {X : Cx} {Γ : Gs} (h0 : Γ.off = Γ) : CallI (X.G Γ) dictM (rDictT X.K X.prog X.w) := by
  intro φ μ H a x Q E R ra p
  have fin : ∀ {ad : Addr} {xs : List D} {vs : List V} {ps : List (List Key × D)}, pairsT xs = some ps → RpL (X.G Γ) φ H xs vs → ps.length ≤ 100000 → H ad = some (.lst vs) →
      Post (X.G Γ) (tieD (X.G Γ)) φ H (.ok (.loc μ.length) (μ ++ [.dT (putAll [] ps)])) Q E → rDictT X.K X.prog X.w [.ref ad] H Q := by
    intro ad xs vs ps hp rl hz hs p
    obtain ⟨ts, h1, h2⟩ := pairs_v rl hp
    refine ⟨ad, vs, ts, rfl, hs, by rw [← rl.length, pairs_len hp]; exact hz, h1, fun b us hb hm ru => ?_⟩
    have eo : (X.G Γ).off = X.G Γ := Gx.off_eq (G := X.G Γ) h0
    have T : RpT (X.G Γ).off φ H (putAll [] ps) (storedAllH [] us) := by
      rw [eo]
      exact RpT.all (h2 us ru) .nil
    have gl : Grow φ H (φ.add b) (upd H b (dctO X.prog X.w b (storedAllH [] us))) := Grow.newl hb
    refine p _ _ _ gl (R.newO hb ⟨storedAllH [] us, upd_same, hm, ?_, putAll_nodup ps [] List.nodup_nil, T.growW gl.w⟩) (.loc (by show (φ.l ++ [_])[_]? = _; rw [List.getElem?_append_right (by rw [R.len]; exact Nat.le_refl _), R.len]; simp))
    have := putAll_len ps []
    rw [List.length_nil] at this
    rw [sizeLine_eq]
    omega
  unfold dictM at p
  split at p
  · rename_i xs
    obtain ⟨v, rfl, r1⟩ := ra.one
    cases q : pairsT xs with
    | none => rw [q] at p; exact p.elim
    | some ps =>
      rw [q] at p
      dsimp only at p
      by_cases c : ps.length ≤ 100000
      · rw [if_pos c] at p
        cases r1 with
        | lst h1 n1 rl => exact fin q rl c h1 p
      · rw [if_neg c] at p
        exact p.elim
  · exact p.elim
/-! ### comprehensions over a list that changes -/
/-- by its places -/
def lcI (i l : Nat) (mt : Ev → M Bool) (me : Ev → M D) (ρ : Ev) : Nat → Nat → List D → M D
  | 0, _, _ => M.bad
  | n + 1, k, acc => fun μ => match μ[l]? with
    | some (.lst xs) => (match xs[k]? with
      | some d => M.bind (noE (mt ((ρ.set i none).set i (some d)))) (fun b => if b = true then (M.bind (noE (me ((ρ.set i none).set i (some d)))) fun y => if acc.length < 100000 then lcI i l mt me ρ n (k + 1) (acc ++ [y]) else M.bad) else lcI i l mt me ρ n (k + 1) acc) μ
      | none => .ok (.lst acc) μ)
    | _ => .bad
def lcL (i : Nat) (mt : Ev → M Bool) (me : Ev → M D) (ρ : Ev) (d : D) : M D := fun μ => match d with
  | .loc l => (match μ[l]? with
    | some (.lst xs) => lcI i l mt me ρ (xs.length + 1) 0 [] μ
    | _ => .bad)
  | _ => .bad
def eLcL (i : Nat) (ml : Ev → M D) (mt : Ev → M Bool) (me : Ev → M D) : Ev → M D := fun ρ => M.bind (ml ρ) fun d => lcL i mt me ρ d
theorem tLcL_i {X : Cx} {Γ : Gs} {W : WX} {i : Nat} {ml : Ev → M D} {mt : Ev → M Bool} {me : Ev → M D} {σ : L2.St} {H : Hp} {Q : VK} (h : tG (X.G Γ) (tieD (X.G Γ)) W (eLcL i ml mt me) σ H Q) :
    tLc (iList X.K (tG (X.G Γ) (tieD (X.G Γ)) W ml)) (gName i) (tG (X.G Γ) tieB W0 mt) (tG (X.G Γ) (tieD (X.G Γ)) W0 me) [i] σ H Q := by
  refine bE h fun φ1 H1 d x ρ μ1 e1 r1 rd p1 => ?_
  unfold lcL at p1
  split at p1
  · rename_i l
    cases rd with
    | loc hl =>
    rename_i a
    cases q : μ1[l]? with
    | none => rw [q] at p1; exact p1.elim
    | some o =>
    cases o with
    | dT kvs => rw [q] at p1; exact p1.elim
    | fT kvs => rw [q] at p1; exact p1.elim
    | lst xs0 =>
    rw [q] at p1
    dsimp only at p1
    have look : ∀ {φ : Lab} {μ : Mem} {H : Hp} {xs : List D}, Grow φ1 H1 φ H → MemR (X.G Γ) φ μ H → μ[l]? = some (.lst xs) → ∃ vs, H a = some (.lst vs) ∧ RpL (X.G Γ).off φ H xs vs := by
      intro φ μ H xs g r e
      obtain ⟨b, h1, h2⟩ := r.at_ l _ e
      obtain ⟨ψ, ex, _⟩ := g.ex
      have : φ.l[l]? = some a := by
        rw [ex, List.getElem?_append_left (List.getElem?_eq_some_iff.mp hl).1]
        exact hl
      rw [this] at h1
      cases h1
      exact h2
    obtain ⟨vs0, h0, _⟩ := look (Grow.refl _ _) r1 q
    refine ⟨a, rfl, ⟨vs0, SqL.of h0⟩, fun D hD => ?_⟩
    have nD1 : D ∉ φ1.h := fun z => r1.out hD (.inr z)
    have nL1 : D ∉ φ1.l := fun z => r1.out hD (.inl z)
    have gD : Grow φ1 H1 (φ1.hide D) (upd H1 D (.lst [])) := Grow.hide hD
    refine ⟨fun k m H => ∃ φ μ acc av, Grow φ1 H1 φ H ∧ H D = some (.lst av) ∧ D ∈ φ.h ∧ D ∉ φ.l ∧ RpL (X.G Γ) φ H acc av ∧ EvR (X.G Γ) φ H ρ σ ∧ MemR (X.G Γ) φ μ H ∧ Post (X.G Γ) (tieD (X.G Γ)) φ1 H1 (lcI i l mt me ρ m k acc μ) Q fun cls dd H' => W cls dd σ H',
      ⟨xs0.length + 1, φ1.hide D, μ1, [], [], gD, upd_same, List.mem_cons_self, nL1, .nil, e1.grow gD, r1.hide hD, p1⟩, ?_⟩
    rintro k m H ⟨φ, μ, acc, av, g, hDl, hDh, nL, ra, ev, r, p⟩
    cases m with
    | zero => exact p.elim
    | succ m =>
    unfold lcI at p
    cases q1 : μ[l]? with
    | none => rw [q1] at p; exact p.elim
    | some o =>
    cases o with
    | dT kvs => rw [q1] at p; exact p.elim
    | fT kvs => rw [q1] at p; exact p.elim
    | lst xs =>
    rw [q1] at p
    dsimp only at p
    obtain ⟨vs, hv, rl⟩ := look g r q1
    cases q2 : xs[k]? with
    | none =>
      rw [q2] at p
      refine .inl ⟨⟨vs, SqL.of hv, ?_⟩, p (φ.bare D) H (.ref D) (g.bare nD1) r.bare (.lst hDl (bare_out nL) (ra.growW Gw.bare))⟩
      rw [← rl.length]
      exact List.getElem?_eq_none_iff.mp q2
    | some d =>
    rw [q2] at p
    dsimp only at p
    obtain ⟨v, hvk, rv⟩ := rl.get q2
    refine .inr ⟨⟨vs, v, SqL.of hv, hvk⟩, fun H' => ∃ φ μ acc av, Grow φ1 H1 φ H' ∧ H' D = some (.lst av) ∧ D ∈ φ.h ∧ D ∉ φ.l ∧ RpL (X.G Γ) φ H' acc av ∧ EvR (X.G Γ) φ H' ρ σ ∧ MemR (X.G Γ) φ μ H' ∧ Post (X.G Γ) (tieD (X.G Γ)) φ1 H1 (lcI i l mt me ρ m (k + 1) acc μ) Q fun cls dd H' => W cls dd σ H', fun H' w => ⟨m, by omega, w⟩, fun x H2 hy => ?_⟩
    obtain ⟨hy1, hy2⟩ := (show H2 = H ∧ ∀ xs, SqL X.K H a xs → xs[k]? = some x from hy)
    subst hy1
    have hx := hy2 vs (SqL.of hv)
    rw [hvk] at hx
    cases hx
    show wipe ((wipe σ [i]).set i (some v)) [i] = wipe σ [i] ∧ _
    refine ⟨by show ((σ.set i none).set i (some v)).set i none = σ.set i none; rw [List.set_set, List.set_set], ?_⟩
    have evB : EvR (X.G Γ) φ H2 ((ρ.set i none).set i (some d)) ((wipe σ [i]).set i (some v)) := (ev.forget i none).set i rv.on
    have nb : ¬ Post (X.G Γ) (tieD (X.G Γ)) φ1 H1 .bad Q fun cls dd H' => W cls dd σ H' := fun z => z
    refine bN (T := tieB) (fun r => Post (X.G Γ) (tieD (X.G Γ)) φ1 H1 r Q fun cls dd H' => W cls dd σ H') nb evB r p fun φ3 H3 b b' μ3 g3 e3 r3 eb p3 => ?_
    cases (show b' = b from eb)
    have G3 := g.trans g3
    have tb : ∀ {vs : List V} ps, HO.lst vs ≠ .tbl ps := fun _ z => nomatch z
    have hD3 := g3.kp _ _ hDl nL tb
    have nD3 := g3.outL hDl tb nL
    have hH3 := g3.hs _ hDh
    cases b with
    | false =>
      show ∃ _, _
      exact ⟨φ3, μ3, acc, av, G3, hD3, hH3, nD3, ra.grow g3, ev.grow g3, r3, p3⟩
    | true =>
      rw [if_pos rfl] at p3
      show tG _ _ _ _ _ _ _
      refine bN (T := tieD (X.G Γ)) (fun r => Post (X.G Γ) (tieD (X.G Γ)) φ1 H1 r Q fun cls dd H' => W cls dd σ H') nb e3 r3 p3 fun φ4 H4 y yv μ4 g4 e4 r4 ry p4 => ?_
      have hD4 := g4.kp _ _ hD3 nD3 tb
      have nD4 := g4.outL hD3 tb nD3
      have hH4 := g4.hs _ hH3
      by_cases hl : acc.length < 100000
      · rw [if_pos hl] at p4
        have rav := (ra.grow g3).grow g4
        refine ⟨av, hD4, by rw [← rav.length, sizeLine_eq]; omega, ?_⟩
        have g5 : Gw φ4 H4 φ4 (upd H4 D (.lst (av ++ [yv]))) := Gw.wrH hH4
        exact ⟨φ4, μ4, acc ++ [y], av ++ [yv], (G3.trans g4).wrNew hD, upd_same, hH4, nD4, (rav.append (.cons ry .nil)).growW g5, ((ev.grow g3).grow g4).growW g5, r4.wrH hH4 nD4, p4⟩
      · rw [if_neg hl] at p4
        exact p4.elim
  · exact p1.elim
section
variable {X : Cx} {Γ : Gs} {W : WX} {elt iter : Expr} {ifs : List Expr} {x : Str} {i : Nat} {scope : Scope} {p1 pos : Pos} {ml : Ev → M D} {mt : Ev → M Bool} {me : Ev → M D}
/-- [elt for x in l if ..], l a list that changes -/
theorem j_lcL (hc : X.calm = true) (hN : X.N.Nodup) (hi : JE X Γ W iter ml) (ok : blkC X.N X.env.scope scope [(x, i)] = true)
    (hg : ∀ (s : Shared) (H : Hp) (C : Addr) (cl : List (Str × Addr)) (fp : List Addr), PG (X.blk s H scope (compEnvC scope cl C X.env) fp) (.Name x p1) (gName i))
    (ht : ∀ (s : Shared) (H : Hp) (C : Addr) (cl : List (Str × Addr)) (fp : List Addr), JTs (X.blk s H scope (compEnvC scope cl C X.env) fp) Γ ifs mt)
    (he : ∀ (s : Shared) (H : Hp) (C : Addr) (cl : List (Str × Addr)) (fp : List Addr), JE (X.blk s H scope (compEnvC scope cl C X.env) fp) Γ W0 elt me) (hs : ∀ x, foldedSetIterable iter X.env x = pure x := by intro _; rfl) :
    JE X Γ W (.ListComp elt [⟨.Name x p1, iter, ifs, 0⟩] scope pos) (eLcL i ml mt me) :=
  pe_w (pe_lc (own := [(x, i)]) (g := gName i) hc hN (pi_list hi) (blkOk_by ok) hg ht he hs) fun σ H Q h => tLcL_i h
theorem s_setLcL {j : Nat} {y : Str} {py spos : Pos} (hc : X.calm = true) (hN : X.N.Nodup) (hy : X.N[j]? = some y) (hyl : X.env.scope.names.lookup y = some .local)
    (hsw : swapsWith (.ListComp elt [⟨.Name x p1, iter, ifs, 0⟩] scope pos) (some (.Name y py)) spos.line X.env = pure true) (hi : JE X Γ W iter ml) (ok : blkC X.N X.env.scope scope [(x, i)] = true)
    (hg : ∀ (s : Shared) (H : Hp) (C : Addr) (cl : List (Str × Addr)) (fp : List Addr), PG (X.blk s H scope (compEnvC scope cl C X.env) fp) (.Name x p1) (gName i))
    (ht : ∀ (s : Shared) (H : Hp) (C : Addr) (cl : List (Str × Addr)) (fp : List Addr), JTs (X.blk s H scope (compEnvC scope cl C X.env) fp) Γ ifs mt)
    (he : ∀ (s : Shared) (H : Hp) (C : Addr) (cl : List (Str × Addr)) (fp : List Addr), JE (X.blk s H scope (compEnvC scope cl C X.env) fp) Γ W0 elt me) (hs : ∀ x, foldedSetIterable iter X.env x = pure x := by intro _; rfl) :
    JS X Γ W (.Assign [.Name y py] (.ListComp elt [⟨.Name x p1, iter, ifs, 0⟩] scope pos) spos) (sSet j (eLcL i ml mt me)) :=
  ps_w (ps_setLc (own := [(x, i)]) (g := gName i) hc hN hy hyl hsw (pi_list hi) (blkOk_by ok) hg ht he hs) fun Z σ H h => by
    obtain ⟨φ, ρ, μ, ev, r, p⟩ := h
    exact tLcL_i (bS ev r p fun φ1 H1 d v μ1 g e1 r1 rv p1 => p1 φ1 H1 _ (Grow.refl _ _) r1 (e1.set j rv))
end
theorem wr_eLcL {i : Nat} {ml : Ev → M D} {mt : Ev → M Bool} {me : Ev → M D} {ρ : Ev} {μ : Mem} {P : D → Mem → Prop} {E : Ex → Mem → Prop} : wr (eLcL i ml mt me ρ μ) P E = wr (ml ρ μ) (fun d μ1 => wr (lcL i mt me ρ d μ1) P E) E := wr_bnd
theorem lcI_map {i l : Nat} {me : Ev → M D} {ρ : Ev} {μ : Mem} {xs : List D} {g : D → D} (hm : μ[l]? = some (.lst xs)) (h : ∀ d ∈ xs, me ((ρ.set i none).set i (some d)) μ = .ok (g d) μ) (hx : xs.length ≤ 100000) : ∀ (n k : Nat) (acc : List D), k + n = xs.length + 1 → k ≤ xs.length → acc.length = k → lcI i l bYes me ρ n k acc μ = .ok (.lst (acc ++ (xs.drop k).map g)) μ
  | 0, k, acc, h1, h2, _ => by omega
  | n + 1, k, acc, h1, h2, h3 => by
    unfold lcI
    rw [hm]
    dsimp only
    by_cases hk : k < xs.length
    · rw [List.getElem?_eq_getElem hk]
      dsimp only
      unfold M.bind noE
      dsimp only [bYes, M.pure]
      rw [if_pos rfl, h _ (List.getElem_mem hk)]
      dsimp only
      rw [if_pos (by omega), lcI_map hm h hx n (k + 1) _ (by omega) (by omega) (by simp [h3]), List.drop_eq_getElem_cons hk, List.append_assoc]
      rfl
    · rw [List.getElem?_eq_none (by omega)]
      dsimp only
      rw [List.drop_of_length_le (by omega), List.map_nil, List.append_nil]
theorem lcL_map {i l : Nat} {me : Ev → M D} {ρ : Ev} {μ : Mem} {xs : List D} {g : D → D} (hm : μ[l]? = some (.lst xs)) (h : ∀ d ∈ xs, me ((ρ.set i none).set i (some d)) μ = .ok (g d) μ) (hx : xs.length ≤ 100000) : lcL i bYes me ρ (.loc l) μ = .ok (.lst (xs.map g)) μ := by
  unfold lcL
  dsimp only
  rw [hm]
  dsimp only
  rw [lcI_map hm h hx _ 0 [] (by omega) (by omega) rfl]
  rfl
end SE

/-! SEA: sorted(list). -/
namespace SE
open PySem PySem.Spec PyProof.Rows L2
/-- what may be sorted -/
structure SortOk (xs : List D) : Prop where
  p : isPL xs = true
  a : PySem.W.AllAlike (xs.map dP)
  k : PySem.W.Sortable (xs.map dP)
  d : ∀ x ∈ xs, (dP x).depth ≤ 50
  l : xs.length ≤ 100000
noncomputable def sortL (xs : List D) : List D := xs.mergeSort (PySem.W.dataLe false dP)
open Classical in
noncomputable def sortM (ds : List D) : M D := fun μ => match ds with
  | [d] => (match lsAt μ d with
    | some xs => if SortOk xs then .ok (.lst (sortL xs)) μ else .bad
    | none => .bad)
  | _ => .bad
/-- data and values, side by side, sorted by the data -/
noncomputable def sortZ (zs : List (D × V)) : List (D × V) := zs.mergeSort (PySem.W.dataLe false fun z => dP z.1)
theorem sortZ_1 (zs : List (D × V)) : (sortZ zs).map (·.1) = sortL (zs.map (·.1)) := List.map_mergeSort fun a _ b _ => rfl
theorem isPL_mem : ∀ {ds : List D}, isPL ds = true → ∀ d ∈ ds, isP d = true
  | d :: ds, h, x, hx => by
    obtain ⟨h1, h2⟩ := andB (show (isP d && isPL ds) = true from h)
    rcases List.mem_cons.mp hx with rfl | hx
    · exact h1
    · exact isPL_mem h2 x hx
def rSort (G : Gx) : List V → Hp → VK → Prop := fun xs H Q => ∃ (φ : Lab) (a : Addr) (vs : List V) (ds : List D), xs = [.ref a] ∧ H a = some (.lst vs) ∧ RpL G φ H ds vs ∧ SortOk ds ∧
  ∀ l, H l = none → Q (.ref l) (upd H l (.lst ((sortZ (ds.zip vs)).map (·.2))))
section
variable {X : Cx} {Γ : Gs} {pins : List (Addr × Obj)} {σ : L2.St} {H : Hp} {s : Shared}
theorem each_zip {G : Gx} {φ : Lab} (I : Inv X pins σ H s) (hG : X.K = G.K) : ∀ {ds : List D} {vs : List V} {us : List Value}, RpL G φ H ds vs → Vals vs us → isPL ds = true → PySem.W.EachIs (fun u (z : D × V) => RelV z.2 u ∧ ∃ as, Reads s.heap u (dP z.1) as) us (ds.zip vs)
  | _, _, _, .nil, r, _ => by
    cases r
    exact .nil
  | _, _, _, .cons (d := d) (ds := ds) r t, rv, hp => by
    obtain ⟨p1, p2⟩ := andB (show (isP d && isPL ds) = true from hp)
    cases rv with
    | cons r1 r2 =>
      have h2 := Rp.dp r p1
      rw [← hG] at h2
      exact .cons ⟨r1, Dp.reads I (dP d) _ _ h2 r1⟩ (each_zip I hG t r2 p2)
theorem zip_fst {G : Gx} {φ : Lab} : ∀ {ds : List D} {vs : List V}, RpL G φ H ds vs → (ds.zip vs).map (·.1) = ds ∧ (ds.zip vs).map (·.2) = vs ∧ ∀ z ∈ ds.zip vs, Rp G φ H z.1 z.2
  | _, _, .nil => ⟨rfl, rfl, fun z hz => absurd hz List.not_mem_nil⟩
  | _, _, .cons (d := d) (ds := ds) r t => by
    obtain ⟨h1, h2, h3⟩ := zip_fst t
    refine ⟨by simp [h1], by simp [h2], fun z hz => ?_⟩
    rcases List.mem_cons.mp hz with rfl | hz
    · exact r
    · exact h3 z hz
theorem rpl_zip {G : Gx} {φ : Lab} : ∀ {zs : List (D × V)}, (∀ z ∈ zs, Rp G φ H z.1 z.2) → RpL G φ H (zs.map (·.1)) (zs.map (·.2))
  | [], _ => .nil
  | z :: zs, h => .cons (h z List.mem_cons_self) (rpl_zip fun y hy => h y (List.mem_cons_of_mem _ hy))
theorem vals_each {R : Value → D × V → Prop} (hR : ∀ u z, R u z → RelV z.2 u) : ∀ {us : List Value} {zs : List (D × V)}, PySem.W.EachIs R us zs → Vals (zs.map (·.2)) us
  | _, _, .nil => .nil
  | _, _, .cons h t => .cons (hR _ _ h) (vals_each hR t)
theorem zip_len {G : Gx} {φ : Lab} {ds : List D} {vs : List V} (r : RpL G φ H ds vs) : (ds.zip vs).length = ds.length := by
  have := (zip_fst r).1
  rw [← List.length_map (·.1), this]
theorem zip_map {G : Gx} {φ : Lab} {ds : List D} {vs : List V} (r : RpL G φ H ds vs) : (ds.zip vs).map (fun z => dP z.1) = ds.map dP := by
  rw [← (zip_fst r).1, List.map_map, (zip_fst r).1]
  rfl
theorem call_sorted (hu : X.A.units + 64 < cLine) : CallR X (.builtin "sorted") (rSort (X.G Γ)) := by
  intro pins s σ H xs us Q I r h
  obtain ⟨φ, a, vs, ds, rfl, ha, rl, ok, q⟩ := h
  obtain rfl := Vals.ref1 r
  obtain ⟨its, rv, hl, hz⟩ := I.list (SqL.of ha)
  have ez := each_zip (G := X.G Γ) I rfl rl rv ok.p
  refine PySem.W.sorted_data (bs := ds.zip vs) (enc := fun z => dP z.1) hl.isList ez (ez.mono fun _ _ h => h.2) ?_ ?_ ?_ ?_ fun out hlen hout => ?_
  · rw [zip_map rl]; exact ok.a
  · rw [zip_map rl]; exact ok.k
  · rw [zip_len rl, sizeLine_eq]
    have := ok.l
    omega
  · intro b hb
    have hm : b.1 ∈ ds := by
      have hm : b.1 ∈ (ds.zip vs).map (fun z : D × V => z.1) := List.mem_map.mpr ⟨b, hb, rfl⟩
      rw [(zip_fst rl).1] at hm
      exact hm
    have := ok.d _ hm
    show X.A.units + 2 + (dP b.1).depth < cLine
    omega
  · obtain ⟨eF, heF⟩ := sortedAll_at s.heap its out.toArray
    have k : ∀ b o, s.heap.get? b = some o → (sortedAll s.heap its out.toArray).get? b = some o := fun b o e => sortedAll_old e
    have I1 : Inv X pins σ H { s with heap := sortedAll s.heap its out.toArray } := I.kept (t' := s.toks) k
    have hn0 : H (s.heap.objs.size + 1) = none := I.hok.fresh (by omega)
    have rv2 : Vals ((sortZ (ds.zip vs)).map (·.2)) out := vals_each (fun _ _ h => h.1) hout
    have hlen2 : ((sortZ (ds.zip vs)).map (·.2)).length ≤ sizeLine := by
      rw [rv2.length, hlen, zip_len rl, sizeLine_eq]
      have := ok.l
      omega
    have I2 : Inv X pins σ (upd H (s.heap.objs.size + 1) (.lst ((sortZ (ds.zip vs)).map (·.2)))) { s with heap := sortedAll s.heap its out.toArray } :=
      I1.take (h' := sortedAll s.heap its out.toArray) (t' := s.toks) (fun b ob _ e => e) (I.fpOk (by omega) hn0) ⟨hlen2, out, eF, rv2, heF⟩
    exact ⟨.ref _, _, I2, rfl, q _ hn0⟩
end
theorem sort_i {G : Gx} (h0 : G.s.off = G.s) : CallI G sortM (rSort G) := by
  intro φ μ H a x Q E R ra p
  unfold sortM at p
  split at p
  · rename_i d
    obtain ⟨v, rfl, r1⟩ := ra.one
    cases q : lsAt μ d with
    | none => rw [q] at p; exact p.elim
    | some xs =>
      rw [q] at p
      dsimp only at p
      obtain ⟨a, vs, rfl, h1, rl⟩ := lsAt_v h0 r1 R q
      by_cases c : SortOk xs
      · rw [if_pos c] at p
        refine ⟨φ, a, vs, xs, rfl, h1, rl, c, fun l hl => ?_⟩
        have g := Grow.laid (φ := φ) (o := .lst ((sortZ (xs.zip vs)).map (·.2))) hl
        have rl2 : RpL G φ H (sortL xs) ((sortZ (xs.zip vs)).map (·.2)) := by
          have := rpl_zip (G := G) (φ := φ) (H := H) (zs := sortZ (xs.zip vs)) fun z hz => (zip_fst rl).2.2 z ((List.mergeSort_perm _ _).mem_iff.mp hz)
          rw [sortZ_1, (zip_fst rl).1] at this
          exact this
        exact p φ _ _ g (R.laid hl) (.lst upd_same (R.out hl) (rl2.grow g))
      · rw [if_neg c] at p
        exact p.elim
  · exact p.elim
theorem sortM_v {xs : List D} {μ : Mem} (h : SortOk xs) : sortM [.lst xs] μ = .ok (.lst (sortL xs)) μ := by
  show (open Classical in if SortOk xs then Res.ok (D.lst (sortL xs)) μ else .bad) = _
  rw [if_pos h]
end SE

/-! SEB: sorted(d.items()). -/
namespace SE
open PySem PySem.Spec PyProof.Rows L2
def kD : Key → D
  | .inl i => .int i
  | .inr z => .str z
def prD (e : List Key × D) : D := .tup [.tup (e.1.map kD), e.2]
mutual
/-- no lists, no dicts -/
def flatP : PyData → Bool
  | .list _ => false
  | .dict _ => false
  | .tuple xs => flatPL xs
  | _ => true
def flatPL : List PyData → Bool
  | [] => true
  | x :: xs => flatP x && flatPL xs
end
mutual
theorem reads_flat {h : Heap} : ∀ (d : PyData) (v : Value) (as : List Addr), flatP d = true → Reads h v d as → as = []
  | .none, v, as, _, r => by cases r; rfl
  | .bool _, v, as, _, r => by cases r; rfl
  | .int _, v, as, _, r => by cases r; rfl
  | .str _, v, as, _, r => by cases r; rfl
  | .list _, v, as, p, r => by cases p
  | .dict _, v, as, p, r => by cases p
  | .tuple xs, v, as, p, r => by
    cases r with
    | tuple h1 h2 h3 h4 => exact reads_flatL xs _ _ p h4
theorem reads_flatL {h : Heap} : ∀ (ds : List PyData) (vs : List Value) (as : List Addr), flatPL ds = true → ReadsAll h vs ds as → as = []
  | [], vs, as, _, r => by cases r; rfl
  | d :: ds, vs, as, p, r => by
    obtain ⟨p1, p2⟩ := andB (show (flatP d && flatPL ds) = true from p)
    cases r with
    | cons r1 r2 => rw [reads_flat d _ _ p1 r1, reads_flatL ds _ _ p2 r2]; rfl
end
structure ItOk (kvs : List (List Key × D)) : Prop where
  s : SortOk (kvs.map prD)
  f : ∀ x ∈ kvs.map prD, flatP (dP x) = true
open Classical in
noncomputable def sortItM (d : D) : M D := fun μ => match dctAt μ d with
  | some kvs => if ItOk kvs then .ok (.lst (sortL (kvs.map prD))) μ else .bad
  | none => .bad
theorem sortItM_v {kvs : List (List Key × D)} {μ : Mem} {l : Nat} (hm : μ[l]? = some (.dT kvs)) (h : ItOk kvs) : sortItM (.loc l) μ = .ok (.lst (sortL (kvs.map prD))) μ := by
  have e : dctAt μ (.loc l) = some kvs := by
    unfold dctAt
    simp only [hm]
  unfold sortItM
  rw [e]
  show (open Classical in if ItOk kvs then Res.ok (D.lst (sortL (kvs.map prD))) μ else .bad) = _
  rw [if_pos h]
section
variable {G : Gx} {φ : Lab} {H H' : Hp} {μ : Mem}
theorem Grow.more (k : ∀ b o, H b = some o → H' b = some o) : Grow φ H φ H' :=
  ⟨⟨[], by simp, fun _ z => nomatch z⟩, fun _ z n => absurd z n, fun _ z => z, fun b u e _ _ => k b u e, fun b u e t => ⟨u, k b u e, t⟩, fun b o u e => k b _ e⟩
theorem RpT.get : ∀ {kvs : List (List Key × D)} {xs : List (List Key × Addr × Value)}, RpT G φ H kvs xs → ∀ (j : Nat) (x : List Key × Addr × Value), xs[j]? = some x → ∃ e, kvs[j]? = some e ∧ x.1 = e.1 ∧ SqTz G.K φ H x.2.1 (x.1.map kV) ∧ ∃ v, Rp G φ H e.2 v ∧ RelV v x.2.2
  | _, _, .nil, j, x, e => by simp at e
  | _, _, .cons h r rv t, 0, x, e => by
    cases e
    exact ⟨_, rfl, rfl, h, _, r, rv⟩
  | _, _, .cons h r rv t, j + 1, x, e => by
    obtain ⟨e1, h1, h2⟩ := RpT.get t j x (by simpa using e)
    exact ⟨e1, by simpa using h1, h2⟩
theorem kD_rp : ∀ ks : List Key, RpL G φ H (ks.map kD) (ks.map kV)
  | [] => .nil
  | .inl i :: ks => .cons (.int i) (kD_rp ks)
  | .inr z :: ks => .cons (.str z) (kD_rp ks)
theorem rpl_of : ∀ {ds : List D} {vs : List V}, ds.length = vs.length → (∀ (j : Nat) (d : D) (v : V), ds[j]? = some d → vs[j]? = some v → Rp G φ H d v) → RpL G φ H ds vs
  | [], [], _, _ => .nil
  | d :: ds, v :: vs, hl, h => .cons (h 0 d v rfl rfl) (rpl_of (by simpa using hl) fun j a b e1 e2 => h (j + 1) a b (by simpa using e1) (by simpa using e2))
end
/-- d.items() -/
def rItemsO (K : PySem.W.Frag) (P : Program) (w : World) : V → List V → Hp → VK → Prop := fun x xs H Q => ∃ (a : Addr) (zs : List (List Key × Addr × Value)), x = .ref a ∧ xs = [] ∧ DR K P w H a zs ∧ ∀ p, H p = none → Q (.ref p) (upd H p (DX.itemsO p a))
section
variable {X : Cx} {Γ : Gs}
theorem mt_itemsO : MtR X "dict.items" (rItemsO X.K X.prog X.w) := by
  intro pins s σ H x xs v us Q I rx rxs h
  obtain ⟨a, zs, rfl, rfl, D, q⟩ := h
  cases rx
  cases rxs
  obtain ⟨o, es, ep, ho, hx, hdat, _⟩ := D.is I
  refine DT.callItems (es := es) (ep := ep) D.ns ⟨o, ho, hx, hdat⟩ ?_
  have hf : H s.heap.objs.size = none := I.hok.fresh (Nat.le_refl _)
  exact ⟨.ref s.heap.objs.size, upd H s.heap.objs.size (DX.itemsO s.heap.objs.size a), I.laid (t' := s.toks) (fun b u e => Heap.get?_push_of_some _ e) (Nat.le_refl _) (DX.itemsO_ok (Heap.get?_push_size _ rfl)), rfl, q _ hf⟩
def rSortIt (G : Gx) : List V → Hp → VK → Prop := fun xs H Q => ∃ (φ : Lab) (μ : Mem) (p a : Addr) (zs : List (List Key × Addr × Value)) (kvs : List (List Key × D)), xs = [.ref p] ∧ MemR G φ μ H ∧ H p = some (DX.itemsO p a) ∧ DR G.K G.P G.w H a zs ∧ RpT G φ H kvs zs ∧ ItOk kvs ∧
  ∀ (H' : Hp) (l : Addr) (vs : List V), (∀ b o, H b = some o → H' b = some o) → H l = none → H' l = some (.lst vs) → RpL G φ H' (sortL (kvs.map prD)) vs → Q (.ref l) H'
theorem call_sortIt (hc : X.calm = true) (hu : X.A.units + 64 < cLine) : CallR X (.builtin "sorted") (rSortIt (X.G Γ)) := by
  intro pins s σ H xs us Q I r h
  obtain ⟨φ, μ, p, a, zs, kvs, rfl, R, hp, D, T, ok, q⟩ := h
  obtain rfl := Vals.ref1 r
  have view : s.heap.IsItemsView p a := (show ObjOk X.prog X.w H s.heap p (DX.itemsO p a) from I.hok p _ hp).1
  obtain ⟨o, es, ep, ho, hx, hdat, hes⟩ := (D.ok I).1
  have l2 : es.size = zs.length := size_of_entries hes
  have l3 := T.len
  have l4 : kvs.length ≤ 100000 := by
    have := ok.s.l
    rw [List.length_map] at this
    exact this
  have hh : X.A.handled = none := I.ok.hd hc
  refine DT.sortedI (es := es) (ep := ep) hh view ⟨o, ho, hx, hdat⟩ (by rw [sizeLine_eq]; omega) fun h' tk as hk hlt hl hG => ?_
  have lak : as.length = zs.length := by omega
  have nd : as.Nodup := List.Pairwise.imp (fun h => Nat.ne_of_lt h) hG.rise
  -- the pairs that were made
  have pr : ∀ (j : Nat) (b : Addr), as[j]? = some b → ∃ x, zs[j]? = some x ∧ h'.get? b = some { cls := .type "tuple", data := .seq #[Value.ref x.2.1, x.2.2] } := by
    intro j b hj
    obtain ⟨en, he, hg⟩ := hG.pairs j b hj
    rw [entry_at hes j] at he
    cases hxj : zs[j]? with
    | none => rw [hxj] at he; cases he
    | some x =>
      rw [hxj] at he
      have een : entryOfKey (tupleKind (mixKind X.prog X.w)) x = en := Option.some.inj he
      refine ⟨x, rfl, ?_⟩
      rw [hg, ← een]
      rfl
  have ne0 : ∀ b o, h'.get? b = some o → b ≠ h'.objs.size := fun b o e => Nat.ne_of_lt (Heap.lt_size e)
  have hob : (h'.push { cls := .type "list", data := .seq (as.map Value.ref).toArray }).get? h'.objs.size = some (seqObj "list" (as.map Value.ref).toArray 0) := Heap.get?_push_size _ rfl
  have kb : ∀ b o, s.heap.get? b = some o → (h'.push { cls := .type "list", data := .seq (as.map Value.ref).toArray }).get? b = some o := fun b o e => Heap.get?_push_of_some _ (hk b o e)
  have ka : ∀ b o, h'.get? b = some o → (h'.push { cls := .type "list", data := .seq (as.map Value.ref).toArray }).get? b = some o := fun b o e => Heap.get?_push_of_some _ e
  generalize h'.push { cls := .type "list", data := .seq (as.map Value.ref).toArray } = h2 at hob kb ka
  -- the pairs, tracked at any later heap
  have track : ∀ (hF : Heap) (H1 : Hp), (∀ b o, H b = some o → H1 b = some o) → (∀ b ∈ as, H1 b = none) → (∀ b o, h'.get? b = some o → hF.get? b = some o) → Inv X pins σ H1 { s with heap := hF, toks := tk } →
      ∃ H2, Inv X pins σ H2 { s with heap := hF, toks := tk } ∧ (∀ b o, H1 b = some o → H2 b = some o) ∧ RpL (X.G Γ) φ H2 (kvs.map prD) (as.map V.ref) := by
    intro hF H1 hH1 hno kF I1
    obtain ⟨H2, I3, g, qt⟩ := DX.takeT (P := fun b vs => ∃ (j : Nat) (x : List Key × Addr × Value) (v : V), as[j]? = some b ∧ zs[j]? = some x ∧ vs = [.ref x.2.1, v] ∧ (∃ e, kvs[j]? = some e ∧ x.1 = e.1 ∧ SqTz X.K φ H x.2.1 (x.1.map kV) ∧ Rp (X.G Γ) φ H e.2 v)) I as H1 I1 nd fun b hb => by
      obtain ⟨j, hj⟩ := List.mem_iff_getElem?.mp hb
      obtain ⟨x, hxj, hg⟩ := pr j b hj
      obtain ⟨e, he, ek, hsq, v, rv, rl⟩ := T.get j x hxj
      have hbl : s.heap.objs.size ≤ b := Nat.le_of_lt (hG.above b hb)
      exact ⟨hbl, hno b hb, [.ref x.2.1, v], ⟨j, x, v, hj, hxj, rfl, e, he, ek, hsq, rv⟩, fun H3 => ⟨(by rw [sizeLine_eq]; show 2 ≤ 16777216; omega), [Value.ref x.2.1, x.2.2], .cons rfl (.cons rl .nil), ⟨_, kF _ _ hg, rfl, 0, rfl⟩⟩⟩
    have gm : Grow φ H φ H2 := Grow.more fun b o e => g b o (hH1 b o e)
    refine ⟨H2, I3, g, rpl_of (by rw [List.length_map, List.length_map]; omega) fun j d v e1 e2 => ?_⟩
    rw [List.getElem?_map] at e1 e2
    cases ej : as[j]? with
    | none => rw [ej] at e2; cases e2
    | some b =>
    rw [ej] at e2
    cases e2
    obtain ⟨vs, ⟨i, x, v, i1, i2, rfl, e, he, ek, hsq, rv⟩, hH⟩ := qt b (List.mem_of_getElem? ej)
    have eij : j = i := (List.getElem?_inj (List.getElem?_eq_some_iff.mp ej).1 nd).mp (ej.trans i1.symm)
    subst eij
    rw [he] at e1
    cases e1
    have hout : b ∉ φ := R.out (by
      have hb := List.mem_of_getElem? ej
      exact I.hok.fresh (Nat.le_of_lt (hG.above b hb)))
    refine .tup (.inl ⟨.inl hH, hout⟩) (.cons (.tup (SqTz.grow gm hsq) ?_) (.cons (rv.grow gm) .nil))
    rw [ek]
    exact kD_rp _
  have fr : ∀ b ∈ as, H b = none := fun b hb => I.hok.fresh (Nat.le_of_lt (hG.above b hb))
  -- before the sort
  obtain ⟨Ha, Ia, _, rla⟩ := track h2 H (fun _ _ e => e) fr ka (I.kept (t' := tk) kb)
  have ez := each_zip (G := X.G Γ) Ia rfl rla (us := as.map Value.ref) (vals_maps V.ref Value.ref as fun _ _ => rfl) ok.s.p
  have hl0 : H h'.objs.size = none := I.hok.fresh (Nat.le_of_lt hlt)
  refine PySem.W.list_sort_data (s := { s with heap := h2, toks := tk }) (bs := (kvs.map prD).zip (as.map V.ref)) (enc := fun z => dP z.1) hob ez ((PySem.W.each_mem ez).mono fun u z hz => ?_) ?_ ?_ ?_ ?_ fun out hlen hout => ?_
  · obtain ⟨⟨_, bs, hr⟩, hz⟩ := hz
    have hm : z.1 ∈ ((kvs.map prD).zip (as.map V.ref)).map (fun z : SE.D × V => z.1) := List.mem_map.mpr ⟨z, hz, rfl⟩
    rw [(zip_fst rla).1] at hm
    have := reads_flat _ _ _ (ok.f _ hm) hr
    subst this
    exact ⟨[], hr, List.not_mem_nil⟩
  · rw [zip_map rla]; exact ok.s.a
  · rw [zip_map rla]; exact ok.s.k
  · rw [zip_len rla, sizeLine_eq, List.length_map]
    omega
  · intro b hb
    have hm : b.1 ∈ ((kvs.map prD).zip (as.map V.ref)).map (fun z : SE.D × V => z.1) := List.mem_map.mpr ⟨b, hb, rfl⟩
    rw [(zip_fst rla).1] at hm
    have := ok.s.d _ hm
    show X.A.units + 1 + 1 + (dP b.1).depth < cLine
    omega
  -- behind the sort
  have kF : ∀ b o, b ≠ h'.objs.size → h2.get? b = some o → (sortedHeap h2 h'.objs.size (as.map Value.ref) out.toArray).get? b = some o := fun b o hb e => (PyProof.Rows.sortedHeap_old hb (Heap.lt_size e)).trans e
  have kS : ∀ b o, s.heap.get? b = some o → (sortedHeap h2 h'.objs.size (as.map Value.ref) out.toArray).get? b = some o := fun b o e => kF b o (ne0 _ _ (hk b o e)) (kb b o e)
  obtain ⟨eF, heF⟩ := PyProof.Rows.sortedHeap_at (vs := as.map Value.ref) (out := out.toArray) hob
  have I1 : Inv X pins σ H { s with heap := sortedHeap h2 h'.objs.size (as.map Value.ref) out.toArray, toks := tk } := I.kept (t' := tk) kS
  have rv2 : Vals ((sortZ ((kvs.map prD).zip (as.map V.ref))).map (·.2)) out := vals_each (fun _ _ h => h.1) hout
  have hlen2 : ((sortZ ((kvs.map prD).zip (as.map V.ref))).map (·.2)).length ≤ sizeLine := by
    rw [rv2.length, hlen, zip_len rla, sizeLine_eq, List.length_map]
    omega
  have I2 : Inv X pins σ (upd H h'.objs.size (.lst ((sortZ ((kvs.map prD).zip (as.map V.ref))).map (·.2)))) { s with heap := sortedHeap h2 h'.objs.size (as.map Value.ref) out.toArray, toks := tk } :=
    I1.take (h' := sortedHeap h2 h'.objs.size (as.map Value.ref) out.toArray) (t' := tk) (fun b ob _ e => e) (I.fpOk (Nat.le_of_lt hlt) hl0) ⟨hlen2, out, eF, rv2, heF⟩
  obtain ⟨Hb, Ib, gb, rlb⟩ := track (sortedHeap h2 h'.objs.size (as.map Value.ref) out.toArray) (upd H h'.objs.size (.lst ((sortZ ((kvs.map prD).zip (as.map V.ref))).map (·.2)))) (fun b o e => by rw [upd_ne (ne_of_none e hl0)]; exact e) (fun b hb => by
      obtain ⟨j, hj⟩ := List.mem_iff_getElem?.mp hb
      obtain ⟨x, _, hg⟩ := pr j b hj
      rw [upd_ne (ne0 _ _ hg)]
      exact fr b hb) (fun b o e => kF b o (ne0 _ _ e) (ka b o e)) I2
  have rls : RpL (X.G Γ) φ Hb (sortL (kvs.map prD)) ((sortZ ((kvs.map prD).zip (as.map V.ref))).map (·.2)) := by
    have := rpl_zip (G := X.G Γ) (φ := φ) (H := Hb) (zs := sortZ ((kvs.map prD).zip (as.map V.ref))) fun z hz => (zip_fst rlb).2.2 z ((List.mergeSort_perm _ _).mem_iff.mp hz)
    rw [sortZ_1, (zip_fst rlb).1] at this
    exact this
  exact ⟨.ref h'.objs.size, Hb, Ib, rfl, q Hb h'.objs.size _ (fun b o e => gb b o (by rw [upd_ne (ne_of_none e hl0)]; exact e)) hl0 (gb _ _ upd_same) rls⟩
end
end SE

/-! SEC: the words sorted(l), sorted(d.items()). -/
namespace SE
open PySem PySem.Spec PyProof.Rows L2
section
variable {X : Cx} {W : WX} {Γ : Gs} {o : Expr} {to : TE} {mo : Ev → M D} {apos cpos pos p0 : Pos}
theorem pe_itemsO (ho : PE X o to) (hbase : attributeBase o "items" X.env (eval o X.env) = eval o X.env := by rfl) (hline : (apos.endLine == cpos.line) = true := by rfl) :
    PE X (.Call (.Attribute o "items" apos) [] [] cpos) (fun σ H Q => to σ H fun x H1 => rItemsO X.K X.prog X.w x [] H1 Q) := by
  refine ⟨fun pins s σ H Q I h => ?_⟩
  refine wpAny_Call_method0_late hbase hline (thn (ho.run pins s σ H _ I h) fun v s1 ⟨x, H1, I1, r1, q1⟩ => ?_)
  obtain ⟨a, zs, rfl, e, D, q⟩ := id q1
  cases r1
  obtain ⟨h1, h2⟩ := D.ty I1
  exact ⟨"dict", "dict.items", PySem.F.plainAttrs_dict, PySem.F.slot_dict_items, PySem.F.type_dict_items, h1, h2, Calls.callWith_builtin rfl (PySem.evalArgs_none (mt_itemsO pins s1 σ H1 (.ref a) [] (.ref a) [] Q I1 rfl .nil q1))⟩
theorem j_sortIt (hc : X.calm = true) (hu : X.A.units + 64 < cLine) (ho : JE X Γ W o mo) (hg : Gl X "sorted") (hm : X.mg "sorted" = none) (h0 : Γ.off = Γ := by rfl)
    (hbase : attributeBase o "items" X.env (eval o X.env) = eval o X.env := by rfl) (hline : (apos.endLine == cpos.line) = true := by rfl) (he : starEach [.Call (.Attribute o "items" apos) [] [] cpos] X.env = (false, eval (.Call (.Attribute o "items" apos) [] [] cpos) X.env) :: starEach [] X.env := by rfl) (hpl : (backTo pos (starEach [] X.env)).any (·.1) = false := by rfl) :
    JE X Γ W (.Call (.Name "sorted" p0) [.Call (.Attribute o "items" apos) [] [] cpos] [] pos) (e1 sortItM mo) := by
  refine pe_w (pe_callB (call_sortIt (Γ := Γ) hc hu) hg hm (by rfl) (pa_cons (pe_itemsO ho hbase hline) pa_nil he) (by decide) (by decide) he hpl) fun σ H Q h => ?_
  show tG (X.G Γ) (tieD (X.G Γ)) W mo σ H fun x H1 => rItemsO X.K X.prog X.w x [] H1 fun y H2 => rSortIt (X.G Γ) [y] H2 Q
  refine bE h fun φ1 H1 x v ρ μ1 ev r rv p => ?_
  have p2 : Post (X.G Γ) (tieD (X.G Γ)) φ1 H1 (sortItM x μ1) Q fun cls dd H' => W cls dd σ H' := p
  clear p
  unfold sortItM at p2
  cases q : dctAt μ1 x with
  | none => rw [q] at p2; exact p2.elim
  | some kvs =>
    rw [q] at p2
    dsimp only at p2
    obtain ⟨l, a, zs, rfl, rfl, hl, _, D, _, _, T⟩ := dct_at r rv q
    by_cases c : ItOk kvs
    · rw [if_pos c] at p2
      refine ⟨a, zs, rfl, rfl, D, fun b hb => ?_⟩
      have kp := keep_laid (o := DX.itemsO b a) hb
      have g := Grow.more (φ := φ1) kp
      refine ⟨φ1, μ1, b, a, zs, kvs, rfl, r.keep kp g, upd_same, ⟨D.at_.imp (kp _ _) (fun ⟨o, e⟩ => ⟨o, kp _ _ e⟩), D.ns, D.len, D.nd, fun x hx => (T.growW g.w).keyAt x hx⟩, (by rw [Gx.off_eq (G := X.G Γ) h0] at T; exact T.growW g.w), c, fun H' l vs k hl0 hl rl => ?_⟩
      have hl1 : H1 l = none := by
        cases e : H1 l with
        | none => rfl
        | some u => rw [kp _ _ e] at hl0; cases hl0
      have g2 : Grow φ1 H1 φ1 H' := Grow.more fun b o e => k _ _ (kp _ _ e)
      exact p2 φ1 H' _ g2 (r.keep (fun b o e => k _ _ (kp _ _ e)) g2) (.lst hl (r.out hl1) rl)
    · rw [if_neg c] at p2
      exact p2.elim
end
theorem wr_sortIt {mo : Ev → M D} {ρ : Ev} {μ : Mem} {P : D → Mem → Prop} {E : Ex → Mem → Prop} : wr (e1 sortItM mo ρ μ) P E = wr (mo ρ μ) (fun x μ1 => wr (sortItM x μ1) P E) E := wr_e1
end SE

/-! SED: list(d) of a dict whose keys are tuples. -/
namespace SE
open PySem PySem.Spec PyProof.Rows L2
def keyT (e : List Key × D) : D := .tup (e.1.map kD)
def listDM (ds : List D) : M D := fun μ => match ds with
  | [d] => (match dctAt μ d with
    | some kvs => if kvs.length ≤ 100000 then .ok (.lst (kvs.map keyT)) μ else .bad
    | none => .bad)
  | _ => .bad
def rListO (K : PySem.W.Frag) (P : Program) (w : World) : List V → Hp → VK → Prop := fun xs H Q => ∃ (a : Addr) (zs : List (List Key × Addr × Value)), xs = [.ref a] ∧ DR K P w H a zs ∧ ∀ p, H p = none → Q (.ref p) (upd H p (.lst (zs.map fun x => V.ref x.2.1)))
section
variable {X : Cx} {Γ : Gs}
theorem call_listO (hc : X.calm = true) : CallR X (.type "list") (rListO X.K X.prog X.w) := by
  intro pins s σ H xs us Q I r h
  obtain ⟨a, zs, rfl, D, q⟩ := h
  obtain rfl := Vals.ref1 r
  obtain ⟨o, es, ep, ho, hx, hdat, hes⟩ := (D.ok I).1
  have l1 : es.size = zs.length := size_of_entries hes
  have l2 := D.len
  refine PySem.W.kdl_call (kdl_raw D.ns hx hdat) (I.ok.hd hc) ho (by omega) fun h' tk acc' c' kp e it => ?_
  have ea : acc'.toList = (zs.map fun x => x.2.1).map Value.ref := by
    have hl : acc'.toList.length = zs.length := by rw [Array.length_toList, it.1]; exact l1
    apply List.ext_getElem?
    intro j
    rw [List.getElem?_map, List.getElem?_map]
    cases hj : acc'.toList[j]? with
    | none =>
      have h1 := List.getElem?_eq_none_iff.mp hj
      rw [List.getElem?_eq_none (by omega)]
      rfl
    | some v =>
      obtain ⟨en, hen, hv⟩ := it.2 j v (by rw [← Array.getElem?_toList]; exact hj)
      have qe := entry_at hes j
      rw [hen] at qe
      cases hb : zs[j]? with
      | none => rw [hb] at qe; cases qe
      | some b =>
        rw [hb] at qe
        have e2 : en = entryOfKey (tupleKind (mixKind X.prog X.w)) b := Option.some.inj qe
        rw [hv, e2]
        rfl
  have rv : Vals (zs.map fun x => V.ref x.2.1) acc'.toList := by
    rw [ea]
    have := vals_refs (zs.map fun x => x.2.1)
    rw [List.map_map] at this
    exact this
  have hz : (zs.map fun x => V.ref x.2.1).length ≤ sizeLine := by rw [List.length_map]; exact l2
  refine ⟨.ref s.heap.objs.size, _, I.laid (t' := tk) (o := .lst (zs.map fun x => V.ref x.2.1)) kp (Nat.le_refl _) ?_, rfl, q _ (I.hok.fresh (Nat.le_refl _))⟩
  exact ⟨hz, acc'.toList, c', rv, by rw [Array.toArray_toList]; exact e⟩
theorem keys_rp {G : Gx} {φ : Lab} {H : Hp} : ∀ {kvs : List (List Key × D)} {zs : List (List Key × Addr × Value)}, RpT G φ H kvs zs → RpL G φ H (kvs.map keyT) (zs.map fun x => V.ref x.2.1)
  | _, _, .nil => .nil
  | _, _, .cons h r rv t => .cons (.tup h (kD_rp _)) (keys_rp t)
theorem listD_i (h0 : Γ.off = Γ) : CallI (X.G Γ) listDM (rListO X.K X.prog X.w) := by
  intro φ μ H a x Q E R ra p
  unfold listDM at p
  split at p
  · rename_i d
    obtain ⟨v, rfl, r1⟩ := ra.one
    cases q : dctAt μ d with
    | none => rw [q] at p; exact p.elim
    | some kvs =>
      rw [q] at p
      dsimp only at p
      obtain ⟨l, a, zs, rfl, rfl, hl, _, D, _, _, T⟩ := dct_at R r1 q
      by_cases c : kvs.length ≤ 100000
      · rw [if_pos c] at p
        refine ⟨a, zs, rfl, D, fun b hb => ?_⟩
        have g := Grow.laid (φ := φ) (o := .lst (zs.map fun x => V.ref x.2.1)) hb
        rw [Gx.off_eq (G := X.G Γ) h0] at T
        exact p φ _ _ g (R.laid hb) (.lst upd_same (R.out hb) ((keys_rp T).grow g))
      · rw [if_neg c] at p
        exact p.elim
  · exact p.elim
end
theorem listDM_v {kvs : List (List Key × D)} {μ : Mem} {l : Nat} (hm : μ[l]? = some (.dT kvs)) (h : kvs.length ≤ 100000) : listDM [.loc l] μ = .ok (.lst (kvs.map keyT)) μ := by
  have e : dctAt μ (.loc l) = some kvs := by
    unfold dctAt
    simp only [hm]
  unfold listDM
  dsimp only
  rw [e]
  dsimp only
  rw [if_pos h]
/-! ### is True -/
def isBM (a b : D) : M D := fun μ => match a, b with
  | .bl x, .bl y => .ok (.bl (x == y)) μ
  | _, _ => .bad
def notBM (a b : D) : M D := fun μ => match a, b with
  | .bl x, .bl y => .ok (.bl (!(x == y))) μ
  | _, _ => .bad
def rIsB (f : Bool → Bool) : R2 := fun x y H Q => ∃ a b, x = .bl a ∧ y = .bl b ∧ Q (.bl (f (a == b))) H
section
variable {X : Cx}
theorem op_isB : OpR X (compareOp .Is) (rIsB fun b => b) := by
  intro pins s σ H x y v u Q I rx ry h
  obtain ⟨a, b, rfl, rfl, q⟩ := h
  cases rx
  cases ry
  by_cases e : a = b
  · subst e
    exact wpAny_is_self rfl ⟨.bl true, H, I, rfl, by simpa using q⟩
  · exact wpAny_is_other rfl (fun z => e (Value.bool.inj z)) ⟨.bl false, H, I, rfl, by rw [beq_eq_false_iff_ne.mpr e] at q; exact q⟩
theorem op_notB : OpR X (compareOp .IsNot) (rIsB fun b => !b) := by
  intro pins s σ H x y v u Q I rx ry h
  obtain ⟨a, b, rfl, rfl, q⟩ := h
  cases rx
  cases ry
  by_cases e : a = b
  · subst e
    exact wpAny_isNot_self rfl ⟨.bl false, H, I, rfl, by simpa using q⟩
  · exact wpAny_isNot_other rfl (fun z => e (Value.bool.inj z)) ⟨.bl true, H, I, rfl, by rw [beq_eq_false_iff_ne.mpr e] at q; exact q⟩
theorem isB_i {G : Gx} : OpI G isBM (rIsB fun b => b) := by
  intro φ μ H a b x y Q E R ra rb p
  cases ra with
  | bl i =>
    cases rb with
    | bl j => exact ⟨i, j, rfl, rfl, Post.pure p R (.bl _)⟩
    | _ => exact p.elim
  | _ => exact p.elim
theorem notB_i {G : Gx} : OpI G notBM (rIsB fun b => !b) := by
  intro φ μ H a b x y Q E R ra rb p
  cases ra with
  | bl i =>
    cases rb with
    | bl j => exact ⟨i, j, rfl, rfl, Post.pure p R (.bl _)⟩
    | _ => exact p.elim
  | _ => exact p.elim
end
theorem notBM_b {a b : Bool} {μ : Mem} : notBM (.bl a) (.bl b) μ = .ok (.bl (!(a == b))) μ := rfl
theorem isBM_b {a b : Bool} {μ : Mem} : isBM (.bl a) (.bl b) μ = .ok (.bl (a == b)) μ := rfl
/-! ### == () -/
def eqEM (a b : D) : M D := fun μ => match a, b with
  | .tup xs, .tup [] => .ok (.bl xs.isEmpty) μ
  | _, _ => .bad
def rEqE (K : PySem.W.Frag) : R2 := fun x y H Q => ∃ (a b : Addr) (vs : List V), x = .ref a ∧ y = .ref b ∧ SqT K H a vs ∧ SqT K H b [] ∧ Q (.bl vs.isEmpty) H
section
variable {X : Cx}
theorem op_eqE (hu : X.A.units + 64 < cLine) : OpR X (compareOp .Eq) (rEqE X.K) := by
  intro pins s σ H x y v u Q I rx ry h
  obtain ⟨a, b, vs, rfl, rfl, ha, hb, q⟩ := h
  cases rx
  cases ry
  obtain ⟨ia, ra, ta, _⟩ := I.tuple ha
  obtain ⟨ib, rb, tb, _⟩ := I.tuple hb
  cases rb
  obtain ⟨oa, e1, e2, na, e3⟩ := ta
  obtain ⟨ob, e4, e5, nb, e6⟩ := tb
  have key := SeqAt.RcAt.tuples (A := X.A) (s := s) (l := a) (b := b) (items := ia.toArray) (items2 := ([] : List Value).toArray) (e := fun _ => true) ⟨oa, e1, e2, na, e3⟩ ⟨ob, e4, e5, nb, e6⟩ (by omega) (fun j h1 h2 => absurd h2 (by simp))
  have e : ((List.range (min ia.toArray.size ([] : List Value).toArray.size)).all (fun _ => true) && ia.toArray.size == ([] : List Value).toArray.size) = vs.isEmpty := by
    have hl := ra.length
    cases vs with
    | nil =>
      cases ra
      rfl
    | cons w vs =>
      cases ra with
      | cons r1 r2 => simp
  rw [e] at key
  exact key X.prog X.w _ _ ⟨.bl vs.isEmpty, H, I, rfl, q⟩
theorem eqE_i {G : Gx} : OpI G eqEM (rEqE G.K) := by
  intro φ μ H a b x y Q E R ra rb p
  cases ra with
  | @tup a1 vs1 ds1 h1 r1 =>
    cases rb with
    | @tup a2 vs2 ds2 h2 r2 =>
      cases ds2 with
      | nil =>
        cases r2
        refine ⟨a1, a2, vs1, rfl, rfl, h1.t, h2.t, ?_⟩
        have e : ds1.isEmpty = vs1.isEmpty := by cases r1 <;> rfl
        have p' : Post G (tieD G) φ H (.ok (.bl ds1.isEmpty) μ) Q E := p
        rw [e] at p'
        exact Post.pure p' R (.bl _)
      | cons _ _ => exact p.elim
    | _ => exact p.elim
  | _ => exact p.elim
end
theorem eqE_c {d : D} {xs : List D} {μ : Mem} : eqEM (.tup (d :: xs)) (.tup []) μ = .ok (.bl false) μ := rfl
theorem eqE_n {μ : Mem} : eqEM (.tup []) (.tup []) μ = .ok (.bl true) μ := rfl
end SE

/-! SEF: sets of texts at the heap: made, filled, gathered, sorted. -/
namespace SE
open PySem PySem.Spec PyProof.Rows L2
def txE (e : Int × Value) : Str := match e.2 with
  | .str x _ => x
  | _ => default
/-- an entry of a text -/
def TxE (w : World) (e : Int × Value) : Prop := ∃ x t, e.2 = Value.str x t ∧ e.1 = hashStr w x
/-- the table of a set whose members are xs -/
structure SxIn (w : World) (es : Array (Int × Value)) (t : SetTable) (xs : List Str) : Prop where
  g : ∀ e ∈ es.toList, TxE w e
  p : (es.toList.map txE).Perm xs
  n : xs.Nodup
  b : es.size < scanBound
  f : t.fits es.size = true
  r : Ris t.place.toList
  l : w.params.followText "set-order" = true ∨ t.led = true
def SxAt (w : World) (h : Heap) (a : Addr) (xs : List Str) : Prop := ∃ o es ep t, h.get? a = some o ∧ o.ExactSet ∧ o.data = .set es ep t ∧ SxIn w es t xs
def addX (xs : List Str) (x : Str) : List Str := if x ∈ xs then xs else xs ++ [x]
theorem SxIn.len {w : World} {es : Array (Int × Value)} {t : SetTable} {xs : List Str} (q : SxIn w es t xs) : es.size = xs.length := by
  rw [← q.p.length_eq, List.length_map, Array.length_toList]
section
variable {P : Program} {w : World} {A : Around} {E : Value → Shared → Prop} {s : Shared} {a : Addr} {xs : List Str} {es : Array (Int × Value)} {ep : Nat} {t : SetTable} {o : Obj}
theorem sx_is (x : Str) (tk : Tok) : (PySem.strKind P w).is x (.str x tk) = true := by
  show Value.isStrOf x (.str x tk) = true
  simp [Value.isStrOf]
theorem TxE.is {e : Int × Value} (g : TxE w e) (x : Str) : (PySem.strKind P w).is x e.2 = true ↔ txE e = x := by
  obtain ⟨y, t, h1, _⟩ := g
  unfold txE
  rw [h1]
  refine ⟨fun q => (PySem.strKind P w).inj _ _ _ (sx_is y t) q, fun q => ?_⟩
  have q : y = x := q
  subst q
  exact sx_is y t
theorem SxIn.elems (q : SxIn w es t xs) : ElemsOf (PySem.strKind P w) es.toList := fun e he => by
  obtain ⟨y, t, h1, h2⟩ := q.g e he
  exact ⟨⟨y, by rw [h1]; exact sx_is y t, h2⟩, by rw [h1] <;> rfl⟩
theorem sx_stored {h : Heap} {es' : Array (Int × Value)} {t' : SetTable} (ho : h.get? a = some o) (hx : o.ExactSet) (hd : o.data = .set es ep t) (q : SxIn w es' t' xs) :
    (h.update a (Obj.putSet es' t')).get? a = some { o with data := .set es' (ep + 1) t' } ∧ SxAt w (h.update a (Obj.putSet es' t')) a xs := by
  have e : (h.update a (Obj.putSet es' t')).get? a = some { o with data := .set es' (ep + 1) t' } := by
    have z := Heap.get?_update_self (Obj.putSet es' t') ho (by rw [putSet_of es' t' hd]; rfl)
    rw [putSet_of es' t' hd] at z
    exact z
  exact ⟨e, _, es', _, t', e, hx, rfl, q⟩
theorem sx_tail {give : Bool → Sem Unit} (hg : ∀ (b : Bool) (z : Shared) (R : Unit → Shared → Prop), R () z → wpAny (model P w) A (give b) R E z)
    (ho : s.heap.get? a = some o) (hx : o.ExactSet) (hd : o.data = .set es ep t) {e1 : Array (Int × Value)} {t1 : SetTable} (q1 : SxIn w e1 t1 xs) {dum : Bool} {R : Option Bool → Shared → Prop}
    (hR : ∀ h', Heap.SameBut a s.heap h' → SxAt w h' a xs → R (some true) { s with heap := h' }) :
    wpAny (model P w) A (storeSet a e1 t1 >>= fun _ => if (!dum && t1.tooFull) = true then (give (relayAll t1 e1 (SetTable.grown e1.size)).2.2 >>= fun _ =>
      storeSet a (relayAll t1 e1 (SetTable.grown e1.size)).1 (relayAll t1 e1 (SetTable.grown e1.size)).2.1 >>= fun _ => pure (some true)) else pure (some true)) R E s := by
  refine wpAny_bind (wpAny_storeSet_of ho hd ?_ (fits_of_scanBound q1.b))
  obtain ⟨z1, z2⟩ := sx_stored ho hx hd q1
  have b1 := Heap.SameBut.update s.heap a (Obj.putSet e1 t1)
  split
  · have pm := relayAll_perm t1 e1 (SetTable.grown e1.size)
    have f2 := relayAll_fits t1 e1 (SetTable.grown e1.size)
    have r2 := relayAll_ris t1 e1 (SetTable.grown e1.size)
    have l2 := relayAll_led t1 e1 (SetTable.grown e1.size)
    generalize relayAll t1 e1 (SetTable.grown e1.size) = Z at pm f2 r2 l2 ⊢
    obtain ⟨e2, t2, gv⟩ := Z
    dsimp only at pm f2 r2 l2 ⊢
    have sz : e2.size = e1.size := by rw [← Array.length_toList, pm.length_eq, Array.length_toList]
    have q2 : SxIn w e2 t2 xs := ⟨fun e he => q1.g e (pm.mem_iff.mp he), (pm.map txE).trans q1.p, q1.n, by rw [sz]; exact q1.b, f2, r2, q1.l.imp id fun z => by rw [l2]; exact z⟩
    refine wpAny_bind (hg _ _ _ (wpAny_bind (wpAny_storeSet_of z1 rfl ?_ (fits_of_scanBound q2.b))))
    exact wpAny_pure (hR _ (b1.trans (Heap.SameBut.update _ a _)) (sx_stored z1 hx rfl q2).2)
  · exact wpAny_pure (hR _ b1 z2)
theorem sx_add_hashed {x : Str} {tk : Tok} {Q : Bool → Shared → Prop} (R : SxAt w s.heap a xs) (room : xs.length + 1 < scanBound)
    (hQ : ∀ b h', Heap.SameBut a s.heap h' → SxAt w h' a (addX xs x) → Q b { s with heap := h' }) :
    wpAny (model P w) A (setAddHashed a (.str x tk) (hashStr w x)) Q E s := by
  obtain ⟨o, es, ep, t, ho, hx, hd, q⟩ := R
  have key : (PySem.strKind P w).is x (.str x tk) = true := sx_is x tk
  have hsc : (Value.str x tk).scannable = true := rfl
  have hel : ElemsOf (PySem.strKind P w) es.toList := q.elems
  unfold setAddHashed setAddHashedIn
  refine wpAny_holding (wpAny_bind (wpAny_setState_of ho hd q.f ?_))
  dsimp only
  rw [byScan_of hsc q.b hel]
  simp only [↓reduceIte]
  unfold setAddByScan
  refine wpAny_bind (wpAny_bind (wpAny_rule (wpAny_bind (wpAny_setScan_of key ho hd q.f hel ?_))))
  cases hfi : List.findIdx? (fun e => (PySem.strKind P w).is x e.2) es.toList with
  | some j =>
    dsimp only
    obtain ⟨hj, pj, _⟩ := List.findIdx?_eq_some_iff_getElem.mp hfi
    have hm : x ∈ xs := q.p.mem_iff.mp (List.mem_map.mpr ⟨_, List.getElem_mem hj, ((q.g _ (List.getElem_mem hj)).is x).mp pj⟩)
    refine wpAny_pure (wpAny_pure (hQ _ s.heap (Heap.SameBut.refl a s.heap) ?_))
    unfold addX
    rw [if_pos hm]
    exact ⟨o, es, ep, t, ho, hx, hd, q⟩
  | none =>
    dsimp only
    have hm : x ∉ xs := fun z => by
      obtain ⟨e, he, ez⟩ := List.mem_map.mp (q.p.mem_iff.mpr z)
      have c := List.findIdx?_eq_none_iff.mp hfi e he
      rw [((q.g e he).is x).mpr ez] at c
      cases c
    have hgw : ∀ (b : Bool) {z : Shared} {R : Unit → Shared → Prop}, R () z → wpAny (model P w) A (match b with | true => rule "set.scan.the-table-gave-way" | false => pure ()) R E z :=
      fun b z R hR => by cases b <;> first | exact wpAny_pure hR | exact wpAny_rule hR
    have pm := layNew_perm t es (hashStr w x) (.str x tk)
    have f1 := layNew_fits t es (hashStr w x) (.str x tk)
    have r1 := layNew_ris t es (hashStr w x) (.str x tk) q.r
    have l1 := layNew_led t es (hashStr w x) (.str x tk)
    generalize layNew t es (hashStr w x) (.str x tk) = Z at pm f1 r1 l1 ⊢
    obtain ⟨e1, t1, dum, gv⟩ := Z
    dsimp only at pm f1 r1 l1 ⊢
    rw [Array.toList_push] at pm
    have pc : e1.toList.Perm ((hashStr w x, Value.str x tk) :: es.toList) := pm.trans (List.perm_append_singleton _ _)
    have sz : e1.size = xs.length + 1 := by rw [← Array.length_toList, pc.length_eq, List.length_cons, Array.length_toList, q.len]
    have q1 : ∀ {t' : SetTable}, t'.fits e1.size = true → Ris t'.place.toList → t'.led = t1.led → SxIn w e1 t' (addX xs x) := fun {t'} h1 h2 h3 => by
      refine ⟨fun e he => ?_, ?_, ?_, by rw [sz]; exact room, h1, h2, q.l.imp id fun z => by rw [h3, l1]; exact z⟩
      · rcases List.mem_cons.mp (pc.mem_iff.mp he) with z | z
        · rw [z]
          exact ⟨x, tk, rfl, rfl⟩
        · exact q.g e z
      · unfold addX
        rw [if_neg hm]
        exact ((pc.map txE).trans (List.Perm.cons _ q.p)).trans (List.perm_append_singleton _ _).symm
      · unfold addX
        rw [if_neg hm, List.nodup_append]
        exact ⟨q.n, by simp, fun y hy z hz e => hm (by rw [← List.mem_singleton.mp hz, ← e]; exact hy)⟩
    refine wpAny_bind (hgw _ ?_)
    split
    · refine wpAny_bind ?_
      rw [hashByValue_scannable 8 hsc]
      refine wpAny_pure ?_
      refine sx_tail (xs := addX xs x) (fun b z R hR => hgw b hR) ho hx hd (q1 ?_ ?_ ?_) fun h' sb r => wpAny_pure (hQ _ h' sb r)
      · first | exact f1 | (split <;> first | exact f1 | exact SetTable.fits_plain_off f1)
      · first | exact r1 | (split <;> exact r1)
      · first | rfl | (split <;> rfl)
    · refine wpAny_bind (wpAny_pure ?_)
      simp only [↓reduceIte]
      exact sx_tail (xs := addX xs x) (fun b z R hR => hgw b hR) ho hx hd (q1 f1 r1 rfl) fun h' sb r => wpAny_pure (hQ _ h' sb r)
theorem SxAt.typeIs (R : SxAt w s.heap a xs) : s.TypeIs (.ref a) "set" := let ⟨o, _, _, _, ho, hx, _⟩ := R; ⟨o, ho, hx.1⟩
/-- found.add(x) -/
theorem sx_add {x : Str} {tk : Tok} {Q : Value → Shared → Prop} (R : SxAt w s.heap a xs) (room : xs.length + 1 < scanBound)
    (hQ : ∀ h', Heap.SameBut a s.heap h' → SxAt w h' a (addX xs x) → Q .none { s with heap := h', toks := s.toks + 1 }) :
    wpAny (model P w) A (call (.builtin "set.add") [.ref a, .str x tk]) Q E s := by
  refine wpAny_call_entry F.slot_set_add R.typeIs F.entry_set_add ?_ (F.args_set_add_2 _ _)
  unfold Builtin.«set.add» Builtin.Frozenset.oneOther
  simp only [List.isEmpty_nil, bind_assoc]
  unfold Builtin.Frozenset.addrOf setAdd
  refine wpAny_bind (wpAny_pure ?_)
  try dsimp only
  refine wpAny_bind (wpAny_pure ?_)
  try dsimp only
  refine wpAny_bind (wpAny_holding (wpAny_bind ((PySem.strKind P w).pyHash (sx_is x tk) ?_)))
  refine sx_add_hashed (s := { s with toks := s.toks + 1 }) R room fun _ h' sb r => ?_
  show wpAny _ _ (ret Value.none) _ _ _
  exact wpAny_pure ⟨_, rfl, hQ h' sb r⟩
/-- a new one -/
theorem sx_fresh {h : Heap} (w : World) : SxAt w (h.push { cls := .type "set", dict := none, data := .set #[] 0 (.fresh 0 0 (!w.params.followText "set-order")) }) h.objs.size [] := by
  refine ⟨_, #[], 0, _, Heap.get?_push_size _ rfl, ⟨rfl, rfl, rfl⟩, rfl, (fun e he => by simp at he), by simp, List.nodup_nil, by decide, by rfl, List.Pairwise.nil, ?_⟩
  show _ ∨ (!w.params.followText "set-order") = true
  cases w.params.followText "set-order" <;> simp
end
/-! ### as a tracked thing -/
def sxO (w : World) (a : Addr) (xs : List Str) : HO := .ext fun h => SxAt w h a xs
theorem sxO_ok {w : World} {P : Program} {H : Hp} {h : Heap} {a : Addr} {xs : List Str} (R : SxAt w h a xs) : ObjOk P w H h a (sxO w a xs) := by
  obtain ⟨o, es, ep, t, ho, r⟩ := id R
  exact ⟨R, ⟨o, ho⟩, fun h1 h2 ⟨o, es, ep, t, ho, r⟩ k => ⟨o, es, ep, t, k o ho, r⟩⟩
section
variable {X : Cx} {pins : List (Addr × Obj)} {σ : L2.St} {H : Hp} {s : Shared} {E : Value → Shared → Prop} {D : Addr} {xs : List Str}
theorem sxO_at (I : Inv X pins σ H s) (ha : H D = some (sxO X.w D xs)) : SxAt X.w s.heap D xs := (I.hok D _ ha).1
theorem sxO_add {x : Str} {tk : Tok} {Q : Value → Shared → Prop} (I : Inv X pins σ H s) (hD : H D = some (sxO X.w D xs)) (room : xs.length + 1 < scanBound)
    (h : ∀ s', Inv X pins σ (upd H D (sxO X.w D (addX xs x))) s' → Q .none s') : wpAny (model X.prog X.w) X.A (call (.builtin "set.add") [.ref D, .str x tk]) Q E s := by
  refine sx_add (sxO_at I hD) room fun h' sb r => h _ ?_
  obtain ⟨o, _, _, _, ho, _⟩ := id r
  exact I.write (e := D) (t' := s.toks + 1) (by rw [hD]; trivial) (.inl rfl) (fun b u hb hu => (sb.2 b hb).trans hu) ⟨o, ho⟩ (sxO_ok r)
end
end SE

/-! SEG: comprehensions that make a set of texts; sorted of it. -/
namespace SE
open PySem PySem.Spec PyProof.Rows L2
/-- D the new set -/
def tSx (w : World) (wi : TI) (g : TG) (tt : TT) (te : TE) (vs : List Nat) : TE := fun σ H Q => wi σ H fun J H1 => ∀ D, H1 D = none → ∃ Wk : Nat → Nat → Hp → Prop, (∃ m, Wk 0 m (upd H1 D (sxO w D []))) ∧ ∀ i m H, Wk i m H →
  (J.stop i H ∧ Q (.ref D) H) ∨ (J.go i H ∧ ∃ Nx : Hp → Prop, (∀ H', Nx H' → ∃ m', m' < m ∧ Wk (i + 1) m' H') ∧ ∀ x H', J.yld i H x H' → g x (wipe σ vs) H' fun σ2 H2 => wipe σ2 vs = wipe σ vs ∧ tt σ2 H2 fun b H3 =>
    if b = true then te σ2 H3 fun y H4 => ∃ (z : Str) (xs : List Str), y = .str z ∧ H4 D = some (sxO w D xs) ∧ xs.length + 1 < scanBound ∧ Nx (upd H4 D (sxO w D (addX xs z))) else Nx H3)
section
variable {X : Cx}
theorem sx_core {pins : List (Addr × Obj)} {s0 : Shared} {σ : L2.St} {H0 : Hp} {Q : VK} {elt tg iter : Expr} {ifs : List Expr} {sc : Scope} {own : List (Str × Nat)} {p1 p2 : Pos} {wi : TI} {g : TG} {tt : TT} {te : TE} {use : Option (Value → Sem Unit)} {Qf : Value → Shared → Prop}
    (hc : X.calm = true) (hN : X.N.Nodup) (I0 : Inv X pins σ H0 s0) (hi : PI X tg iter wi) (ok : BlkOk X.N X.env.scope sc own)
    (hg : ∀ (s : Shared) (H : Hp) (C : Addr) (cl : List (Str × Addr)) (fp : List Addr), PG (X.blk s H sc (compEnvC sc cl C X.env) fp) tg g)
    (ht : ∀ (s : Shared) (H : Hp) (C : Addr) (cl : List (Str × Addr)) (fp : List Addr), L2.PTs (X.blk s H sc (compEnvC sc cl C X.env) fp) ifs tt)
    (he : ∀ (s : Shared) (H : Hp) (C : Addr) (cl : List (Str × Addr)) (fp : List Addr), PE (X.blk s H sc (compEnvC sc cl C X.env) fp) elt te) (hs : ∀ x, foldedSetIterable iter X.env x = pure x)
    (h : tSx X.w wi g tt te (own.map (·.2)) σ H0 Q)
    (fine : ∀ D C s' m H', Inv X pins σ H' s' → Q (.ref D) H' → s'.heap.Ns C m → FpOk X pins H' C → compPost (model X.prog X.w) X.A X.xe use Qf (.ref D) C (.ok .next) s') :
    wpAny (model X.prog X.w) X.A (comprehension (.SetComp elt [⟨tg, iter, ifs, 0⟩] sc p1) sc X.env p2 (newSet (.type "set")) false (eval iter X.env) use) Qf X.xe s0 := by
  have fr : ∀ y ∈ sc.names, y.2 = .free → ∃ c, X.env.cells.lookup y.1 = some c := fun y hy e => (ok.free y hy e).elim (fun k => I0.ok.has _ (.inl k)) (fun k => I0.ok.has _ (.inr k))
  refine wpAny_comprehension_free (use := use) rfl hs (closure_ok fr) ok.kind (fun y hy e => by rw [ok.uniq y hy, e]) (thn (hi.run pins s0 σ H0 _ I0 h) fun xv s1 hx => thn hx fun itv s2 h2 => ?_)
  obtain ⟨it, fp, tn, J, H2, rfl, I2, T, st2, f2, q⟩ := h2
  refine PpSet.newSet_ok (newEnv_comp ?_)
  generalize eD : s2.heap.objs.size = D
  have nD : H2 D = none := I2.hok.fresh (Nat.le_of_eq eD)
  obtain ⟨Wk, ⟨m0, w0⟩, turn⟩ := q D nD
  generalize eS : ({ s2 with heap := s2.heap.push { cls := .type "set", dict := none, data := .set #[] 0 (.fresh 0 0 (!X.w.params.followText "set-order")) } } : Shared) = s3
  have hp3 : s3.heap = s2.heap.push { cls := .type "set", dict := none, data := .set #[] 0 (.fresh 0 0 (!X.w.params.followText "set-order")) } := by rw [← eS]
  have I3 : Inv X pins σ (upd H2 D (sxO X.w D [])) s3 := by
    rw [← eS]
    refine I2.laid (t' := s2.toks) (fun b o e => Heap.get?_push_of_some _ e) (Nat.le_of_eq eD) ?_
    rw [← eD]
    exact sxO_ok (sx_fresh X.w)
  have low : ∀ b ∈ fp, b < s2.heap.objs.size := fun b hb => let ⟨o, e, _⟩ := T.obj _ _ st2 b hb; Heap.lt_size e
  have f3 : ∀ b ∈ fp, FpOk X pins (upd H2 D (sxO X.w D [])) b ∧ b < s3.heap.objs.size := fun b hb =>
    ⟨⟨by rw [upd_ne (by rw [← eD]; exact Nat.ne_of_lt (low b hb))]; exact (f2 b hb).1, (f2 b hb).2⟩, by rw [hp3, Heap.size_push]; exact Nat.lt_succ_of_lt (low b hb)⟩
  have st3 : tn 0 s3.heap := T.keep _ _ _ st2 fun b _ o e => by rw [hp3]; exact Heap.get?_push_of_some _ e
  have I4 := block_start I3 ok hN f3
  have pg := hg s3 (upd H2 D (sxO X.w D [])) s3.heap.objs.size (cellsFrom (s3.heap.objs.size + 1) sc.names (cloFrom X.env.cells sc.names [])) fp
  have pt := ht s3 (upd H2 D (sxO X.w D [])) s3.heap.objs.size (cellsFrom (s3.heap.objs.size + 1) sc.names (cloFrom X.env.cells sc.names [])) fp
  have pe := he s3 (upd H2 D (sxO X.w D [])) s3.heap.objs.size (cellsFrom (s3.heap.objs.size + 1) sc.names (cloFrom X.env.cells sc.names [])) fp
  show codeAny _ _ (.compStart (.SetComp elt [⟨tg, iter, ifs, 0⟩] sc p1) 0 (.ref it) (.ref D) (compEnvC sc (cellsFrom (s3.heap.objs.size + 1) sc.names (cloFrom X.env.cells sc.names [])) s3.heap.objs.size X.env)) (compPost (model X.prog X.w) X.A X.xe use Qf (.ref D) s3.heap.objs.size) { s3 with heap := pushCells (s3.heap.push { cls := .type "dict", data := .dict #[] }) sc.names }
  have nfp : ∀ b ∈ fp, (upd H2 D (sxO X.w D [])) b = none := fun b hb => (f3 b hb).1.1
  generalize ce0 : compEnvC sc (cellsFrom (s3.heap.objs.size + 1) sc.names (cloFrom X.env.cells sc.names [])) s3.heap.objs.size X.env = ce at I4 pg pt pe ⊢
  have cL : ce.locals = s3.heap.objs.size := by rw [← ce0]; rfl
  generalize eH : upd H2 D (sxO X.w D []) = H3 at I3 I4 pg pt pe w0 nfp f3
  generalize eS4 : ({ s3 with heap := pushCells (s3.heap.push { cls := .type "dict", data := .dict #[] }) sc.names } : Shared) = s4 at I4 ⊢
  have st4 : tn 0 s4.heap := T.keep _ _ _ st3 fun b _ o e => by rw [← eS4]; exact pushCells_keeps _ _ _ _ (Heap.get?_push_of_some _ e)
  have stays : ∀ {σ' : L2.St} {H' : Hp} {s' : Shared}, Inv (X.blk s3 H3 sc ce fp) [] σ' H' s' → (∀ b ∈ fp, H' b = none) → ∀ b ∈ fp, FpOk (X.blk s3 H3 sc ce fp) [] H' b := fun {σ' H' s'} Iz hn b hb =>
    ⟨hn b hb, (Iz.ok.exf b hb).1, Iz.ok.exfs b hb, .inl hb, fun x c e => (Iz.ok.exf b hb).2 x c e, fun p hp => absurd (show p ∈ ([] : List (Addr × Obj)) ++ [] from hp) (by simp)⟩
  have loop : codeAny (model X.prog X.w) X.A (.compLoop (.SetComp elt [⟨tg, iter, ifs, 0⟩] sc p1) 0 (.ref it) (.ref D) ce) (compPost (model X.prog X.w) X.A X.xe use Qf (.ref D) s3.heap.objs.size) s4 := by
    refine PpSet.compLoopS_any (fun n sz => ∃ i Hz, Inv (X.blk s3 H3 sc ce fp) [] (wipe σ (own.map (·.2))) Hz sz ∧ tn i sz.heap ∧ (∀ b ∈ fp, Hz b = none) ∧ Wk i n Hz) ?_ m0 ⟨0, H3, I4, st4, nfp, w0⟩
    rintro n s5 ⟨i, H5, I5, st5, n5, w5⟩
    rcases turn i n H5 w5 with ⟨stop, qq⟩ | ⟨go, Nx, hNx, step⟩
    · refine thnF (T.done (X.blk s3 H3 sc ce fp) rfl rfl rfl hc i [] s5 _ H5 (fun _ _ => False) I5 (stays I5 n5) st5 stop) fun r s6 ⟨hr, I6⟩ => ?_
      subst hr
      have I7 : Inv X pins σ H5 s6 := I3.call' (ch := fp) I6.os I6.base I6.hok I6.bare fun b hb => ⟨(f3 b hb).1.2.2.2.1, (f3 b hb).1.2.1, (f3 b hb).1.2.2.2.2.1, (f3 b hb).1.2.2.2.2.2⟩
      have nC : H5 s3.heap.objs.size = none := by
        have z : H5 ce.locals = none := I6.free
        rwa [cL] at z
      obtain ⟨m, hn, _⟩ := I6.loc
      have hn : s6.heap.Ns ce.locals m := hn
      rw [cL] at hn
      exact fine D s3.heap.objs.size s6 m H5 I7 qq hn (I3.fpOk (Nat.le_refl _) nC)
    · refine thnF (T.item (X.blk s3 H3 sc ce fp) rfl rfl rfl hc i [] s5 _ H5 (fun _ _ => False) I5 (stays I5 n5) st5 go) fun r s6 ⟨u, hr, h6⟩ => ?_
      subst hr
      refine thnF h6 fun _ s7 ⟨x, H7, I7, r7, y7, st7, n7⟩ => ?_
      refine thnF (pg.run _ s7 _ H7 x u _ (I7.pinned (stays I7 n7) (T.obj _ _ st7)) r7 (step x H7 y7)) fun _ s8 ⟨σ8, H8, I8, hw8, q8⟩ => ?_
      refine thnF (pt.run _ s8 σ8 H8 _ I8 q8) fun b s9 ⟨H9, I9, q9⟩ => ?_
      have fin : ∀ {sz : Shared} {Hz : Hp}, Inv (X.blk s3 H3 sc ce fp) ([] ++ pinsAt fp s7.heap) σ8 Hz sz → Nx Hz → ∃ m, m < n ∧ ∃ i Hz, Inv (X.blk s3 H3 sc ce fp) [] (wipe σ (own.map (·.2))) Hz sz ∧ tn i sz.heap ∧ (∀ b ∈ fp, Hz b = none) ∧ Wk i m Hz := fun {sz Hz} Iz nx => by
        obtain ⟨m', hm, w'⟩ := hNx Hz nx
        have pin : ∀ b ∈ fp, ∀ o, s7.heap.get? b = some o → sz.heap.get? b = some o ∧ Hz b = none := fun b hb o e =>
          let z := Iz.pin (b, o) (List.mem_append_right _ (List.mem_append_right _ (mem_pinsAt hb e))); ⟨z.1, z.2.1⟩
        have hl : (wipe σ (own.map (·.2))).length = σ8.length := by rw [← hw8, wipe_length]
        refine ⟨m', hm, i + 1, Hz, (Iz.unpinned (pins := [])).weak hl (fun j v e => ?_), T.keep _ _ _ st7 fun b hb o e => (pin b hb o e).1, fun b hb => ?_, w'⟩
        · rw [← hw8] at e
          exact (wipe_some e).1
        · obtain ⟨o, e, _⟩ := T.obj _ _ st7 b hb
          exact (pin b hb o e).2
      cases b with
      | false =>
        simp only [Bool.false_eq_true, if_false] at q9 ⊢
        exact fin I9 q9
      | true =>
        simp only [if_true] at q9 ⊢
        refine thnF (pe.run _ s9 σ8 H9 _ I9 q9) fun z s10 ⟨yv, H10, I10, r10, zt, xs, ey, hD10, room, nx⟩ => ?_
        subst ey
        obtain ⟨tk, rfl⟩ : ∃ t, z = Value.str zt t := r10
        exact sxO_add (X := X.blk s3 H3 sc ce fp) I10 hD10 room fun s11 I11 => fin I11 nx
  exact PpSet.codeAny_compStart_set loop (T.self X.A 0 _ _ _ st4 loop)
theorem pe_sx {elt tg iter : Expr} {ifs : List Expr} {sc : Scope} {own : List (Str × Nat)} {pos : Pos} {wi : TI} {g : TG} {tt : TT} {te : TE} (hc : X.calm = true) (hN : X.N.Nodup) (hi : PI X tg iter wi) (ok : BlkOk X.N X.env.scope sc own)
    (hg : ∀ (s : Shared) (H : Hp) (C : Addr) (cl : List (Str × Addr)) (fp : List Addr), PG (X.blk s H sc (compEnvC sc cl C X.env) fp) tg g)
    (ht : ∀ (s : Shared) (H : Hp) (C : Addr) (cl : List (Str × Addr)) (fp : List Addr), L2.PTs (X.blk s H sc (compEnvC sc cl C X.env) fp) ifs tt)
    (he : ∀ (s : Shared) (H : Hp) (C : Addr) (cl : List (Str × Addr)) (fp : List Addr), PE (X.blk s H sc (compEnvC sc cl C X.env) fp) elt te) (hs : ∀ x, foldedSetIterable iter X.env x = pure x := by intro _; rfl) :
    PE X (.SetComp elt [⟨tg, iter, ifs, 0⟩] sc pos) (tSx X.w wi g tt te (own.map (·.2))) := by
  refine ⟨fun pins s σ H Q I h => ?_⟩
  rw [PpSet.eval_SetComp]
  refine sx_core hc hN I hi ok hg ht he hs h fun D C s' m H' I' q hn f => ⟨m, hn, fun h'' sb => ?_⟩
  exact ⟨.ref D, H', I'.turned (t' := s'.toks) (fun b o hb e => (sb.2 b hb).trans e) f.1 f.2.1 f.2.2.2.1 f.2.2.2.2.1 f.2.2.2.2.2, rfl, q⟩
end
/-! ### sorted(set) -/
def leX (a b : Str) : Bool := decide (a.cps.toList ≤ b.cps.toList)
def sortX (xs : List Str) : List Str := xs.mergeSort leX
theorem leX_tr (a b c : Str) (h1 : leX a b = true) (h2 : leX b c = true) : leX a c = true := decide_eq_true (List.le_trans (of_decide_eq_true h1) (of_decide_eq_true h2))
theorem leX_tot (a b : Str) : (leX a b || leX b a) = true := by
  rcases List.le_total a.cps.toList b.cps.toList with h | h
  · rw [show leX a b = true from decide_eq_true h]; rfl
  · rw [show leX b a = true from decide_eq_true h, Bool.or_true]
theorem leX_anti {a b : Str} (h1 : leX a b = true) (h2 : leX b a = true) : a = b := by
  have e := List.le_antisymm (of_decide_eq_true h1) (of_decide_eq_true h2)
  cases a; cases b
  exact congrArg Str.mk (Array.toList_inj.mp e)
theorem pw_perm : ∀ {xs ys : List Str}, xs.Perm ys → xs.Pairwise (fun a b => leX a b = true) → ys.Pairwise (fun a b => leX a b = true) → xs = ys
  | [], ys, p, _, _ => by rw [List.nil_perm.mp p]
  | x :: xs, [], p, _, _ => by have := p.length_eq; simp at this
  | x :: xs, y :: ys, p, h1, h2 => by
    obtain ⟨a1, a2⟩ := List.pairwise_cons.mp h1
    obtain ⟨b1, b2⟩ := List.pairwise_cons.mp h2
    have e : x = y := by
      rcases List.mem_cons.mp (p.mem_iff.mp List.mem_cons_self) with h | h
      · exact h
      · rcases List.mem_cons.mp (p.mem_iff.mpr List.mem_cons_self) with h' | h'
        · exact h'.symm
        · exact leX_anti (a1 _ h') (b1 _ h)
    subst e
    rw [pw_perm (List.perm_cons _ |>.mp p) a2 b2]
theorem sortX_perm {xs ys : List Str} (p : xs.Perm ys) : sortX xs = sortX ys :=
  pw_perm (((List.mergeSort_perm _ _).trans p).trans (List.mergeSort_perm _ _).symm) (List.pairwise_mergeSort leX_tr leX_tot _) (List.pairwise_mergeSort leX_tr leX_tot _)
def rSortX (w : World) : List V → Hp → VK → Prop := fun ys H Q => ∃ (D : Addr) (xs : List Str), ys = [.ref D] ∧ H D = some (sxO w D xs) ∧ ∀ l, H l = none → Q (.ref l) (upd H l (.lst ((sortX xs).map V.str)))
theorem call_sortX {X : Cx} (hc : X.calm = true) (hu : X.A.units + 64 < cLine) : CallR X (.builtin "sorted") (rSortX X.w) := by
  intro pins s σ H ys us Q I r h
  obtain ⟨D, xs, rfl, hD, q⟩ := h
  obtain rfl := Vals.ref1 r
  obtain ⟨o, es, ep, t, ho, hx, hd, S⟩ := sxO_at I hD
  have hh : X.A.handled = none := I.ok.hd hc
  refine Calls.call_function_entry kind_sorted plain_sorted entry_sorted (args_sorted1 _) ?_
  unfold Builtin.«sorted»
  refine wpAny_bind (m := checkCount "sorted" 1 1 _) (wpAny_pure ?_)
  refine wpAny_bind (collect_set (A := X.A.in1) hh ⟨o, ho, hx.1, hd⟩ S.f S.b S.r S.l fun s1 vs k1 hz g1 o1 pm => ?_)
  have hvl : vs.length = xs.length := by rw [pm.length_eq, List.length_map, Array.length_toList, S.len]
  have hlx : xs.length < scanBound := by rw [← S.len]; exact S.b
  let tx : Value → Str := fun v => match v with
    | .str x _ => x
    | _ => default
  have hv : ∀ v ∈ vs, ∃ tk, v = Value.str (tx v) tk := fun v hv => by
    obtain ⟨e, he, q⟩ := List.mem_map.mp (pm.mem_iff.mp hv)
    obtain ⟨x, tk, h1, _⟩ := S.g e he
    refine ⟨tk, ?_⟩
    rw [← q, h1]
  have ptx : (vs.map tx).Perm xs := by
    have z := pm.map tx
    rw [List.map_map] at z
    have e : (es.toList.map (tx ∘ (·.2))) = es.toList.map txE := rfl
    rw [e] at z
    exact z.trans S.p
  refine wpAny_bind (wpAny_newList ?_ (by rw [hvl]; exact fits_of_scanBound hlx))
  have hoL : (s1.heap.push (seqObj "list" vs.toArray 0)).get? s1.heap.objs.size = some (seqObj "list" vs.toArray 0) := Heap.get?_push_size _ rfl
  have ez : ∀ {us : List Value}, (∀ v ∈ us, ∃ tk, v = Value.str (tx v) tk) → PySem.W.EachIs (fun v (x : Str) => RelV (.str x) v) us (us.map tx) := fun {us} => by
    induction us with
    | nil => exact fun _ => .nil
    | cons v us ih => exact fun h => .cons (h v List.mem_cons_self) (ih fun u hu => h u (List.mem_cons_of_mem _ hu))
  have e0 := ez hv
  refine wpAny_bind (wpAny_holding (PySem.W.list_sort_data (bs := vs.map tx) (enc := fun x => PyData.str x) hoL e0 (e0.mono fun v x ⟨tk, hq⟩ => ⟨[], (by rw [hq]; exact .str _ _), (by simp)⟩) (PySem.W.AllAlike.of fun a b => rfl) (PySem.W.Sortable.others fun b => ⟨(fun z => nomatch z), fun _ z => nomatch z⟩)
    (by rw [List.length_map, hvl]; exact fits_of_scanBound hlx) (fun b hb => by show X.A.in1.units + 1 + 0 < cLine; show X.A.units + 1 + 1 + 0 < cLine; omega) fun out hlen hout => ?_))
  rw [PySem.W.dataLe_str (fun x => x)] at hout
  have es2 : (vs.map tx).mergeSort (fun a b => decide (a.cps.toList ≤ b.cps.toList)) = sortX xs := sortX_perm ptx
  rw [es2] at hout
  obtain ⟨c, hcE⟩ := sortedHeap_at (vs := vs) (out := out.toArray) hoL
  have k : ∀ b u, s.heap.get? b = some u → (sortedHeap (s1.heap.push (seqObj "list" vs.toArray 0)) s1.heap.objs.size vs out.toArray).get? b = some u := fun b u e => by
    have q := k1 b u e
    have hlt := Heap.lt_size q
    rw [sortedHeap_old (Nat.ne_of_lt hlt) (by rw [size_push']; exact Nat.lt_succ_of_lt hlt)]
    exact Heap.get?_push_of_some _ q
  have rv : ∀ {us : List Value} {zs : List Str}, PySem.W.EachIs (fun v (x : Str) => RelV (.str x) v) us zs → Vals (zs.map V.str) us := fun {us zs} h => by
    induction h with
    | nil => exact .nil
    | cons h t ih => exact .cons h ih
  have rv0 := rv hout
  have hn : H s1.heap.objs.size = none := I.hok.fresh hz
  have hlen2 : ((sortX xs).map V.str).length ≤ sizeLine := by
    rw [List.length_map, show (sortX xs).length = xs.length from List.length_mergeSort _]
    exact fits_of_scanBound hlx
  refine wpAny_pure ⟨_, rfl, .ref s1.heap.objs.size, upd H s1.heap.objs.size (.lst ((sortX xs).map V.str)), ?_, rfl, q _ hn⟩
  exact I.call' (ch := []) (s' := { s1 with heap := sortedHeap (s1.heap.push (seqObj "list" vs.toArray 0)) s1.heap.objs.size vs out.toArray }) o1 (Un.laid k hz hn) (I.hok.laid k hz ⟨hlen2, out, c, rv0, hcE⟩) (by show AllBare s1.gens; rw [g1]; exact I.bare) (fun _ z => nomatch z)
end SE

/-! SEH: for k in d (a dict that nothing changes from then on); sorted({..}), sorted(set(l)). -/
namespace SE
open PySem PySem.Spec PyProof.Rows L2
/-! ### the keys of a dict, one after another -/
def ItF (P : Program) (w : World) (d : Addr) (o : Obj) (zs : List (List Key × Addr × Value)) : It :=
  ⟨fun i H => H d = some (.frz o (dctO P w d zs)) ∧ i < zs.length, fun i H x H' => H' = H ∧ ∃ z, zs[i]? = some z ∧ x = .ref z.2.1, fun i H => H d = some (.frz o (dctO P w d zs)) ∧ zs.length ≤ i⟩
theorem turn_keysF {P : Program} {w : World} {K : PySem.W.Frag} {tg : Expr} {d : Addr} {o : Obj} {es : Array DictEntry} {ep : Nat} {zs : List (List Key × Addr × Value)} (it : Addr) (hs : (d == sysModules) = false) (hx : o.ExactDict) (hod : o.data = .dict es ep) (hes : es.toList = zs.map (entryOfKey (tupleKind (mixKind P w)))) :
    Turn P w K tg (ItF P w d o zs) [it] it fun i h => h.IsKeyIter it d i zs.length ep where
  mem := List.mem_cons_self
  obj := fun i h st b hb => by
    obtain rfl := List.mem_singleton.mp hb
    obtain ⟨oi, e, c, dd⟩ := st
    exact ⟨oi, e, fun v z => by rw [dd] at z; cases z⟩
  keep := fun i h h' st k => st.at fun oi e => k it (by simp) oi e
  item := fun X hP hw hK hc i pins s σ H E I hf st hg => by
    subst hP hw hK
    obtain ⟨hd, hi⟩ := hg
    obtain ⟨f0, f1, f2, f3, f4, f5⟩ := hf it (by simp)
    have hgd : s.heap.get? d = some o := (show ObjOk X.prog X.w H s.heap d (.frz o (dctO X.prog X.w d zs)) from I.hok d _ hd).1
    have hsz : es.size = zs.length := size_of_entries hes
    obtain ⟨z, hz⟩ : ∃ z, zs[i]? = some z := ⟨_, List.getElem?_eq_getElem hi⟩
    have hen : es[i]? = some (entryOfKey (tupleKind (mixKind X.prog X.w)) z) := by
      rw [entry_at hes i, hz] <;> rfl
    refine next_key_item st hgd hod hsz hen fun h' st' sb => ?_
    obtain ⟨oi, e, c, dd⟩ := id st'
    exact ⟨_, rfl, go_of (s := { s with heap := h' }) e c dd (by decide) ⟨.ref z.2.1, H, I.turned (t' := s.toks) (fun b ob hb e => (sb.2 b hb).trans e) f0 f1 f3 f4 f5, rfl, ⟨rfl, z, hz, rfl⟩, st', fun b hb => (hf b hb).1⟩⟩
  done := fun X hP hw hK hc i pins s σ H E I hf st hg => by
    subst hP hw hK
    obtain ⟨hd, hi⟩ := hg
    obtain ⟨f0, f1, f2, f3, f4, f5⟩ := hf it (by simp)
    have hgd : s.heap.get? d = some o := (show ObjOk X.prog X.w H s.heap d (.frz o (dctO X.prog X.w d zs)) from I.hok d _ hd).1
    exact next_key_end (I.ok.hd hc) st hgd hod (size_of_entries hes) hi fun h' eb => ⟨rfl, I.turned (t' := s.toks) (fun b ob hb e => eb b ob hb e) f0 f1 f3 f4 f5⟩
  self := fun A i s Q E st h => wpAny_pyIter_keyiter st h
def iKeysF (P : Program) (w : World) (K : PySem.W.Frag) (td : TE) : TI := fun σ H R => td σ H fun x H1 => ∃ d zs, x = .ref d ∧ (d == sysModules) = false ∧
  ((H1 d = some (dctO P w d zs) ∧ ∀ o, R (ItF P w d o zs) (upd H1 d (.frz o (dctO P w d zs)))) ∨ ∃ o, H1 d = some (.frz o (dctO P w d zs)) ∧ R (ItF P w d o zs) H1)
section
variable {X : Cx} {W : WX} {Γ : Gs} {tg e : Expr}
theorem pi_keysF {td : TE} (he : PE X e td) : PI X tg e (iKeysF X.prog X.w X.K td) := by
  refine ⟨fun pins s σ H R I h => ?_⟩
  refine thn (he.run pins s σ H _ I h) fun u s1 ⟨x, H1, I1, rx, d, zs, ex, hs, q⟩ => ?_
  subst ex
  obtain rfl : u = Value.ref d := rx
  have fin : ∀ (o : Obj) (H2 : Hp), Inv X pins σ H2 s1 → H2 d = some (.frz o (dctO X.prog X.w d zs)) → R (ItF X.prog X.w d o zs) H2 → wpAny (model X.prog X.w) X.A (pyIter (.ref d)) (PIE X pins σ tg R) X.xe s1 := fun o H2 I2 hd q => by
    obtain ⟨h1, ⟨o', es, ep, h2, hx, hdt, hes⟩, _⟩ := (show ObjOk X.prog X.w H2 s1.heap d (.frz o (dctO X.prog X.w d zs)) from I2.hok d _ hd)
    rw [h1] at h2
    cases h2
    refine iter_keys hs h1 hx hdt (pi_one (tk := s1.toks) I2 _ (turn_keysF _ hs hx hdt hes) ⟨_, Heap.get?_push_size _ rfl, rfl, ?_⟩ q)
    rw [size_of_entries hes] <;> rfl
  rcases q with ⟨hd, q⟩ | ⟨o, hd, q⟩
  · obtain ⟨od, I2⟩ := I1.lock hd (by unfold dctO; exact True.intro)
    exact fin od _ I2 upd_same (q od)
  · exact fin o H1 I1 hd q
end
def dkM (d : D) : M (List D) := fun μ => match d, dctAt μ d with
  | .loc l, some kvs => .ok (kvs.map keyT) (μ.set l (.fT kvs))
  | _, _ => .bad
def eDk (mo : Ev → M D) : Ev → M (List D) := fun ρ => M.bind (mo ρ) dkM
theorem itF_tie {G : Gx} {φ : Lab} {H : Hp} {d : Addr} {o : Obj} {zs : List (List Key × Addr × Value)} {kvs : List (List Key × SE.D)} (h : H d = some (.frz o (dctO G.P G.w d zs))) (T : RpT G φ H kvs zs) : tieI G φ H (kvs.map keyT) (ItF G.P G.w d o zs) := by
  intro φ1 H1 g i
  have hh := g.kf _ _ _ h
  refine ⟨fun k hk => ?_, fun hl => ⟨hh, by rw [List.length_map, T.len] at hl; exact hl⟩⟩
  rw [List.getElem?_map] at hk
  cases q : kvs[i]? with
  | none => rw [q] at hk; cases hk
  | some e =>
    rw [q] at hk
    obtain rfl : keyT e = k := Option.some.inj hk
    have hi : i < zs.length := by rw [← T.len]; exact (List.getElem?_eq_some_iff.mp q).1
    refine ⟨⟨hh, hi⟩, fun x H2 μ R hy => ?_⟩
    obtain ⟨rfl, z, hz, rfl⟩ := hy
    obtain ⟨e2, he2, hk2, hs2, _⟩ := T.get i z hz
    rw [q] at he2
    cases he2
    refine ⟨Grow.refl _ _, R, .tup ((hs2.grow g)) ?_⟩
    rw [hk2]
    exact kD_rp _
section
variable {X : Cx} {W : WX} {Γ : Gs} {tg e : Expr} {mo : Ev → M D}
theorem i_dk (he : JE X Γ W e mo) (h0 : Γ.off = Γ := by rfl) : JI X Γ W tg e (eDk mo) := by
  refine pi_w (pi_keysF he) fun σ H R h => ?_
  refine bE h fun φ1 H1 x v ρ μ1 ev r rv p => ?_
  have p2 : Post (X.G Γ) (tieI (X.G Γ)) φ1 H1 (dkM x μ1) R fun cls dd H' => W cls dd σ H' := p
  clear p
  unfold dkM at p2
  cases q : dctAt μ1 x with
  | none =>
    rw [q] at p2
    cases x <;> exact p2.elim
  | some kvs =>
    obtain ⟨l, a, zs, rfl, rfl, hl, hm, D, z1, z2, T⟩ := dct_at r rv q
    rw [q] at p2
    dsimp only at p2
    have eo : (X.G Γ).off = X.G Γ := Gx.off_eq (G := X.G Γ) h0
    refine ⟨a, zs, rfl, D.ns, ?_⟩
    rcases D.at_ with hd | ⟨o, hd⟩
    · refine .inl ⟨hd, fun o => ?_⟩
      have nf : ∀ o v, H1 a ≠ some (.frz o v) := fun _ _ z => by
        rw [hd] at z
        unfold dctO at z
        cases z
      have nt : ∀ ps, HO.frz o (dctO X.prog X.w a zs) ≠ .tbl ps := fun _ z => nomatch z
      have nh : a ∉ φ1.h := fun z => by
        obtain ⟨u, e, z1⟩ := r.hd a z
        rw [hd] at e
        exact z1.nd (Option.some.inj e).symm
      have g : Grow φ1 H1 φ1 (upd H1 a (.frz o (dctO X.prog X.w a zs))) := Grow.wr hl nf nt
      have T' : RpT (X.G Γ).off φ1 (upd H1 a (.frz o (dctO X.prog X.w a zs))) kvs zs := T.growW g.w
      exact p2 φ1 _ _ g (r.wrO hl nf nt (fun z => absurd z nh) ⟨zs, ⟨o, upd_same⟩, D.ns, z1, z2, T'⟩) (itF_tie (G := X.G Γ) upd_same (by rw [← eo]; exact T'))
    · refine .inr ⟨o, hd, ?_⟩
      have hm2 : μ1[l]? = some (.fT kvs) := by
        rcases hm with hm | hm
        · obtain ⟨b, h1, h2⟩ := r.at_ l _ hm
          rw [hl] at h1
          cases h1
          obtain ⟨xs, h3, _⟩ := h2
          rw [hd] at h3
          unfold dctO at h3
          cases h3
        · exact hm
      have es : μ1.set l (.fT kvs) = μ1 := by
        apply List.ext_getElem?
        intro i
        by_cases hi : l = i
        · subst hi
          rw [hm2, List.getElem?_set_self (List.getElem?_eq_some_iff.mp hm2).1]
        · rw [List.getElem?_set_ne hi]
      rw [es] at p2
      exact p2 φ1 H1 _ (Grow.refl _ _) r (itF_tie (G := X.G Γ) hd (by rw [← eo]; exact T))
end
/-! ### a set of texts, sorted -/
def sxF (vs : List Nat) (f : GT) (mt : Ev → M Bool) (me : Ev → M D) (ρ : Ev) : List D → List Str → M D
  | [], acc => fun μ => .ok (.lst ((sortX acc).map .str)) μ
  | d :: ds, acc => match f d (wipeE ρ vs) with
    | some ρ1 => M.bind (noE (mt ρ1)) fun b => if b = true then (M.bind (noE (me ρ1)) fun y => match y with
      | .str x => if acc.length < 4000 then sxF vs f mt me ρ ds (addX acc x) else M.bad
      | _ => M.bad) else sxF vs f mt me ρ ds acc
    | none => M.bad
def eSx (vs : List Nat) (f : GT) (mi : Ev → M (List D)) (mt : Ev → M Bool) (me : Ev → M D) : Ev → M D := fun ρ => M.bind (mi ρ) fun ds => sxF vs f mt me ρ ds []
theorem hid_sx {w : World} {D : Addr} {xs : List Str} : Hid D (sxO w D xs) := .inr ⟨_, rfl, fun h ⟨o, es, ep, t, ho, hx, hd, _⟩ => ⟨o, es, ep, t, ho, hd⟩⟩
theorem tSx_i {X : Cx} {Γ : Gs} {W : WX} {g0 : TG} {f : GT} {vs : List Nat} (hT : TgOk (X.G Γ) g0 f vs) {mi : Ev → M (List D)} {mt : Ev → M Bool} {me : Ev → M D} {σ : L2.St} {H : Hp} {Q : VK} (h : tG (X.G Γ) (tieD (X.G Γ)) W (eSx vs f mi mt me) σ H Q) :
    tSx X.w (tG (X.G Γ) (tieI (X.G Γ)) W mi) g0 (tG (X.G Γ) tieB W0 mt) (tG (X.G Γ) (tieD (X.G Γ)) W0 me) vs σ H fun y H2 => rSortX X.w [y] H2 Q := by
  refine bE h fun φ1 H1 items J ρ μ1 e1 r1 rj p1 => ?_
  intro D hD
  have nD1 : D ∉ φ1.h := fun z => r1.out hD (.inr z)
  have nL1 : D ∉ φ1.l := fun z => r1.out hD (.inl z)
  have gD : Grow φ1 H1 (φ1.hide D) (upd H1 D (sxO X.w D [])) := Grow.hide hD
  refine ⟨fun k m H => k + m = items.length ∧ ∃ φ μ acc, Grow φ1 H1 φ H ∧ H D = some (sxO X.w D acc) ∧ D ∈ φ.h ∧ D ∉ φ.l ∧ EvR (X.G Γ) φ H ρ σ ∧ MemR (X.G Γ) φ μ H ∧ Post (X.G Γ) (tieD (X.G Γ)) φ1 H1 (sxF vs f mt me ρ (items.drop k) acc μ) Q fun cls dd H' => W cls dd σ H',
    ⟨items.length, by omega, φ1.hide D, μ1, [], gD, upd_same, List.mem_cons_self, nL1, e1.grow gD, r1.hideG hD hid_sx, p1⟩, ?_⟩
  rintro k m H ⟨hm, φ, μ, acc, g, hDl, hDh, nL, ev, r, p⟩
  obtain ⟨jg, js⟩ := rj φ H g k
  by_cases hi : k < items.length
  · have hd : items[k]? = some items[k] := List.getElem?_eq_getElem hi
    obtain ⟨j1, j2⟩ := jg _ hd
    rw [List.drop_eq_getElem_cons hi] at p
    refine .inr ⟨j1, fun H' => k + 1 + (m - 1) = items.length ∧ ∃ φ μ acc, Grow φ1 H1 φ H' ∧ H' D = some (sxO X.w D acc) ∧ D ∈ φ.h ∧ D ∉ φ.l ∧ EvR (X.G Γ) φ H' ρ σ ∧ MemR (X.G Γ) φ μ H' ∧ Post (X.G Γ) (tieD (X.G Γ)) φ1 H1 (sxF vs f mt me ρ (items.drop (k + 1)) acc μ) Q fun cls dd H' => W cls dd σ H', fun H' w => ⟨m - 1, by omega, w⟩, fun x H2 hy => ?_⟩
    obtain ⟨g2, r2, rx⟩ := j2 x H2 μ r hy
    have ev2 := ev.grow g2
    unfold sxF at p
    refine hT φ H2 _ x ρ σ μ _ ev2 r2 rx ?_
    cases qf : f items[k] (wipeE ρ vs) with
    | none => rw [qf] at p; exact p.elim
    | some ρ1 =>
    rw [qf] at p
    dsimp only at p
    refine ⟨ρ1, rfl, fun σ2 hw evB => ⟨hw, ?_⟩⟩
    have nb : ¬ Post (X.G Γ) (tieD (X.G Γ)) φ1 H1 .bad Q fun cls dd H' => W cls dd σ H' := fun z => z
    refine bN (T := tieB) (fun r => Post (X.G Γ) (tieD (X.G Γ)) φ1 H1 r Q fun cls dd H' => W cls dd σ H') nb evB r2 p fun φ3 H3 b b' μ3 g3 e3 r3 eb p3 => ?_
    cases (show b' = b from eb)
    have G3 := (g.trans g2).trans g3
    have tb : ∀ {zs : List Str} ps, sxO X.w D zs ≠ .tbl ps := fun _ z => by unfold sxO at z; cases z
    have hD2 := g2.kp _ _ hDl nL tb
    have nD2 := g2.outL hDl tb nL
    have hD3 := g3.kp _ _ hD2 nD2 tb
    have nD3 := g3.outL hD2 tb nD2
    have hH3 := g3.hs _ (g2.hs _ hDh)
    cases b with
    | false =>
      show _ ∧ _
      exact ⟨by omega, φ3, μ3, acc, G3, hD3, hH3, nD3, ev2.grow g3, r3, p3⟩
    | true =>
      rw [if_pos rfl] at p3
      show tG _ _ _ _ _ _ _
      refine bN (T := tieD (X.G Γ)) (fun r => Post (X.G Γ) (tieD (X.G Γ)) φ1 H1 r Q fun cls dd H' => W cls dd σ H') nb e3 r3 p3 fun φ4 H4 y yv μ4 g4 e4 r4 ry p4 => ?_
      have hD4 := g4.kp _ _ hD3 nD3 tb
      have nD4 := g4.outL hD3 tb nD3
      have hH4 := g4.hs _ hH3
      cases ry with
      | str z =>
        dsimp only at p4
        by_cases hl : acc.length < 4000
        · rw [if_pos hl] at p4
          refine ⟨z, acc, rfl, hD4, by show acc.length + 1 < 4096; omega, by omega, ?_⟩
          have g5 : Gw φ4 H4 φ4 (upd H4 D (sxO X.w D (addX acc z))) := Gw.wrH hH4
          exact ⟨φ4, μ4, addX acc z, (G3.trans g4).wrNew hD, upd_same, hH4, nD4, ((ev2.grow g3).grow g4).growW g5, r4.wrHG hH4 nD4 hid_sx, p4⟩
        · rw [if_neg hl] at p4
          exact p4.elim
      | _ => exact p4.elim
  · have e : items.drop k = [] := List.drop_of_length_le (by omega)
    rw [e] at p
    refine .inl ⟨js (by omega), D, acc, rfl, hDl, fun l hl => ?_⟩
    have gl : Grow (φ.bare D) H (φ.bare D) (upd H l (.lst ((sortX acc).map V.str))) := Grow.laid hl
    have r5 : MemR (X.G Γ) (φ.bare D) μ (upd H l (.lst ((sortX acc).map V.str))) := r.bare.laid hl
    exact p (φ.bare D) _ _ ((g.bare nD1).trans gl) r5 (.lst upd_same (r.bare.out hl) (strs_rp _))
section
variable {X : Cx} {Γ : Gs} {W : WX} {elt iter tg : Expr} {ifs : List Expr} {own : List (Str × Nat)} {scope : Scope} {pos cpos p0 : Pos} {mi : Ev → M (List D)} {mt : Ev → M Bool} {me : Ev → M D} {g : TG} {f : GT}
theorem j_sortSx (hc : X.calm = true) (hN : X.N.Nodup) (hi : JI X Γ W tg iter mi) (ok : blkC X.N X.env.scope scope own = true) (hT : TgOk (X.G Γ) g f (own.map (·.2)))
    (hg : ∀ (s : Shared) (H : Hp) (C : Addr) (cl : List (Str × Addr)) (fp : List Addr), PG (X.blk s H scope (compEnvC scope cl C X.env) fp) tg g)
    (ht : ∀ (s : Shared) (H : Hp) (C : Addr) (cl : List (Str × Addr)) (fp : List Addr), JTs (X.blk s H scope (compEnvC scope cl C X.env) fp) Γ ifs mt)
    (he : ∀ (s : Shared) (H : Hp) (C : Addr) (cl : List (Str × Addr)) (fp : List Addr), JE (X.blk s H scope (compEnvC scope cl C X.env) fp) Γ W0 elt me)
    (hu : X.A.units + 64 < cLine) (hgl : Gl X "sorted") (hm : X.mg "sorted" = none) (hs : ∀ x, foldedSetIterable iter X.env x = pure x := by intro _; rfl)
    (hst : starEach [.SetComp elt [⟨tg, iter, ifs, 0⟩] scope pos] X.env = (false, eval (.SetComp elt [⟨tg, iter, ifs, 0⟩] scope pos) X.env) :: starEach [] X.env := by rfl) (hpl : (backTo cpos (starEach [] X.env)).any (·.1) = false := by rfl) :
    JE X Γ W (.Call (.Name "sorted" p0) [.SetComp elt [⟨tg, iter, ifs, 0⟩] scope pos] [] cpos) (eSx (own.map (·.2)) f mi mt me) := by
  refine pe_w (pe_callB (call_sortX hc hu) hgl hm (by rfl) (pa_cons (pe_sx (own := own) (g := g) (tt := tG (X.G Γ) tieB W0 mt) (te := tG (X.G Γ) (tieD (X.G Γ)) W0 me) hc hN hi (blkOk_by ok) hg ht he hs) pa_nil hst) (by decide) (by decide) hst hpl) fun σ H Q h => ?_
  exact tSx_i hT h
theorem wr_eSx {vs : List Nat} {ρ : Ev} {μ : Mem} {P : D → Mem → Prop} {E : Ex → Mem → Prop} : wr (eSx vs f mi mt me ρ μ) P E = wr (mi ρ μ) (fun ds μ1 => wr (sxF vs f mt me ρ ds [] μ1) P E) E := wr_bnd
theorem wr_eDk {mo : Ev → M D} {ρ : Ev} {μ : Mem} {P : List D → Mem → Prop} {E : Ex → Mem → Prop} : wr (eDk mo ρ μ) P E = wr (mo ρ μ) (fun x μ1 => wr (dkM x μ1) P E) E := wr_bnd
end
end SE

/-! SEI: errors of the text as values: C(e), C(f=e), C(). -/
namespace PySem.HandSE
open Builtin Builtin.ObjectAttr PySem.W PySem.HandSPX
section
variable {M : Model} {A : Around} {E : Value → Shared → Prop} {h : Heap} {g : Array GenState} {d : Drawn} {t : Nat} {os : OsState}
variable {nm q : Str} {C N : Addr} {bs bm bmB : List Value} {hdct : Bool} {sn : List Str} {sub : List Value} {ab : Bool} {col : Option Bool} {dd : Option Addr} {k0 k1 k2 k3 k5 : Option Value} {B newId initId : String}
theorem check_newK (F : ExcBaseFacts B newId initId bmB) (hT : ∀ X : String, bm.contains (.type X) = bmB.contains (.type X)) {rest : List Value} {kw : List (Str × Value)} {Q : Unit → Shared → Prop}
    (hC : h.get? C = some (excClassObj nm q C N bs bm hdct sn sub ab col dd k0 k1 k2 k3 k5 newId)) (hq : Q () ⟨h, g, d, t, os⟩) : wpAny M A (checkBuiltinCall newId ⟨.ref C :: rest, kw⟩) Q E ⟨h, g, d, t, os⟩ := by
  have hcont : (Value.ref C :: bm).contains (.type B) = true := by rw [List.contains_cons, hT, F.hasB, Bool.or_true]
  have hstar := F.noStar
  simp only [checkBuiltinCall, F.newKind, F.newSplit, F.newRow]
  repeat (first | refine wpAny_loadPart_at hC ?_ | (refine wpAny_isSubtype_exc hC ?_; rw [hcont]) | refine wpAny_staticBase_exc hC ?_ | refine wpAny_madeBy_exc hC ?_ | simp only [bne_self_eq_false, Bool.false_eq_true, if_false] | wp_step)
  exact hq

end
section
variable {prog : Program} {w : World} {A : Around} {E : Value → Shared → Prop} {R : Result → Shared → Prop} {h : Heap} {g : Array GenState} {d : Drawn} {t : Nat} {os : OsState}
variable {nm q : Str} {C N : Addr} {bs bm bmB : List Value} {hdct : Bool} {sn : List Str} {sub : List Value} {ab : Bool} {col : Option Bool} {dd : Option Addr} {k0 k1 k2 k3 k5 : Option Value} {B newId initId : String}
theorem new_ownK (F : ExcBaseFacts B newId initId bmB) (hT : ∀ X : String, bm.contains (.type X) = bmB.contains (.type X)) {rest : List Value} {kw : List (Str × Value)}
    (hC : h.get? C = some (excClassObj nm q C N bs bm hdct sn sub ab col dd k0 k1 k2 k3 k5 newId))
    (hq : R (.ok (.ret (.ref (h.objs.size + 1)))) ⟨(h.push (kdv_tup rest)).push (excO C h.objs.size), g, d, t, os⟩) (hrest : rest.length ≤ sizeLine) :
    codeAny (model prog w) A (.builtin newId ⟨.ref C :: rest, kw⟩) R ⟨h, g, d, t, os⟩ := by
  have c1 : (Value.ref C :: bm).contains (.type B) = true := by rw [List.contains_cons, hT, F.hasB, Bool.or_true]
  have c2 : (Value.ref C :: bm).contains (.type "AttributeError") = false := by rw [List.contains_cons, hT, F.noAttr]; rfl
  have c3 : (Value.ref C :: bm).contains (.type "NameError") = false := by rw [List.contains_cons, hT, F.noName]; rfl
  have ends := F.ends
  refine codeAny_builtinAt F.entry ?_
  unfold Builtin.«BaseException.__new__»
  refine wpAt_bind ?_
  show wpAt _ _ _ (stack >>= _) _ _ _
  refine wpAt_bind (wpAt_stack fun p below => wpAt_of_wpAny ?_)
  wp_walk
  refine wpAt_of_wpAny ?_
  rw [F.owner]
  repeat (first | with_reducible refine wpAny_madeHere_exc F.canon hC ?_ | with_reducible refine wpAny_loadPart_at hC ?_ | (with_reducible refine wpAny_isSubtype_exc hC ?_; first | rw [c1] | rw [c2] | rw [c3]) | wp_step)
  show R _ _
  rw [Heap.size_push]
  exact hq
theorem type_callK (F : ExcBaseFacts B newId initId bmB) (hT : ∀ X : String, bm.contains (.type X) = bmB.contains (.type X)) {rest : List Value} {kw : List (Str × Value)} {fI : Addr} {Q : Fin → Shared → Prop}
    (hC : h.get? C = some (excClassObj nm q C N bs bm hdct sn sub ab col dd k0 k1 k2 k3 k5 newId))
    (hi : Looks (model prog w) h (typeLookup (.ref C) "__init__") (some (.ref fI))) (hb : ∀ self, Looks (model prog w) h (bindSpecial (.ref fI) self) (.ref fI, [self])) (hrest : rest.length ≤ sizeLine)
    (hq : codeAny (model prog w) A (.call (.ref fI) ⟨.ref (h.objs.size + 1) :: rest, kw⟩)
      (fun r s' => match r with | .ok (.ret v) => v = .none ∧ Q (.done (.ret (.ref (h.objs.size + 1)))) s' | .ok _ => False | .error e => E e s')
      ⟨(h.push (kdv_tup rest)).push (excO C h.objs.size), g, d, t, os⟩) :
    wpAny (model prog w) A (Builtin.«type.__call__» ⟨.ref C :: rest, kw⟩) Q E ⟨h, g, d, t, os⟩ := by
  repeat (first | with_reducible refine wpAny_loadPart_at hC ?_ | with_reducible refine wpAny_madeBy_exc hC ?_ | wp_step)
  refine codeAny_call_builtin_code (Code.quiet_builtin _ F.quiet) (check_newK F hT hC ?_)
  refine new_ownK F hT hC ?_ hrest
  show wpAny _ _ _ _ _ _
  have k : ∀ b o, h.get? b = some o → ((h.push (kdv_tup rest)).push (excO C h.objs.size)).get? b = some o := fun b o e => Heap.get?_push_of_some _ (Heap.get?_push_of_some _ e)
  have hC1 := k _ _ hC
  have hget : ((h.push (kdv_tup rest)).push (excO C h.objs.size)).get? (h.objs.size + 1) = some (excO C h.objs.size) := by heap_get
  have cc : (Value.ref C :: bm).contains (.ref C) = true := by simp
  have i1 := hi.keeps k
  have b1 := (hb (.ref (h.objs.size + 1))).keeps k
  unfold isInstance
  repeat (first | with_reducible refine wpAny_loadPart_at hget ?_ | (with_reducible refine wpAny_isSubtype_exc hC1 ?_; rw [cc]) | wp_step)
  show wpAny _ _ (typeLookup (.ref C) _) _ _ _
  refine i1.at (wpAny_holding (wpAny_bind (b1.at (wpAny_bind (wpAny_call (codeAny_mono hq fun r s' z => ?_))))))
  rcases r with e | (v | _ | _ | _) <;> first | exact z | exact z.elim | skip
  obtain ⟨rfl, z⟩ := z
  first
    | exact wpAny_pure (wpAny_pure z)
    | (wp_walk; exact z)
theorem call_ownK (F : ExcBaseFacts B newId initId bmB) (hT : ∀ X : String, bm.contains (.type X) = bmB.contains (.type X)) {rest : List Value} {kw : List (Str × Value)} {fI : Addr}
    (hC : h.get? C = some (excClassObj nm q C N bs bm hdct sn sub ab col dd k0 k1 k2 k3 k5 newId))
    (hi : Looks (model prog w) h (typeLookup (.ref C) "__init__") (some (.ref fI))) (hb : ∀ self, Looks (model prog w) h (bindSpecial (.ref fI) self) (.ref fI, [self])) (hrest : rest.length ≤ sizeLine)
    (hq : codeAny (model prog w) (A.under (.builtin "type.__call__" ⟨.ref C :: rest, kw⟩)) (.call (.ref fI) ⟨.ref (h.objs.size + 1) :: rest, kw⟩) (InitBack (h.objs.size + 1) R)
      ⟨(h.push (kdv_tup rest)).push (excO C h.objs.size), g, d, t, os⟩) :
    codeAny (model prog w) A (.call (.ref C) ⟨rest, kw⟩) R ⟨h, g, d, t, os⟩ := by
  have f1 := tc_lookup
  have f2 := tc_bind (.ref C)
  have hTy : (⟨h, g, d, t, os⟩ : Shared).TypeIs (.ref C) "type" := ⟨_, hC, rfl⟩
  refine codeAny_of_tree ?_
  show wpAny _ _ (callAny (.ref C) _) _ _ _
  repeat (any_goals (first | assumption | with_reducible refine wpAny_loadPart_at hC ?_ | wp_step))
  refine ⟨rfl, ?_⟩
  refine codeAny_call_builtin_at (Code.quiet_builtin _ (by decide +kernel)) entry_typeCall (wpAny_check_type_call_sub hC (type_callK F hT hC hi hb hrest ?_))
  refine codeAny_mono hq fun r s' z => ?_
  rcases r with e | (v | _ | _ | _) <;> exact z
end
end PySem.HandSE

namespace SE
open PySem PySem.Spec PyProof.Rows L2
section
variable {X : Cx} {W : WX} {pins : List (Addr × Obj)} {σ : L2.St} {H1 : Hp} {s : Shared} {C fI : Addr} {fd : FuncData} {ps : List Str} {fld : Str}
theorem mkE_run {us : List Value} {kw : List (Str × Value)} {u : Value} {y : V} {Q : VK} (tk : L2N.Takes X W) (T : ErrF X.K C fI fld) (F : FnOk X.prog X.w X.K X.mg X.base (L2N.CX X.prog X.w) 1 fI fd ps (spI C fld)) (hr : Room 2 X.A) (I1 : Inv X pins σ H1 s) (hl : us.length ≤ 1)
    (ry : RelV y u) (bd : ∀ (a : Addr) (s : Shared), X.K.In s.heap → BindsTo s fd ⟨.ref a :: us, kw⟩ (ps.zip [.ref a, u]))
    (wish : ∀ (a dx : Addr) (oe : Obj), H1 a = none → H1 dx = none → dx ≠ a → oe.cls = .ref C → oe.dict = some dx → (∃ vs, oe.data = .fields vs) → Q (.ref a) (upd (upd H1 dx (.xd [(fld, y)])) a (.frz oe (exo a C (some dx))))) :
    wpAny (model X.prog X.w) X.A (call (.ref C) us kw) (EP X pins σ Q) X.xe s := by
  obtain ⟨b, nm, q, N, bs, bm, sn, sub, ab, col, dd, k0, k1, k2, k3, k5, lkC, ve⟩ := T.T.cls
  obtain ⟨hh, gs, dr, tk0, ow⟩ := s
  have free : H1 (hh.objs.size + 1) = none := I1.hok.fresh (Nat.le_succ _)
  have keep : ∀ c o, hh.get? c = some o → ((hh.push (PySem.W.kdv_tup us)).push (PySem.HandSPX.excO C hh.objs.size)).get? c = some o := fun c o z => Heap.get?_push_of_some _ (Heap.get?_push_of_some _ z)
  have there : ((hh.push (PySem.W.kdv_tup us)).push (PySem.HandSPX.excO C hh.objs.size)).get? (hh.objs.size + 1) = some (PySem.HandSPX.excO C hh.objs.size) := by heap_get
  have J : Inv X pins σ (upd H1 (hh.objs.size + 1) (exo (hh.objs.size + 1) C none)) ⟨(hh.push (PySem.W.kdv_tup us)).push (PySem.HandSPX.excO C hh.objs.size), gs, dr, tk0, ow⟩ := I1.laid (t' := tk0) keep (Nat.le_succ _) (exo_ok there)
  have sp : spI C fld [.ref (hh.objs.size + 1), y] (upd H1 (hh.objs.size + 1) (exo (hh.objs.size + 1) C none)) (fun v H2 => v = .non ∧ ∃ dx, H1 dx = none ∧ dx ≠ hh.objs.size + 1 ∧ H2 = upd (upd (upd H1 (hh.objs.size + 1) (exo (hh.objs.size + 1) C none)) dx (exd dx [(fld, y)])) (hh.objs.size + 1) (exo (hh.objs.size + 1) C (some dx))) (fun _ _ _ => False) :=
    ⟨_, y, rfl, upd_same, fun dx hdx ne => ⟨rfl, dx, by rw [upd_ne ne] at hdx; exact hdx, ne, rfl⟩⟩
  have rv2 : Vals [V.ref (hh.objs.size + 1), y] [Value.ref (hh.objs.size + 1), u] := .cons rfl (.cons ry .nil)
  have hx : Passes (L2N.CX X.prog X.w) X (fun _ _ _ => False) := L2N.passes_call tk fun _ _ _ _ z => z.elim
  refine wpAny_call (PySem.HandSE.call_ownK b.facts (fun Y => tailG_has Y bm ve) (I1.kIn _ _ lkC) (PySem.W.looks_findIn I1.kIn T.iC) (fun self => PySem.W.bind_fn I1.kIn self T.tI) (by rw [sizeLine_eq]; omega)
    (codeAny_mono (F.run _ X.stack _ _ ⟨Value.ref (hh.objs.size + 1) :: us, kw⟩ [Value.ref (hh.objs.size + 1), u] _ _ (fun _ _ _ => False) (hr.make C us kw) (J.env0.make C us kw) (bd _ _ J.kIn) rv2 sp) fun r s' back => ?_))
  cases r with
  | error er => exact hx pins σ _ _ er s' J back
  | ok fl =>
    cases fl with
    | ret z =>
      obtain ⟨v, H2, ow2, bare2, un2, hok2, rl, ev, dx, hdx, ne, eH⟩ := back
      subst ev
      obtain ⟨h2, g2, d2, t2, ow'⟩ := s'
      have Jc : Inv X pins σ H2 ⟨h2, g2, d2, t2, ow'⟩ := J.call' (s' := ⟨h2, g2, d2, t2, ow'⟩) (ch := []) ow2 un2 hok2 bare2 (fun _ z => nomatch z)
      have ea : H2 (hh.objs.size + 1) = some (exo (hh.objs.size + 1) C (some dx)) := by rw [eH, upd_same]
      have ed : H2 dx = some (exd dx [(fld, y)]) := by rw [eH, upd_ne ne, upd_same]
      obtain ⟨mA, hns, rel⟩ := exd_at Jc.hok ed
      have hod : ∃ o, h2.get? dx = some o := let ⟨o, _, _, e, _⟩ := hns; ⟨o, e⟩
      have Jd : Inv X pins σ (upd H2 dx (.xd [(fld, y)])) ⟨h2, g2, d2, t2, ow'⟩ := Jc.write (x := dx) (e := dx) (t' := t2) (h' := h2) (o := .xd [(fld, y)]) (by rw [ed]; exact True.intro) (.inl rfl) (fun _ _ _ z => z) hod ⟨mA, hns, rel⟩
      have ea2 : (upd H2 dx (.xd [(fld, y)])) (hh.objs.size + 1) = some (exo (hh.objs.size + 1) C (some dx)) := by rw [upd_ne (Ne.symm ne)]; exact ea
      obtain ⟨od, Jf⟩ := Jd.lock ea2 True.intro
      obtain ⟨t0, ho⟩ := exo_at Jc.hok ea
      have ho2 : h2.get? (hh.objs.size + 1) = some od := (show ObjOk X.prog X.w _ h2 (hh.objs.size + 1) (.frz od (exo (hh.objs.size + 1) C (some dx))) from Jf.hok _ _ upd_same).1
      rw [ho] at ho2
      have eo := Option.some.inj ho2
      have w := wish (hh.objs.size + 1) dx od free hdx ne (by rw [← eo]) (by rw [← eo]) ⟨_, by rw [← eo]⟩
      have e3 : upd (upd H2 dx (.xd [(fld, y)])) (hh.objs.size + 1) (.frz od (exo (hh.objs.size + 1) C (some dx))) = upd (upd H1 dx (.xd [(fld, y)])) (hh.objs.size + 1) (.frz od (exo (hh.objs.size + 1) C (some dx))) := by
        funext c
        by_cases h1 : c = hh.objs.size + 1
        · rw [h1, upd_same, upd_same]
        · rw [upd_ne h1, upd_ne h1]
          by_cases h2 : c = dx
          · rw [h2, upd_same, upd_same]
          · rw [upd_ne h2, upd_ne h2, eH, upd_ne h1, upd_ne h2, upd_ne h1]
      exact ⟨rl, .ref (hh.objs.size + 1), _, Jf, rfl, by rw [e3]; exact w⟩
    | next => exact back.elim
    | brk => exact back.elim
    | cont => exact back.elim
end
def mkEM (c fld : Str) (ds : List D) : M D := fun μ => match ds with
  | [d] => .ok (.err c [(fld, d)]) μ
  | _ => .bad
theorem mkEM_v {c f : Str} {d : D} {μ : Mem} : mkEM c f [d] μ = .ok (.err c [(f, d)]) μ := rfl
section
variable {X : Cx} {W : WX} {Γ : Gs} {c fld par : Str} {C fI : Addr} {fd : FuncData} {ps : List Str} {e : Expr} {m : Ev → M D} {p p' pos : Pos}
theorem mkE_tie {φ : Lab} {μ : Mem} {H : Hp} {d : D} {y : V} {Q : VK} {E : XK} (r : MemR (X.G Γ) φ μ H) (rd : Rp (X.G Γ) φ H d y) (hm : X.mg c = some (.ref C)) (p : Post (X.G Γ) (tieD (X.G Γ)) φ H (.ok (.err c [(fld, d)]) μ) Q E)
    (a dx : Addr) (oe : Obj) (ha : H a = none) (hdx : H dx = none) (ne : dx ≠ a) (h1 : oe.cls = .ref C) (h2 : oe.dict = some dx) (h3 : ∃ vs, oe.data = .fields vs) : Q (.ref a) (upd (upd H dx (.xd [(fld, y)])) a (.frz oe (exo a C (some dx)))) := by
  have g1 : Grow φ H φ (upd H dx (.xd [(fld, y)])) := Grow.laid hdx
  have r1 := r.laid (o := .xd [(fld, y)]) hdx
  have ha2 : (upd H dx (.xd [(fld, y)])) a = none := by rw [upd_ne (Ne.symm ne)]; exact ha
  have g2 : Grow φ (upd H dx (.xd [(fld, y)])) φ (upd (upd H dx (.xd [(fld, y)])) a (.frz oe (exo a C (some dx)))) := Grow.laid ha2
  exact p φ _ _ (g1.trans g2) (r1.laid ha2) (.err (.inr ⟨_, upd_same, r1.out ha2⟩) ⟨h1, hm, h3⟩ h2 (by rw [upd_ne ne, upd_same]) (r.out hdx) (.cons ((rd.grow g1).grow g2) .nil))
theorem j_mkE (tk : L2N.Takes X W) (T : ErrF X.K C fI fld) (F : FnOk X.prog X.w X.K X.mg X.base (L2N.CX X.prog X.w) 1 fI fd ps (spI C fld)) (hr : Room 2 X.A) (hb : Binds X.K fd ps []) (hps : ps.length = 2) (hg : Gl X c) (hm : X.mg c = some (.ref C)) (he : JE X Γ W e m)
    (hdb : (c == ("__debug__" : Str)) = false := by decide) (hs : starEach [e] X.env = (false, eval e X.env) :: starEach [] X.env := by rfl) (hpl : (backTo pos (starEach [] X.env)).any (·.1) = false := by rfl) : JE X Γ W (.Call (.Name c p) [e] [] pos) (e1 (fun d => mkEM c fld [d]) m) := by
  refine ⟨fun pins s σ H Q I h => ?_⟩
  refine wpAny_Call_Name_kw (ld_glob I hg hm (PySem.W.callWith_K (h₀ := X.base) I.ok.mod.kin T.T.kC ?_ hs hpl) hdb)
  rw [hs]
  show wpAny _ _ (spliced ((false, eval e X.env) :: backTo pos (starEach [] X.env))) _ _ s
  have key : tG (X.G Γ) (tieD (X.G Γ)) W m σ H fun y H1 => ∀ (a dx : Addr) (oe : Obj), H1 a = none → H1 dx = none → dx ≠ a → oe.cls = .ref C → oe.dict = some dx → (∃ vs, oe.data = .fields vs) → Q (.ref a) (upd (upd H1 dx (.xd [(fld, y)])) a (.frz oe (exo a C (some dx)))) :=
    bE h fun φ1 H1 x v ρ μ1 ev r rv p => mkE_tie r rv hm p
  refine Calls.spliced_cons (thn (he.run pins s σ H _ I key) fun u s1 ⟨y, H1, I1, ry, q1⟩ => ?_)
  refine Calls.spliced_nil ⟨I1.kIn, ?_⟩
  refine mkE_run (us := [u]) (kw := []) tk T F hr I1 (Nat.le_refl _) ry (fun a s' k => ?_) q1
  have := hb s' [.ref a, u] k (by rw [List.append_nil, hps]; rfl)
  rwa [List.append_nil] at this
theorem j_mkEK (tk : L2N.Takes X W) (T : ErrF X.K C fI fld) (F : FnOk X.prog X.w X.K X.mg X.base (L2N.CX X.prog X.w) 1 fI fd ps (spI C fld)) (hr : Room 2 X.A) (hb : ∀ (a : Addr) (u : Value) (s : Shared), X.K.In s.heap → BindsTo s fd ⟨[.ref a], [(par, u)]⟩ (ps.zip [.ref a, u])) (hg : Gl X c) (hm : X.mg c = some (.ref C)) (he : JE X Γ W e m)
    (hall : (backToKw pos (keywordEach [⟨some par, e, p'⟩] X.env)).all (·.1.isSome) = true := by rfl) (hks : (backToKw pos (keywordEach [⟨some par, e, p'⟩] X.env)).filterMap (·.1) = [par] := by rfl)
    (hdb : (c == ("__debug__" : Str)) = false := by decide) (hpl : ((backTo pos (starEach [] X.env)).any (·.1) || (backToKw pos (keywordEach [⟨some par, e, p'⟩] X.env)).any (·.1.isNone)) = false := by rfl) : JE X Γ W (.Call (.Name c p) [] [⟨some par, e, p'⟩] pos) (e1 (fun d => mkEM c fld [d]) m) := by
  refine ⟨fun pins s σ H Q I h => ?_⟩
  refine wpAny_Call_Name_kw (ld_glob I hg hm ?_ hdb)
  have key : tG (X.G Γ) (tieD (X.G Γ)) W m σ H fun y0 H1 => ∃ y, [y0] = [y] ∧ ∀ (a dx : Addr) (oe : Obj), H1 a = none → H1 dx = none → dx ≠ a → oe.cls = .ref C → oe.dict = some dx → (∃ vs, oe.data = .fields vs) → Q (.ref a) (upd (upd H1 dx (.xd [(fld, y)])) a (.frz oe (exo a C (some dx)))) :=
    bE h fun φ1 H1 x v ρ μ1 ev r rv p => ⟨v, rfl, mkE_tie r rv hm p⟩
  have hkw : PK X [⟨some par, e, p'⟩] _ := pk_cons he pk_nil
  refine PySem.W.callWith_KW0 (h₀ := X.base) I.ok.mod.kin T.T.kC hall (thn (hkw.run pos pins s σ H (fun zs H1 => ∃ y, zs = [y] ∧ ∀ (a dx : Addr) (oe : Obj), H1 a = none → H1 dx = none → dx ≠ a → oe.cls = .ref C → oe.dict = some dx → (∃ vs, oe.data = .fields vs) → Q (.ref a) (upd (upd H1 dx (.xd [(fld, y)])) a (.frz oe (exo a C (some dx))))) I key) fun ws s2 ⟨zs, H2, I2, rz, y, ez, q2⟩ => ⟨I2.kIn, ?_⟩) hpl
  subst ez
  rw [hks]
  cases rz with
  | cons r1 r2 =>
    cases r2
    exact mkE_run (us := []) (kw := [(par, _)]) tk T F hr I2 (Nat.zero_le _) r1 (fun a s' k => hb a _ s' k) q2
/-! ### C() -/
/-- a class without an __init__ of its own -/
structure Err0 (K : PySem.W.Frag) (C : Addr) : Prop where
  e : ∃ b : EB, PySem.W.excIn K C b.tail b.new = true
  k : PySem.W.keepIn K (.ref C) = true
theorem err0B_ok {K : PySem.W.Frag} {c : Str} (h : err0B K c = true) : Err0 K (He.ga K c) := by
  obtain ⟨h1, h2⟩ := andB h
  refine ⟨?_, h2⟩
  rcases Bool.or_eq_true_iff.mp h1 with z | z
  · exact ⟨.ve, z⟩
  · rcases Bool.or_eq_true_iff.mp z with z | z
    · exact ⟨.le, z⟩
    · exact ⟨.ae, z⟩
theorem j_mkE0 (T : Err0 X.K C) (hg : Gl X c) (hm : X.mg c = some (.ref C)) (hdb : (c == ("__debug__" : Str)) = false := by decide) : JE X Γ W (.Call (.Name c p) [] [] pos) (fun _ => M.pure (.err c [])) := by
  refine ⟨fun pins s σ H Q I h => ?_⟩
  refine wpAny_Call_Name_kw (ld_glob I hg hm ?_ hdb)
  obtain ⟨φ, ρ, μ, ev, r, p⟩ := h
  refine PySem.W.callWith_K0 I.kIn T.k ?_
  obtain ⟨b, q⟩ := T.e
  obtain ⟨bm, N, nm, qn, bs, hdct, sn, sub, ab, col, dd, k0, k1, k2, k3, k5, mN, hC, hN, hni, ot⟩ := exc_obj I.kIn q
  refine wpAny_call_exc_subT b.facts ot hC hN hni (fun h' a hm' => ?_) (Nat.zero_le _)
  have hn : H a = none := I.hok.gone hm'.new
  obtain ⟨t, ht, _, _⟩ := hm'.there
  have J := I.laidN (t' := s.toks) (o := ExO (.ref C) a) hm'.keeps hm'.new hn (exO_ok ht ⟨rfl, rfl⟩ rfl rfl rfl (show 4 < 6 by decide))
  obtain ⟨od, Jf⟩ := J.lock upd_same True.intro
  have ho2 : h'.get? a = some od := (show ObjOk X.prog X.w _ h' a (.frz od (ExO (.ref C) a)) from Jf.hok _ _ upd_same).1
  rw [ht] at ho2
  have eo := Option.some.inj ho2
  have e3 : upd (upd H a (ExO (.ref C) a)) a (.frz od (ExO (.ref C) a)) = upd H a (.frz od (ExO (.ref C) a)) := by
    funext x
    by_cases h1 : x = a
    · rw [h1, upd_same, upd_same]
    · rw [upd_ne h1, upd_ne h1, upd_ne h1]
  rw [e3] at Jf
  have g : Grow φ H φ (upd H a (.frz od (ExO (.ref C) a))) := Grow.laid hn
  exact ⟨.ref a, _, Jf, rfl, p φ _ _ g (r.laid hn) (.err0 (.inr ⟨_, upd_same, r.out hn⟩) ⟨by rw [← eo], hm, ⟨_, by rw [← eo]⟩⟩ (by rw [← eo]))⟩
end
end SE

/-! SEJ: {'a': e, ..}; xs.index(True). -/
namespace SE
open PySem PySem.Spec PyProof.Rows L2
/-! ### a dict of texts and values -/
theorem mergeK_app : ∀ (more acc : List (Key × V)), (∀ p ∈ more, p.1 ∉ acc.map (·.1)) → (more.map (·.1)).Nodup → mergeK acc more = acc ++ more
  | [], acc, _, _ => (List.append_nil acc).symm
  | p :: r, acc, h, n => by
    obtain ⟨n1, n2⟩ := List.nodup_cons.mp n
    show mergeK (putK acc p.1 p.2) r = _
    have e : putK acc p.1 p.2 = acc ++ [p] := by
      refine putK_new _ ?_
      cases q : valV acc p.1 with
      | none => rfl
      | some v =>
        exfalso
        unfold valV at q
        obtain ⟨kv, h1, h2⟩ := Option.map_eq_some_iff.mp q
        have h3 := List.find?_some h1
        exact h p List.mem_cons_self (List.mem_map.mpr ⟨kv, List.mem_of_find?_eq_some h1, of_decide_eq_true h3⟩)
    rw [e, mergeK_app r _ ?_ n2, List.append_assoc]
    · rfl
    · intro q hq hm
      rw [List.map_append] at hm
      rcases List.mem_append.mp hm with hm | hm
      · exact h q (List.mem_cons_of_mem _ hq) hm
      · exact n1 (List.mem_map.mpr ⟨q, hq, List.mem_singleton.mp hm⟩)
def zipK : List Str → List SE.D → List (Key × SE.D)
  | k :: ks, d :: ds => (.inr k, d) :: zipK ks ds
  | _, _ => []
def zipV : List Str → List V → List (Key × V)
  | k :: ks, v :: vs => (.inr k, v) :: zipV ks vs
  | _, _ => []
theorem zip_rp {G : Gx} {φ : Lab} {H : Hp} : ∀ (ks : List Str) {ds : List SE.D} {vs : List V}, RpL G φ H ds vs → RpK G φ H (zipK ks ds) (zipV ks vs)
  | [], _, _, .nil => .nil
  | [], _, _, .cons _ _ => .nil
  | k :: ks, _, _, .nil => .nil
  | k :: ks, _, _, .cons r t => .cons r (zip_rp ks t)
theorem zipV_keys : ∀ (ks : List Str) (vs : List V), ks.length = vs.length → (zipV ks vs).map (·.1) = ks.map fun k => (.inr k : Key)
  | [], [], _ => rfl
  | k :: ks, v :: vs, h => congrArg (Sum.inr k :: ·) (zipV_keys ks vs (Nat.succ.inj h))
theorem zipV_len : ∀ (ks : List Str) (vs : List V), (zipV ks vs).length ≤ ks.length
  | [], _ => Nat.zero_le _
  | _ :: _, [] => Nat.zero_le _
  | _ :: ks, _ :: vs => Nat.succ_le_succ (zipV_len ks vs)
theorem inr_nodup {ks : List Str} (h : ks.Nodup) : (ks.map fun k => (.inr k : Key)).Nodup := by
  induction ks with
  | nil => exact List.nodup_nil
  | cons k ks ih =>
    obtain ⟨h1, h2⟩ := List.nodup_cons.mp h
    rw [List.map_cons, List.nodup_cons]
    refine ⟨fun z => ?_, ih h2⟩
    obtain ⟨j, hj, e⟩ := List.mem_map.mp z
    injection e with e
    exact h1 (by rw [← e]; exact hj)
def dispL : List (Str × (Ev → M D)) → Ev → M (List D)
  | [] => lNil
  | (_, m) :: r => lCons m (dispL r)
def eDispE (kms : List (Str × (Ev → M D))) : Ev → M D := fun ρ => M.bind (dispL kms ρ) fun ds => M.pure (.dct (zipK (kms.map (·.1)) ds))
section
variable {X : Cx} {W : WX} {Γ : Gs} {pos : Pos} {keys : List (Option Expr)} {values : List Expr}
def tesOf (G : Gx) (W : WX) (kms : List (Str × (Ev → M D))) : List (TE × TE) := kms.map fun p => (tC (.str p.1), tG G (tieD G) W p.2)
/-- a part, then the rest, the rest told from an elder state -/
theorem bGB {G : Gx} {φ0 φ : Lab} {H0 H : Hp} {μ : Mem} {α ν β ξ : Type} {T : Tie α ν} {U : Tie β ξ} {m : Ev → M α} {k : α → M β} {ρ : Ev} {σ : L2.St} {Q : ξ → Hp → Prop} {R : ν → Hp → Prop}
    (g0 : Grow φ0 H0 φ H) (e : EvR G φ H ρ σ) (r : MemR G φ μ H) (p : Post G U φ0 H0 (M.bind (m ρ) k μ) Q fun cls dd H' => W cls dd σ H')
    (hk : ∀ φ1 H1 x v μ1, Grow φ H φ1 H1 → EvR G φ1 H1 ρ σ → MemR G φ1 μ1 H1 → T φ1 H1 x v → Post G U φ0 H0 (k x μ1) Q (fun cls dd H' => W cls dd σ H') → R v H1) : tG G T W m σ H R := by
  refine ⟨φ, ρ, μ, e, r, ?_⟩
  unfold M.bind at p
  cases q : m ρ μ with
  | ok d μ1 =>
    rw [q] at p
    exact fun φ1 H1 v g r1 rv => hk φ1 H1 d v μ1 g (e.grow g) r1 rv p
  | exc x μ1 =>
    rw [q] at p
    exact fun φ' H' c d g' => p φ' H' c d (g0.trans g')
  | bad =>
    rw [q] at p
    exact p
theorem bind_as {α β γ : Type} (m : M α) (f : α → M β) (g : β → M γ) : M.bind (M.bind m f) g = M.bind m fun x => M.bind (f x) g := by
  funext μ
  unfold M.bind
  cases m μ <;> rfl
theorem bind_pu {α β : Type} (x : α) (f : α → M β) : M.bind (M.pure x) f = f x := rfl
theorem disp_t {G : Gx} {β ξ : Type} {U : Tie β ξ} {φ0 : Lab} {H0 : Hp} {Q0 : ξ → Hp → Prop} : ∀ (kms : List (Str × (Ev → M D))) (σ : L2.St) (φ : Lab) (H : Hp) (ρ : Ev) (μ : Mem) (kk : List SE.D → M β) (Q : List (V × V) → Hp → Prop), Grow φ0 H0 φ H → EvR G φ H ρ σ → MemR G φ μ H →
    Post G U φ0 H0 (M.bind (dispL kms ρ) kk μ) Q0 (fun cls dd H' => W cls dd σ H') →
    (∀ φ1 H1 xs vs μ1, Grow φ H φ1 H1 → MemR G φ1 μ1 H1 → RpL G φ1 H1 xs vs → Post G U φ0 H0 (kk xs μ1) Q0 (fun cls dd H' => W cls dd σ H') → vs.length = kms.length → Q ((zipV (kms.map (·.1)) vs).map fun kv => (kV kv.1, kv.2)) H1) → tPairs (tesOf G W kms) σ H Q
  | [], σ, φ, H, ρ, μ, kk, Q, g0, ev, r, p, hk => hk φ H [] [] μ (Grow.refl _ _) r .nil p rfl
  | (k, m) :: kms, σ, φ, H, ρ, μ, kk, Q, g0, ev, r, p, hk => by
    show tG G (tieD G) W m σ H fun v H2 => tPairs (tesOf G W kms) σ H2 fun ps H3 => Q ((.str k, v) :: ps) H3
    have p : Post G U φ0 H0 (M.bind (M.bind (m ρ) fun x => M.bind (dispL kms ρ) fun xs => M.pure (x :: xs)) kk μ) Q0 (fun cls dd H' => W cls dd σ H') := p
    rw [bind_as] at p
    refine bGB g0 ev r p fun φ1 H1 x v μ1 g1 e1 r1 rv p1 => ?_
    rw [bind_as] at p1
    exact disp_t kms σ φ1 H1 ρ μ1 (fun xs => kk (x :: xs)) _ (g0.trans g1) e1 r1 p1 fun φ2 H2 xs vs μ2 g2 r2 rvs p2 hl => hk φ2 H2 (x :: xs) (v :: vs) μ2 (g1.trans g2) r2 (.cons (rv.grow g2) rvs) p2 (congrArg Nat.succ hl)
theorem j_dispE (kms : List (Str × (Ev → M D))) (h : PPs X pos keys values (tesOf (X.G Γ) W kms)) (hall : keys.all (·.isSome) = true := by rfl) (hl : keys.length = values.length := by rfl) (h0 : keys ≠ [] := by exact fun z => nomatch z) (h15 : keys.length ≤ 15 := by decide)
    (nd : (kms.map (·.1)).Nodup := by decide) (hk : kms.length ≤ 15 := by decide) : JE X Γ W (.Dict keys values pos) (eDispE kms) := by
  refine pe_w (pe_disp h hall hl h0 h15) fun σ H Q q => ?_
  obtain ⟨φ, ρ, μ, ev, r, p⟩ := q
  intro a ha
  have nh : a ∉ φ.h := fun z => r.out ha (.inr z)
  have nl : a ∉ φ.l := fun z => r.out ha (.inl z)
  have g0 : Grow φ H (φ.hide a) (upd H a (.dK [])) := Grow.hide ha
  refine disp_t kms σ (φ.hide a) _ ρ μ _ _ g0 (ev.grow g0) (r.hideG ha (.inl (.inr ⟨[], rfl⟩))) p fun φ1 H1 ds vs μ1 g1 r1 rvs p1 hlen => ?_
  have tb : ∀ ps, HO.dK [] ≠ .tbl ps := fun _ z => nomatch z
  have ea : H1 a = some (.dK []) := g1.kp _ _ upd_same nl tb
  have nl1 : a ∉ φ1.l := g1.outL upd_same tb nl
  have hh1 : a ∈ φ1.h := g1.hs _ List.mem_cons_self
  refine ⟨ea, zipV (kms.map (·.1)) vs, rfl, Nat.le_trans (zipV_len _ _) (by rw [List.length_map]; exact hk), ?_⟩
  rw [mergeK_app _ [] (fun _ _ z => nomatch z) (by rw [zipV_keys _ _ (by rw [List.length_map]; exact hlen.symm)]; exact inr_nodup nd), List.nil_append]
  have gw : Gw φ1 H1 φ1 (upd H1 a (.dK (zipV (kms.map (·.1)) vs))) := Gw.wrH hh1
  have r2 := r1.wrHG (u0 := .dK (zipV (kms.map (·.1)) vs)) hh1 nl1 (.inl (.inr ⟨_, rfl⟩))
  have g2 : Grow φ H φ1 (upd H1 a (.dK (zipV (kms.map (·.1)) vs))) := (g0.trans g1).wrNew ha
  have rd : RpK (X.G Γ) (φ1.bare a) (upd H1 a (.dK (zipV (kms.map (·.1)) vs))) (zipK (kms.map (·.1)) ds) (zipV (kms.map (·.1)) vs) := ((zip_rp _ rvs).growW gw).growW Gw.bare
  exact p1 (φ1.bare a) _ _ (g2.bare nh) r2.bare (.dct upd_same (bare_out nl1) rd)
end
/-! ### xs.index(b), xs of truths -/
def idxM (d y : D) : M D := fun μ => match d, y with
  | .lst xs, .bl b => (match blsOf xs with
    | some bs => if bs.idxOf b < bs.length then .ok (.int (bs.idxOf b : Nat)) μ else .bad
    | none => .bad)
  | _, _ => .bad
section
variable {X : Cx} {W : WX} {Γ : Gs} {o e : Expr} {mo me : Ev → M D} {apos cpos : Pos}
theorem j_index (ho : JE X Γ W o mo) (he : JE X Γ W e me)
    (h : ∀ to te, PE X o to → PE X e te → PE X (.Call (.Attribute o "index" apos) [e] [] cpos) (tBM X.K "list" (rIndex X.K) to (tCons te tNil))) : JE X Γ W (.Call (.Attribute o "index" apos) [e] [] cpos) (eM1 isLs idxM mo me) := by
  refine pe_w (h _ _ ho he) fun σ H Q q => ?_
  obtain ⟨φ, ρ, μ, ev, r, p⟩ := q
  refine bG ev r p fun φ1 H1 d v μ1 g1 e1 r1 rv p1 => ?_
  cases rv with
  | @lst a vs xs ha na rl =>
    have p1 : Post (X.G Γ) (tieD (X.G Γ)) φ1 H1 (M.bind (me ρ) (fun y => idxM (.lst xs) y) μ1) Q fun cls dd H' => W cls dd σ H' := p1
    refine ⟨.inl ⟨rfl, _, SqL.of ha⟩, ?_⟩
    refine bG e1 r1 p1 fun φ2 H2 y u μ2 g2 e2' r2 ry p2 => ?_
    unfold idxM at p2
    cases ry with
    | bl b =>
      dsimp only at p2
      cases q : blsOf xs with
      | none => rw [q] at p2; exact p2.elim
      | some bs =>
        rw [q] at p2
        dsimp only at p2
        by_cases c : bs.idxOf b < bs.length
        · rw [if_pos c] at p2
          have ha2 := g2.st _ _ ha na (fun _ z => nomatch z)
          have evs : vs = bs.map V.bl := bls_v rl q
          have hj : bs[bs.idxOf b]? = some b := by rw [List.getElem?_eq_getElem c, List.getElem_idxOf c]
          refine ⟨a, vs, .bl b, bs.idxOf b, .bl b, rfl, rfl, SqL.of ha2, rfl, ?_, by rw [evs, List.getElem?_map, hj]; rfl, ?_, fun m z' hm hz => ?_, Post.pure p2 r2 (.int _)⟩
          · rw [evs, List.all_map]
            exact List.all_eq_true.mpr fun _ _ => rfl
          · simp [eqV]
          · rw [evs, List.getElem?_map] at hz
            obtain ⟨b', hb', rfl⟩ := Option.map_eq_some_iff.mp hz
            have ne : b' ≠ b := fun e => by
              subst e
              have hl := (List.getElem?_eq_some_iff.mp hb').1
              have e2 := (List.getElem?_eq_some_iff.mp hb').2
              have := List.not_of_lt_findIdx (p := fun x => x == b') (xs := bs) (i := m) hm
              rw [e2] at this
              simp at this
            cases b <;> cases b' <;> first | rfl | exact absurd rfl ne
        · rw [if_neg c] at p2
          exact p2.elim
    | _ => exact p2.elim
  | _ => exact p1.elim
end
end SE

/-! SEK: comprehensions of two clauses; divmod; a[i], b = e. -/
namespace SE
open PySem PySem.Spec PyProof.Rows L2
theorem Gw.trans {φ φ1 φ2 : Lab} {H H1 H2 : Hp} (g : Gw φ H φ1 H1) (g' : Gw φ1 H1 φ2 H2) : Gw φ H φ2 H2 :=
  ⟨by
    obtain ⟨a, e⟩ := g.ex
    obtain ⟨b, e'⟩ := g'.ex
    exact ⟨a ++ b, by rw [e', e, List.append_assoc]⟩, fun h t n => g'.out (g.st _ _ h n t) t (g.out h t n), fun b o h n t => g'.st b o (g.st b o h n t) (g.out h t n) t⟩
/-! ### what is gone through while what is hidden is written -/
def tieIW (G : Gx) : Tie (List D) It := fun φ H items J => ∀ φ1 H1, Gw φ H φ1 H1 → ∀ i : Nat, (∀ d, items[i]? = some d → J.go i H1 ∧ ∀ x H2 μ, MemR G φ1 μ H1 → J.yld i H1 x H2 → Grow φ1 H1 φ1 H2 ∧ MemR G φ1 μ H2 ∧ Rp G φ1 H2 d x) ∧ (items.length ≤ i → J.stop i H1)
abbrev JIW (X : Cx) (Γ : Gs) (W : WX) (tg e : Expr) (m : Ev → M (List D)) : Prop := PI X tg e (tG (X.G Γ) (tieIW (X.G Γ)) W m)
section
variable {G : Gx}
theorem itr_tieW {φ : Lab} {H : Hp} (lo : Int) (n : Nat) : tieIW G φ H (rngL lo n) (Itr lo n) := by
  intro φ1 H1 g i
  have hl : (rngL lo n).length = n := by simp [rngL]
  refine ⟨fun d hd => ?_, fun h => by rw [hl] at h; exact h⟩
  have hi : i < n := by
    have := (List.getElem?_eq_some_iff.mp hd).1
    rw [hl] at this
    exact this
  refine ⟨hi, fun x H2 μ R hy => ?_⟩
  obtain ⟨e1, e2⟩ := (show H2 = H1 ∧ x = .int (lo + i) from hy)
  subst e1 e2
  have : d = .int (lo + i) := by
    unfold rngL at hd
    rw [List.getElem?_map, List.getElem?_range hi] at hd
    exact (Option.some.inj hd).symm
  subst this
  exact ⟨Grow.refl _ _, R, .int _⟩
theorem itt_tieW {φ : Lab} {H : Hp} {a : Addr} {vs : List V} {ds : List D} (h : SqTz G.K φ H a vs) (r : RpL G φ H ds vs) : tieIW G φ H ds (Itt G.K a) := by
  intro φ1 H1 g i
  have hh := (h.growW g).t
  refine ⟨fun d hd => ?_, fun hl => ⟨vs, hh, by rw [← r.length]; exact hl⟩⟩
  obtain ⟨v, hv, rv⟩ := r.get hd
  refine ⟨⟨vs, v, hh, hv⟩, fun x H2 μ R hy => ?_⟩
  obtain ⟨e1, e2⟩ := (show H2 = H1 ∧ ∀ xs, SqT G.K H1 a xs → xs[i]? = some x from hy)
  subst e1
  have e3 := e2 vs hh
  rw [hv] at e3
  cases e3
  exact ⟨Grow.refl _ _, R, rv.growW g⟩
theorem itl_tieW {φ : Lab} {H : Hp} {a : Addr} {vs : List V} {ds : List D} (h : ∀ φ1 H1, Gw φ H φ1 H1 → SqL G.K H1 a vs) (r : RpL G φ H ds vs) : tieIW G φ H ds (Itl G.K a) := by
  intro φ1 H1 g i
  refine ⟨fun d hd => ?_, fun hl => ⟨vs, h _ _ g, by rw [← r.length]; exact hl⟩⟩
  obtain ⟨v, hv, rv⟩ := r.get hd
  refine ⟨⟨vs, v, h _ _ g, hv⟩, fun x H2 μ R hy => ?_⟩
  obtain ⟨e1, e2⟩ := (show H2 = H1 ∧ ∀ xs, SqL G.K H1 a xs → xs[i]? = some x from hy)
  subst e1
  have e3 := e2 vs (h _ _ g)
  rw [hv] at e3
  cases e3
  exact ⟨Grow.refl _ _, R, rv.growW g⟩
end
section
variable {X : Cx} {Γ : Gs} {W : WX} {pos : Pos}
theorem iw_rng1 {tg a : Expr} {ml : Ev → M (List D)} {p0 : Pos} (hg : Gl X "range") (hm : X.mg "range" = none) (ha : JL X Γ W [a] ml) (hs : starEach [a] X.env = [(false, eval a X.env)] := by rfl) : JIW X Γ W tg (.Call (.Name "range" p0) [a] [] pos) (eLL rng1M ml) := by
  refine pi_w (pi_range1 hg hm ha hs) fun σ H R h => ?_
  refine bE h fun φ1 H1 x v ρ μ1 e r rv p => ?_
  unfold rng1M at p
  split at p
  · rename_i j
    obtain ⟨v, rfl, r1⟩ := rv.one
    cases r1
    by_cases hz : j ≤ 100000 ∧ -100000 ≤ j
    · simp only [if_pos hz] at p
      exact ⟨j, rfl, by omega, by omega, Post.pure p r (itr_tieW 0 _)⟩
    · simp only [if_neg hz] at p
      exact p.elim
  · exact p.elim
theorem iw_list {tg l : Expr} {ml : Ev → M D} (hl : JE X Γ W l ml) : JIW X Γ W tg l (eSeq seqL ml) := by
  refine pi_w (pi_list hl) fun σ H R h => ?_
  refine bE h fun φ1 H1 x v ρ μ1 e r rv p => ?_
  cases rv with
  | lst h1 n1 r1 =>
    refine ⟨_, rfl, ⟨_, SqL.of h1⟩, Post.pure p r (itl_tieW (vs := _) (fun φ2 H2 g => SqL.of (g.st _ _ h1 n1 fun _ z => nomatch z)) r1)⟩
  | ro h1 r1 => exact ⟨_, rfl, ⟨_, h1.t⟩, Post.pure p r (itl_tieW (fun φ2 H2 g => (h1.growW g).t) r1)⟩
  | _ => exact p.elim
theorem iw_tup {tg l : Expr} {ml : Ev → M D} (hl : JE X Γ W l ml) : JIW X Γ W tg l (eSeq seqT ml) := by
  refine pi_w (pi_tup hl) fun σ H R h => ?_
  refine bE h fun φ1 H1 x v ρ μ1 e r rv p => ?_
  cases rv with
  | tup h1 r1 => exact ⟨_, rfl, ⟨_, h1.t⟩, Post.pure p r (itt_tieW h1 r1)⟩
  | _ => exact p.elim
end
/-! ### two clauses -/
def lc2I (j : Nat) (mt : Ev → M Bool) (me : Ev → M D) (ρ : Ev) (k : List D → M D) : List D → List D → M D
  | [], acc => k acc
  | d :: ds, acc => M.bind (noE (mt ((ρ.set j none).set j (some d)))) fun b => if b = true then (M.bind (noE (me ((ρ.set j none).set j (some d)))) fun y => if acc.length < 100000 then lc2I j mt me ρ k ds (acc ++ [y]) else M.bad) else lc2I j mt me ρ k ds acc
def lc2O (i j : Nat) (mt : Ev → M Bool) (mi : Ev → M (List D)) (mt1 : Ev → M Bool) (me : Ev → M D) (ρ : Ev) : List D → List D → M D
  | [], acc => fun μ => .ok (.lst acc) μ
  | d :: ds, acc => M.bind (noE (mt (((ρ.set j none).set i none).set i (some d)))) fun b => if b = true then (M.bind (noE (mi (((ρ.set j none).set i none).set i (some d)))) fun xs => lc2I j mt1 me (((ρ.set j none).set i none).set i (some d)) (lc2O i j mt mi mt1 me ρ ds) xs acc) else lc2O i j mt mi mt1 me ρ ds acc
def eLc2 (i j : Nat) (mi : Ev → M (List D)) (mt : Ev → M Bool) (mi1 : Ev → M (List D)) (mt1 : Ev → M Bool) (me : Ev → M D) : Ev → M D := fun ρ => M.bind (mi ρ) fun ds => lc2O i j mt mi1 mt1 me ρ ds []
theorem tLc2_i {X : Cx} {Γ : Gs} {W : WX} {i j : Nat} {mi mi1 : Ev → M (List D)} {mt mt1 : Ev → M Bool} {me : Ev → M D} {σ : L2.St} {H : Hp} {Q : VK} (hij : i ≠ j) (h : tG (X.G Γ) (tieD (X.G Γ)) W (eLc2 i j mi mt mi1 mt1 me) σ H Q) :
    tLc2 (tG (X.G Γ) (tieI (X.G Γ)) W mi) (gName i) (tG (X.G Γ) tieB W0 mt) (tG (X.G Γ) (tieIW (X.G Γ)) W0 mi1) (gName j) (tG (X.G Γ) tieB W0 mt1) (tG (X.G Γ) (tieD (X.G Γ)) W0 me) [i, j] [j] σ H Q := by
  refine bE h fun φ1 H1 items J ρ μ1 e1 r1 rj p1 => ?_
  intro D hD
  have nD1 : D ∉ φ1.h := fun z => r1.out hD (.inr z)
  have nL1 : D ∉ φ1.l := fun z => r1.out hD (.inl z)
  have gD : Grow φ1 H1 (φ1.hide D) (upd H1 D (.lst [])) := Grow.hide hD
  refine ⟨fun k m H => k + m = items.length ∧ ∃ φ μ acc av, Grow φ1 H1 φ H ∧ H D = some (.lst av) ∧ D ∈ φ.h ∧ D ∉ φ.l ∧ RpL (X.G Γ) φ H acc av ∧ EvR (X.G Γ) φ H ρ σ ∧ MemR (X.G Γ) φ μ H ∧ Post (X.G Γ) (tieD (X.G Γ)) φ1 H1 (lc2O i j mt mi1 mt1 me ρ (items.drop k) acc μ) Q fun cls dd H' => W cls dd σ H',
    ⟨items.length, by omega, φ1.hide D, μ1, [], [], gD, upd_same, List.mem_cons_self, nL1, .nil, e1.grow gD, r1.hide hD, p1⟩, ?_⟩
  rintro k m H ⟨hm, φ, μ, acc, av, g, hDl, hDh, nL, ra, ev, r, p⟩
  obtain ⟨jg, js⟩ := rj φ H g k
  by_cases hi : k < items.length
  · have hd : items[k]? = some items[k] := List.getElem?_eq_getElem hi
    obtain ⟨j1, j2⟩ := jg _ hd
    rw [List.drop_eq_getElem_cons hi] at p
    refine .inr ⟨j1, fun H' => k + 1 + (m - 1) = items.length ∧ ∃ φ μ acc av, Grow φ1 H1 φ H' ∧ H' D = some (.lst av) ∧ D ∈ φ.h ∧ D ∉ φ.l ∧ RpL (X.G Γ) φ H' acc av ∧ EvR (X.G Γ) φ H' ρ σ ∧ MemR (X.G Γ) φ μ H' ∧ Post (X.G Γ) (tieD (X.G Γ)) φ1 H1 (lc2O i j mt mi1 mt1 me ρ (items.drop (k + 1)) acc μ) Q fun cls dd H' => W cls dd σ H', fun H' w => ⟨m - 1, by omega, w⟩, fun x H2 hy => ?_⟩
    obtain ⟨g2, r2, rx⟩ := j2 x H2 μ r hy
    have ev2 := ev.grow g2
    show wipe ((wipe σ [i, j]).set i (some x)) [i, j] = wipe σ [i, j] ∧ _
    refine ⟨?_, ?_⟩
    · show ((((σ.set j none).set i none).set i (some x)).set j none).set i none = (σ.set j none).set i none
      rw [List.set_set, List.set_comm (some x) none hij, List.set_set, List.set_set]
    have evB : EvR (X.G Γ) φ H2 (((ρ.set j none).set i none).set i (some items[k])) ((wipe σ [i, j]).set i (some x)) := ((ev2.forget j none).forget i none).set i rx
    generalize eρ : ((ρ.set j none).set i none).set i (some items[k]) = ρ1 at evB
    generalize eσ : (wipe σ [i, j]).set i (some x) = σ1 at evB ⊢
    unfold lc2O at p
    rw [eρ] at p
    have nb : ¬ Post (X.G Γ) (tieD (X.G Γ)) φ1 H1 .bad Q fun cls dd H' => W cls dd σ H' := fun z => z
    refine bN (T := tieB) (fun r => Post (X.G Γ) (tieD (X.G Γ)) φ1 H1 r Q fun cls dd H' => W cls dd σ H') nb evB r2 p fun φ3 H3 b b' μ3 g3 e3 r3 eb p3 => ?_
    cases (show b' = b from eb)
    have G3 := (g.trans g2).trans g3
    have tb : ∀ {vs : List V} ps, HO.lst vs ≠ .tbl ps := fun _ z => nomatch z
    have hD2 := g2.kp _ _ hDl nL tb
    have nD2 := g2.outL hDl tb nL
    have hD3 := g3.kp _ _ hD2 nD2 tb
    have nD3 := g3.outL hD2 tb nD2
    have hH3 := g3.hs _ (g2.hs _ hDh)
    cases b with
    | false =>
      show _ ∧ _
      exact ⟨by omega, φ3, μ3, acc, av, G3, hD3, hH3, nD3, (ra.grow g2).grow g3, ev2.grow g3, r3, p3⟩
    | true =>
      rw [if_pos rfl] at p3
      show tG _ _ _ _ _ _ _
      refine bN (T := tieIW (X.G Γ)) (fun r => Post (X.G Γ) (tieD (X.G Γ)) φ1 H1 r Q fun cls dd H' => W cls dd σ H') nb e3 r3 p3 fun φ4 H4 xs J1 μ4 g4 e4 r4 rj1 p4 => ?_
      have hD4 := g4.kp _ _ hD3 nD3 tb
      have nD4 := g4.outL hD3 tb nD3
      have hH4 := g4.hs _ hH3
      have G4 := G3.trans g4
      refine ⟨fun n l H => n + l = xs.length ∧ ∃ φ μ acc av, Grow φ1 H1 φ H ∧ Gw φ4 H4 φ H ∧ H D = some (.lst av) ∧ D ∈ φ.h ∧ D ∉ φ.l ∧ RpL (X.G Γ) φ H acc av ∧ EvR (X.G Γ) φ H ρ σ ∧ EvR (X.G Γ) φ H ρ1 σ1 ∧ MemR (X.G Γ) φ μ H ∧ Post (X.G Γ) (tieD (X.G Γ)) φ1 H1 (lc2I j mt1 me ρ1 (lc2O i j mt mi1 mt1 me ρ (items.drop (k + 1))) (xs.drop n) acc μ) Q fun cls dd H' => W cls dd σ H',
        ⟨xs.length, by omega, φ4, μ4, acc, av, G4, (Grow.refl _ _).w, hD4, hH4, nD4, ((ra.grow g2).grow g3).grow g4, (ev2.grow g3).grow g4, e4, r4, p4⟩, ?_⟩
      rintro n l H5 ⟨hl, φ5, μ5, acc5, av5, G5, w5, hD5, hH5, nD5, ra5, ev5, eu5, r5, p5⟩
      obtain ⟨jg1, js1⟩ := rj1 φ5 H5 w5 n
      by_cases hn : n < xs.length
      · have hd1 : xs[n]? = some xs[n] := List.getElem?_eq_getElem hn
        obtain ⟨k1, k2⟩ := jg1 _ hd1
        rw [List.drop_eq_getElem_cons hn] at p5
        refine .inr ⟨k1, fun H' => n + 1 + (l - 1) = xs.length ∧ ∃ φ μ acc av, Grow φ1 H1 φ H' ∧ Gw φ4 H4 φ H' ∧ H' D = some (.lst av) ∧ D ∈ φ.h ∧ D ∉ φ.l ∧ RpL (X.G Γ) φ H' acc av ∧ EvR (X.G Γ) φ H' ρ σ ∧ EvR (X.G Γ) φ H' ρ1 σ1 ∧ MemR (X.G Γ) φ μ H' ∧ Post (X.G Γ) (tieD (X.G Γ)) φ1 H1 (lc2I j mt1 me ρ1 (lc2O i j mt mi1 mt1 me ρ (items.drop (k + 1))) (xs.drop (n + 1)) acc μ) Q fun cls dd H' => W cls dd σ H', fun H' w => ⟨l - 1, by omega, w⟩, fun y H6 hy => ?_⟩
        obtain ⟨g6, r6, rx6⟩ := k2 y H6 μ5 r5 hy
        show wipe ((wipe σ1 [j]).set j (some y)) [j] = wipe σ1 [j] ∧ _
        refine ⟨by show ((σ1.set j none).set j (some y)).set j none = σ1.set j none; rw [List.set_set, List.set_set], ?_⟩
        have eu6 := eu5.grow g6
        have ev6 := ev5.grow g6
        have ra6 := ra5.grow g6
        have evC : EvR (X.G Γ) φ5 H6 ((ρ1.set j none).set j (some xs[n])) ((wipe σ1 [j]).set j (some y)) := (eu6.forget j none).set j rx6
        unfold lc2I at p5
        refine bN (T := tieB) (fun r => Post (X.G Γ) (tieD (X.G Γ)) φ1 H1 r Q fun cls dd H' => W cls dd σ H') nb evC r6 p5 fun φ7 H7 b b' μ7 g7 e7 r7 eb p7 => ?_
        cases (show b' = b from eb)
        have G7 := (G5.trans g6).trans g7
        have w7 := (w5.trans g6.w).trans g7.w
        have hD6 := g6.kp _ _ hD5 nD5 tb
        have nD6 := g6.outL hD5 tb nD5
        have hD7 := g7.kp _ _ hD6 nD6 tb
        have nD7 := g7.outL hD6 tb nD6
        have hH7 := g7.hs _ (g6.hs _ hH5)
        cases b with
        | false =>
          show _ ∧ _
          exact ⟨by omega, φ7, μ7, acc5, av5, G7, w7, hD7, hH7, nD7, ra6.grow g7, ev6.grow g7, eu6.grow g7, r7, p7⟩
        | true =>
          rw [if_pos rfl] at p7
          show tG _ _ _ _ _ _ _
          refine bN (T := tieD (X.G Γ)) (fun r => Post (X.G Γ) (tieD (X.G Γ)) φ1 H1 r Q fun cls dd H' => W cls dd σ H') nb e7 r7 p7 fun φ8 H8 z zv μ8 g8 e8 r8 rz p8 => ?_
          have hD8 := g8.kp _ _ hD7 nD7 tb
          have nD8 := g8.outL hD7 tb nD7
          have hH8 := g8.hs _ hH7
          by_cases hc : acc5.length < 100000
          · rw [if_pos hc] at p8
            have rav := (ra6.grow g7).grow g8
            refine ⟨av5, hD8, by rw [← rav.length, sizeLine_eq]; omega, by omega, ?_⟩
            have g9 : Gw φ8 H8 φ8 (upd H8 D (.lst (av5 ++ [zv]))) := Gw.wrH hH8
            exact ⟨φ8, μ8, acc5 ++ [z], av5 ++ [zv], (G7.trans g8).wrNew hD, (w7.trans g8.w).trans g9, upd_same, hH8, nD8, (rav.append (.cons rz .nil)).growW g9, ((ev6.grow g7).grow g8).growW g9, ((eu6.grow g7).grow g8).growW g9, r8.wrH hH8 nD8, p8⟩
          · rw [if_neg hc] at p8
            exact p8.elim
      · have : xs.drop n = [] := List.drop_of_length_le (by omega)
        rw [this] at p5
        exact .inl ⟨js1 (by omega), by omega, φ5, μ5, acc5, av5, G5, hD5, hH5, nD5, ra5, ev5, r5, p5⟩
  · have : items.drop k = [] := List.drop_of_length_le (by omega)
    rw [this] at p
    exact .inl ⟨js (by omega), p (φ.bare D) H (.ref D) (g.bare nD1) r.bare (.lst hDl (bare_out nL) (ra.growW Gw.bare))⟩
section
variable {X : Cx} {Γ : Gs} {W : WX} {elt iter iter1 : Expr} {ifs ifs1 : List Expr} {x y : Str} {i j : Nat} {scope : Scope} {p1 p2 pos : Pos} {mi mi1 : Ev → M (List D)} {mt mt1 : Ev → M Bool} {me : Ev → M D}
/-- [elt for x in iter if .. for y in iter1 if ..] -/
theorem j_lc2 (hij : i ≠ j) (hc : X.calm = true) (hN : X.N.Nodup) (hi : JI X Γ W (.Name x p1) iter mi) (ok : blkC X.N X.env.scope scope [(x, i), (y, j)] = true)
    (hg : ∀ (s : Shared) (H : Hp) (C : Addr) (cl : List (Str × Addr)) (fp : List Addr), PG (X.blk s H scope (compEnvC scope cl C X.env) fp) (.Name x p1) (gName i))
    (ht : ∀ (s : Shared) (H : Hp) (C : Addr) (cl : List (Str × Addr)) (fp : List Addr), JTs (X.blk s H scope (compEnvC scope cl C X.env) fp) Γ ifs mt)
    (hi1 : ∀ (s : Shared) (H : Hp) (C : Addr) (cl : List (Str × Addr)) (fp : List Addr), JIW (X.blk s H scope (compEnvC scope cl C X.env) fp) Γ W0 (.Name y p2) iter1 mi1)
    (hg1 : ∀ (s : Shared) (H : Hp) (C : Addr) (cl : List (Str × Addr)) (fp : List Addr), PG (X.blk s H scope (compEnvC scope cl C X.env) fp) (.Name y p2) (gName j))
    (ht1 : ∀ (s : Shared) (H : Hp) (C : Addr) (cl : List (Str × Addr)) (fp : List Addr), JTs (X.blk s H scope (compEnvC scope cl C X.env) fp) Γ ifs1 mt1)
    (he : ∀ (s : Shared) (H : Hp) (C : Addr) (cl : List (Str × Addr)) (fp : List Addr), JE (X.blk s H scope (compEnvC scope cl C X.env) fp) Γ W0 elt me)
    (hs : ∀ x, foldedSetIterable iter X.env x = pure x := by intro _; rfl) (hs1 : ∀ env x, foldedSetIterable iter1 env x = pure x := by intro _ _; rfl) :
    JE X Γ W (.ListComp elt [⟨.Name x p1, iter, ifs, 0⟩, ⟨.Name y p2, iter1, ifs1, 0⟩] scope pos) (eLc2 i j mi mt mi1 mt1 me) :=
  pe_w (pe_lc2 (own := [(x, i), (y, j)]) (vs1 := [j]) (g := gName i) (g1 := gName j) hc hN hi (blkOk_by ok) (by intro _ h; simp at h; simp [h]) hg ht hi1 hg1 ht1 he hs hs1) fun σ H Q h => tLc2_i hij h
end
/-! ### divmod(a, b) -/
def divmodM : List D → M D
  | [.int i, .int j], μ => if fdivOk j = true then .ok (.tup [.int (i / j), .int (i % j)]) μ else .bad
  | _, _ => .bad
theorem call_divmodW {X : Cx} : CallR X (.builtin "divmod") (fun xs H Q => ∃ i j, xs = [.int i, .int j] ∧ fdivOk j = true ∧ ∀ l, H l = none → Q (.ref l) (upd H l (.tup [.int (i / j), .int (i % j)]))) := by
  intro pins s σ H xs us Q I r h
  obtain ⟨i, j, rfl, hj, q⟩ := h
  obtain ⟨u, w', rfl, ⟨t, rfl⟩, ⟨t', rfl⟩⟩ := vals2 r
  unfold fdivOk at hj
  obtain ⟨h0, h1⟩ := Bool.and_eq_true _ _ ▸ hj
  have h0 := of_decide_eq_true h0
  have h1 := of_decide_eq_true h1
  refine divmod_int (by omega) ?_ (.inl (PyProof.noPylong_of_log2 (Nat.lt_of_lt_of_le (PySem.Flt.log2_lt_of (by decide) h1) (by decide))))
  have I2 : Inv X pins σ (upd H s.heap.objs.size (.tup [.int (i / j), .int (i % j)])) { s with toks := s.toks + 1 + 1, heap := s.heap.push { cls := .type "tuple", data := .seq #[.int (i.fdiv j) s.toks, .int (i.fmod j) (s.toks + 1)] } } := by
    refine I.laid (t' := s.toks + 1 + 1) (fun b o e => Heap.get?_push_of_some _ e) (Nat.le_refl _) (show ObjOk X.prog X.w _ _ _ (.tup _) from ⟨by rw [sizeLine_eq]; show 2 ≤ _; omega, _, .cons ⟨s.toks, rfl⟩ (.cons ⟨s.toks + 1, rfl⟩ .nil), ?_⟩)
    rw [Int.fdiv_eq_ediv_of_nonneg _ (by omega), Int.fmod_eq_emod_of_nonneg _ (by omega)]
    exact IsTup.new _ _
  exact ⟨.ref s.heap.objs.size, _, I2, rfl, q _ (I.hok.fresh (Nat.le_refl _))⟩
theorem divmod_i {G : Gx} : CallI G divmodM (fun xs H Q => ∃ i j, xs = [.int i, .int j] ∧ fdivOk j = true ∧ ∀ l, H l = none → Q (.ref l) (upd H l (.tup [.int (i / j), .int (i % j)]))) := by
  intro φ μ H a x Q E R r p
  unfold divmodM at p
  split at p
  · rename_i i j
    obtain ⟨v, w, rfl, r1, r2⟩ := r.two
    cases r1
    cases r2
    by_cases hz : fdivOk j = true
    · rw [if_pos hz] at p
      exact ⟨i, j, rfl, hz, fun l hl => p φ _ _ (Grow.laid hl) (R.laid hl) (.tup (.inl ⟨.inl upd_same, R.out hl⟩) (.cons (.int _) (.cons (.int _) .nil)))⟩
    · rw [if_neg hz] at p
      exact p.elim
  · exact p.elim
section
variable {X : Cx} {Γ : Gs} {W : WX} {e : Expr} {m : Ev → M D} {pos : Pos}
/-! ### o[i], y = e -/
def sSubN (mo mi mv : Ev → M D) (j : Nat) : MS := fun ρ μ => bindS (mv ρ μ) ρ fun d μ1 => match d with
  | .tup [a, b] => bindS (mo ρ μ1) ρ fun o μ2 => bindS (mi ρ μ2) ρ fun i μ3 => subR o i a (ρ.set j (some b)) μ3
  | _ => .bad
theorem s_subN {o i : Expr} {y : Str} {mo mi : Ev → M D} {pos' py pt : Pos} {kt j : Nat} (he : JE X Γ W e m) (ho : JE X Γ W o mo) (hi : JE X Γ W i mi)
    (h : ∀ te to ti, PE X e te → PE X o to → PE X i ti → PS X (.Assign [.Tuple [.Subscript o i pos', .Name y py] kt pt] e pos) (tAsg te (gTup X.K 2 (gCons (gSub to ti rSetL) (gCons (gName j) gNil))))) (h0 : Γ.off = Γ := by rfl) :
    JS X Γ W (.Assign [.Tuple [.Subscript o i pos', .Name y py] kt pt] e pos) (sSubN mo mi m j) := by
  refine ps_w (h _ _ _ he ho hi) fun Z σ H h => ?_
  obtain ⟨φ, ρ, μ, ev, r, p⟩ := h
  refine bS ev r p fun φ1 H1 d v μ1 g1 e1 r1 rv p1 => ?_
  split at p1
  · rename_i d1 d2
    cases rv with
    | tup hs rl =>
      cases rl with
      | @cons _ va _ _ ra t1 =>
        cases t1 with
        | @cons _ vb _ _ rb t2 =>
          cases t2
          refine ⟨_, _, rfl, hs.t, rfl, _, _, rfl, ?_⟩
          refine bS e1 r1 p1 fun φ2 H2 od ov μ2 g2 e2 r2 ro p2 => ?_
          refine bS e2 r2 p2 fun φ3 H3 id iv μ3 g3 e3 r3 ri p3 => ?_
          unfold subR at p3
          cases ro with
          | @loc a l ha =>
            cases ri with
            | int k =>
              dsimp only at p3
              cases q : μ3[l]? with
              | none =>
                rw [q] at p3
                exact p3.elim
              | some mo' =>
                obtain ⟨b, h1, h2⟩ := r3.at_ l mo' q
                rw [q] at p3
                cases mo' with
                | lst xs =>
                  dsimp only at p3
                  obtain ⟨vs, h3, h4⟩ := h2
                  have hb : φ3.l[l]? = some a := by
                    obtain ⟨ψ, e, _⟩ := g3.ex
                    rw [e]
                    rw [List.getElem?_append_left (List.getElem?_eq_some_iff.mp ha).1]
                    exact ha
                  rw [hb] at h1
                  cases h1
                  cases q2 : ixN xs.length k with
                  | none =>
                    rw [q2] at p3
                    exact p3.elim
                  | some j' =>
                    rw [q2] at p3
                    dsimp only at p3
                    refine ⟨a, vs, k, j', rfl, rfl, h3, by rw [← h4.length]; exact q2, ?_⟩
                    have eo := Gx.off_eq (G := X.G Γ) h0
                    have rl' := h4.set j' (by rw [eo]; exact (ra.grow g2).grow g3)
                    have G : Grow φ3 H3 φ3 (upd H3 a (.lst (vs.set j' va))) := Grow.wr hb (fun _ _ z => by rw [h3] at z; cases z)
                    exact ⟨_, _, rfl, rfl, p3 φ3 _ _ G (r3.wr hb (fun _ _ z => by rw [h3] at z; cases z) rl') ((e3.grow G).set j (((rb.grow g2).grow g3).grow G))⟩
                | dT kvs => exact p3.elim
                | fT kvs => exact p3.elim
            | _ => exact p3.elim
          | _ => cases ri <;> exact p3.elim
  · exact p1.elim
end
section
variable {X : Cx} {Γ : Gs} {W : WX} {o e : Expr} {mo me : Ev → M D} {pos apos : Pos}
/-! ### xs.extend(ys) -/
def extM (d y : D) : M D := fun μ => match d, y with
  | .loc l, .lst ys => (match μ[l]? with
    | some (.lst xs) => if xs.length + ys.length < 100000 then .ok .non (μ.set l (.lst (xs ++ ys))) else .bad
    | _ => .bad)
  | _, _ => .bad
theorem j_ext (ho : JE X Γ W o mo) (he : JE X Γ W e me) (h : ∀ to te, PE X o to → PE X e te → PE X (.Call (.Attribute o "extend" apos) [e] [] pos) (tBM X.K "list" rExtend to (tCons te tNil))) (h0 : Γ.off = Γ := by rfl) : JE X Γ W (.Call (.Attribute o "extend" apos) [e] [] pos) (eMM isLstB extM mo me) := by
  refine pe_w (h _ _ ho he) fun σ H Q q => ?_
  obtain ⟨φ, ρ, μ, ev, r, p⟩ := q
  refine bG ev r p fun φ1 H1 d v μ1 g1 e1 r1 rv p1 => ?_
  have p1 : Post (X.G Γ) (tieD (X.G Γ)) φ1 H1 (if isLstB d μ1 = true then M.bind (me ρ) (fun y => extM d y) μ1 else .bad) Q fun cls dd H' => W cls dd σ H' := p1
  by_cases c : isLstB d μ1 = true
  · rw [if_pos c] at p1
    obtain ⟨l, a, vs0, rfl, rfl, hl, hv0⟩ := lst_at rv r1 c
    refine ⟨.inl ⟨rfl, _, SqL.of hv0⟩, ?_⟩
    refine bG e1 r1 p1 fun φ2 H2 y u μ2 g2 e2' r2 ry p2 => ?_
    unfold extM at p2
    cases ry with
    | @lst ya yvs yds hy ny ryl =>
      dsimp only at p2
      cases q : μ2[l]? with
      | none => rw [q] at p2; exact p2.elim
      | some ob =>
        cases ob with
        | lst xs =>
          rw [q] at p2
          dsimp only at p2
          by_cases c : xs.length + yds.length < 100000
          · rw [if_pos c] at p2
            obtain ⟨b, h1, h2⟩ := r2.at_ l _ q
            have hl2 : φ2.l[l]? = some a := by
              obtain ⟨ψ, e, _⟩ := g2.ex
              rw [e, List.getElem?_append_left (List.getElem?_eq_some_iff.mp hl).1]
              exact hl
            rw [hl2] at h1
            cases h1
            obtain ⟨vs, h3, h4⟩ := h2
            have h4' : RpL (X.G Γ) φ2 H2 xs vs := by rw [← Gx.off_eq (G := X.G Γ) h0]; exact h4
            refine ⟨a, ya, vs, yvs, rfl, rfl, h3, hy, by rw [← h4.length, ← ryl.length, sizeLine_eq]; omega, ?_⟩
            exact p2 _ _ _ (Grow.wr hl2 (fun _ _ z => by rw [h3] at z; cases z)) (r2.wr hl2 (fun _ _ z => by rw [h3] at z; cases z) (by rw [Gx.off_eq (G := X.G Γ) h0]; exact h4'.append ryl)) .non
          · rw [if_neg c] at p2
            exact p2.elim
        | dT kvs => rw [q] at p2; exact p2.elim
        | fT kvs => rw [q] at p2; exact p2.elim
    | _ => exact p2.elim
  · rw [if_neg c] at p1
    exact p1.elim
end
end SE

/-! SEz: reckoning with what SEv .. SEy brought. -/
namespace SE
open PySem PySem.Spec PyProof.Rows L2
section
variable {ρ : Ev} {μ μ1 : Mem} {P : D → Mem → Prop} {E : Ex → Mem → Prop} {N B C : Ev → Mem → Prop} {R : D → Mem → Prop} {a b c : Ev → M D}
theorem wr_eMM {chk : D → Mem → Bool} {f : D → D → M D} : wr (eMM chk f a b ρ μ) P E = wr (a ρ μ) (fun x μ1 => if chk x μ1 = true then wr (b ρ μ1) (fun y μ2 => wr (f x y μ2) P E) E else False) E := by
  show wr (M.bind (a ρ) (fun x μ => if chk x μ = true then M.bind (b ρ) (fun y => f x y) μ else .bad) μ) P E = _
  unfold M.bind wr
  cases a ρ μ with
  | ok x μ1 =>
    dsimp only
    by_cases h : chk x μ1 = true
    · simp only [if_pos h]
      cases b ρ μ1 <;> rfl
    · simp only [if_neg h]
  | _ => rfl
theorem wr_eGet : wr (eGet a b c ρ μ) P E = wr (a ρ μ) (fun x μ1 => if (dctAt μ1 x).isSome = true then wr (b ρ μ1) (fun y μ2 => wr (c ρ μ2) (fun z μ3 => wr (getDM x y z μ3) P E) E) E else False) E := by
  show wr (M.bind (a ρ) (fun x μ => if (dctAt μ x).isSome = true then M.bind (b ρ) (fun y => M.bind (c ρ) fun z => getDM x y z) μ else .bad) μ) P E = _
  unfold M.bind wr
  cases a ρ μ with
  | ok x μ1 =>
    dsimp only
    by_cases h : (dctAt μ1 x).isSome = true
    · simp only [if_pos h]
      cases b ρ μ1 with
      | ok y μ2 =>
        dsimp only
        cases c ρ μ2 <;> rfl
      | _ => rfl
    · simp only [if_neg h]
  | _ => rfl
theorem wr_eGetK : wr (eGetK a b c ρ μ) P E = wr (a ρ μ) (fun x μ1 => if isDct x = true then wr (b ρ μ1) (fun y μ2 => wr (c ρ μ2) (fun z μ3 => wr (getKM x y z μ3) P E) E) E else False) E := by
  show wr (M.bind (a ρ) (fun x => if isDct x = true then M.bind (b ρ) (fun y => M.bind (c ρ) fun z => getKM x y z) else M.bad) μ) P E = _
  unfold M.bind wr
  cases a ρ μ with
  | ok x μ1 =>
    dsimp only
    by_cases h : isDct x = true
    · simp only [if_pos h]
      cases b ρ μ1 with
      | ok y μ2 =>
        dsimp only
        cases c ρ μ2 <;> rfl
      | _ => rfl
    · simp only [if_neg h]
      rfl
  | _ => rfl
theorem ws_sDPutM : ws (sDPutM a b c ρ μ) N R B C E = wr (c ρ μ) (fun d μ1 => wr (a ρ μ1) (fun o μ2 => wr (b ρ μ2) (fun i μ3 => ws (putR o i d ρ μ3) N R B C E) E) E) E := by
  unfold sDPutM
  rw [ws_bindS]
  congr 1
  funext d μ1
  rw [ws_bindS]
  congr 1
  funext o μ2
  rw [ws_bindS]
theorem isLst_l {l : Nat} {xs : List D} (h : μ[l]? = some (.lst xs)) : isLstB (.loc l) μ = true := by
  unfold isLstB
  simp only [h]
theorem appM_l {l : Nat} {xs : List D} {y : D} (h : μ[l]? = some (.lst xs)) (hl : xs.length < 100000) : appM (.loc l) y μ = .ok .non (μ.set l (.lst (xs ++ [y]))) := by
  unfold appM
  simp only [h]
  rw [if_pos hl]
theorem popM_l {l : Nat} {x : D} {xs : List D} (h : μ[l]? = some (.lst (x :: xs))) : popM (.loc l) (.int 0) μ = .ok x (μ.set l (.lst xs)) := by
  unfold popM
  simp only [h]
  rw [if_pos (by omega), show seqIndex? 0 (x :: xs).length = some 0 from by unfold seqIndex?; simp]
  rfl
theorem dctAt_l {l : Nat} {kvs : List (List Key × D)} (h : μ[l]? = some (.dT kvs)) : dctAt μ (.loc l) = some kvs := by
  unfold dctAt
  simp only [h]
theorem dctAt_f {l : Nat} {kvs : List (List Key × D)} (h : μ[l]? = some (.fT kvs)) : dctAt μ (.loc l) = some kvs := by
  unfold dctAt
  simp only [h]
theorem dctWr_l {l : Nat} {kvs : List (List Key × D)} (h : μ[l]? = some (.dT kvs)) : dctWr μ (.loc l) = some kvs := by
  unfold dctWr
  simp only [h]
theorem dkM_l {l : Nat} {kvs : List (List Key × D)} (h : μ[l]? = some (.dT kvs)) : dkM (.loc l) μ = .ok (kvs.map keyT) (μ.set l (.fT kvs)) := by
  unfold dkM
  rw [dctAt_l h]
theorem ixDM_l {l : Nat} {kvs : List (List Key × D)} {k d : D} {ks : List Key} (h : μ[l]? = some (.dT kvs)) (hk : tkD k = some ks) (hd : lookT kvs ks = some d) : ixDM (.loc l) k μ = .ok d μ := by
  unfold ixDM
  rw [dctAt_l h, hk]
  dsimp only
  rw [hd]
theorem getDM_l {l : Nat} {kvs : List (List Key × D)} {k z : D} {ks : List Key} (h : μ[l]? = some (.dT kvs)) (hk : tkD k = some ks) : getDM (.loc l) k z μ = .ok ((lookT kvs ks).getD z) μ := by
  unfold getDM
  rw [dctAt_l h, hk]
theorem putR_l {l : Nat} {kvs : List (List Key × D)} {k d : D} {ks : List Key} (h : μ[l]? = some (.dT kvs)) (hk : tkD k = some ks) (hl : kvs.length < 100000) : putR (.loc l) k d ρ μ = .ok (.nx ρ) (μ.set l (.dT (putT kvs ks d))) := by
  unfold putR
  rw [dctWr_l h, hk]
  dsimp only
  rw [if_pos hl]
theorem getKM_d {kvs : List (Key × D)} {k z : D} {kk : Key} (hk : keyD k = some kk) : getKM (.dct kvs) k z μ = .ok ((lookK kvs kk).getD z) μ := by
  unfold getKM
  rw [hk]
end
end SE
local macro_rules | `(tactic| sizeOf_list_dec) => `(tactic| try simp only [decide_true, decide_false, SE.wr_eMM, SE.wr_eGet, SE.mkEM_v, SE.wr_eSx, SE.wr_eDk, SE.wr_eGetK, SE.wr_eLcT, SE.wr_eLcTN, SE.wr_eLcL, SE.ws_sDPutM, SE.wr_eM1, SE.wr_eVar, SE.wr_eC, SE.wr_e2, SE.wr_e1, SE.wr_eL, SE.wr_eCall, SE.wr_eCallK, SE.wr_eLL, SE.wr_eSeq, SE.wr_lNil, SE.wr_lCons, SE.wr_bTru, SE.wr_bOf, SE.wr_bNot, SE.wr_bAnd, SE.wr_bOr, SE.wr_isBl, SE.wr_eAnd, SE.wr_eOr, SE.wr_eNot, SE.wr_eIf, SE.wr_e3c, SE.wr_ok, SE.wr_exc, SE.ws_sNext, SE.ws_sSeq, SE.ws_sSet, SE.ws_sDrop, SE.ws_sRet, SE.ws_sRetN, SE.ws_sBrk, SE.ws_sCnt, SE.ws_sIf, SE.ws_sAsg, SE.ws_sPar, SE.ws_sSub, SE.ws_sForE, SE.wr_callM, List.getElem?_cons_zero, List.getElem?_cons_succ, List.set_cons_zero, List.set_cons_succ, List.map_cons, List.map_nil, List.length_cons, List.length_nil, List.cons_append, List.nil_append, List.replicate, List.append_nil, SE.addM_i, SE.subM_i, SE.negM_i, SE.cmpM_i, SE.eqM_i, SE.eqM_s, SE.neM_i, SE.neM_s, SE.absM_i, SE.intM_i, SE.intM_b, SE.max2M_i, SE.min2M_i, SE.lenM_t, SE.lenM_l, SE.lenM_r, SE.tupM_ap, SE.lstM_ap, SE.strM_s, SE.truB_b, SE.isBl_b, SE.newM_ap, Nat.reduceLeDiff, SE.seqL_l, SE.seqT_t, SE.isNM_n, SE.isNM_i, SE.wr_eLc, SE.wr_eSl, SE.wr_oN, SE.wr_oI, SE.intO_i, SE.seqA_l, SE.seqA_r, SE.seqA_t, SE.listM_t, SE.listM_l, SE.slM_t, SE.slM_l, SE.ws_sMatch, SE.ws_mcNil, SE.ws_mcAny, SE.ws_mcVal, if_true, if_false, Bool.false_eq_true, Bool.not_true, Bool.not_false, Nat.reduceSub, Nat.reduceAdd, Nat.zero_add, eq_self, and_self, and_true, true_and, SE.gN])
namespace SE
open PySem PySem.Spec PyProof.Rows L2
end SE

/-! The text of law_k37_test_pixels, def by def: printed by gen.py. -/
namespace Zk37
open PySem PySem.Spec PyProof.Rows L2 SE
theorem sc_InvalidKind : FnScope ["self", "kind"] ["self", "kind"] (defScope s_InvalidKind) := ⟨rfl, rfl, rfl, by decide +kernel, rfl, by decide +kernel, by decide +kernel⟩
theorem sc_InvalidNumber : FnScope ["self", "number"] ["self", "number"] (defScope s_InvalidNumber) := ⟨rfl, rfl, rfl, by decide +kernel, rfl, by decide +kernel, by decide +kernel⟩
theorem sc_InvalidPixel : FnScope ["self", "value"] ["self", "value"] (defScope s_InvalidPixel) := ⟨rfl, rfl, rfl, by decide +kernel, rfl, by decide +kernel, by decide +kernel⟩
theorem sc_is_integer : FnScope ["value", "low", "high"] ["value", "low", "high"] (defScope s_is_integer) := ⟨rfl, rfl, rfl, by decide +kernel, rfl, by decide +kernel, by decide +kernel⟩
theorem sc_common_divisor : FnScope ["one", "other"] ["one", "other"] (defScope s_common_divisor) := ⟨rfl, rfl, rfl, by decide +kernel, rfl, by decide +kernel, by decide +kernel⟩
theorem sc_lowest : FnScope ["top", "bottom", "shared"] ["top", "bottom"] (defScope s_lowest) := ⟨rfl, rfl, rfl, by decide +kernel, rfl, by decide +kernel, by decide +kernel⟩
theorem sc_is_less : FnScope ["one", "other"] ["one", "other"] (defScope s_is_less) := ⟨rfl, rfl, rfl, by decide +kernel, rfl, by decide +kernel, by decide +kernel⟩
theorem sc_is_ratio : FnScope ["value"] ["value"] (defScope s_is_ratio) := ⟨rfl, rfl, rfl, by decide +kernel, rfl, by decide +kernel, by decide +kernel⟩
theorem sc_is_share : FnScope ["value"] ["value"] (defScope s_is_share) := ⟨rfl, rfl, rfl, by decide +kernel, rfl, by decide +kernel, by decide +kernel⟩
theorem sc_is_pixel : FnScope ["value"] ["value"] (defScope s_is_pixel) := ⟨rfl, rfl, rfl, by decide +kernel, rfl, by decide +kernel, by decide +kernel⟩
theorem sc_is_kind : FnScope ["value"] ["value"] (defScope s_is_kind) := ⟨rfl, rfl, rfl, by decide +kernel, rfl, by decide +kernel, by decide +kernel⟩
theorem sc_check_pixel : FnScope ["value"] ["value"] (defScope s_check_pixel) := ⟨rfl, rfl, rfl, by decide +kernel, rfl, by decide +kernel, by decide +kernel⟩
theorem sc_check_kind : FnScope ["value"] ["value"] (defScope s_check_kind) := ⟨rfl, rfl, rfl, by decide +kernel, rfl, by decide +kernel, by decide +kernel⟩
theorem sc_is_let : FnScope ["pixel", "kind", "light", "cover"] ["pixel", "kind"] (defScope s_is_let) := ⟨rfl, rfl, rfl, by decide +kernel, rfl, by decide +kernel, by decide +kernel⟩
theorem sc_has_kind : FnScope ["pixel", "kind"] ["pixel", "kind"] (defScope s_has_kind) := ⟨rfl, rfl, rfl, by decide +kernel, rfl, by decide +kernel, by decide +kernel⟩
theorem sc_kind_tests : FnScope ["kind", "uses", "parts", "part", "cover", "light"] ["kind", "uses"] (defScope s_kind_tests) := ⟨rfl, rfl, rfl, by decide +kernel, rfl, by decide +kernel, by decide +kernel⟩
theorem sc_test_pixels : FnScope ["kind", "uses"] ["kind", "uses"] (defScope s_test_pixels) := ⟨rfl, rfl, rfl, by decide +kernel, rfl, by decide +kernel, by decide +kernel⟩
theorem sc__law_cell : FnScope ["_law_script", "_law_k", "_law_mixed_here", "_law_cell_here"] ["_law_script", "_law_k"] (defScope s__law_cell) := ⟨rfl, rfl, rfl, by decide +kernel, rfl, by decide +kernel, by decide +kernel⟩
theorem sc__law_pool : FnScope ["_law_cell_here", "_law_digits"] ["_law_cell_here"] (defScope s__law_pool) := ⟨rfl, rfl, rfl, by decide +kernel, rfl, by decide +kernel, by decide +kernel⟩
theorem sc__law_take : FnScope ["_law_pool_here", "_law_many", "_law_last", "_law_digit"] ["_law_pool_here", "_law_many"] (defScope s__law_take) := ⟨rfl, rfl, rfl, by decide +kernel, rfl, by decide +kernel, by decide +kernel⟩
theorem sc__law_pick : FnScope ["_law_pool_here", "_law_things"] ["_law_pool_here", "_law_things"] (defScope s__law_pick) := ⟨rfl, rfl, rfl, by decide +kernel, rfl, by decide +kernel, by decide +kernel⟩
theorem sc__law_low : FnScope ["_law_top", "_law_bottom", "_law_one", "_law_other"] ["_law_top", "_law_bottom"] (defScope s__law_low) := ⟨rfl, rfl, rfl, by decide +kernel, rfl, by decide +kernel, by decide +kernel⟩
theorem sc__law_add : FnScope ["_law_one", "_law_other"] ["_law_one", "_law_other"] (defScope s__law_add) := ⟨rfl, rfl, rfl, by decide +kernel, rfl, by decide +kernel, by decide +kernel⟩
theorem sc__law_less : FnScope ["_law_one", "_law_other"] ["_law_one", "_law_other"] (defScope s__law_less) := ⟨rfl, rfl, rfl, by decide +kernel, rfl, by decide +kernel, by decide +kernel⟩
theorem sc__law_lattice : FnScope ["_law_kind_here", "_law_often", "_law_steps", "_law_found", "_law_k", "_law_j", "_law_step"] ["_law_kind_here", "_law_often"] (defScope s__law_lattice) := ⟨rfl, rfl, rfl, by decide +kernel, rfl, by decide +kernel, by decide +kernel⟩
theorem sc__law_kind : FnScope ["_law_e", "_law_found", "_law_own", "_law_bases", "_law_at"] ["_law_e"] (defScope s__law_kind) := ⟨rfl, rfl, rfl, by decide +kernel, rfl, by decide +kernel, by decide +kernel⟩
theorem sc__law_field : FnScope ["_law_e", "_law_at"] ["_law_e", "_law_at"] (defScope s__law_field) := ⟨rfl, rfl, rfl, by decide +kernel, rfl, by decide +kernel, by decide +kernel⟩
theorem sc__law_caught : FnScope ["_law_act", "_law_e", "_law_at"] ["_law_act"] (defScope s__law_caught) := ⟨rfl, rfl, rfl, by decide +kernel, rfl, by decide +kernel, by decide +kernel⟩
theorem sc__law_told_right : FnScope ["_law_kind_here", "_law_often", "_law_due", "_law_told", "_law_k", "_law_step", "_law_one"] ["_law_kind_here", "_law_often"] (defScope s__law_told_right) := ⟨rfl, rfl, rfl, by decide +kernel, rfl, by decide +kernel, by decide +kernel⟩
theorem sc__law_refused_right : FnScope ["_law_kind_here", "_law_often", "_law_odd", "_law_told"] ["_law_kind_here", "_law_often"] (defScope s__law_refused_right) := ⟨rfl, rfl, rfl, by decide +kernel, rfl, by decide +kernel, by decide +kernel⟩
theorem sc__law_right : FnScope ["_law_pool_here", "_law_kind_here", "_law_often"] ["_law_pool_here"] (defScope s__law_right) := ⟨rfl, rfl, rfl, by decide +kernel, rfl, by decide +kernel, by decide +kernel⟩
theorem sc_law : FnScope ["_law_script", "_law_clear", "_law_black", "_law_white", "_law_due", "_law_kinds_here", "_law_one", "_law_often", "_law_k"] ["_law_script"] (defScope s_law) := ⟨rfl, rfl, rfl, by decide +kernel, rfl, by decide +kernel, by decide +kernel⟩
theorem fx_at {K : PySem.W.Frag} (h : ex K = true) {b : Bool} (m : b ∈ fx K) : b = true := List.all_eq_true.mp h b m
/-- what stands behind the top -/
structure Txt (K : PySem.W.Frag) (mg : Str → Option Value) (w : World) : Prop where
  d_is_integer : DefG K mg "is_integer" "is_integer" s_is_integer []
  d_common_divisor : DefG K mg "common_divisor" "common_divisor" s_common_divisor []
  d_lowest : DefG K mg "lowest" "lowest" s_lowest []
  d_is_less : DefG K mg "is_less" "is_less" s_is_less []
  d_is_ratio : DefG K mg "is_ratio" "is_ratio" s_is_ratio []
  d_is_share : DefG K mg "is_share" "is_share" s_is_share []
  d_is_pixel : DefG K mg "is_pixel" "is_pixel" s_is_pixel []
  d_is_kind : DefG K mg "is_kind" "is_kind" s_is_kind []
  d_check_pixel : DefG K mg "check_pixel" "check_pixel" s_check_pixel []
  d_check_kind : DefG K mg "check_kind" "check_kind" s_check_kind []
  d_is_let : DefG K mg "is_let" "is_let" s_is_let []
  d_has_kind : DefG K mg "has_kind" "has_kind" s_has_kind []
  d_kind_tests : DefG K mg "kind_tests" "kind_tests" s_kind_tests []
  d_test_pixels : DefG K mg "test_pixels" "test_pixels" s_test_pixels []
  d__law_cell : DefG K mg "_law_cell" "_law_cell" s__law_cell []
  d__law_pool : DefG K mg "_law_pool" "_law_pool" s__law_pool []
  d__law_take : DefG K mg "_law_take" "_law_take" s__law_take []
  d__law_pick : DefG K mg "_law_pick" "_law_pick" s__law_pick []
  d__law_low : DefG K mg "_law_low" "_law_low" s__law_low []
  d__law_add : DefG K mg "_law_add" "_law_add" s__law_add []
  d__law_less : DefG K mg "_law_less" "_law_less" s__law_less []
  d__law_lattice : DefG K mg "_law_lattice" "_law_lattice" s__law_lattice []
  d__law_kind : DefG K mg "_law_kind" "_law_kind" s__law_kind []
  d__law_field : DefG K mg "_law_field" "_law_field" s__law_field []
  d__law_caught : DefG K mg "_law_caught" "_law_caught" s__law_caught []
  d__law_told_right : DefG K mg "_law_told_right" "_law_told_right" s__law_told_right []
  d__law_refused_right : DefG K mg "_law_refused_right" "_law_refused_right" s__law_refused_right []
  d__law_right : DefG K mg "_law_right" "_law_right" s__law_right []
  d_law : DefG K mg "law" "law" s_law []
  z_ArithmeticError : mg "ArithmeticError" = none
  z_LookupError : mg "LookupError" = none
  z_ValueError : mg "ValueError" = none
  z_abs : mg "abs" = none
  z_all : mg "all" = none
  z_bool : mg "bool" = none
  z_divmod : mg "divmod" = none
  z_int : mg "int" = none
  z_isinstance : mg "isinstance" = none
  z_len : mg "len" = none
  z_max : mg "max" = none
  z_min : mg "min" = none
  z_range : mg "range" = none
  z_repr : mg "repr" = none
  z_str : mg "str" = none
  z_tuple : mg "tuple" = none
  g_Busy : mg "Busy" = some (.ref (He.ga K "Busy"))
  g_Closed : mg "Closed" = some (.ref (He.ga K "Closed"))
  g_InputError : mg "InputError" = some (.ref (He.ga K "InputError"))
  g_InvalidForm : mg "InvalidForm" = some (.ref (He.ga K "InvalidForm"))
  g_InvalidKind : mg "InvalidKind" = some (.ref (He.ga K "InvalidKind"))
  g_InvalidKinds : mg "InvalidKinds" = some (.ref (He.ga K "InvalidKinds"))
  g_InvalidLayers : mg "InvalidLayers" = some (.ref (He.ga K "InvalidLayers"))
  g_InvalidLine : mg "InvalidLine" = some (.ref (He.ga K "InvalidLine"))
  g_InvalidMode : mg "InvalidMode" = some (.ref (He.ga K "InvalidMode"))
  g_InvalidName : mg "InvalidName" = some (.ref (He.ga K "InvalidName"))
  g_InvalidNumber : mg "InvalidNumber" = some (.ref (He.ga K "InvalidNumber"))
  g_InvalidOption : mg "InvalidOption" = some (.ref (He.ga K "InvalidOption"))
  g_InvalidPath : mg "InvalidPath" = some (.ref (He.ga K "InvalidPath"))
  g_InvalidPixel : mg "InvalidPixel" = some (.ref (He.ga K "InvalidPixel"))
  g_InvalidRows : mg "InvalidRows" = some (.ref (He.ga K "InvalidRows"))
  g_InvalidShare : mg "InvalidShare" = some (.ref (He.ga K "InvalidShare"))
  g_InvalidSpot : mg "InvalidSpot" = some (.ref (He.ga K "InvalidSpot"))
  g_InvalidSpots : mg "InvalidSpots" = some (.ref (He.ga K "InvalidSpots"))
  g_InvalidStrokes : mg "InvalidStrokes" = some (.ref (He.ga K "InvalidStrokes"))
  g_InvalidTable : mg "InvalidTable" = some (.ref (He.ga K "InvalidTable"))
  g_InvalidText : mg "InvalidText" = some (.ref (He.ga K "InvalidText"))
  g_InvalidTree : mg "InvalidTree" = some (.ref (He.ga K "InvalidTree"))
  g_InvalidTrees : mg "InvalidTrees" = some (.ref (He.ga K "InvalidTrees"))
  g_LimitError : mg "LimitError" = some (.ref (He.ga K "LimitError"))
  g_MissingSpot : mg "MissingSpot" = some (.ref (He.ga K "MissingSpot"))
  g_NotALayer : mg "NotALayer" = some (.ref (He.ga K "NotALayer"))
  g_NotAPicture : mg "NotAPicture" = some (.ref (He.ga K "NotAPicture"))
  g_NotAStack : mg "NotAStack" = some (.ref (He.ga K "NotAStack"))
  g_NothingToUndo : mg "NothingToUndo" = some (.ref (He.ga K "NothingToUndo"))
  g_StateError : mg "StateError" = some (.ref (He.ga K "StateError"))
  g_TooMany : mg "TooMany" = some (.ref (He.ga K "TooMany"))
  g_UnknownPicture : mg "UnknownPicture" = some (.ref (He.ga K "UnknownPicture"))
  g_UsedOften : mg "UsedOften" = some (.ref (He.ga K "UsedOften"))
  g_WrongKind : mg "WrongKind" = some (.ref (He.ga K "WrongKind"))
  g_WrongSize : mg "WrongSize" = some (.ref (He.ga K "WrongSize"))
  e_InvalidKind : ErrF K (He.ga K "InvalidKind") (He.ma K (He.ga K "InvalidKind") "__init__") "kind"
  i_InvalidKind : FunD K "__init__" "InvalidKind.__init__" (defArgs s_InvalidKind) (defBody s_InvalidKind) (defScope s_InvalidKind) [] [] (He.ma K (He.ga K "InvalidKind") "__init__") (fdAt K (He.ma K (He.ga K "InvalidKind") "__init__"))
  e_InvalidNumber : ErrF K (He.ga K "InvalidNumber") (He.ma K (He.ga K "InvalidNumber") "__init__") "number"
  i_InvalidNumber : FunD K "__init__" "InvalidNumber.__init__" (defArgs s_InvalidNumber) (defBody s_InvalidNumber) (defScope s_InvalidNumber) [] [] (He.ma K (He.ga K "InvalidNumber") "__init__") (fdAt K (He.ma K (He.ga K "InvalidNumber") "__init__"))
  e_InvalidPixel : ErrF K (He.ga K "InvalidPixel") (He.ma K (He.ga K "InvalidPixel") "__init__") "value"
  i_InvalidPixel : FunD K "__init__" "InvalidPixel.__init__" (defArgs s_InvalidPixel) (defBody s_InvalidPixel) (defScope s_InvalidPixel) [] [] (He.ma K (He.ga K "InvalidPixel") "__init__") (fdAt K (He.ma K (He.ga K "InvalidPixel") "__init__"))
  at_form : AtOk K mg atc "form"
  at_index : AtOk K mg atc "index"
  at_kind : AtOk K mg atc "kind"
  at_limit : AtOk K mg atc "limit"
  at_line : AtOk K mg atc "line"
  at_mode : AtOk K mg atc "mode"
  at_name : AtOk K mg atc "name"
  at_number : AtOk K mg atc "number"
  at_path : AtOk K mg atc "path"
  at_spot : AtOk K mg atc "spot"
  at_table : AtOk K mg atc "table"
  at_text : AtOk K mg atc "text"
  at_value : AtOk K mg atc "value"
  ct : CtOk K mg ct
  mt_0 : MtOk mg mt_0 (fun cls => PySem.W.exmAny K cls [.ref (He.ga K "InputError"), .ref (He.ga K "StateError"), .ref (He.ga K "LimitError")])
  k_CLEAR : ConG K mg "CLEAR" c_CLEAR
  k_KINDS : ConG K mg "KINDS" c_KINDS
  k_MAX_NODES : ConG K mg "MAX_NODES" c_MAX_NODES
  k_ONE : ConG K mg "ONE" c_ONE
  k_WHITE : ConG K mg "WHITE" c_WHITE
  k_ZERO : ConG K mg "ZERO" c_ZERO
  nd : ((TT K).map (·.1)).Nodup
  ks : K.lookup sysModules = none
/-! ### the computations -/
def gD_test_pixels_0_uses_kind : List D → List D → List D := fun ds cs => pick [1, 0] (ds ++ cs)
noncomputable def t_is_integer_0 : MS := (sRet (eAnd (eOr (e2 isNM (eVar 1) (eC .non)) (e2 geM (eVar 0) (eVar 1))) (eOr (e2 isNM (eVar 2) (eC .non)) (e2 leM (eVar 0) (eVar 2)))))
noncomputable def b_is_integer : MS := (sSeq (sIf (bOr (bNot (bTru (eL isiM (lCons (eVar 0) (lCons (eC (.ty "int")) lNil))))) (bTru (eL isiM (lCons (eVar 0) (lCons (eC (.ty "bool")) lNil))))) (sRet (eC (.bl false))) sNext) t_is_integer_0)
@[irreducible] noncomputable def m_is_integer : List D → M D := callM 3 (b_is_integer)
theorem mE_is_integer : m_is_integer = callM 3 (b_is_integer) := by
  unfold m_is_integer
  rfl
noncomputable def t_common_divisor_0 : MS := (sRet (eVar 0))
noncomputable def t_common_divisor_1 : MS := (sSeq (sWhile (bOf (e2 gtM (eVar 1) (eC (.int 0)))) (sPar 0 1 (lCons (eVar 1) (lCons (e2 modM (eVar 0) (eVar 1)) lNil)))) t_common_divisor_0)
noncomputable def b_common_divisor : MS := (sSeq (sPar 0 1 (lCons (eL absM (lCons (eVar 0) lNil)) (lCons (eL absM (lCons (eVar 1) lNil)) lNil))) t_common_divisor_1)
@[irreducible] noncomputable def m_common_divisor : List D → M D := callM 2 (b_common_divisor)
theorem mE_common_divisor : m_common_divisor = callM 2 (b_common_divisor) := by
  unfold m_common_divisor
  rfl
noncomputable def t_lowest_0 : MS := (sRet (eL tupM (lCons (e2 fdivM (eVar 0) (eVar 2)) (lCons (e2 fdivM (eVar 1) (eVar 2)) lNil))))
noncomputable def b_lowest : MS := (sSeq (sSet 2 (eCall m_common_divisor (lCons (eVar 0) (lCons (eVar 1) lNil)))) t_lowest_0)
@[irreducible] noncomputable def m_lowest : List D → M D := callM 3 (b_lowest)
theorem mE_lowest : m_lowest = callM 3 (b_lowest) := by
  unfold m_lowest
  rfl
noncomputable def b_is_less : MS := (sRet (e2 ltM (e2 mulM (e2 ixM (eVar 0) (eC (.int 0))) (e2 ixM (eVar 1) (eC (.int 1)))) (e2 mulM (e2 ixM (eVar 1) (eC (.int 0))) (e2 ixM (eVar 0) (eC (.int 1))))))
@[irreducible] noncomputable def m_is_less : List D → M D := callM 2 (b_is_less)
theorem mE_is_less : m_is_less = callM 2 (b_is_less) := by
  unfold m_is_less
  rfl
noncomputable def t_is_ratio_0 : MS := (sRet (e2 eqM (eCall m_common_divisor (lCons (e2 ixM (eVar 0) (eC (.int 0))) (lCons (e2 ixM (eVar 0) (eC (.int 1))) lNil))) (eC (.int 1))))
noncomputable def t_is_ratio_1 : MS := (sSeq (sIf (bOr (bNot (bTru (eCall m_is_integer (lCons (e2 ixM (eVar 0) (eC (.int 0))) (lCons (eC .non) (lCons (eC .non) lNil)))))) (bNot (bTru (eCall m_is_integer (lCons (e2 ixM (eVar 0) (eC (.int 1))) (lCons (eC (.int 1)) (lCons (eC .non) lNil))))))) (sRet (eC (.bl false))) sNext) t_is_ratio_0)
noncomputable def b_is_ratio : MS := (sSeq (sIf (bOr (bNot (bTru (eL isiM (lCons (eVar 0) (lCons (eC (.ty "tuple")) lNil))))) (bOf (e2 neM (eL lenM (lCons (eVar 0) lNil)) (eC (.int 2))))) (sRet (eC (.bl false))) sNext) t_is_ratio_1)
@[irreducible] noncomputable def m_is_ratio : List D → M D := callM 1 (b_is_ratio)
theorem mE_is_ratio : m_is_ratio = callM 1 (b_is_ratio) := by
  unfold m_is_ratio
  rfl
noncomputable def b_is_share : MS := (sRet (eAnd (eCall m_is_ratio (lCons (eVar 0) lNil)) (e3c leM leM (eC (.int 0)) (e2 ixM (eVar 0) (eC (.int 0))) (e2 ixM (eVar 0) (eC (.int 1))))))
@[irreducible] noncomputable def m_is_share : List D → M D := callM 1 (b_is_share)
theorem mE_is_share : m_is_share = callM 1 (b_is_share) := by
  unfold m_is_share
  rfl
noncomputable def t_is_pixel_0 : MS := (sRet (eNot (eCall m_is_less (lCons (e2 ixM (eVar 0) (eC (.int 1))) (lCons (e2 ixM (eVar 0) (eC (.int 0))) lNil)))))
noncomputable def b_is_pixel : MS := (sSeq (sIf (bOr (bNot (bTru (eL isiM (lCons (eVar 0) (lCons (eC (.ty "tuple")) lNil))))) (bOr (bOf (e2 neM (eL lenM (lCons (eVar 0) lNil)) (eC (.int 2)))) (bOr (bNot (bTru (eCall m_is_share (lCons (e2 ixM (eVar 0) (eC (.int 0))) lNil)))) (bNot (bTru (eCall m_is_share (lCons (e2 ixM (eVar 0) (eC (.int 1))) lNil))))))) (sRet (eC (.bl false))) sNext) t_is_pixel_0)
@[irreducible] noncomputable def m_is_pixel : List D → M D := callM 1 (b_is_pixel)
theorem mE_is_pixel : m_is_pixel = callM 1 (b_is_pixel) := by
  unfold m_is_pixel
  rfl
noncomputable def b_is_kind : MS := (sRet (eAnd (eL isiM (lCons (eVar 0) (lCons (eC (.ty "str")) lNil))) (e2 inM (eVar 0) (eC c_KINDS))))
@[irreducible] noncomputable def m_is_kind : List D → M D := callM 1 (b_is_kind)
theorem mE_is_kind : m_is_kind = callM 1 (b_is_kind) := by
  unfold m_is_kind
  rfl
noncomputable def b_check_pixel : MS := (sIf (bNot (bTru (eCall m_is_pixel (lCons (eVar 0) lNil)))) (sRaise "InvalidPixel" "value" (lCons (eVar 0) lNil)) sNext)
@[irreducible] noncomputable def m_check_pixel : List D → M D := callM 1 (b_check_pixel)
theorem mE_check_pixel : m_check_pixel = callM 1 (b_check_pixel) := by
  unfold m_check_pixel
  rfl
noncomputable def b_check_kind : MS := (sIf (bNot (bTru (eCall m_is_kind (lCons (eVar 0) lNil)))) (sRaise "InvalidKind" "kind" (lCons (eVar 0) lNil)) sNext)
@[irreducible] noncomputable def m_check_kind : List D → M D := callM 1 (b_check_kind)
theorem mE_check_kind : m_check_kind = callM 1 (b_check_kind) := by
  unfold m_check_kind
  rfl
noncomputable def t_is_let_0 : MS := (sRet (eC (.bl true)))
noncomputable def t_is_let_1 : MS := (sSeq (sMatch (eVar 1) (mcVal (.str "solid") (sRet (e2 eqM (eVar 3) (eC c_ONE))) (mcVal (.str "cutout") (sRet (e2 inM (eVar 3) (eL tupM (lCons (eC c_ZERO) (lCons (eC c_ONE) lNil))))) (mcVal (.str "white") (sRet (e2 eqM (eVar 2) (eVar 3))) (mcVal (.str "stencil") (sRet (e2 inM (eVar 0) (eL tupM (lCons (eC c_CLEAR) (lCons (eC c_WHITE) lNil))))) mcNil))))) t_is_let_0)
noncomputable def b_is_let : MS := (sSeq (sAsg (gT 2 (gsCons (gN 2) (gsCons (gN 3) gsNil))) (eVar 0)) t_is_let_1)
@[irreducible] noncomputable def m_is_let : List D → M D := callM 4 (b_is_let)
theorem mE_is_let : m_is_let = callM 4 (b_is_let) := by
  unfold m_is_let
  rfl
noncomputable def t_has_kind_0 : MS := (sRet (eCall m_is_let (lCons (eVar 0) (lCons (eVar 1) lNil))))
noncomputable def t_has_kind_1 : MS := (sSeq (sDrop (eCall m_check_kind (lCons (eVar 1) lNil))) t_has_kind_0)
noncomputable def b_has_kind : MS := (sSeq (sDrop (eCall m_check_pixel (lCons (eVar 0) lNil))) t_has_kind_1)
@[irreducible] noncomputable def m_has_kind : List D → M D := callM 2 (b_has_kind)
theorem mE_has_kind : m_has_kind = callM 2 (b_has_kind) := by
  unfold m_has_kind
  rfl
noncomputable def t_kind_tests_0 : MS := (sRet (eL lstM (lCons (eC c_CLEAR) (lCons (eC c_WHITE) lNil))))
noncomputable def t_kind_tests_1 : MS := (sSeq (sMatch (eVar 0) (mcVal (.str "free") (sRet (eLc2 4 5 (eLL rng1M (lCons (e2 addM (eVar 1) (eC (.int 1))) lNil)) bYes (eLL rng1M (lCons (e2 addM (eVar 4) (eC (.int 1))) lNil)) bYes (eL tupM (lCons (e2 ixM (eVar 2) (eVar 5)) (lCons (e2 ixM (eVar 2) (eVar 4)) lNil))))) (mcVal (.str "solid") (sRet (eLc 3 (eSeq seqA (eVar 2)) bYes (eL tupM (lCons (eVar 3) (lCons (eC c_ONE) lNil))))) (mcVal (.str "cutout") (sRet (e2 addM (eL lstM (lCons (eC c_CLEAR) lNil)) (eLc 3 (eSeq seqA (eVar 2)) bYes (eL tupM (lCons (eVar 3) (lCons (eC c_ONE) lNil)))))) (mcVal (.str "white") (sRet (eLc 3 (eSeq seqA (eVar 2)) bYes (eL tupM (lCons (eVar 3) (lCons (eVar 3) lNil))))) mcNil))))) t_kind_tests_0)
noncomputable def b_kind_tests : MS := (sSeq (sSet 2 (eLc 3 (eLL rng1M (lCons (e2 addM (eVar 1) (eC (.int 1))) lNil)) bYes (eCall m_lowest (lCons (eVar 3) (lCons (eVar 1) lNil))))) t_kind_tests_1)
@[irreducible] noncomputable def m_kind_tests : List D → M D := callM 6 (b_kind_tests)
theorem mE_kind_tests : m_kind_tests = callM 6 (b_kind_tests) := by
  unfold m_kind_tests
  rfl
noncomputable def t_test_pixels_0 : MS := (sRet (eL tupleAM (lCons (eCall m_kind_tests (lCons (eVar 0) (lCons (eVar 1) lNil))) lNil)))
noncomputable def t_test_pixels_1 : MS := (sSeq (sIf (bNot (bTru (eCall m_is_integer (lCons (eVar 1) (lCons (eC (.int 1)) (lCons (eC c_MAX_NODES) lNil)))))) (sRaise "InvalidNumber" "number" (lCons (eVar 1) lNil)) sNext) t_test_pixels_0)
noncomputable def b_test_pixels : MS := (sSeq (sDrop (eCall m_check_kind (lCons (eVar 0) lNil))) t_test_pixels_1)
@[irreducible] noncomputable def m_test_pixels : List D → M D := callM 2 (b_test_pixels)
theorem mE_test_pixels : m_test_pixels = callM 2 (b_test_pixels) := by
  unfold m_test_pixels
  rfl
noncomputable def t__law_cell_0 : MS := (sRet (eVar 2))
noncomputable def t__law_cell_1 : MS := (sSeq (sForE (eSeq seqA (eSl (eVar 0) oN (oI (eC (.int 3))))) (gN 3) (sSet 2 (e2 modM (e2 addM (e2 mulM (eVar 2) (eC (.int 40063))) (eL intM (lCons (eVar 3) lNil))) (eC (.int 2147483353))))) t__law_cell_0)
noncomputable def t__law_cell_2 : MS := (sSeq (sSet 2 (e2 modM (e2 mulM (eC (.int 51043)) (e2 addM (e2 addM (e2 mulM (eVar 1) (eVar 1)) (e2 mulM (eC (.int 17)) (eVar 1))) (eC (.int 5)))) (eC (.int 2147483353)))) t__law_cell_1)
noncomputable def b__law_cell : MS := (sSeq (sIf (bOf (e2 ltM (eVar 1) (eL lenM (lCons (eVar 0) lNil)))) (sRet (eL intM (lCons (e2 ixM (eVar 0) (eVar 1)) lNil))) sNext) t__law_cell_2)
@[irreducible] noncomputable def m__law_cell : List D → M D := callM 4 (b__law_cell)
theorem mE__law_cell : m__law_cell = callM 4 (b__law_cell) := by
  unfold m__law_cell
  rfl
noncomputable def t__law_pool_0 : MS := (sRet (eL newM (lCons (e2 modM (eL intM (lCons (eVar 0) lNil)) (eC (.int 2147483353))) (lCons (eVar 1) (lCons (eC (.int 0)) lNil)))))
noncomputable def b__law_pool : MS := (sSeq (sSet 1 (eIf (bOr (bOf (e2 ltM (eVar 0) (eC (.int 0)))) (bOf (e2 geM (eVar 0) (e2 powM (eC (.int 10)) (eC (.int 18)))))) (eL absM (lCons (eL intM (lCons (eVar 0) lNil)) lNil)) (eC (.int 0)))) t__law_pool_0)
@[irreducible] noncomputable def m__law_pool : List D → M D := callM 2 (b__law_pool)
theorem mE__law_pool : m__law_pool = callM 2 (b__law_pool) := by
  unfold m__law_pool
  rfl
noncomputable def t__law_take_0 : MS := (sRet (eVar 3))
noncomputable def t__law_take_1 : MS := (sRet (e2 modM (e2 fdivM (eL intM (lCons (e2 ixM (eVar 0) (eC (.int 0))) lNil)) (eC (.int 32))) (eVar 1)))
noncomputable def t__law_take_2 : MS := (sSeq (sIf (bOf (e2 gtM (e2 ixM (eVar 0) (eC (.int 1))) (eC (.int 0)))) (sSeq (sSubN (eVar 0) (eC (.int 1)) (eL divmodM (lCons (eL intM (lCons (e2 ixM (eVar 0) (eC (.int 1))) lNil)) (lCons (eVar 1) lNil))) 3) t__law_take_0) sNext) t__law_take_1)
noncomputable def t__law_take_3 : MS := (sSeq (sSub (eVar 0) (eC (.int 0)) (e2 modM (e2 addM (e2 addM (e2 mulM (eVar 2) (e2 addM (e2 modM (eVar 2) (eC (.int 43037))) (eC (.int 26017)))) (e2 mulM (eC (.int 60041)) (e2 ixM (eVar 0) (eC (.int 2))))) (eC (.int 29))) (eC (.int 2147483353)))) t__law_take_2)
noncomputable def t__law_take_4 : MS := (sSeq (sSet 2 (eL intM (lCons (e2 ixM (eVar 0) (eC (.int 0))) lNil))) t__law_take_3)
noncomputable def b__law_take : MS := (sSeq (sSub (eVar 0) (eC (.int 2)) (e2 addM (e2 ixM (eVar 0) (eC (.int 2))) (eC (.int 1)))) t__law_take_4)
@[irreducible] noncomputable def m__law_take : List D → M D := callM 4 (b__law_take)
theorem mE__law_take : m__law_take = callM 4 (b__law_take) := by
  unfold m__law_take
  rfl
noncomputable def b__law_pick : MS := (sRet (e2 ixM (eVar 1) (eCall m__law_take (lCons (eVar 0) (lCons (eL lenM (lCons (eVar 1) lNil)) lNil)))))
@[irreducible] noncomputable def m__law_pick : List D → M D := callM 2 (b__law_pick)
theorem mE__law_pick : m__law_pick = callM 2 (b__law_pick) := by
  unfold m__law_pick
  rfl
noncomputable def t__law_low_0 : MS := (sRet (eL tupM (lCons (e2 fdivM (eVar 0) (eVar 2)) (lCons (e2 fdivM (eVar 1) (eVar 2)) lNil))))
noncomputable def t__law_low_1 : MS := (sSeq (sWhile (bOf (e2 gtM (eVar 3) (eC (.int 0)))) (sPar 2 3 (lCons (eVar 3) (lCons (e2 modM (eVar 2) (eVar 3)) lNil)))) t__law_low_0)
noncomputable def b__law_low : MS := (sSeq (sPar 2 3 (lCons (eL absM (lCons (eVar 0) lNil)) (lCons (eVar 1) lNil))) t__law_low_1)
@[irreducible] noncomputable def m__law_low : List D → M D := callM 4 (b__law_low)
theorem mE__law_low : m__law_low = callM 4 (b__law_low) := by
  unfold m__law_low
  rfl
noncomputable def b__law_add : MS := (sRet (eCall m__law_low (lCons (e2 addM (e2 mulM (e2 ixM (eVar 0) (eC (.int 0))) (e2 ixM (eVar 1) (eC (.int 1)))) (e2 mulM (e2 ixM (eVar 1) (eC (.int 0))) (e2 ixM (eVar 0) (eC (.int 1))))) (lCons (e2 mulM (e2 ixM (eVar 0) (eC (.int 1))) (e2 ixM (eVar 1) (eC (.int 1)))) lNil))))
@[irreducible] noncomputable def m__law_add : List D → M D := callM 2 (b__law_add)
theorem mE__law_add : m__law_add = callM 2 (b__law_add) := by
  unfold m__law_add
  rfl
noncomputable def b__law_less : MS := (sRet (eCall m__law_add (lCons (eVar 0) (lCons (eL tupM (lCons (e2 subM (eC (.int 0)) (e2 ixM (eVar 1) (eC (.int 0)))) (lCons (e2 ixM (eVar 1) (eC (.int 1))) lNil))) lNil))))
@[irreducible] noncomputable def m__law_less : List D → M D := callM 2 (b__law_less)
theorem mE__law_less : m__law_less = callM 2 (b__law_less) := by
  unfold m__law_less
  rfl
noncomputable def t__law_lattice_0 : MS := (sRet (eVar 3))
noncomputable def t__law_lattice_1 : MS := (sRet (e2 addM (e2 mulM (eL lstM (lCons (eL tupM (lCons (eL tupM (lCons (eC (.int 0)) (lCons (eC (.int 1)) lNil))) (lCons (eL tupM (lCons (eC (.int 0)) (lCons (eC (.int 1)) lNil))) lNil))) lNil)) (eL intM (lCons (e2 eqM (eVar 0) (eC (.str "cutout"))) lNil))) (eLc 6 (eSeq seqA (eVar 2)) bYes (eL tupM (lCons (eVar 6) (lCons (eL tupM (lCons (eC (.int 1)) (lCons (eC (.int 1)) lNil))) lNil))))))
noncomputable def t__law_lattice_2 : MS := (sSeq (sIf (bOf (e2 eqM (eVar 0) (eC (.str "stencil")))) (sRet (eL lstM (lCons (eL tupM (lCons (eL tupM (lCons (eC (.int 0)) (lCons (eC (.int 1)) lNil))) (lCons (eL tupM (lCons (eC (.int 0)) (lCons (eC (.int 1)) lNil))) lNil))) (lCons (eL tupM (lCons (eL tupM (lCons (eC (.int 1)) (lCons (eC (.int 1)) lNil))) (lCons (eL tupM (lCons (eC (.int 1)) (lCons (eC (.int 1)) lNil))) lNil))) lNil)))) sNext) t__law_lattice_1)
noncomputable def t__law_lattice_3 : MS := (sSeq (sIf (bOf (e2 eqM (eVar 0) (eC (.str "white")))) (sRet (eLc 6 (eSeq seqA (eVar 2)) bYes (eL tupM (lCons (eVar 6) (lCons (eVar 6) lNil))))) sNext) t__law_lattice_2)
noncomputable def t__law_lattice_4 : MS := (sSeq (sIf (bOf (e2 eqM (eVar 0) (eC (.str "free")))) (sSeq (sForE (eLL rng1M (lCons (e2 addM (eVar 1) (eC (.int 1))) lNil)) (gN 5) (sDrop (eMM isLstB extM (eVar 3) (eLc 4 (eLL rng1M (lCons (e2 addM (eVar 5) (eC (.int 1))) lNil)) bYes (eL tupM (lCons (e2 ixM (eVar 2) (eVar 4)) (lCons (e2 ixM (eVar 2) (eVar 5)) lNil))))))) t__law_lattice_0) sNext) t__law_lattice_3)
noncomputable def b__law_lattice : MS := (sSeq (sAsg (gT 2 (gsCons (gN 2) (gsCons (gN 3) gsNil))) (eL tupM (lCons (eLc 4 (eLL rng1M (lCons (e2 addM (eVar 1) (eC (.int 1))) lNil)) bYes (eCall m__law_low (lCons (eVar 4) (lCons (eVar 1) lNil)))) (lCons (eL newM lNil) lNil)))) t__law_lattice_4)
@[irreducible] noncomputable def m__law_lattice : List D → M D := callM 7 (b__law_lattice)
theorem mE__law_lattice : m__law_lattice = callM 7 (b__law_lattice) := by
  unfold m__law_lattice
  rfl
noncomputable def t__law_kind_0 : MS := (sRet (eIf (bOf (e2 eqM (eVar 2) (eL lstM (lCons (e2 ltM (eVar 4) (eC (.int 23))) (lCons (e3c ltM ltM (eC (.int 22)) (eVar 4) (eC (.int 31))) (lCons (e2 eqM (eVar 4) (eC (.int 31))) lNil)))))) (eVar 4) (e2 subM (eC (.int 0)) (eC (.int 1)))))
noncomputable def t__law_kind_1 : MS := (sSeq (sSet 4 (eM1 isLs idxM (eVar 1) (eC (.bl true)))) t__law_kind_0)
noncomputable def t__law_kind_2 : MS := (sSeq (sIf (bOr (bOf (e2 neM (eM1 isLs cntM (eVar 1) (eC (.bl true))) (eC (.int 1)))) (bOf (e2 neM (eVar 2) (eVar 3)))) (sRet (e2 subM (eC (.int 0)) (eC (.int 1)))) sNext) t__law_kind_1)
noncomputable def t__law_kind_3 : MS := (sSeq (sSet 3 (eL lstM (lCons (eL (isiE ct) (lCons (eVar 0) (lCons (eC (.gl "InputError")) lNil))) (lCons (eL (isiE ct) (lCons (eVar 0) (lCons (eC (.gl "StateError")) lNil))) (lCons (eL (isiE ct) (lCons (eVar 0) (lCons (eC (.gl "LimitError")) lNil))) lNil))))) t__law_kind_2)
noncomputable def t__law_kind_4 : MS := (sSeq (sSet 2 (eL lstM (lCons (eL (isiE ct) (lCons (eVar 0) (lCons (eC (.ty "ValueError")) lNil))) (lCons (eL (isiE ct) (lCons (eVar 0) (lCons (eC (.ty "LookupError")) lNil))) (lCons (eL (isiE ct) (lCons (eVar 0) (lCons (eC (.ty "ArithmeticError")) lNil))) lNil))))) t__law_kind_3)
noncomputable def t__law_kind_5 : MS := (sSeq (sSet 1 (e2 addM (eVar 1) (eL lstM (lCons (eL (isiE ct) (lCons (eVar 0) (lCons (eC (.gl "NothingToUndo")) lNil))) (lCons (eL (isiE ct) (lCons (eVar 0) (lCons (eC (.gl "TooMany")) lNil))) lNil))))) t__law_kind_4)
noncomputable def t__law_kind_6 : MS := (sSeq (sSet 1 (e2 addM (eVar 1) (eL lstM (lCons (eL (isiE ct) (lCons (eVar 0) (lCons (eC (.gl "WrongSize")) lNil))) (lCons (eL (isiE ct) (lCons (eVar 0) (lCons (eC (.gl "Busy")) lNil))) (lCons (eL (isiE ct) (lCons (eVar 0) (lCons (eC (.gl "Closed")) lNil))) lNil)))))) t__law_kind_5)
noncomputable def t__law_kind_7 : MS := (sSeq (sSet 1 (e2 addM (eVar 1) (eL lstM (lCons (eL (isiE ct) (lCons (eVar 0) (lCons (eC (.gl "MissingSpot")) lNil))) (lCons (eL (isiE ct) (lCons (eVar 0) (lCons (eC (.gl "UsedOften")) lNil))) (lCons (eL (isiE ct) (lCons (eVar 0) (lCons (eC (.gl "WrongKind")) lNil))) lNil)))))) t__law_kind_6)
noncomputable def t__law_kind_8 : MS := (sSeq (sSet 1 (e2 addM (eVar 1) (eL lstM (lCons (eL (isiE ct) (lCons (eVar 0) (lCons (eC (.gl "NotALayer")) lNil))) (lCons (eL (isiE ct) (lCons (eVar 0) (lCons (eC (.gl "NotAStack")) lNil))) (lCons (eL (isiE ct) (lCons (eVar 0) (lCons (eC (.gl "UnknownPicture")) lNil))) lNil)))))) t__law_kind_7)
noncomputable def t__law_kind_9 : MS := (sSeq (sSet 1 (e2 addM (eVar 1) (eL lstM (lCons (eL (isiE ct) (lCons (eVar 0) (lCons (eC (.gl "InvalidText")) lNil))) (lCons (eL (isiE ct) (lCons (eVar 0) (lCons (eC (.gl "InvalidLine")) lNil))) (lCons (eL (isiE ct) (lCons (eVar 0) (lCons (eC (.gl "NotAPicture")) lNil))) lNil)))))) t__law_kind_8)
noncomputable def t__law_kind_10 : MS := (sSeq (sSet 1 (e2 addM (eVar 1) (eL lstM (lCons (eL (isiE ct) (lCons (eVar 0) (lCons (eC (.gl "InvalidOption")) lNil))) (lCons (eL (isiE ct) (lCons (eVar 0) (lCons (eC (.gl "InvalidLayers")) lNil))) (lCons (eL (isiE ct) (lCons (eVar 0) (lCons (eC (.gl "InvalidStrokes")) lNil))) lNil)))))) t__law_kind_9)
noncomputable def t__law_kind_11 : MS := (sSeq (sSet 1 (e2 addM (eVar 1) (eL lstM (lCons (eL (isiE ct) (lCons (eVar 0) (lCons (eC (.gl "InvalidTable")) lNil))) (lCons (eL (isiE ct) (lCons (eVar 0) (lCons (eC (.gl "InvalidForm")) lNil))) (lCons (eL (isiE ct) (lCons (eVar 0) (lCons (eC (.gl "InvalidRows")) lNil))) lNil)))))) t__law_kind_10)
noncomputable def t__law_kind_12 : MS := (sSeq (sSet 1 (e2 addM (eVar 1) (eL lstM (lCons (eL (isiE ct) (lCons (eVar 0) (lCons (eC (.gl "InvalidPath")) lNil))) (lCons (eL (isiE ct) (lCons (eVar 0) (lCons (eC (.gl "InvalidSpot")) lNil))) (lCons (eL (isiE ct) (lCons (eVar 0) (lCons (eC (.gl "InvalidSpots")) lNil))) lNil)))))) t__law_kind_11)
noncomputable def t__law_kind_13 : MS := (sSeq (sSet 1 (e2 addM (eVar 1) (eL lstM (lCons (eL (isiE ct) (lCons (eVar 0) (lCons (eC (.gl "InvalidNumber")) lNil))) (lCons (eL (isiE ct) (lCons (eVar 0) (lCons (eC (.gl "InvalidTree")) lNil))) (lCons (eL (isiE ct) (lCons (eVar 0) (lCons (eC (.gl "InvalidTrees")) lNil))) lNil)))))) t__law_kind_12)
noncomputable def t__law_kind_14 : MS := (sSeq (sSet 1 (e2 addM (eVar 1) (eL lstM (lCons (eL (isiE ct) (lCons (eVar 0) (lCons (eC (.gl "InvalidKind")) lNil))) (lCons (eL (isiE ct) (lCons (eVar 0) (lCons (eC (.gl "InvalidKinds")) lNil))) (lCons (eL (isiE ct) (lCons (eVar 0) (lCons (eC (.gl "InvalidMode")) lNil))) lNil)))))) t__law_kind_13)
noncomputable def b__law_kind : MS := (sSeq (sSet 1 (eL lstM (lCons (eL (isiE ct) (lCons (eVar 0) (lCons (eC (.gl "InvalidShare")) lNil))) (lCons (eL (isiE ct) (lCons (eVar 0) (lCons (eC (.gl "InvalidPixel")) lNil))) (lCons (eL (isiE ct) (lCons (eVar 0) (lCons (eC (.gl "InvalidName")) lNil))) lNil))))) t__law_kind_14)
@[irreducible] noncomputable def m__law_kind : List D → M D := callM 5 (b__law_kind)
theorem mE__law_kind : m__law_kind = callM 5 (b__law_kind) := by
  unfold m__law_kind
  rfl
noncomputable def t__law_field_0 : MS := (sRet (eIf (bOf (e2 eqM (eVar 1) (eC (.int 31)))) (eL reprM (lCons (e1 (atM atc "limit") (eVar 0)) lNil)) (eC (.str ""))))
noncomputable def t__law_field_1 : MS := (sSeq (sIf (bOf (e2 inM (eVar 1) (eL lstM (lCons (eC (.int 12)) (lCons (eC (.int 13)) (lCons (eC (.int 18)) (lCons (eC (.int 19)) lNil))))))) (sRet (eL reprM (lCons (eIf (bOf (e2 eqM (eVar 1) (eC (.int 12)))) (e1 (atM atc "table") (eVar 0)) (eIf (bOf (e2 eqM (eVar 1) (eC (.int 13)))) (e1 (atM atc "form") (eVar 0)) (eIf (bOf (e2 eqM (eVar 1) (eC (.int 18)))) (e1 (atM atc "text") (eVar 0)) (e1 (atM atc "line") (eVar 0))))) lNil))) sNext) t__law_field_0)
noncomputable def t__law_field_2 : MS := (sSeq (sIf (bOf (e2 inM (eVar 1) (eL lstM (lCons (eC (.int 3)) (lCons (eC (.int 5)) (lCons (eC (.int 6)) lNil)))))) (sRet (eL reprM (lCons (eIf (bOf (e2 eqM (eVar 1) (eC (.int 3)))) (e1 (atM atc "kind") (eVar 0)) (eIf (bOf (e2 eqM (eVar 1) (eC (.int 5)))) (e1 (atM atc "mode") (eVar 0)) (e1 (atM atc "number") (eVar 0)))) lNil))) sNext) t__law_field_1)
noncomputable def t__law_field_3 : MS := (sSeq (sIf (bOf (e2 inM (eVar 1) (eL lstM (lCons (eC (.int 10)) (lCons (eC (.int 24)) (lCons (eC (.int 25)) lNil)))))) (sRet (eL reprM (lCons (e1 (atM atc "spot") (eVar 0)) lNil))) sNext) t__law_field_2)
noncomputable def t__law_field_4 : MS := (sSeq (sIf (bOf (e2 inM (eVar 1) (eL lstM (lCons (eC (.int 7)) (lCons (eC (.int 9)) lNil))))) (sRet (eL reprM (lCons (e1 (atM atc "path") (eVar 0)) lNil))) sNext) t__law_field_3)
noncomputable def t__law_field_5 : MS := (sSeq (sIf (bOf (e2 inM (eVar 1) (eL lstM (lCons (eC (.int 4)) (lCons (eC (.int 8)) (lCons (eC (.int 11)) (lCons (eC (.int 14)) (lCons (eC (.int 16)) (lCons (eC (.int 17)) lNil))))))))) (sRet (eL reprM (lCons (e1 (atM atc "index") (eVar 0)) lNil))) sNext) t__law_field_4)
noncomputable def t__law_field_6 : MS := (sSeq (sIf (bOf (e2 inM (eVar 1) (eL lstM (lCons (eC (.int 2)) (lCons (eC (.int 15)) (lCons (eC (.int 23)) (lCons (eC (.int 26)) (lCons (eC (.int 27)) lNil)))))))) (sRet (eL reprM (lCons (e1 (atM atc "name") (eVar 0)) lNil))) sNext) t__law_field_5)
noncomputable def b__law_field : MS := (sSeq (sIf (bOf (e2 inM (eVar 1) (eL lstM (lCons (eC (.int 0)) (lCons (eC (.int 1)) (lCons (eC (.int 20)) (lCons (eC (.int 21)) (lCons (eC (.int 22)) lNil)))))))) (sRet (eL reprM (lCons (e1 (atM atc "value") (eVar 0)) lNil))) sNext) t__law_field_6)
@[irreducible] noncomputable def m__law_field : List D → M D := callM 2 (b__law_field)
theorem mE__law_field : m__law_field = callM 2 (b__law_field) := by
  unfold m__law_field
  rfl
noncomputable def b__law_caught (mb : Ev → M D) : MS := (sSeq (sTry (sDrop (e1 (callThk mb) (eVar 0))) (⟨mt_0, some 1, (sSeq (sSet 2 (eCall (noExc m__law_kind) (lCons (eVar 1) lNil))) (sRet (eL lstM (lCons (eVar 2) (lCons (eCall (noExc m__law_field) (lCons (eVar 1) (lCons (eVar 2) lNil))) lNil)))))⟩ :: [])) (sRet (eL lstM (lCons (eC (.str "told")) (lCons (eC (.str "")) lNil)))))
noncomputable def mL__law_caught (mb : Ev → M D) : List D → M D := callM 3 (b__law_caught mb)
theorem mLE__law_caught (mb : Ev → M D) : mL__law_caught mb = callM 3 (b__law_caught mb) := by
  unfold mL__law_caught
  rfl
noncomputable def t__law_told_right_0 : MS := (sIf (bOr (bOf (e2 ltM (e2 ixM (eVar 5) (eC (.int 0))) (eC (.int 0)))) (bAnd (bOf (e2 eqM (e2 ixM (eVar 5) (eC (.int 0))) (eC (.int 0)))) (bOf (e2 ltM (e2 ixM (eCall m__law_less (lCons (e2 ixM (e2 ixM (eVar 2) (eVar 4)) (eC (.int 0))) (lCons (e2 ixM (e2 ixM (eVar 2) (e2 subM (eVar 4) (eC (.int 1)))) (eC (.int 0))) lNil))) (eC (.int 0))) (eC (.int 1)))))) (sRet (eC (.bl false))) sNext)
noncomputable def t__law_told_right_1 : MS := (sRet (eL allM (lCons (eLc 6 (eSeq seqA (e2 addM (eSl (eVar 2) oN (oI (eC (.int 40)))) (eSl (eVar 2) (oI (e1 negM (eC (.int 40)))) oN))) bYes (eCall m_has_kind (lCons (eVar 6) (lCons (eVar 0) lNil)))) lNil)))
noncomputable def t__law_told_right_2 : MS := (sSeq (sForE (eLL rng2M (lCons (eC (.int 1)) (lCons (eL lenM (lCons (eVar 2) lNil)) lNil))) (gN 4) (sSeq (sSet 5 (eCall m__law_less (lCons (e2 ixM (e2 ixM (eVar 2) (eVar 4)) (eC (.int 1))) (lCons (e2 ixM (e2 ixM (eVar 2) (e2 subM (eVar 4) (eC (.int 1)))) (eC (.int 1))) lNil)))) t__law_told_right_0)) t__law_told_right_1)
noncomputable def t__law_told_right_3 : MS := (sSeq (sIf (bOf (e2 neM (eL reprM (lCons (eVar 3) lNil)) (eL reprM (lCons (e2 mulM (eL lstM (lCons (eVar 2) lNil)) (eC (.int 2))) lNil)))) (sRet (eC (.bl false))) sNext) t__law_told_right_2)
noncomputable def t__law_told_right_4 : MS := (sSeq (sSet 3 (eL lstM (lCons (eCall m_test_pixels (lCons (eVar 0) (lCons (eVar 1) lNil))) (lCons (eCallK m_test_pixels gD_test_pixels_0_uses_kind lNil (lCons (eVar 1) (lCons (eVar 0) lNil))) lNil)))) t__law_told_right_3)
noncomputable def b__law_told_right : MS := (sSeq (sSet 2 (eL tupleAM (lCons (eCall m__law_lattice (lCons (eVar 0) (lCons (eVar 1) lNil))) lNil))) t__law_told_right_4)
@[irreducible] noncomputable def m__law_told_right : List D → M D := callM 7 (b__law_told_right)
theorem mE__law_told_right : m__law_told_right = callM 7 (b__law_told_right) := by
  unfold m__law_told_right
  rfl
noncomputable def t__law_refused_right_0 : MS := (sIf (bOf (e2 neM (eVar 3) (e2 mulM (eL lstM (lCons (eL lstM (lCons (eC (.int 3)) (lCons (eL reprM (lCons (eVar 2) lNil)) lNil))) lNil)) (eC (.int 2))))) (sRet (eC (.bl false))) sNext)
noncomputable def t__law_refused_right_1 : MS := (sSeq (sDrop (eMM isLstB appM (eVar 3) (eLam mL__law_caught (eCallK m_test_pixels gD_test_pixels_0_uses_kind lNil (lCons (eC .non) (lCons (eVar 2) lNil)))))) t__law_refused_right_0)
noncomputable def t__law_refused_right_2 : MS := (sIf (bOf (e2 neM (eVar 3) (e2 mulM (eL lstM (lCons (eL lstM (lCons (eC (.int 6)) (lCons (eL reprM (lCons (eVar 2) lNil)) lNil))) lNil)) (eC (.int 2))))) (sRet (eC (.bl false))) sNext)
noncomputable def t__law_refused_right_3 : MS := (sSeq (sDrop (eMM isLstB appM (eVar 3) (eLam mL__law_caught (eCallK m_test_pixels gD_test_pixels_0_uses_kind lNil (lCons (eVar 2) (lCons (eVar 0) lNil)))))) t__law_refused_right_2)
noncomputable def t__law_refused_right_4 : MS := (sRet (eC (.bl true)))
noncomputable def t__law_refused_right_5 : MS := (sSeq (sForE (eSeq seqL (eL lstM (lCons (eC .non) (lCons (eC (.int 0)) (lCons (e1 negM (eC (.int 1))) (lCons (eC (.int 201)) (lCons (eC (.bl true)) (lCons (eC (.bl false)) (lCons (eC (.str "1")) (lCons (eL tupM (lCons (eC (.int 1)) lNil)) (lCons (eL lstM (lCons (eC (.int 1)) lNil)) (lCons (eC (.dct [])) (lCons (e2 powM (eC (.int 10)) (eC (.int 29))) (lCons (e1 negM (e2 powM (eC (.int 10)) (eC (.int 29)))) lNil)))))))))))))) (gN 2) (sSeq (sSet 3 (eL newM (lCons (eLam mL__law_caught (eCall m_test_pixels (lCons (eVar 0) (lCons (eVar 2) lNil)))) lNil))) t__law_refused_right_3)) t__law_refused_right_4)
noncomputable def b__law_refused_right : MS := (sSeq (sForE (eSeq seqL (eL lstM (lCons (eC .non) (lCons (eC (.int 0)) (lCons (eC (.bl true)) (lCons (eC (.str "")) (lCons (eC (.str "Free")) (lCons (eC (.str "free ")) (lCons (eC (.str "over")) (lCons (eL lstM (lCons (eC (.str "free")) lNil)) (lCons (eL tupM (lCons (eC (.str "free")) lNil)) (lCons (eC (.dct [])) lNil)))))))))))) (gN 2) (sSeq (sSet 3 (eL newM (lCons (eLam mL__law_caught (eCall m_test_pixels (lCons (eVar 2) (lCons (eVar 1) lNil)))) lNil))) t__law_refused_right_1)) t__law_refused_right_5)
@[irreducible] noncomputable def m__law_refused_right : List D → M D := callM 4 (b__law_refused_right)
theorem mE__law_refused_right : m__law_refused_right = callM 4 (b__law_refused_right) := by
  unfold m__law_refused_right
  rfl
noncomputable def t__law_right_0 : MS := (sRet (eAnd (eCall m__law_told_right (lCons (eC (.str "solid")) (lCons (e2 subM (eC (.int 200)) (eCall m__law_take (lCons (eVar 0) (lCons (eC (.int 20)) lNil)))) lNil))) (eCall m__law_told_right (lCons (eC (.str "cutout")) (lCons (eC (.int 200)) lNil)))))
noncomputable def t__law_right_1 : MS := (sSeq (sIf (bOr (bNot (bTru (eCall m__law_told_right (lCons (eVar 1) (lCons (eVar 2) lNil))))) (bNot (bTru (eCall m__law_refused_right (lCons (eVar 1) (lCons (eVar 2) lNil)))))) (sRet (eC (.bl false))) sNext) t__law_right_0)
noncomputable def b__law_right : MS := (sSeq (sPar 1 2 (lCons (eCall m__law_pick (lCons (eVar 0) (lCons (eL lstM (lCons (eC (.str "free")) (lCons (eC (.str "solid")) (lCons (eC (.str "cutout")) (lCons (eC (.str "white")) (lCons (eC (.str "stencil")) lNil)))))) lNil))) (lCons (e2 addM (eC (.int 1)) (eCall m__law_take (lCons (eVar 0) (lCons (eC (.int 40)) lNil)))) lNil))) t__law_right_1)
@[irreducible] noncomputable def m__law_right : List D → M D := callM 3 (b__law_right)
theorem mE__law_right : m__law_right = callM 3 (b__law_right) := by
  unfold m__law_right
  rfl
noncomputable def t_law_0 : MS := (sRet (eL allM (lCons (eLc 8 (eLL rng1M (lCons (eL max2M (lCons (eC (.int 2)) (lCons (eL min2M (lCons (eC (.int 4)) (lCons (eL lenM (lCons (eVar 0) lNil)) lNil))) lNil))) lNil)) bYes (eCall m__law_right (lCons (eCall m__law_pool (lCons (eCall m__law_cell (lCons (eVar 0) (lCons (eVar 8) lNil))) lNil)) lNil))) lNil)))
noncomputable def t_law_1 : MS := (sSeq (sIf (bOr (bOf (e2 neM (eL lenM (lCons (eCall m_test_pixels (lCons (eC (.str "free")) (lCons (eC (.int 200)) lNil))) lNil)) (eC (.int 20301)))) (bOf (e2 neM (eL lenM (lCons (eCall m_test_pixels (lCons (eC (.str "white")) (lCons (eC (.int 200)) lNil))) lNil)) (eC (.int 201))))) (sRet (eC (.bl false))) sNext) t_law_0)
noncomputable def t_law_2 : MS := (sSeq (sForE (eLL rng2M (lCons (eC (.int 1)) (lCons (eC (.int 9)) lNil))) (gN 7) (sIf (bNot (bTru (eL allM (lCons (eLc 6 (eSeq seqA (eVar 5)) bYes (eCall m__law_told_right (lCons (eVar 6) (lCons (eVar 7) lNil)))) lNil)))) (sRet (eC (.bl false))) sNext)) t_law_1)
noncomputable def t_law_3 : MS := (sSeq (sIf (bOf (e2 neM (eL reprM (lCons (eLc 6 (eSeq seqA (eVar 5)) bYes (eCall m_test_pixels (lCons (eVar 6) (lCons (eC (.int 1)) lNil)))) lNil)) (eL reprM (lCons (eVar 4) lNil)))) (sRet (eC (.bl false))) sNext) t_law_2)
noncomputable def t_law_4 : MS := (sSeq (sSet 5 (eL lstM (lCons (eC (.str "free")) (lCons (eC (.str "solid")) (lCons (eC (.str "cutout")) (lCons (eC (.str "white")) (lCons (eC (.str "stencil")) lNil))))))) t_law_3)
noncomputable def t_law_5 : MS := (sSeq (sSet 4 (eL lstM (lCons (eL tupM (lCons (eVar 1) (lCons (eVar 2) (lCons (eVar 3) lNil)))) (lCons (eL tupM (lCons (eVar 2) (lCons (eVar 3) lNil))) (lCons (eL tupM (lCons (eVar 1) (lCons (eVar 2) (lCons (eVar 3) lNil)))) (lCons (eL tupM (lCons (eVar 1) (lCons (eVar 3) lNil))) (lCons (eL tupM (lCons (eVar 1) (lCons (eVar 3) lNil))) lNil))))))) t_law_4)
noncomputable def b_law : MS := (sSeq (sAsg (gT 3 (gsCons (gN 1) (gsCons (gN 2) (gsCons (gN 3) gsNil)))) (eL tupM (lCons (eL tupM (lCons (eL tupM (lCons (eC (.int 0)) (lCons (eC (.int 1)) lNil))) (lCons (eL tupM (lCons (eC (.int 0)) (lCons (eC (.int 1)) lNil))) lNil))) (lCons (eL tupM (lCons (eL tupM (lCons (eC (.int 0)) (lCons (eC (.int 1)) lNil))) (lCons (eL tupM (lCons (eC (.int 1)) (lCons (eC (.int 1)) lNil))) lNil))) (lCons (eL tupM (lCons (eL tupM (lCons (eC (.int 1)) (lCons (eC (.int 1)) lNil))) (lCons (eL tupM (lCons (eC (.int 1)) (lCons (eC (.int 1)) lNil))) lNil))) lNil))))) t_law_5)
@[irreducible] noncomputable def m_law : List D → M D := callM 9 (b_law)
theorem mE_law : m_law = callM 9 (b_law) := by
  unfold m_law
  rfl
/-! ### the defs do them -/
section
variable {P : Program} {w : World} {K : PySem.W.Frag} {mg : Str → Option Value} {base : Heap}
theorem init_InvalidKind {CX : CXT} (T : Txt K mg w) : FnOk P w K mg base CX 1 (He.ma K (He.ga K "InvalidKind") "__init__") (fdAt K (He.ma K (He.ga K "InvalidKind") "__init__")) ["self", "kind"] (spI (He.ga K "InvalidKind") "kind") :=
  init1 T.i_InvalidKind sc_InvalidKind T.e_InvalidKind.T T.e_InvalidKind.no (Or.inl rfl) (Or.inl rfl)
theorem bI_InvalidKind (T : Txt K mg w) : L2.Binds K (fdAt K (He.ma K (He.ga K "InvalidKind") "__init__")) ["self", "kind"] [] :=
  T.i_InvalidKind.bindsN fun _ _ _ _ _ _ us h => match us, h with | [_, _], _ => rfl
theorem init_InvalidNumber {CX : CXT} (T : Txt K mg w) : FnOk P w K mg base CX 1 (He.ma K (He.ga K "InvalidNumber") "__init__") (fdAt K (He.ma K (He.ga K "InvalidNumber") "__init__")) ["self", "number"] (spI (He.ga K "InvalidNumber") "number") :=
  init1 T.i_InvalidNumber sc_InvalidNumber T.e_InvalidNumber.T T.e_InvalidNumber.no (Or.inl rfl) (Or.inl rfl)
theorem bI_InvalidNumber (T : Txt K mg w) : L2.Binds K (fdAt K (He.ma K (He.ga K "InvalidNumber") "__init__")) ["self", "number"] [] :=
  T.i_InvalidNumber.bindsN fun _ _ _ _ _ _ us h => match us, h with | [_, _], _ => rfl
theorem init_InvalidPixel {CX : CXT} (T : Txt K mg w) : FnOk P w K mg base CX 1 (He.ma K (He.ga K "InvalidPixel") "__init__") (fdAt K (He.ma K (He.ga K "InvalidPixel") "__init__")) ["self", "value"] (spI (He.ga K "InvalidPixel") "value") :=
  init1 T.i_InvalidPixel sc_InvalidPixel T.e_InvalidPixel.T T.e_InvalidPixel.no (Or.inl rfl) (Or.inl rfl)
theorem bI_InvalidPixel (T : Txt K mg w) : L2.Binds K (fdAt K (He.ma K (He.ga K "InvalidPixel") "__init__")) ["self", "value"] [] :=
  T.i_InvalidPixel.bindsN fun _ _ _ _ _ _ us h => match us, h with | [_, _], _ => rfl
theorem bL__law_caught (T : Txt K mg w) : ∀ (s : Shared) (us : List Value), K.In s.heap → us.length = 1 → BindsTo s (fdAt K (He.ga K "_law_caught")) ⟨us, []⟩ ((["_law_act"] : List Str).zip us) :=
  fun s us _ h => L2.FunD.bindsA (ps := ["_law_act"]) T.d__law_caught.F (fun _ _ _ _ _ _ us hl => match us, hl with | [_], _ => rfl) s us h
theorem pb__law_add (T : Txt K mg w) : KBg K (fdAt K (He.ga K "_law_add")) ["_law_one", "_law_other"] [] 2 (fun us _ => us) (fun vs _ => vs) (fun ds _ => ds) :=
  binds_n T.d__law_add.F rfl fun _ _ _ _ _ _ us hl => match us, hl with | [_, _], _ => rfl
theorem pb__law_cell (T : Txt K mg w) : KBg K (fdAt K (He.ga K "_law_cell")) ["_law_script", "_law_k"] [] 2 (fun us _ => us) (fun vs _ => vs) (fun ds _ => ds) :=
  binds_n T.d__law_cell.F rfl fun _ _ _ _ _ _ us hl => match us, hl with | [_, _], _ => rfl
theorem pb__law_field (T : Txt K mg w) : KBg K (fdAt K (He.ga K "_law_field")) ["_law_e", "_law_at"] [] 2 (fun us _ => us) (fun vs _ => vs) (fun ds _ => ds) :=
  binds_n T.d__law_field.F rfl fun _ _ _ _ _ _ us hl => match us, hl with | [_, _], _ => rfl
theorem pb__law_kind (T : Txt K mg w) : KBg K (fdAt K (He.ga K "_law_kind")) ["_law_e"] [] 1 (fun us _ => us) (fun vs _ => vs) (fun ds _ => ds) :=
  binds_n T.d__law_kind.F rfl fun _ _ _ _ _ _ us hl => match us, hl with | [_], _ => rfl
theorem pb__law_lattice (T : Txt K mg w) : KBg K (fdAt K (He.ga K "_law_lattice")) ["_law_kind_here", "_law_often"] [] 2 (fun us _ => us) (fun vs _ => vs) (fun ds _ => ds) :=
  binds_n T.d__law_lattice.F rfl fun _ _ _ _ _ _ us hl => match us, hl with | [_, _], _ => rfl
theorem pb__law_less (T : Txt K mg w) : KBg K (fdAt K (He.ga K "_law_less")) ["_law_one", "_law_other"] [] 2 (fun us _ => us) (fun vs _ => vs) (fun ds _ => ds) :=
  binds_n T.d__law_less.F rfl fun _ _ _ _ _ _ us hl => match us, hl with | [_, _], _ => rfl
theorem pb__law_low (T : Txt K mg w) : KBg K (fdAt K (He.ga K "_law_low")) ["_law_top", "_law_bottom"] [] 2 (fun us _ => us) (fun vs _ => vs) (fun ds _ => ds) :=
  binds_n T.d__law_low.F rfl fun _ _ _ _ _ _ us hl => match us, hl with | [_, _], _ => rfl
theorem pb__law_pick (T : Txt K mg w) : KBg K (fdAt K (He.ga K "_law_pick")) ["_law_pool_here", "_law_things"] [] 2 (fun us _ => us) (fun vs _ => vs) (fun ds _ => ds) :=
  binds_n T.d__law_pick.F rfl fun _ _ _ _ _ _ us hl => match us, hl with | [_, _], _ => rfl
theorem pb__law_pool (T : Txt K mg w) : KBg K (fdAt K (He.ga K "_law_pool")) ["_law_cell_here"] [] 1 (fun us _ => us) (fun vs _ => vs) (fun ds _ => ds) :=
  binds_n T.d__law_pool.F rfl fun _ _ _ _ _ _ us hl => match us, hl with | [_], _ => rfl
theorem pb__law_refused_right (T : Txt K mg w) : KBg K (fdAt K (He.ga K "_law_refused_right")) ["_law_kind_here", "_law_often"] [] 2 (fun us _ => us) (fun vs _ => vs) (fun ds _ => ds) :=
  binds_n T.d__law_refused_right.F rfl fun _ _ _ _ _ _ us hl => match us, hl with | [_, _], _ => rfl
theorem pb__law_right (T : Txt K mg w) : KBg K (fdAt K (He.ga K "_law_right")) ["_law_pool_here"] [] 1 (fun us _ => us) (fun vs _ => vs) (fun ds _ => ds) :=
  binds_n T.d__law_right.F rfl fun _ _ _ _ _ _ us hl => match us, hl with | [_], _ => rfl
theorem pb__law_take (T : Txt K mg w) : KBg K (fdAt K (He.ga K "_law_take")) ["_law_pool_here", "_law_many"] [] 2 (fun us _ => us) (fun vs _ => vs) (fun ds _ => ds) :=
  binds_n T.d__law_take.F rfl fun _ _ _ _ _ _ us hl => match us, hl with | [_, _], _ => rfl
theorem pb__law_told_right (T : Txt K mg w) : KBg K (fdAt K (He.ga K "_law_told_right")) ["_law_kind_here", "_law_often"] [] 2 (fun us _ => us) (fun vs _ => vs) (fun ds _ => ds) :=
  binds_n T.d__law_told_right.F rfl fun _ _ _ _ _ _ us hl => match us, hl with | [_, _], _ => rfl
theorem pb_check_kind (T : Txt K mg w) : KBg K (fdAt K (He.ga K "check_kind")) ["value"] [] 1 (fun us _ => us) (fun vs _ => vs) (fun ds _ => ds) :=
  binds_n T.d_check_kind.F rfl fun _ _ _ _ _ _ us hl => match us, hl with | [_], _ => rfl
theorem pb_check_pixel (T : Txt K mg w) : KBg K (fdAt K (He.ga K "check_pixel")) ["value"] [] 1 (fun us _ => us) (fun vs _ => vs) (fun ds _ => ds) :=
  binds_n T.d_check_pixel.F rfl fun _ _ _ _ _ _ us hl => match us, hl with | [_], _ => rfl
theorem pb_common_divisor (T : Txt K mg w) : KBg K (fdAt K (He.ga K "common_divisor")) ["one", "other"] [] 2 (fun us _ => us) (fun vs _ => vs) (fun ds _ => ds) :=
  binds_n T.d_common_divisor.F rfl fun _ _ _ _ _ _ us hl => match us, hl with | [_, _], _ => rfl
theorem pb_has_kind (T : Txt K mg w) : KBg K (fdAt K (He.ga K "has_kind")) ["pixel", "kind"] [] 2 (fun us _ => us) (fun vs _ => vs) (fun ds _ => ds) :=
  binds_n T.d_has_kind.F rfl fun _ _ _ _ _ _ us hl => match us, hl with | [_, _], _ => rfl
theorem pb_is_integer (T : Txt K mg w) : KBg K (fdAt K (He.ga K "is_integer")) ["value", "low", "high"] [] 3 (fun us _ => us) (fun vs _ => vs) (fun ds _ => ds) :=
  binds_n T.d_is_integer.F rfl fun _ _ _ _ _ _ us hl => match us, hl with | [_, _, _], _ => rfl
theorem pb_is_kind (T : Txt K mg w) : KBg K (fdAt K (He.ga K "is_kind")) ["value"] [] 1 (fun us _ => us) (fun vs _ => vs) (fun ds _ => ds) :=
  binds_n T.d_is_kind.F rfl fun _ _ _ _ _ _ us hl => match us, hl with | [_], _ => rfl
theorem pb_is_less (T : Txt K mg w) : KBg K (fdAt K (He.ga K "is_less")) ["one", "other"] [] 2 (fun us _ => us) (fun vs _ => vs) (fun ds _ => ds) :=
  binds_n T.d_is_less.F rfl fun _ _ _ _ _ _ us hl => match us, hl with | [_, _], _ => rfl
theorem pb_is_let (T : Txt K mg w) : KBg K (fdAt K (He.ga K "is_let")) ["pixel", "kind"] [] 2 (fun us _ => us) (fun vs _ => vs) (fun ds _ => ds) :=
  binds_n T.d_is_let.F rfl fun _ _ _ _ _ _ us hl => match us, hl with | [_, _], _ => rfl
theorem pb_is_pixel (T : Txt K mg w) : KBg K (fdAt K (He.ga K "is_pixel")) ["value"] [] 1 (fun us _ => us) (fun vs _ => vs) (fun ds _ => ds) :=
  binds_n T.d_is_pixel.F rfl fun _ _ _ _ _ _ us hl => match us, hl with | [_], _ => rfl
theorem pb_is_ratio (T : Txt K mg w) : KBg K (fdAt K (He.ga K "is_ratio")) ["value"] [] 1 (fun us _ => us) (fun vs _ => vs) (fun ds _ => ds) :=
  binds_n T.d_is_ratio.F rfl fun _ _ _ _ _ _ us hl => match us, hl with | [_], _ => rfl
theorem pb_is_share (T : Txt K mg w) : KBg K (fdAt K (He.ga K "is_share")) ["value"] [] 1 (fun us _ => us) (fun vs _ => vs) (fun ds _ => ds) :=
  binds_n T.d_is_share.F rfl fun _ _ _ _ _ _ us hl => match us, hl with | [_], _ => rfl
theorem pb_kind_tests (T : Txt K mg w) : KBg K (fdAt K (He.ga K "kind_tests")) ["kind", "uses"] [] 2 (fun us _ => us) (fun vs _ => vs) (fun ds _ => ds) :=
  binds_n T.d_kind_tests.F rfl fun _ _ _ _ _ _ us hl => match us, hl with | [_, _], _ => rfl
theorem pb_lowest (T : Txt K mg w) : KBg K (fdAt K (He.ga K "lowest")) ["top", "bottom"] [] 2 (fun us _ => us) (fun vs _ => vs) (fun ds _ => ds) :=
  binds_n T.d_lowest.F rfl fun _ _ _ _ _ _ us hl => match us, hl with | [_, _], _ => rfl
theorem kb_test_pixels_0_uses_kind (T : Txt K mg w) : KBg K (fdAt K (He.ga K "test_pixels")) ["kind", "uses"] ["uses", "kind"] 0 (fun us ws => pick [1, 0] (us ++ ws)) (fun vs zs => pick [1, 0] (vs ++ zs)) (fun ds cs => pick [1, 0] (ds ++ cs)) :=
  kb_n T.d_test_pixels.F 0 [1, 0] rfl (by decide) fun _ _ _ _ _ _ us ws h1 h2 => match us, ws, h1, h2 with | [], [_, _], _, _ => rfl
theorem pb_test_pixels (T : Txt K mg w) : KBg K (fdAt K (He.ga K "test_pixels")) ["kind", "uses"] [] 2 (fun us _ => us) (fun vs _ => vs) (fun ds _ => ds) :=
  binds_n T.d_test_pixels.F rfl fun _ _ _ _ _ _ us hl => match us, hl with | [_, _], _ => rfl
theorem ok_is_integer (T : Txt K mg w) (TB : ∀ p ∈ cs K, LamX.TabB base mg p.1 p.2) : FnG ⟨none, none, TT K⟩ P w K mg base 1 (He.ga K "is_integer") (fdAt K (He.ga K "is_integer")) ["value", "low", "high"] m_is_integer := by
  rw [mE_is_integer]
  exact FnG.of T.d_is_integer.F sc_is_integer fun cd A outer s H E hcd hr hg tk po => (js_cons (s_if (jt_w (jw_or (jt_not (jt_tru (j_callB call_isiD isi_i (by rfl) T.z_isinstance (by first | rfl | decide +kernel) (jl_cons (j_var 0) (jl_cons (j_ty (by rfl) T.z_int (by first | rfl | decide +kernel)) jl_nil))))) (jw_or1 (jt_tru (j_callB call_isiD isi_i (by rfl) T.z_isinstance (by first | rfl | decide +kernel) (jl_cons (j_var 0) (jl_cons (j_ty (by rfl) T.z_bool (by first | rfl | decide +kernel)) jl_nil))))))) (js_one (s_ret j_bl)) js_nil) (js_one (s_ret (j_and (j_or (j_cmp op_isN isN_i (j_var 1) j_non (nomark _)) (j_one (j_cmp op_ge cmp_i (j_var 0) (j_var 1) (nomark _)))) (j_one (j_or (j_cmp op_isN isN_i (j_var 2) j_non (nomark _)) (j_one (j_cmp op_le cmp_i (j_var 0) (j_var 2) (nomark _)))))))))
theorem ok_common_divisor (T : Txt K mg w) (TB : ∀ p ∈ cs K, LamX.TabB base mg p.1 p.2) : FnG ⟨none, none, TT K⟩ P w K mg base 1 (He.ga K "common_divisor") (fdAt K (He.ga K "common_divisor")) ["one", "other"] m_common_divisor := by
  rw [mE_common_divisor]
  exact FnG.of T.d_common_divisor.F sc_common_divisor fun cd A outer s H E hcd hr hg tk po => (js_cons (s_par rfl sc_common_divisor.nd (jl_cons (j_callB call_abs abs_i (by rfl) T.z_abs (by first | rfl | decide +kernel) (jl_cons (j_var 0) jl_nil)) (jl_cons (j_callB call_abs abs_i (by rfl) T.z_abs (by first | rfl | decide +kernel) (jl_cons (j_var 1) jl_nil)) jl_nil)) fun _ h => ps_par (i := 0) (j := 1) rfl sc_common_divisor.nd rfl rfl (by decide) rfl rfl h (by rfl)) (js_cons (s_while po (jt_cmp op_gt cmp_i (j_var 1) j_int (nomark _)) (js_one (s_par rfl sc_common_divisor.nd (jl_cons (j_var 1) (jl_cons (j_op op_mod mod_i (j_var 0) (j_var 1)) jl_nil)) fun _ h => ps_par (i := 0) (j := 1) rfl sc_common_divisor.nd rfl rfl (by decide) rfl rfl h (by rfl)))) (js_one (s_ret (j_var 0)))))
theorem ok_lowest (T : Txt K mg w) (TB : ∀ p ∈ cs K, LamX.TabB base mg p.1 p.2) : FnG ⟨none, none, TT K⟩ P w K mg base 2 (He.ga K "lowest") (fdAt K (He.ga K "lowest")) ["top", "bottom"] m_lowest := by
  rw [mE_lowest]
  exact FnG.of T.d_lowest.F sc_lowest fun cd A outer s H E hcd hr hg tk po => (js_cons (s_set (i := 2) sc_lowest.nd (j_callP (m := m_common_divisor) (ok_common_divisor T TB) (hr.mono (by decide)) hg tk (by rfl) T.d_common_divisor.g T.d_common_divisor.F.kp (pb_common_divisor T) (jl_cons (j_var 0) (jl_cons (j_var 1) jl_nil)) (lenS (lenS len0)))) (js_one (s_ret (j_tup (jl_cons (j_op op_fdivW fdiv_i (j_var 0) (j_var 2)) (jl_cons (j_op op_fdivW fdiv_i (j_var 1) (j_var 2)) jl_nil))))))
theorem ok_is_less (T : Txt K mg w) (TB : ∀ p ∈ cs K, LamX.TabB base mg p.1 p.2) : FnG ⟨none, none, TT K⟩ P w K mg base 1 (He.ga K "is_less") (fdAt K (He.ga K "is_less")) ["one", "other"] m_is_less := by
  rw [mE_is_less]
  exact FnG.of T.d_is_less.F sc_is_less fun cd A outer s H E hcd hr hg tk po => (js_one (s_ret (j_cmp op_lt cmp_i (j_op op_mulD mul_i (j_ix ix_seq ix_i (j_var 0) j_int) (j_ix ix_seq ix_i (j_var 1) j_int)) (j_op op_mulD mul_i (j_ix ix_seq ix_i (j_var 1) j_int) (j_ix ix_seq ix_i (j_var 0) j_int)) (nomark _))))
theorem ok_is_ratio (T : Txt K mg w) (TB : ∀ p ∈ cs K, LamX.TabB base mg p.1 p.2) : FnG ⟨none, none, TT K⟩ P w K mg base 2 (He.ga K "is_ratio") (fdAt K (He.ga K "is_ratio")) ["value"] m_is_ratio := by
  rw [mE_is_ratio]
  exact FnG.of T.d_is_ratio.F sc_is_ratio fun cd A outer s H E hcd hr hg tk po => (js_cons (s_if (jt_w (jw_or (jt_not (jt_tru (j_callB call_isiD isi_i (by rfl) T.z_isinstance (by first | rfl | decide +kernel) (jl_cons (j_var 0) (jl_cons (j_ty (by rfl) T.z_tuple (by first | rfl | decide +kernel)) jl_nil))))) (jw_or1 (jt_cmp (op_neA hr.units) ne_i (j_callB call_len len_i (by rfl) T.z_len (by first | rfl | decide +kernel) (jl_cons (j_var 0) jl_nil)) j_int (nomark _))))) (js_one (s_ret j_bl)) js_nil) (js_cons (s_if (jt_w (jw_or (jt_not (jt_tru (j_callP (m := m_is_integer) (ok_is_integer T TB) (hr.mono (by decide)) hg tk (by rfl) T.d_is_integer.g T.d_is_integer.F.kp (pb_is_integer T) (jl_cons (j_ix ix_seq ix_i (j_var 0) j_int) (jl_cons j_non (jl_cons j_non jl_nil))) (lenS (lenS (lenS len0)))))) (jw_or1 (jt_not (jt_tru (j_callP (m := m_is_integer) (ok_is_integer T TB) (hr.mono (by decide)) hg tk (by rfl) T.d_is_integer.g T.d_is_integer.F.kp (pb_is_integer T) (jl_cons (j_ix ix_seq ix_i (j_var 0) j_int) (jl_cons j_int (jl_cons j_non jl_nil))) (lenS (lenS (lenS len0))))))))) (js_one (s_ret j_bl)) js_nil) (js_one (s_ret (j_cmp (op_eqA hr.units) eq_i (j_callP (m := m_common_divisor) (ok_common_divisor T TB) (hr.mono (by decide)) hg tk (by rfl) T.d_common_divisor.g T.d_common_divisor.F.kp (pb_common_divisor T) (jl_cons (j_ix ix_seq ix_i (j_var 0) j_int) (jl_cons (j_ix ix_seq ix_i (j_var 0) j_int) jl_nil)) (lenS (lenS len0))) j_int (nomark _))))))
theorem ok_is_share (T : Txt K mg w) (TB : ∀ p ∈ cs K, LamX.TabB base mg p.1 p.2) : FnG ⟨none, none, TT K⟩ P w K mg base 3 (He.ga K "is_share") (fdAt K (He.ga K "is_share")) ["value"] m_is_share := by
  rw [mE_is_share]
  exact FnG.of T.d_is_share.F sc_is_share fun cd A outer s H E hcd hr hg tk po => (js_one (s_ret (j_and (j_callP (m := m_is_ratio) (ok_is_ratio T TB) (hr.mono (by decide)) hg tk (by rfl) T.d_is_ratio.g T.d_is_ratio.F.kp (pb_is_ratio T) (jl_cons (j_var 0) jl_nil) (lenS len0)) (j_one (j_chain op_le cmp_i op_le cmp_i j_int (j_ix ix_seq ix_i (j_var 0) j_int) (j_ix ix_seq ix_i (j_var 0) j_int))))))
theorem ok_is_pixel (T : Txt K mg w) (TB : ∀ p ∈ cs K, LamX.TabB base mg p.1 p.2) : FnG ⟨none, none, TT K⟩ P w K mg base 4 (He.ga K "is_pixel") (fdAt K (He.ga K "is_pixel")) ["value"] m_is_pixel := by
  rw [mE_is_pixel]
  exact FnG.of T.d_is_pixel.F sc_is_pixel fun cd A outer s H E hcd hr hg tk po => (js_cons (s_if (jt_w (jw_or (jt_not (jt_tru (j_callB call_isiD isi_i (by rfl) T.z_isinstance (by first | rfl | decide +kernel) (jl_cons (j_var 0) (jl_cons (j_ty (by rfl) T.z_tuple (by first | rfl | decide +kernel)) jl_nil))))) (jw_or (jt_cmp (op_neA hr.units) ne_i (j_callB call_len len_i (by rfl) T.z_len (by first | rfl | decide +kernel) (jl_cons (j_var 0) jl_nil)) j_int (nomark _)) (jw_or (jt_not (jt_tru (j_callP (m := m_is_share) (ok_is_share T TB) (hr.mono (by decide)) hg tk (by rfl) T.d_is_share.g T.d_is_share.F.kp (pb_is_share T) (jl_cons (j_ix ix_seq ix_i (j_var 0) j_int) jl_nil) (lenS len0)))) (jw_or1 (jt_not (jt_tru (j_callP (m := m_is_share) (ok_is_share T TB) (hr.mono (by decide)) hg tk (by rfl) T.d_is_share.g T.d_is_share.F.kp (pb_is_share T) (jl_cons (j_ix ix_seq ix_i (j_var 0) j_int) jl_nil) (lenS len0))))))))) (js_one (s_ret j_bl)) js_nil) (js_one (s_ret (j_not (j_callP (m := m_is_less) (ok_is_less T TB) (hr.mono (by decide)) hg tk (by rfl) T.d_is_less.g T.d_is_less.F.kp (pb_is_less T) (jl_cons (j_ix ix_seq ix_i (j_var 0) j_int) (jl_cons (j_ix ix_seq ix_i (j_var 0) j_int) jl_nil)) (lenS (lenS len0)))))))
theorem ok_is_kind (T : Txt K mg w) (TB : ∀ p ∈ cs K, LamX.TabB base mg p.1 p.2) : FnG ⟨none, none, TT K⟩ P w K mg base 1 (He.ga K "is_kind") (fdAt K (He.ga K "is_kind")) ["value"] m_is_kind := by
  rw [mE_is_kind]
  exact FnG.of T.d_is_kind.F sc_is_kind fun cd A outer s H E hcd hr hg tk po => (js_one (s_ret (j_and (j_callB call_isiD isi_i (by rfl) T.z_isinstance (by first | rfl | decide +kernel) (jl_cons (j_var 0) (jl_cons (j_ty (by rfl) T.z_str (by first | rfl | decide +kernel)) jl_nil))) (j_one (j_cmp (op_inP hr.units) in_i (j_var 0) (j_con (by rfl) T.k_KINDS) (by rfl))))))
theorem ok_check_pixel (T : Txt K mg w) (TB : ∀ p ∈ cs K, LamX.TabB base mg p.1 p.2) : FnG ⟨none, none, TT K⟩ P w K mg base 5 (He.ga K "check_pixel") (fdAt K (He.ga K "check_pixel")) ["value"] m_check_pixel := by
  rw [mE_check_pixel]
  exact FnG.of T.d_check_pixel.F sc_check_pixel fun cd A outer s H E hcd hr hg tk po => (js_one (s_if (jt_not (jt_tru (j_callP (m := m_is_pixel) (ok_is_pixel T TB) (hr.mono (by decide)) hg tk (by rfl) T.d_is_pixel.g T.d_is_pixel.F.kp (pb_is_pixel T) (jl_cons (j_var 0) jl_nil) (lenS len0)))) (js_one (s_raise1 rfl tk T.e_InvalidPixel (init_InvalidPixel T) (hr.mono (by decide)) (bI_InvalidPixel T) (by rfl) T.g_InvalidPixel (jl_cons (j_var 0) jl_nil) rfl)) js_nil))
theorem ok_check_kind (T : Txt K mg w) (TB : ∀ p ∈ cs K, LamX.TabB base mg p.1 p.2) : FnG ⟨none, none, TT K⟩ P w K mg base 3 (He.ga K "check_kind") (fdAt K (He.ga K "check_kind")) ["value"] m_check_kind := by
  rw [mE_check_kind]
  exact FnG.of T.d_check_kind.F sc_check_kind fun cd A outer s H E hcd hr hg tk po => (js_one (s_if (jt_not (jt_tru (j_callP (m := m_is_kind) (ok_is_kind T TB) (hr.mono (by decide)) hg tk (by rfl) T.d_is_kind.g T.d_is_kind.F.kp (pb_is_kind T) (jl_cons (j_var 0) jl_nil) (lenS len0)))) (js_one (s_raise1 rfl tk T.e_InvalidKind (init_InvalidKind T) (hr.mono (by decide)) (bI_InvalidKind T) (by rfl) T.g_InvalidKind (jl_cons (j_var 0) jl_nil) rfl)) js_nil))
theorem ok_is_let (T : Txt K mg w) (TB : ∀ p ∈ cs K, LamX.TabB base mg p.1 p.2) : FnG ⟨none, none, TT K⟩ P w K mg base 1 (He.ga K "is_let") (fdAt K (He.ga K "is_let")) ["pixel", "kind"] m_is_let := by
  rw [mE_is_let]
  exact FnG.of T.d_is_let.F sc_is_let fun cd A outer s H E hcd hr hg tk po => (js_cons (s_asg (j_var 0) (g_tup (n := 2) rfl (gs_cons (g_name (i := 2) sc_is_let.nd) (gs_cons (g_name (i := 3) sc_is_let.nd) gs_nil)))) (js_cons (s_match (j_var 1) (mc_val j_str (op_eqA hr.units) eq_i (js_one (s_ret (j_cmp (op_eqA hr.units) eq_i (j_var 3) (j_con (by rfl) T.k_ONE) (nomark _)))) (mc_val j_str (op_eqA hr.units) eq_i (js_one (s_ret (j_cmp (op_inP hr.units) in_i (j_var 3) (j_tup (jl_cons (j_con (by rfl) T.k_ZERO) (jl_cons (j_con (by rfl) T.k_ONE) jl_nil))) (by rfl)))) (mc_val j_str (op_eqA hr.units) eq_i (js_one (s_ret (j_cmp (op_eqA hr.units) eq_i (j_var 2) (j_var 3) (nomark _)))) (mc_val j_str (op_eqA hr.units) eq_i (js_one (s_ret (j_cmp (op_inP hr.units) in_i (j_var 0) (j_tup (jl_cons (j_con (by rfl) T.k_CLEAR) (jl_cons (j_con (by rfl) T.k_WHITE) jl_nil))) (by rfl)))) mc_nil))))) (js_one (s_ret j_bl))))
theorem ok_has_kind (T : Txt K mg w) (TB : ∀ p ∈ cs K, LamX.TabB base mg p.1 p.2) : FnG ⟨none, none, TT K⟩ P w K mg base 6 (He.ga K "has_kind") (fdAt K (He.ga K "has_kind")) ["pixel", "kind"] m_has_kind := by
  rw [mE_has_kind]
  exact FnG.of T.d_has_kind.F sc_has_kind fun cd A outer s H E hcd hr hg tk po => (js_cons (s_drop (j_callP (m := m_check_pixel) (ok_check_pixel T TB) (hr.mono (by decide)) hg tk (by rfl) T.d_check_pixel.g T.d_check_pixel.F.kp (pb_check_pixel T) (jl_cons (j_var 0) jl_nil) (lenS len0))) (js_cons (s_drop (j_callP (m := m_check_kind) (ok_check_kind T TB) (hr.mono (by decide)) hg tk (by rfl) T.d_check_kind.g T.d_check_kind.F.kp (pb_check_kind T) (jl_cons (j_var 1) jl_nil) (lenS len0))) (js_one (s_ret (j_callP (m := m_is_let) (ok_is_let T TB) (hr.mono (by decide)) hg tk (by rfl) T.d_is_let.g T.d_is_let.F.kp (pb_is_let T) (jl_cons (j_var 0) (jl_cons (j_var 1) jl_nil)) (lenS (lenS len0)))))))
theorem ok_kind_tests (T : Txt K mg w) (TB : ∀ p ∈ cs K, LamX.TabB base mg p.1 p.2) : FnG ⟨none, none, TT K⟩ P w K mg base 3 (He.ga K "kind_tests") (fdAt K (He.ga K "kind_tests")) ["kind", "uses"] m_kind_tests := by
  rw [mE_kind_tests]
  exact FnG.of T.d_kind_tests.F sc_kind_tests fun cd A outer s H E hcd hr hg tk po => (js_cons (s_set (i := 2) sc_kind_tests.nd (j_lc rfl sc_kind_tests.nd (i_rng1 (by rfl) T.z_range (jl_cons (j_op op_addD add_i (j_var 1) j_int) jl_nil)) (by show blkC ["kind", "uses", "parts", "part", "cover", "light"] (defScope s_kind_tests) _ _ = true; decide +kernel) (fun _ _ _ _ _ => pg_name (i := 3) sc_kind_tests.nd rfl (Or.inl rfl)) (fun _ _ _ _ _ => jts_nil) (fun _ _ _ _ _ => (j_callP (m := m_lowest) (ok_lowest T TB) (hr.mono (by decide)) hg takes_W0 (by rfl) T.d_lowest.g T.d_lowest.F.kp (pb_lowest T) (jl_cons (j_var 3) (jl_cons (j_var 1) jl_nil)) (lenS (lenS len0)))))) (js_cons (s_match (j_var 0) (mc_val j_str (op_eqA hr.units) eq_i (js_one (s_ret (j_lc2 (i := 4) (j := 5) (by decide) rfl sc_kind_tests.nd (i_rng1 (by rfl) T.z_range (jl_cons (j_op op_addD add_i (j_var 1) j_int) jl_nil)) (by show blkC ["kind", "uses", "parts", "part", "cover", "light"] (defScope s_kind_tests) _ _ = true; decide +kernel) (fun _ _ _ _ _ => pg_name (i := 4) sc_kind_tests.nd rfl (Or.inl rfl)) (fun _ _ _ _ _ => jts_nil) (fun _ _ _ _ _ => (iw_rng1 (by rfl) T.z_range (jl_cons (j_op op_addD add_i (j_var 4) j_int) jl_nil))) (fun _ _ _ _ _ => pg_name (i := 5) sc_kind_tests.nd rfl (Or.inl rfl)) (fun _ _ _ _ _ => jts_nil) (fun _ _ _ _ _ => (j_tup (jl_cons (j_ix ix_seq ix_i (j_var 2) (j_var 5)) (jl_cons (j_ix ix_seq ix_i (j_var 2) (j_var 4)) jl_nil))))))) (mc_val j_str (op_eqA hr.units) eq_i (js_one (s_ret (j_lc rfl sc_kind_tests.nd (i_any (j_var 2)) (by show blkC ["kind", "uses", "parts", "part", "cover", "light"] (defScope s_kind_tests) _ _ = true; decide +kernel) (fun _ _ _ _ _ => pg_name (i := 3) sc_kind_tests.nd rfl (Or.inl rfl)) (fun _ _ _ _ _ => jts_nil) (fun _ _ _ _ _ => (j_tup (jl_cons (j_var 3) (jl_cons (j_con (by rfl) T.k_ONE) jl_nil))))))) (mc_val j_str (op_eqA hr.units) eq_i (js_one (s_ret (j_op op_addD add_i (j_lst (jl_cons (j_con (by rfl) T.k_CLEAR) jl_nil)) (j_lc rfl sc_kind_tests.nd (i_any (j_var 2)) (by show blkC ["kind", "uses", "parts", "part", "cover", "light"] (defScope s_kind_tests) _ _ = true; decide +kernel) (fun _ _ _ _ _ => pg_name (i := 3) sc_kind_tests.nd rfl (Or.inl rfl)) (fun _ _ _ _ _ => jts_nil) (fun _ _ _ _ _ => (j_tup (jl_cons (j_var 3) (jl_cons (j_con (by rfl) T.k_ONE) jl_nil)))))))) (mc_val j_str (op_eqA hr.units) eq_i (js_one (s_ret (j_lc rfl sc_kind_tests.nd (i_any (j_var 2)) (by show blkC ["kind", "uses", "parts", "part", "cover", "light"] (defScope s_kind_tests) _ _ = true; decide +kernel) (fun _ _ _ _ _ => pg_name (i := 3) sc_kind_tests.nd rfl (Or.inl rfl)) (fun _ _ _ _ _ => jts_nil) (fun _ _ _ _ _ => (j_tup (jl_cons (j_var 3) (jl_cons (j_var 3) jl_nil))))))) mc_nil))))) (js_one (s_ret (j_lst (jl_cons (j_con (by rfl) T.k_CLEAR) (jl_cons (j_con (by rfl) T.k_WHITE) jl_nil)))))))
theorem ok_test_pixels (T : Txt K mg w) (TB : ∀ p ∈ cs K, LamX.TabB base mg p.1 p.2) : FnG ⟨none, none, TT K⟩ P w K mg base 4 (He.ga K "test_pixels") (fdAt K (He.ga K "test_pixels")) ["kind", "uses"] m_test_pixels := by
  rw [mE_test_pixels]
  exact FnG.of T.d_test_pixels.F sc_test_pixels fun cd A outer s H E hcd hr hg tk po => (js_cons (s_drop (j_callP (m := m_check_kind) (ok_check_kind T TB) (hr.mono (by decide)) hg tk (by rfl) T.d_check_kind.g T.d_check_kind.F.kp (pb_check_kind T) (jl_cons (j_var 0) jl_nil) (lenS len0))) (js_cons (s_if (jt_not (jt_tru (j_callP (m := m_is_integer) (ok_is_integer T TB) (hr.mono (by decide)) hg tk (by rfl) T.d_is_integer.g T.d_is_integer.F.kp (pb_is_integer T) (jl_cons (j_var 1) (jl_cons j_int (jl_cons (j_con (by rfl) T.k_MAX_NODES) jl_nil))) (lenS (lenS (lenS len0)))))) (js_one (s_raise1 rfl tk T.e_InvalidNumber (init_InvalidNumber T) (hr.mono (by decide)) (bI_InvalidNumber T) (by rfl) T.g_InvalidNumber (jl_cons (j_var 1) jl_nil) rfl)) js_nil) (js_one (s_ret (j_callTy call_tuple_of (tupleA_i rfl) (by rfl) T.z_tuple (by first | rfl | decide +kernel) (jl_cons (j_callP (m := m_kind_tests) (ok_kind_tests T TB) (hr.mono (by decide)) hg tk (by rfl) T.d_kind_tests.g T.d_kind_tests.F.kp (pb_kind_tests T) (jl_cons (j_var 0) (jl_cons (j_var 1) jl_nil)) (lenS (lenS len0))) jl_nil))))))
theorem ok__law_cell (T : Txt K mg w) (TB : ∀ p ∈ cs K, LamX.TabB base mg p.1 p.2) : FnG ⟨none, none, TT K⟩ P w K mg base 1 (He.ga K "_law_cell") (fdAt K (He.ga K "_law_cell")) ["_law_script", "_law_k"] m__law_cell := by
  rw [mE__law_cell]
  exact FnG.of T.d__law_cell.F sc__law_cell fun cd A outer s H E hcd hr hg tk po => (js_cons (s_if (jt_cmp op_lt cmp_i (j_var 1) (j_callB call_len len_i (by rfl) T.z_len (by first | rfl | decide +kernel) (jl_cons (j_var 0) jl_nil)) (nomark _)) (js_one (s_ret (j_callTy call_int1 int_i (by rfl) T.z_int (by first | rfl | decide +kernel) (jl_cons (j_ix ix_seq ix_i (j_var 0) (j_var 1)) jl_nil)))) js_nil) (js_cons (s_set (i := 2) sc__law_cell.nd (j_op op_mod mod_i (j_op op_mulD mul_i j_int (j_op op_addD add_i (j_op op_addD add_i (j_op op_mulD mul_i (j_var 1) (j_var 1)) (j_op op_mulD mul_i j_int (j_var 1))) j_int)) j_int)) (js_cons (s_for po rfl (i_any (j_slice (j_var 0) jo_none (jo_some j_int))) (g_name (i := 3) sc__law_cell.nd) (js_one (s_set (i := 2) sc__law_cell.nd (j_op op_mod mod_i (j_op op_addD add_i (j_op op_mulD mul_i (j_var 2) j_int) (j_callTy call_int1 int_i (by rfl) T.z_int (by first | rfl | decide +kernel) (jl_cons (j_var 3) jl_nil))) j_int)))) (js_one (s_ret (j_var 2))))))
theorem ok__law_pool (T : Txt K mg w) (TB : ∀ p ∈ cs K, LamX.TabB base mg p.1 p.2) : FnG ⟨none, none, TT K⟩ P w K mg base 1 (He.ga K "_law_pool") (fdAt K (He.ga K "_law_pool")) ["_law_cell_here"] m__law_pool := by
  rw [mE__law_pool]
  exact FnG.of T.d__law_pool.F sc__law_pool fun cd A outer s H E hcd hr hg tk po => (js_cons (s_set (i := 1) sc__law_pool.nd (j_if (jt_w (jw_or (jt_cmp op_lt cmp_i (j_var 0) j_int (nomark _)) (jw_or1 (jt_cmp op_ge cmp_i (j_var 0) (j_op op_pow pow_i j_int j_int) (nomark _))))) (j_callB call_abs abs_i (by rfl) T.z_abs (by first | rfl | decide +kernel) (jl_cons (j_callTy call_int1 int_i (by rfl) T.z_int (by first | rfl | decide +kernel) (jl_cons (j_var 0) jl_nil)) jl_nil)) j_int)) (js_one (s_ret (j_new (jl_cons (j_op op_mod mod_i (j_callTy call_int1 int_i (by rfl) T.z_int (by first | rfl | decide +kernel) (jl_cons (j_var 0) jl_nil)) j_int) (jl_cons (j_var 1) (jl_cons j_int jl_nil)))))))
theorem ok__law_take (T : Txt K mg w) (TB : ∀ p ∈ cs K, LamX.TabB base mg p.1 p.2) : FnG ⟨none, none, TT K⟩ P w K mg base 1 (He.ga K "_law_take") (fdAt K (He.ga K "_law_take")) ["_law_pool_here", "_law_many"] m__law_take := by
  rw [mE__law_take]
  exact FnG.of T.d__law_take.F sc__law_take fun cd A outer s H E hcd hr hg tk po => (js_cons (s_sub (j_op op_addD add_i (j_ix ix_seq ix_i (j_var 0) j_int) j_int) (j_var 0) j_int fun _ _ _ h1 h2 h3 => ps_asg h1 (pg_sub h2 h3 set_list)) (js_cons (s_set (i := 2) sc__law_take.nd (j_callTy call_int1 int_i (by rfl) T.z_int (by first | rfl | decide +kernel) (jl_cons (j_ix ix_seq ix_i (j_var 0) j_int) jl_nil))) (js_cons (s_sub (j_op op_mod mod_i (j_op op_addD add_i (j_op op_addD add_i (j_op op_mulD mul_i (j_var 2) (j_op op_addD add_i (j_op op_mod mod_i (j_var 2) j_int) j_int)) (j_op op_mulD mul_i j_int (j_ix ix_seq ix_i (j_var 0) j_int))) j_int) j_int) (j_var 0) j_int fun _ _ _ h1 h2 h3 => ps_asg h1 (pg_sub h2 h3 set_list)) (js_cons (s_if (jt_cmp op_gt cmp_i (j_ix ix_seq ix_i (j_var 0) j_int) j_int (nomark _)) (js_cons (s_subN (j := 3) (j_callB call_divmodW divmod_i (by rfl) T.z_divmod (by first | rfl | decide +kernel) (jl_cons (j_callTy call_int1 int_i (by rfl) T.z_int (by first | rfl | decide +kernel) (jl_cons (j_ix ix_seq ix_i (j_var 0) j_int) jl_nil)) (jl_cons (j_var 1) jl_nil))) (j_var 0) j_int fun _ _ _ h1 h2 h3 => ps_asg h1 (pg_tup rfl (pgs_cons (pg_sub h2 h3 set_list) (pgs_cons (pg_name (i := 3) sc__law_take.nd rfl (Or.inl rfl)) pgs_nil)))) (js_one (s_ret (j_var 3)))) js_nil) (js_one (s_ret (j_op op_mod mod_i (j_op op_fdivW fdiv_i (j_callTy call_int1 int_i (by rfl) T.z_int (by first | rfl | decide +kernel) (jl_cons (j_ix ix_seq ix_i (j_var 0) j_int) jl_nil)) j_int) (j_var 1))))))))
theorem ok__law_pick (T : Txt K mg w) (TB : ∀ p ∈ cs K, LamX.TabB base mg p.1 p.2) : FnG ⟨none, none, TT K⟩ P w K mg base 2 (He.ga K "_law_pick") (fdAt K (He.ga K "_law_pick")) ["_law_pool_here", "_law_things"] m__law_pick := by
  rw [mE__law_pick]
  exact FnG.of T.d__law_pick.F sc__law_pick fun cd A outer s H E hcd hr hg tk po => (js_one (s_ret (j_ix ix_seq ix_i (j_var 1) (j_callP (m := m__law_take) (ok__law_take T TB) (hr.mono (by decide)) hg tk (by rfl) T.d__law_take.g T.d__law_take.F.kp (pb__law_take T) (jl_cons (j_var 0) (jl_cons (j_callB call_len len_i (by rfl) T.z_len (by first | rfl | decide +kernel) (jl_cons (j_var 1) jl_nil)) jl_nil)) (lenS (lenS len0))))))
theorem ok__law_low (T : Txt K mg w) (TB : ∀ p ∈ cs K, LamX.TabB base mg p.1 p.2) : FnG ⟨none, none, TT K⟩ P w K mg base 1 (He.ga K "_law_low") (fdAt K (He.ga K "_law_low")) ["_law_top", "_law_bottom"] m__law_low := by
  rw [mE__law_low]
  exact FnG.of T.d__law_low.F sc__law_low fun cd A outer s H E hcd hr hg tk po => (js_cons (s_par rfl sc__law_low.nd (jl_cons (j_callB call_abs abs_i (by rfl) T.z_abs (by first | rfl | decide +kernel) (jl_cons (j_var 0) jl_nil)) (jl_cons (j_var 1) jl_nil)) fun _ h => ps_par (i := 2) (j := 3) rfl sc__law_low.nd rfl rfl (by decide) rfl rfl h (by rfl)) (js_cons (s_while po (jt_cmp op_gt cmp_i (j_var 3) j_int (nomark _)) (js_one (s_par rfl sc__law_low.nd (jl_cons (j_var 3) (jl_cons (j_op op_mod mod_i (j_var 2) (j_var 3)) jl_nil)) fun _ h => ps_par (i := 2) (j := 3) rfl sc__law_low.nd rfl rfl (by decide) rfl rfl h (by rfl)))) (js_one (s_ret (j_tup (jl_cons (j_op op_fdivW fdiv_i (j_var 0) (j_var 2)) (jl_cons (j_op op_fdivW fdiv_i (j_var 1) (j_var 2)) jl_nil)))))))
theorem ok__law_add (T : Txt K mg w) (TB : ∀ p ∈ cs K, LamX.TabB base mg p.1 p.2) : FnG ⟨none, none, TT K⟩ P w K mg base 2 (He.ga K "_law_add") (fdAt K (He.ga K "_law_add")) ["_law_one", "_law_other"] m__law_add := by
  rw [mE__law_add]
  exact FnG.of T.d__law_add.F sc__law_add fun cd A outer s H E hcd hr hg tk po => (js_one (s_ret (j_callP (m := m__law_low) (ok__law_low T TB) (hr.mono (by decide)) hg tk (by rfl) T.d__law_low.g T.d__law_low.F.kp (pb__law_low T) (jl_cons (j_op op_addD add_i (j_op op_mulD mul_i (j_ix ix_seq ix_i (j_var 0) j_int) (j_ix ix_seq ix_i (j_var 1) j_int)) (j_op op_mulD mul_i (j_ix ix_seq ix_i (j_var 1) j_int) (j_ix ix_seq ix_i (j_var 0) j_int))) (jl_cons (j_op op_mulD mul_i (j_ix ix_seq ix_i (j_var 0) j_int) (j_ix ix_seq ix_i (j_var 1) j_int)) jl_nil)) (lenS (lenS len0)))))
theorem ok__law_less (T : Txt K mg w) (TB : ∀ p ∈ cs K, LamX.TabB base mg p.1 p.2) : FnG ⟨none, none, TT K⟩ P w K mg base 3 (He.ga K "_law_less") (fdAt K (He.ga K "_law_less")) ["_law_one", "_law_other"] m__law_less := by
  rw [mE__law_less]
  exact FnG.of T.d__law_less.F sc__law_less fun cd A outer s H E hcd hr hg tk po => (js_one (s_ret (j_callP (m := m__law_add) (ok__law_add T TB) (hr.mono (by decide)) hg tk (by rfl) T.d__law_add.g T.d__law_add.F.kp (pb__law_add T) (jl_cons (j_var 0) (jl_cons (j_tup (jl_cons (j_op op_sub sub_i j_int (j_ix ix_seq ix_i (j_var 1) j_int)) (jl_cons (j_ix ix_seq ix_i (j_var 1) j_int) jl_nil))) jl_nil)) (lenS (lenS len0)))))
theorem ok__law_lattice (T : Txt K mg w) (TB : ∀ p ∈ cs K, LamX.TabB base mg p.1 p.2) : FnG ⟨none, none, TT K⟩ P w K mg base 2 (He.ga K "_law_lattice") (fdAt K (He.ga K "_law_lattice")) ["_law_kind_here", "_law_often"] m__law_lattice := by
  rw [mE__law_lattice]
  exact FnG.of T.d__law_lattice.F sc__law_lattice fun cd A outer s H E hcd hr hg tk po => (js_cons (s_asg (j_tup (jl_cons (j_lc rfl sc__law_lattice.nd (i_rng1 (by rfl) T.z_range (jl_cons (j_op op_addD add_i (j_var 1) j_int) jl_nil)) (by show blkC ["_law_kind_here", "_law_often", "_law_steps", "_law_found", "_law_k", "_law_j", "_law_step"] (defScope s__law_lattice) _ _ = true; decide +kernel) (fun _ _ _ _ _ => pg_name (i := 4) sc__law_lattice.nd rfl (Or.inl rfl)) (fun _ _ _ _ _ => jts_nil) (fun _ _ _ _ _ => (j_callP (m := m__law_low) (ok__law_low T TB) (hr.mono (by decide)) hg takes_W0 (by rfl) T.d__law_low.g T.d__law_low.F.kp (pb__law_low T) (jl_cons (j_var 4) (jl_cons (j_var 1) jl_nil)) (lenS (lenS len0))))) (jl_cons (j_new jl_nil) jl_nil))) (g_tup (n := 2) rfl (gs_cons (g_name (i := 2) sc__law_lattice.nd) (gs_cons (g_name (i := 3) sc__law_lattice.nd) gs_nil)))) (js_cons (s_if (jt_cmp (op_eqA hr.units) eq_i (j_var 0) j_str (nomark _)) (js_cons (s_for po rfl (i_rng1 (by rfl) T.z_range (jl_cons (j_op op_addD add_i (j_var 1) j_int) jl_nil)) (g_name (i := 5) sc__law_lattice.nd) (js_one (s_drop (j_ext (j_var 3) (j_lc rfl sc__law_lattice.nd (i_rng1 (by rfl) T.z_range (jl_cons (j_op op_addD add_i (j_var 5) j_int) jl_nil)) (by show blkC ["_law_kind_here", "_law_often", "_law_steps", "_law_found", "_law_k", "_law_j", "_law_step"] (defScope s__law_lattice) _ _ = true; decide +kernel) (fun _ _ _ _ _ => pg_name (i := 4) sc__law_lattice.nd rfl (Or.inl rfl)) (fun _ _ _ _ _ => jts_nil) (fun _ _ _ _ _ => (j_tup (jl_cons (j_ix ix_seq ix_i (j_var 2) (j_var 4)) (jl_cons (j_ix ix_seq ix_i (j_var 2) (j_var 5)) jl_nil))))) fun _ _ h1 h2 => pe_bm PySem.F.plainAttrs_list PySem.F.slot_list_extend PySem.F.type_list_extend mt_extend h1 (pa_cons h2 pa_nil))))) (js_one (s_ret (j_var 3)))) js_nil) (js_cons (s_if (jt_cmp (op_eqA hr.units) eq_i (j_var 0) j_str (nomark _)) (js_one (s_ret (j_lc rfl sc__law_lattice.nd (i_any (j_var 2)) (by show blkC ["_law_kind_here", "_law_often", "_law_steps", "_law_found", "_law_k", "_law_j", "_law_step"] (defScope s__law_lattice) _ _ = true; decide +kernel) (fun _ _ _ _ _ => pg_name (i := 6) sc__law_lattice.nd rfl (Or.inl rfl)) (fun _ _ _ _ _ => jts_nil) (fun _ _ _ _ _ => (j_tup (jl_cons (j_var 6) (jl_cons (j_var 6) jl_nil))))))) js_nil) (js_cons (s_if (jt_cmp (op_eqA hr.units) eq_i (j_var 0) j_str (nomark _)) (js_one (s_ret (j_lst (jl_cons (j_tup (jl_cons (j_tup (jl_cons j_int (jl_cons j_int jl_nil))) (jl_cons (j_tup (jl_cons j_int (jl_cons j_int jl_nil))) jl_nil))) (jl_cons (j_tup (jl_cons (j_tup (jl_cons j_int (jl_cons j_int jl_nil))) (jl_cons (j_tup (jl_cons j_int (jl_cons j_int jl_nil))) jl_nil))) jl_nil))))) js_nil) (js_one (s_ret (j_op op_addD add_i (j_op op_mulD mul_i (j_lst (jl_cons (j_tup (jl_cons (j_tup (jl_cons j_int (jl_cons j_int jl_nil))) (jl_cons (j_tup (jl_cons j_int (jl_cons j_int jl_nil))) jl_nil))) jl_nil)) (j_callTy call_int1 int_i (by rfl) T.z_int (by first | rfl | decide +kernel) (jl_cons (j_cmp (op_eqA hr.units) eq_i (j_var 0) j_str (nomark _)) jl_nil))) (j_lc rfl sc__law_lattice.nd (i_any (j_var 2)) (by show blkC ["_law_kind_here", "_law_often", "_law_steps", "_law_found", "_law_k", "_law_j", "_law_step"] (defScope s__law_lattice) _ _ = true; decide +kernel) (fun _ _ _ _ _ => pg_name (i := 6) sc__law_lattice.nd rfl (Or.inl rfl)) (fun _ _ _ _ _ => jts_nil) (fun _ _ _ _ _ => (j_tup (jl_cons (j_var 6) (jl_cons (j_tup (jl_cons j_int (jl_cons j_int jl_nil))) jl_nil))))))))))))
theorem okH__law_kind (T : Txt K mg w) : FnGH (TT K) P w K mg base 1 (He.ga K "_law_kind") (fdAt K (He.ga K "_law_kind")) ["_law_e"] m__law_kind := by
  rw [mE__law_kind]
  exact FnGH.of T.d__law_kind.F sc__law_kind fun lam cd A outer s H E p hot hr hg tk => have hh : HotIn (hotX P w K mg base ["_law_e", "_law_found", "_law_own", "_law_bases", "_law_at"] "_law_kind" (defScope s__law_kind) (He.ga K "_law_kind") cd A outer s H E p) p := ⟨hot, List.mem_singleton.mpr rfl⟩; (js_cons (s_set (i := 1) sc__law_kind.nd (j_lst (jl_cons (j_callB (call_isiE (hot_cur hh)) (isiE_i T.ct) (by rfl) T.z_isinstance (by first | rfl | decide +kernel) (jl_cons (j_var 0) (jl_cons (j_gl (by rfl) T.g_InvalidShare) jl_nil))) (jl_cons (j_callB (call_isiE (hot_cur hh)) (isiE_i T.ct) (by rfl) T.z_isinstance (by first | rfl | decide +kernel) (jl_cons (j_var 0) (jl_cons (j_gl (by rfl) T.g_InvalidPixel) jl_nil))) (jl_cons (j_callB (call_isiE (hot_cur hh)) (isiE_i T.ct) (by rfl) T.z_isinstance (by first | rfl | decide +kernel) (jl_cons (j_var 0) (jl_cons (j_gl (by rfl) T.g_InvalidName) jl_nil))) jl_nil))))) (js_cons (s_set (i := 1) sc__law_kind.nd (j_op op_addD add_i (j_var 1) (j_lst (jl_cons (j_callB (call_isiE (hot_cur hh)) (isiE_i T.ct) (by rfl) T.z_isinstance (by first | rfl | decide +kernel) (jl_cons (j_var 0) (jl_cons (j_gl (by rfl) T.g_InvalidKind) jl_nil))) (jl_cons (j_callB (call_isiE (hot_cur hh)) (isiE_i T.ct) (by rfl) T.z_isinstance (by first | rfl | decide +kernel) (jl_cons (j_var 0) (jl_cons (j_gl (by rfl) T.g_InvalidKinds) jl_nil))) (jl_cons (j_callB (call_isiE (hot_cur hh)) (isiE_i T.ct) (by rfl) T.z_isinstance (by first | rfl | decide +kernel) (jl_cons (j_var 0) (jl_cons (j_gl (by rfl) T.g_InvalidMode) jl_nil))) jl_nil)))))) (js_cons (s_set (i := 1) sc__law_kind.nd (j_op op_addD add_i (j_var 1) (j_lst (jl_cons (j_callB (call_isiE (hot_cur hh)) (isiE_i T.ct) (by rfl) T.z_isinstance (by first | rfl | decide +kernel) (jl_cons (j_var 0) (jl_cons (j_gl (by rfl) T.g_InvalidNumber) jl_nil))) (jl_cons (j_callB (call_isiE (hot_cur hh)) (isiE_i T.ct) (by rfl) T.z_isinstance (by first | rfl | decide +kernel) (jl_cons (j_var 0) (jl_cons (j_gl (by rfl) T.g_InvalidTree) jl_nil))) (jl_cons (j_callB (call_isiE (hot_cur hh)) (isiE_i T.ct) (by rfl) T.z_isinstance (by first | rfl | decide +kernel) (jl_cons (j_var 0) (jl_cons (j_gl (by rfl) T.g_InvalidTrees) jl_nil))) jl_nil)))))) (js_cons (s_set (i := 1) sc__law_kind.nd (j_op op_addD add_i (j_var 1) (j_lst (jl_cons (j_callB (call_isiE (hot_cur hh)) (isiE_i T.ct) (by rfl) T.z_isinstance (by first | rfl | decide +kernel) (jl_cons (j_var 0) (jl_cons (j_gl (by rfl) T.g_InvalidPath) jl_nil))) (jl_cons (j_callB (call_isiE (hot_cur hh)) (isiE_i T.ct) (by rfl) T.z_isinstance (by first | rfl | decide +kernel) (jl_cons (j_var 0) (jl_cons (j_gl (by rfl) T.g_InvalidSpot) jl_nil))) (jl_cons (j_callB (call_isiE (hot_cur hh)) (isiE_i T.ct) (by rfl) T.z_isinstance (by first | rfl | decide +kernel) (jl_cons (j_var 0) (jl_cons (j_gl (by rfl) T.g_InvalidSpots) jl_nil))) jl_nil)))))) (js_cons (s_set (i := 1) sc__law_kind.nd (j_op op_addD add_i (j_var 1) (j_lst (jl_cons (j_callB (call_isiE (hot_cur hh)) (isiE_i T.ct) (by rfl) T.z_isinstance (by first | rfl | decide +kernel) (jl_cons (j_var 0) (jl_cons (j_gl (by rfl) T.g_InvalidTable) jl_nil))) (jl_cons (j_callB (call_isiE (hot_cur hh)) (isiE_i T.ct) (by rfl) T.z_isinstance (by first | rfl | decide +kernel) (jl_cons (j_var 0) (jl_cons (j_gl (by rfl) T.g_InvalidForm) jl_nil))) (jl_cons (j_callB (call_isiE (hot_cur hh)) (isiE_i T.ct) (by rfl) T.z_isinstance (by first | rfl | decide +kernel) (jl_cons (j_var 0) (jl_cons (j_gl (by rfl) T.g_InvalidRows) jl_nil))) jl_nil)))))) (js_cons (s_set (i := 1) sc__law_kind.nd (j_op op_addD add_i (j_var 1) (j_lst (jl_cons (j_callB (call_isiE (hot_cur hh)) (isiE_i T.ct) (by rfl) T.z_isinstance (by first | rfl | decide +kernel) (jl_cons (j_var 0) (jl_cons (j_gl (by rfl) T.g_InvalidOption) jl_nil))) (jl_cons (j_callB (call_isiE (hot_cur hh)) (isiE_i T.ct) (by rfl) T.z_isinstance (by first | rfl | decide +kernel) (jl_cons (j_var 0) (jl_cons (j_gl (by rfl) T.g_InvalidLayers) jl_nil))) (jl_cons (j_callB (call_isiE (hot_cur hh)) (isiE_i T.ct) (by rfl) T.z_isinstance (by first | rfl | decide +kernel) (jl_cons (j_var 0) (jl_cons (j_gl (by rfl) T.g_InvalidStrokes) jl_nil))) jl_nil)))))) (js_cons (s_set (i := 1) sc__law_kind.nd (j_op op_addD add_i (j_var 1) (j_lst (jl_cons (j_callB (call_isiE (hot_cur hh)) (isiE_i T.ct) (by rfl) T.z_isinstance (by first | rfl | decide +kernel) (jl_cons (j_var 0) (jl_cons (j_gl (by rfl) T.g_InvalidText) jl_nil))) (jl_cons (j_callB (call_isiE (hot_cur hh)) (isiE_i T.ct) (by rfl) T.z_isinstance (by first | rfl | decide +kernel) (jl_cons (j_var 0) (jl_cons (j_gl (by rfl) T.g_InvalidLine) jl_nil))) (jl_cons (j_callB (call_isiE (hot_cur hh)) (isiE_i T.ct) (by rfl) T.z_isinstance (by first | rfl | decide +kernel) (jl_cons (j_var 0) (jl_cons (j_gl (by rfl) T.g_NotAPicture) jl_nil))) jl_nil)))))) (js_cons (s_set (i := 1) sc__law_kind.nd (j_op op_addD add_i (j_var 1) (j_lst (jl_cons (j_callB (call_isiE (hot_cur hh)) (isiE_i T.ct) (by rfl) T.z_isinstance (by first | rfl | decide +kernel) (jl_cons (j_var 0) (jl_cons (j_gl (by rfl) T.g_NotALayer) jl_nil))) (jl_cons (j_callB (call_isiE (hot_cur hh)) (isiE_i T.ct) (by rfl) T.z_isinstance (by first | rfl | decide +kernel) (jl_cons (j_var 0) (jl_cons (j_gl (by rfl) T.g_NotAStack) jl_nil))) (jl_cons (j_callB (call_isiE (hot_cur hh)) (isiE_i T.ct) (by rfl) T.z_isinstance (by first | rfl | decide +kernel) (jl_cons (j_var 0) (jl_cons (j_gl (by rfl) T.g_UnknownPicture) jl_nil))) jl_nil)))))) (js_cons (s_set (i := 1) sc__law_kind.nd (j_op op_addD add_i (j_var 1) (j_lst (jl_cons (j_callB (call_isiE (hot_cur hh)) (isiE_i T.ct) (by rfl) T.z_isinstance (by first | rfl | decide +kernel) (jl_cons (j_var 0) (jl_cons (j_gl (by rfl) T.g_MissingSpot) jl_nil))) (jl_cons (j_callB (call_isiE (hot_cur hh)) (isiE_i T.ct) (by rfl) T.z_isinstance (by first | rfl | decide +kernel) (jl_cons (j_var 0) (jl_cons (j_gl (by rfl) T.g_UsedOften) jl_nil))) (jl_cons (j_callB (call_isiE (hot_cur hh)) (isiE_i T.ct) (by rfl) T.z_isinstance (by first | rfl | decide +kernel) (jl_cons (j_var 0) (jl_cons (j_gl (by rfl) T.g_WrongKind) jl_nil))) jl_nil)))))) (js_cons (s_set (i := 1) sc__law_kind.nd (j_op op_addD add_i (j_var 1) (j_lst (jl_cons (j_callB (call_isiE (hot_cur hh)) (isiE_i T.ct) (by rfl) T.z_isinstance (by first | rfl | decide +kernel) (jl_cons (j_var 0) (jl_cons (j_gl (by rfl) T.g_WrongSize) jl_nil))) (jl_cons (j_callB (call_isiE (hot_cur hh)) (isiE_i T.ct) (by rfl) T.z_isinstance (by first | rfl | decide +kernel) (jl_cons (j_var 0) (jl_cons (j_gl (by rfl) T.g_Busy) jl_nil))) (jl_cons (j_callB (call_isiE (hot_cur hh)) (isiE_i T.ct) (by rfl) T.z_isinstance (by first | rfl | decide +kernel) (jl_cons (j_var 0) (jl_cons (j_gl (by rfl) T.g_Closed) jl_nil))) jl_nil)))))) (js_cons (s_set (i := 1) sc__law_kind.nd (j_op op_addD add_i (j_var 1) (j_lst (jl_cons (j_callB (call_isiE (hot_cur hh)) (isiE_i T.ct) (by rfl) T.z_isinstance (by first | rfl | decide +kernel) (jl_cons (j_var 0) (jl_cons (j_gl (by rfl) T.g_NothingToUndo) jl_nil))) (jl_cons (j_callB (call_isiE (hot_cur hh)) (isiE_i T.ct) (by rfl) T.z_isinstance (by first | rfl | decide +kernel) (jl_cons (j_var 0) (jl_cons (j_gl (by rfl) T.g_TooMany) jl_nil))) jl_nil))))) (js_cons (s_set (i := 2) sc__law_kind.nd (j_lst (jl_cons (j_callB (call_isiE (hot_cur hh)) (isiE_i T.ct) (by rfl) T.z_isinstance (by first | rfl | decide +kernel) (jl_cons (j_var 0) (jl_cons (j_ty (by rfl) T.z_ValueError (by first | rfl | decide +kernel)) jl_nil))) (jl_cons (j_callB (call_isiE (hot_cur hh)) (isiE_i T.ct) (by rfl) T.z_isinstance (by first | rfl | decide +kernel) (jl_cons (j_var 0) (jl_cons (j_ty (by rfl) T.z_LookupError (by first | rfl | decide +kernel)) jl_nil))) (jl_cons (j_callB (call_isiE (hot_cur hh)) (isiE_i T.ct) (by rfl) T.z_isinstance (by first | rfl | decide +kernel) (jl_cons (j_var 0) (jl_cons (j_ty (by rfl) T.z_ArithmeticError (by first | rfl | decide +kernel)) jl_nil))) jl_nil))))) (js_cons (s_set (i := 3) sc__law_kind.nd (j_lst (jl_cons (j_callB (call_isiE (hot_cur hh)) (isiE_i T.ct) (by rfl) T.z_isinstance (by first | rfl | decide +kernel) (jl_cons (j_var 0) (jl_cons (j_gl (by rfl) T.g_InputError) jl_nil))) (jl_cons (j_callB (call_isiE (hot_cur hh)) (isiE_i T.ct) (by rfl) T.z_isinstance (by first | rfl | decide +kernel) (jl_cons (j_var 0) (jl_cons (j_gl (by rfl) T.g_StateError) jl_nil))) (jl_cons (j_callB (call_isiE (hot_cur hh)) (isiE_i T.ct) (by rfl) T.z_isinstance (by first | rfl | decide +kernel) (jl_cons (j_var 0) (jl_cons (j_gl (by rfl) T.g_LimitError) jl_nil))) jl_nil))))) (js_cons (s_if (jt_w (jw_or (jt_cmp (op_neA (RoomH_units hr)) ne_i (j_count (RoomH_units hr) (j_var 1) j_bl fun _ _ h1 h2 => pe_bm PySem.F.plainAttrs_list PySem.F.slot_list_count PySem.F.type_list_count (mt_cntD (RoomH_units hr)) h1 (pa_cons h2 pa_nil)) j_int (nomark _)) (jw_or1 (jt_cmp (op_neA (RoomH_units hr)) ne_i (j_var 2) (j_var 3) (nomark _))))) (js_one (s_ret (j_op op_sub sub_i j_int j_int))) js_nil) (js_cons (s_set (i := 4) sc__law_kind.nd (j_index (j_var 1) j_bl fun _ _ h1 h2 => pe_bm PySem.F.plainAttrs_list PySem.F.slot_list_index PySem.F.type_list_index mt_index h1 (pa_cons h2 pa_nil))) (js_one (s_ret (j_if (jt_cmp (op_eqA (RoomH_units hr)) eq_i (j_var 2) (j_lst (jl_cons (j_cmp op_lt cmp_i (j_var 4) j_int (nomark _)) (jl_cons (j_chain op_lt cmp_i op_lt cmp_i j_int (j_var 4) j_int) (jl_cons (j_cmp (op_eqA (RoomH_units hr)) eq_i (j_var 4) j_int (nomark _)) jl_nil)))) (nomark _)) (j_var 4) (j_op op_sub sub_i j_int j_int)))))))))))))))))))
theorem okH__law_field (T : Txt K mg w) : FnGH (TT K) P w K mg base 1 (He.ga K "_law_field") (fdAt K (He.ga K "_law_field")) ["_law_e", "_law_at"] m__law_field := by
  rw [mE__law_field]
  exact FnGH.of T.d__law_field.F sc__law_field fun lam cd A outer s H E p hot hr hg tk => have hh : HotIn (hotX P w K mg base ["_law_e", "_law_at"] "_law_field" (defScope s__law_field) (He.ga K "_law_field") cd A outer s H E p) p := ⟨hot, List.mem_singleton.mpr rfl⟩; (js_cons (s_if (jt_cmp (op_inP (RoomH_units hr)) in_i (j_var 1) (j_lst (jl_cons j_int (jl_cons j_int (jl_cons j_int (jl_cons j_int (jl_cons j_int jl_nil)))))) (by rfl)) (js_one (s_ret (j_callB (call_reprD hg (RoomH_units hr)) (repr_i _) (by rfl) T.z_repr (by first | rfl | decide +kernel) (jl_cons (j_at (hot_cur hh) T.at_value (j_var 0)) jl_nil)))) js_nil) (js_cons (s_if (jt_cmp (op_inP (RoomH_units hr)) in_i (j_var 1) (j_lst (jl_cons j_int (jl_cons j_int (jl_cons j_int (jl_cons j_int (jl_cons j_int jl_nil)))))) (by rfl)) (js_one (s_ret (j_callB (call_reprD hg (RoomH_units hr)) (repr_i _) (by rfl) T.z_repr (by first | rfl | decide +kernel) (jl_cons (j_at (hot_cur hh) T.at_name (j_var 0)) jl_nil)))) js_nil) (js_cons (s_if (jt_cmp (op_inP (RoomH_units hr)) in_i (j_var 1) (j_lst (jl_cons j_int (jl_cons j_int (jl_cons j_int (jl_cons j_int (jl_cons j_int (jl_cons j_int jl_nil))))))) (by rfl)) (js_one (s_ret (j_callB (call_reprD hg (RoomH_units hr)) (repr_i _) (by rfl) T.z_repr (by first | rfl | decide +kernel) (jl_cons (j_at (hot_cur hh) T.at_index (j_var 0)) jl_nil)))) js_nil) (js_cons (s_if (jt_cmp (op_inP (RoomH_units hr)) in_i (j_var 1) (j_lst (jl_cons j_int (jl_cons j_int jl_nil))) (by rfl)) (js_one (s_ret (j_callB (call_reprD hg (RoomH_units hr)) (repr_i _) (by rfl) T.z_repr (by first | rfl | decide +kernel) (jl_cons (j_at (hot_cur hh) T.at_path (j_var 0)) jl_nil)))) js_nil) (js_cons (s_if (jt_cmp (op_inP (RoomH_units hr)) in_i (j_var 1) (j_lst (jl_cons j_int (jl_cons j_int (jl_cons j_int jl_nil)))) (by rfl)) (js_one (s_ret (j_callB (call_reprD hg (RoomH_units hr)) (repr_i _) (by rfl) T.z_repr (by first | rfl | decide +kernel) (jl_cons (j_at (hot_cur hh) T.at_spot (j_var 0)) jl_nil)))) js_nil) (js_cons (s_if (jt_cmp (op_inP (RoomH_units hr)) in_i (j_var 1) (j_lst (jl_cons j_int (jl_cons j_int (jl_cons j_int jl_nil)))) (by rfl)) (js_one (s_ret (j_callB (call_reprD hg (RoomH_units hr)) (repr_i _) (by rfl) T.z_repr (by first | rfl | decide +kernel) (jl_cons (j_if (jt_cmp (op_eqA (RoomH_units hr)) eq_i (j_var 1) j_int (nomark _)) (j_at (hot_cur hh) T.at_kind (j_var 0)) (j_if (jt_cmp (op_eqA (RoomH_units hr)) eq_i (j_var 1) j_int (nomark _)) (j_at (hot_cur hh) T.at_mode (j_var 0)) (j_at (hot_cur hh) T.at_number (j_var 0)))) jl_nil)))) js_nil) (js_cons (s_if (jt_cmp (op_inP (RoomH_units hr)) in_i (j_var 1) (j_lst (jl_cons j_int (jl_cons j_int (jl_cons j_int (jl_cons j_int jl_nil))))) (by rfl)) (js_one (s_ret (j_callB (call_reprD hg (RoomH_units hr)) (repr_i _) (by rfl) T.z_repr (by first | rfl | decide +kernel) (jl_cons (j_if (jt_cmp (op_eqA (RoomH_units hr)) eq_i (j_var 1) j_int (nomark _)) (j_at (hot_cur hh) T.at_table (j_var 0)) (j_if (jt_cmp (op_eqA (RoomH_units hr)) eq_i (j_var 1) j_int (nomark _)) (j_at (hot_cur hh) T.at_form (j_var 0)) (j_if (jt_cmp (op_eqA (RoomH_units hr)) eq_i (j_var 1) j_int (nomark _)) (j_at (hot_cur hh) T.at_text (j_var 0)) (j_at (hot_cur hh) T.at_line (j_var 0))))) jl_nil)))) js_nil) (js_one (s_ret (j_if (jt_cmp (op_eqA (RoomH_units hr)) eq_i (j_var 1) j_int (nomark _)) (j_callB (call_reprD hg (RoomH_units hr)) (repr_i _) (by rfl) T.z_repr (by first | rfl | decide +kernel) (jl_cons (j_at (hot_cur hh) T.at_limit (j_var 0)) jl_nil)) j_str))))))))))
theorem okL__law_caught (T : Txt K mg w) : FnLam (TT K) P w K mg base 5 "_law_caught" (He.ga K "_law_caught") (fdAt K (He.ga K "_law_caught")) "_law_act" ["_law_act", "_law_e", "_law_at"] (defArgs s__law_caught) (defBody s__law_caught) (defScope s__law_caught) b__law_caught :=
  ⟨T.d__law_caught.F, sc__law_caught, rfl, Or.inl rfl, fun mb lam cd A outer s H E hr hg tk po act => (js_cons (s_try rfl rfl sc__law_caught.nd tk (fun W pn xe tk po => (js_one (s_drop (act _ _ _ _ _ tk)))) (.cons (tests_three ⟨by rfl, by decide, .inl T.g_InputError⟩ ⟨by rfl, by decide, .inl T.g_StateError⟩ ⟨by rfl, by decide, .inl T.g_LimitError⟩) T.mt_0 (by exact ⟨rfl, rfl⟩) (fun a oe pn ho => (js_cons (s_set (i := 2) sc__law_caught.nd (j_callH (m := m__law_kind) (okH__law_kind T) ((L2H.roomH_mark hr (some (Value.ref a))).mono (by decide)) hg (hot_suite ho) (by rfl) T.d__law_kind.g T.d__law_kind.F.kp (pb__law_kind T) rfl (jl_cons (j_var 1) jl_nil) (lenS len0))) (js_one (s_ret (j_lst (jl_cons (j_var 2) (jl_cons (j_callH (m := m__law_field) (okH__law_field T) ((L2H.roomH_mark hr (some (Value.ref a))).mono (by decide)) hg (hot_suite ho) (by rfl) T.d__law_field.g T.d__law_field.F.kp (pb__law_field T) rfl (jl_cons (j_var 1) (jl_cons (j_var 2) jl_nil)) (lenS (lenS len0))) jl_nil))))))) .nil)) (js_one (s_ret (j_lst (jl_cons j_str (jl_cons j_str jl_nil))))))⟩
theorem ok__law_told_right (T : Txt K mg w) (TB : ∀ p ∈ cs K, LamX.TabB base mg p.1 p.2) : FnG ⟨none, none, TT K⟩ P w K mg base 7 (He.ga K "_law_told_right") (fdAt K (He.ga K "_law_told_right")) ["_law_kind_here", "_law_often"] m__law_told_right := by
  rw [mE__law_told_right]
  exact FnG.of T.d__law_told_right.F sc__law_told_right fun cd A outer s H E hcd hr hg tk po => (js_cons (s_set (i := 2) sc__law_told_right.nd (j_callTy call_tuple_of (tupleA_i rfl) (by rfl) T.z_tuple (by first | rfl | decide +kernel) (jl_cons (j_callP (m := m__law_lattice) (ok__law_lattice T TB) (hr.mono (by decide)) hg tk (by rfl) T.d__law_lattice.g T.d__law_lattice.F.kp (pb__law_lattice T) (jl_cons (j_var 0) (jl_cons (j_var 1) jl_nil)) (lenS (lenS len0))) jl_nil))) (js_cons (s_set (i := 3) sc__law_told_right.nd (j_lst (jl_cons (j_callP (m := m_test_pixels) (ok_test_pixels T TB) (hr.mono (by decide)) hg tk (by rfl) T.d_test_pixels.g T.d_test_pixels.F.kp (pb_test_pixels T) (jl_cons (j_var 0) (jl_cons (j_var 1) jl_nil)) (lenS (lenS len0))) (jl_cons (j_callK0 (m := m_test_pixels) (gD := gD_test_pixels_0_uses_kind) (ok_test_pixels T TB) (hr.mono (by decide)) hg tk (by rfl) T.d_test_pixels.g T.d_test_pixels.F.kp (kb_test_pixels_0_uses_kind T) (jk_cons (j_var 1) (jk_cons (j_var 0) jk_nil)) (lenS (lenS len0))) jl_nil)))) (js_cons (s_if (jt_cmp (op_neA hr.units) ne_i (j_callB (call_reprD hg hr.units) (repr_i _) (by rfl) T.z_repr (by first | rfl | decide +kernel) (jl_cons (j_var 3) jl_nil)) (j_callB (call_reprD hg hr.units) (repr_i _) (by rfl) T.z_repr (by first | rfl | decide +kernel) (jl_cons (j_op op_mulD mul_i (j_lst (jl_cons (j_var 2) jl_nil)) j_int) jl_nil)) (nomark _)) (js_one (s_ret j_bl)) js_nil) (js_cons (s_for po rfl (i_rng2 (by rfl) T.z_range (jl_cons j_int (jl_cons (j_callB call_len len_i (by rfl) T.z_len (by first | rfl | decide +kernel) (jl_cons (j_var 2) jl_nil)) jl_nil))) (g_name (i := 4) sc__law_told_right.nd) (js_cons (s_set (i := 5) sc__law_told_right.nd (j_callP (m := m__law_less) (ok__law_less T TB) (hr.mono (by decide)) hg tk (by rfl) T.d__law_less.g T.d__law_less.F.kp (pb__law_less T) (jl_cons (j_ix ix_seq ix_i (j_ix ix_seq ix_i (j_var 2) (j_var 4)) j_int) (jl_cons (j_ix ix_seq ix_i (j_ix ix_seq ix_i (j_var 2) (j_op op_sub sub_i (j_var 4) j_int)) j_int) jl_nil)) (lenS (lenS len0)))) (js_one (s_if (jt_w (jw_or (jt_cmp op_lt cmp_i (j_ix ix_seq ix_i (j_var 5) j_int) j_int (nomark _)) (jw_or1 (jt_w (jw_and (jt_cmp (op_eqA hr.units) eq_i (j_ix ix_seq ix_i (j_var 5) j_int) j_int (nomark _)) (jw_and1 (jt_cmp op_lt cmp_i (j_ix ix_seq ix_i (j_callP (m := m__law_less) (ok__law_less T TB) (hr.mono (by decide)) hg tk (by rfl) T.d__law_less.g T.d__law_less.F.kp (pb__law_less T) (jl_cons (j_ix ix_seq ix_i (j_ix ix_seq ix_i (j_var 2) (j_var 4)) j_int) (jl_cons (j_ix ix_seq ix_i (j_ix ix_seq ix_i (j_var 2) (j_op op_sub sub_i (j_var 4) j_int)) j_int) jl_nil)) (lenS (lenS len0))) j_int) j_int (nomark _)))))))) (js_one (s_ret j_bl)) js_nil)))) (js_one (s_ret (j_callB (cr_all rfl) all_i (by rfl) T.z_all (by first | rfl | decide +kernel) (jl_cons (j_lc rfl sc__law_told_right.nd (i_any (j_op op_addD add_i (j_slice (j_var 2) jo_none (jo_some j_int)) (j_slice (j_var 2) (jo_some (j_un un_neg neg_i j_int)) jo_none))) (by show blkC ["_law_kind_here", "_law_often", "_law_due", "_law_told", "_law_k", "_law_step", "_law_one"] (defScope s__law_told_right) _ _ = true; decide +kernel) (fun _ _ _ _ _ => pg_name (i := 6) sc__law_told_right.nd rfl (Or.inl rfl)) (fun _ _ _ _ _ => jts_nil) (fun _ _ _ _ _ => (j_callP (m := m_has_kind) (ok_has_kind T TB) (hr.mono (by decide)) hg takes_W0 (by rfl) T.d_has_kind.g T.d_has_kind.F.kp (pb_has_kind T) (jl_cons (j_var 6) (jl_cons (j_var 0) jl_nil)) (lenS (lenS len0))))) jl_nil))))))))
theorem ok__law_refused_right (T : Txt K mg w) (TB : ∀ p ∈ cs K, LamX.TabB base mg p.1 p.2) : FnG ⟨none, none, TT K⟩ P w K mg base 8 (He.ga K "_law_refused_right") (fdAt K (He.ga K "_law_refused_right")) ["_law_kind_here", "_law_often"] m__law_refused_right := by
  rw [mE__law_refused_right]
  exact FnG.of T.d__law_refused_right.F sc__law_refused_right fun cd A outer s H E hcd hr hg tk po => (js_cons (s_for po rfl (i_list (j_lst (jl_cons j_non (jl_cons j_int (jl_cons j_bl (jl_cons j_str (jl_cons j_str (jl_cons j_str (jl_cons j_str (jl_cons (j_lst (jl_cons j_str jl_nil)) (jl_cons (j_tup (jl_cons j_str jl_nil)) (jl_cons j_dct0 jl_nil)))))))))))) (g_name (i := 2) sc__law_refused_right.nd) (js_cons (s_set (i := 3) sc__law_refused_right.nd (j_new (jl_cons (j_lam (k := 4) (okL__law_caught T) tk (by rfl) T.d__law_caught.g hg (hr.mono (by decide)) (bL__law_caught T) (TB (He.cT K ("_law_refused_right", none)) (.head _)) hcd (.head _) (tab_hu T.nd (.head _)) (LamX.lamS_by (by show LamX.lamSB (defScope s__law_refused_right) _ = true; decide +kernel)) rfl (fun _ _ _ _ _ => rfl) (fun A outer s H E f c hr hg tk => (j_callP (m := m_test_pixels) (ok_test_pixels T TB) (hr.mono (by decide)) hg tk (by rfl) T.d_test_pixels.g T.d_test_pixels.F.kp (pb_test_pixels T) (jl_cons (j_var 2) (jl_cons (j_var 1) jl_nil)) (lenS (lenS len0))))) jl_nil))) (js_cons (s_drop (j_app (j_var 3) (j_lam (k := 4) (okL__law_caught T) tk (by rfl) T.d__law_caught.g hg (hr.mono (by decide)) (bL__law_caught T) (TB (He.cT K ("_law_refused_right", none)) (.head _)) hcd (.head _) (tab_hu T.nd (.head _)) (LamX.lamS_by (by show LamX.lamSB (defScope s__law_refused_right) _ = true; decide +kernel)) rfl (fun _ _ _ _ _ => rfl) (fun A outer s H E f c hr hg tk => (j_callK0 (m := m_test_pixels) (gD := gD_test_pixels_0_uses_kind) (ok_test_pixels T TB) (hr.mono (by decide)) hg tk (by rfl) T.d_test_pixels.g T.d_test_pixels.F.kp (kb_test_pixels_0_uses_kind T) (jk_cons j_non (jk_cons (j_var 2) jk_nil)) (lenS (lenS len0))))) fun _ _ h1 h2 => pe_bm PySem.F.plainAttrs_list PySem.F.slot_list_append PySem.F.type_list_append mt_append h1 (pa_cons h2 pa_nil))) (js_one (s_if (jt_cmp (op_neA hr.units) ne_i (j_var 3) (j_op op_mulD mul_i (j_lst (jl_cons (j_lst (jl_cons j_int (jl_cons (j_callB (call_reprD hg hr.units) (repr_i _) (by rfl) T.z_repr (by first | rfl | decide +kernel) (jl_cons (j_var 2) jl_nil)) jl_nil))) jl_nil)) j_int) (nomark _)) (js_one (s_ret j_bl)) js_nil))))) (js_cons (s_for po rfl (i_list (j_lst (jl_cons j_non (jl_cons j_int (jl_cons (j_un un_neg neg_i j_int) (jl_cons j_int (jl_cons j_bl (jl_cons j_bl (jl_cons j_str (jl_cons (j_tup (jl_cons j_int jl_nil)) (jl_cons (j_lst (jl_cons j_int jl_nil)) (jl_cons j_dct0 (jl_cons (j_op op_pow pow_i j_int j_int) (jl_cons (j_un un_neg neg_i (j_op op_pow pow_i j_int j_int)) jl_nil)))))))))))))) (g_name (i := 2) sc__law_refused_right.nd) (js_cons (s_set (i := 3) sc__law_refused_right.nd (j_new (jl_cons (j_lam (k := 4) (okL__law_caught T) tk (by rfl) T.d__law_caught.g hg (hr.mono (by decide)) (bL__law_caught T) (TB (He.cT K ("_law_refused_right", none)) (.head _)) hcd (.head _) (tab_hu T.nd (.head _)) (LamX.lamS_by (by show LamX.lamSB (defScope s__law_refused_right) _ = true; decide +kernel)) rfl (fun _ _ _ _ _ => rfl) (fun A outer s H E f c hr hg tk => (j_callP (m := m_test_pixels) (ok_test_pixels T TB) (hr.mono (by decide)) hg tk (by rfl) T.d_test_pixels.g T.d_test_pixels.F.kp (pb_test_pixels T) (jl_cons (j_var 0) (jl_cons (j_var 2) jl_nil)) (lenS (lenS len0))))) jl_nil))) (js_cons (s_drop (j_app (j_var 3) (j_lam (k := 4) (okL__law_caught T) tk (by rfl) T.d__law_caught.g hg (hr.mono (by decide)) (bL__law_caught T) (TB (He.cT K ("_law_refused_right", none)) (.head _)) hcd (.head _) (tab_hu T.nd (.head _)) (LamX.lamS_by (by show LamX.lamSB (defScope s__law_refused_right) _ = true; decide +kernel)) rfl (fun _ _ _ _ _ => rfl) (fun A outer s H E f c hr hg tk => (j_callK0 (m := m_test_pixels) (gD := gD_test_pixels_0_uses_kind) (ok_test_pixels T TB) (hr.mono (by decide)) hg tk (by rfl) T.d_test_pixels.g T.d_test_pixels.F.kp (kb_test_pixels_0_uses_kind T) (jk_cons (j_var 2) (jk_cons (j_var 0) jk_nil)) (lenS (lenS len0))))) fun _ _ h1 h2 => pe_bm PySem.F.plainAttrs_list PySem.F.slot_list_append PySem.F.type_list_append mt_append h1 (pa_cons h2 pa_nil))) (js_one (s_if (jt_cmp (op_neA hr.units) ne_i (j_var 3) (j_op op_mulD mul_i (j_lst (jl_cons (j_lst (jl_cons j_int (jl_cons (j_callB (call_reprD hg hr.units) (repr_i _) (by rfl) T.z_repr (by first | rfl | decide +kernel) (jl_cons (j_var 2) jl_nil)) jl_nil))) jl_nil)) j_int) (nomark _)) (js_one (s_ret j_bl)) js_nil))))) (js_one (s_ret j_bl))))
theorem ok__law_right (T : Txt K mg w) (TB : ∀ p ∈ cs K, LamX.TabB base mg p.1 p.2) : FnG ⟨none, none, TT K⟩ P w K mg base 9 (He.ga K "_law_right") (fdAt K (He.ga K "_law_right")) ["_law_pool_here"] m__law_right := by
  rw [mE__law_right]
  exact FnG.of T.d__law_right.F sc__law_right fun cd A outer s H E hcd hr hg tk po => (js_cons (s_par rfl sc__law_right.nd (jl_cons (j_callP (m := m__law_pick) (ok__law_pick T TB) (hr.mono (by decide)) hg tk (by rfl) T.d__law_pick.g T.d__law_pick.F.kp (pb__law_pick T) (jl_cons (j_var 0) (jl_cons (j_lst (jl_cons j_str (jl_cons j_str (jl_cons j_str (jl_cons j_str (jl_cons j_str jl_nil)))))) jl_nil)) (lenS (lenS len0))) (jl_cons (j_op op_addD add_i j_int (j_callP (m := m__law_take) (ok__law_take T TB) (hr.mono (by decide)) hg tk (by rfl) T.d__law_take.g T.d__law_take.F.kp (pb__law_take T) (jl_cons (j_var 0) (jl_cons j_int jl_nil)) (lenS (lenS len0)))) jl_nil)) fun _ h => ps_par (i := 1) (j := 2) rfl sc__law_right.nd rfl rfl (by decide) rfl rfl h (by rfl)) (js_cons (s_if (jt_w (jw_or (jt_not (jt_tru (j_callP (m := m__law_told_right) (ok__law_told_right T TB) (hr.mono (by decide)) hg tk (by rfl) T.d__law_told_right.g T.d__law_told_right.F.kp (pb__law_told_right T) (jl_cons (j_var 1) (jl_cons (j_var 2) jl_nil)) (lenS (lenS len0))))) (jw_or1 (jt_not (jt_tru (j_callP (m := m__law_refused_right) (ok__law_refused_right T TB) (hr.mono (by decide)) hg tk (by rfl) T.d__law_refused_right.g T.d__law_refused_right.F.kp (pb__law_refused_right T) (jl_cons (j_var 1) (jl_cons (j_var 2) jl_nil)) (lenS (lenS len0)))))))) (js_one (s_ret j_bl)) js_nil) (js_one (s_ret (j_and (j_callP (m := m__law_told_right) (ok__law_told_right T TB) (hr.mono (by decide)) hg tk (by rfl) T.d__law_told_right.g T.d__law_told_right.F.kp (pb__law_told_right T) (jl_cons j_str (jl_cons (j_op op_sub sub_i j_int (j_callP (m := m__law_take) (ok__law_take T TB) (hr.mono (by decide)) hg tk (by rfl) T.d__law_take.g T.d__law_take.F.kp (pb__law_take T) (jl_cons (j_var 0) (jl_cons j_int jl_nil)) (lenS (lenS len0)))) jl_nil)) (lenS (lenS len0))) (j_one (j_callP (m := m__law_told_right) (ok__law_told_right T TB) (hr.mono (by decide)) hg tk (by rfl) T.d__law_told_right.g T.d__law_told_right.F.kp (pb__law_told_right T) (jl_cons j_str (jl_cons j_int jl_nil)) (lenS (lenS len0)))))))))
theorem ok_law (T : Txt K mg w) (TB : ∀ p ∈ cs K, LamX.TabB base mg p.1 p.2) : FnG ⟨none, none, TT K⟩ P w K mg base 10 (He.ga K "law") (fdAt K (He.ga K "law")) ["_law_script"] m_law := by
  rw [mE_law]
  exact FnG.of T.d_law.F sc_law fun cd A outer s H E hcd hr hg tk po => (js_cons (s_asg (j_tup (jl_cons (j_tup (jl_cons (j_tup (jl_cons j_int (jl_cons j_int jl_nil))) (jl_cons (j_tup (jl_cons j_int (jl_cons j_int jl_nil))) jl_nil))) (jl_cons (j_tup (jl_cons (j_tup (jl_cons j_int (jl_cons j_int jl_nil))) (jl_cons (j_tup (jl_cons j_int (jl_cons j_int jl_nil))) jl_nil))) (jl_cons (j_tup (jl_cons (j_tup (jl_cons j_int (jl_cons j_int jl_nil))) (jl_cons (j_tup (jl_cons j_int (jl_cons j_int jl_nil))) jl_nil))) jl_nil)))) (g_tup (n := 3) rfl (gs_cons (g_name (i := 1) sc_law.nd) (gs_cons (g_name (i := 2) sc_law.nd) (gs_cons (g_name (i := 3) sc_law.nd) gs_nil))))) (js_cons (s_set (i := 4) sc_law.nd (j_lst (jl_cons (j_tup (jl_cons (j_var 1) (jl_cons (j_var 2) (jl_cons (j_var 3) jl_nil)))) (jl_cons (j_tup (jl_cons (j_var 2) (jl_cons (j_var 3) jl_nil))) (jl_cons (j_tup (jl_cons (j_var 1) (jl_cons (j_var 2) (jl_cons (j_var 3) jl_nil)))) (jl_cons (j_tup (jl_cons (j_var 1) (jl_cons (j_var 3) jl_nil))) (jl_cons (j_tup (jl_cons (j_var 1) (jl_cons (j_var 3) jl_nil))) jl_nil))))))) (js_cons (s_set (i := 5) sc_law.nd (j_lst (jl_cons j_str (jl_cons j_str (jl_cons j_str (jl_cons j_str (jl_cons j_str jl_nil))))))) (js_cons (s_if (jt_cmp (op_neA hr.units) ne_i (j_callB (call_reprD hg hr.units) (repr_i _) (by rfl) T.z_repr (by first | rfl | decide +kernel) (jl_cons (j_lc rfl sc_law.nd (i_any (j_var 5)) (by show blkC ["_law_script", "_law_clear", "_law_black", "_law_white", "_law_due", "_law_kinds_here", "_law_one", "_law_often", "_law_k"] (defScope s_law) _ _ = true; decide +kernel) (fun _ _ _ _ _ => pg_name (i := 6) sc_law.nd rfl (Or.inl rfl)) (fun _ _ _ _ _ => jts_nil) (fun _ _ _ _ _ => (j_callP (m := m_test_pixels) (ok_test_pixels T TB) (hr.mono (by decide)) hg takes_W0 (by rfl) T.d_test_pixels.g T.d_test_pixels.F.kp (pb_test_pixels T) (jl_cons (j_var 6) (jl_cons j_int jl_nil)) (lenS (lenS len0))))) jl_nil)) (j_callB (call_reprD hg hr.units) (repr_i _) (by rfl) T.z_repr (by first | rfl | decide +kernel) (jl_cons (j_var 4) jl_nil)) (nomark _)) (js_one (s_ret j_bl)) js_nil) (js_cons (s_for po rfl (i_rng2 (by rfl) T.z_range (jl_cons j_int (jl_cons j_int jl_nil))) (g_name (i := 7) sc_law.nd) (js_one (s_if (jt_not (jt_tru (j_callB (cr_all rfl) all_i (by rfl) T.z_all (by first | rfl | decide +kernel) (jl_cons (j_lc rfl sc_law.nd (i_any (j_var 5)) (by show blkC ["_law_script", "_law_clear", "_law_black", "_law_white", "_law_due", "_law_kinds_here", "_law_one", "_law_often", "_law_k"] (defScope s_law) _ _ = true; decide +kernel) (fun _ _ _ _ _ => pg_name (i := 6) sc_law.nd rfl (Or.inl rfl)) (fun _ _ _ _ _ => jts_nil) (fun _ _ _ _ _ => (j_callP (m := m__law_told_right) (ok__law_told_right T TB) (hr.mono (by decide)) hg takes_W0 (by rfl) T.d__law_told_right.g T.d__law_told_right.F.kp (pb__law_told_right T) (jl_cons (j_var 6) (jl_cons (j_var 7) jl_nil)) (lenS (lenS len0))))) jl_nil)))) (js_one (s_ret j_bl)) js_nil))) (js_cons (s_if (jt_w (jw_or (jt_cmp (op_neA hr.units) ne_i (j_callB call_len len_i (by rfl) T.z_len (by first | rfl | decide +kernel) (jl_cons (j_callP (m := m_test_pixels) (ok_test_pixels T TB) (hr.mono (by decide)) hg tk (by rfl) T.d_test_pixels.g T.d_test_pixels.F.kp (pb_test_pixels T) (jl_cons j_str (jl_cons j_int jl_nil)) (lenS (lenS len0))) jl_nil)) j_int (nomark _)) (jw_or1 (jt_cmp (op_neA hr.units) ne_i (j_callB call_len len_i (by rfl) T.z_len (by first | rfl | decide +kernel) (jl_cons (j_callP (m := m_test_pixels) (ok_test_pixels T TB) (hr.mono (by decide)) hg tk (by rfl) T.d_test_pixels.g T.d_test_pixels.F.kp (pb_test_pixels T) (jl_cons j_str (jl_cons j_int jl_nil)) (lenS (lenS len0))) jl_nil)) j_int (nomark _))))) (js_one (s_ret j_bl)) js_nil) (js_one (s_ret (j_callB (cr_all rfl) all_i (by rfl) T.z_all (by first | rfl | decide +kernel) (jl_cons (j_lc rfl sc_law.nd (i_rng1 (by rfl) T.z_range (jl_cons (j_callB (call_max2 rfl) max2_i (by rfl) T.z_max (by first | rfl | decide +kernel) (jl_cons j_int (jl_cons (j_callB (call_min2 rfl) min2_i (by rfl) T.z_min (by first | rfl | decide +kernel) (jl_cons j_int (jl_cons (j_callB call_len len_i (by rfl) T.z_len (by first | rfl | decide +kernel) (jl_cons (j_var 0) jl_nil)) jl_nil))) jl_nil))) jl_nil)) (by show blkC ["_law_script", "_law_clear", "_law_black", "_law_white", "_law_due", "_law_kinds_here", "_law_one", "_law_often", "_law_k"] (defScope s_law) _ _ = true; decide +kernel) (fun _ _ _ _ _ => pg_name (i := 8) sc_law.nd rfl (Or.inl rfl)) (fun _ _ _ _ _ => jts_nil) (fun _ _ _ _ _ => (j_callP (m := m__law_right) (ok__law_right T TB) (hr.mono (by decide)) hg takes_W0 (by rfl) T.d__law_right.g T.d__law_right.F.kp (pb__law_right T) (jl_cons (j_callP (m := m__law_pool) (ok__law_pool T TB) (hr.mono (by decide)) hg takes_W0 (by rfl) T.d__law_pool.g T.d__law_pool.F.kp (pb__law_pool T) (jl_cons (j_callP (m := m__law_cell) (ok__law_cell T TB) (hr.mono (by decide)) hg takes_W0 (by rfl) T.d__law_cell.g T.d__law_cell.F.kp (pb__law_cell T) (jl_cons (j_var 0) (jl_cons (j_var 8) jl_nil)) (lenS (lenS len0))) jl_nil) (lenS len0)) jl_nil) (lenS len0)))) jl_nil))))))))))
end
/-! ### the head -/
theorem txt {K : PySem.W.Frag} {h : Heap} {mg : Str → Option Value} (X : K.In h) (G : h.Ns mainGlobals mg) (c : He.SaysD fa fn K) (m : ex K = true) {w : World} (ct0 : He.SaysT fa fn tsD w K) : Txt K mg w := by
  have g_Busy := He.glo_ok X G (c.fact 29 (f := .glo "Busy") rfl)
  have g_Closed := He.glo_ok X G (c.fact 30 (f := .glo "Closed") rfl)
  have g_InputError := He.glo_ok X G (c.fact 31 (f := .glo "InputError") rfl)
  have g_InvalidForm := He.glo_ok X G (c.fact 32 (f := .glo "InvalidForm") rfl)
  have g_InvalidKind := He.glo_ok X G (c.fact 33 (f := .glo "InvalidKind") rfl)
  have g_InvalidKinds := He.glo_ok X G (c.fact 34 (f := .glo "InvalidKinds") rfl)
  have g_InvalidLayers := He.glo_ok X G (c.fact 35 (f := .glo "InvalidLayers") rfl)
  have g_InvalidLine := He.glo_ok X G (c.fact 36 (f := .glo "InvalidLine") rfl)
  have g_InvalidMode := He.glo_ok X G (c.fact 37 (f := .glo "InvalidMode") rfl)
  have g_InvalidName := He.glo_ok X G (c.fact 38 (f := .glo "InvalidName") rfl)
  have g_InvalidNumber := He.glo_ok X G (c.fact 39 (f := .glo "InvalidNumber") rfl)
  have g_InvalidOption := He.glo_ok X G (c.fact 40 (f := .glo "InvalidOption") rfl)
  have g_InvalidPath := He.glo_ok X G (c.fact 41 (f := .glo "InvalidPath") rfl)
  have g_InvalidPixel := He.glo_ok X G (c.fact 42 (f := .glo "InvalidPixel") rfl)
  have g_InvalidRows := He.glo_ok X G (c.fact 43 (f := .glo "InvalidRows") rfl)
  have g_InvalidShare := He.glo_ok X G (c.fact 44 (f := .glo "InvalidShare") rfl)
  have g_InvalidSpot := He.glo_ok X G (c.fact 45 (f := .glo "InvalidSpot") rfl)
  have g_InvalidSpots := He.glo_ok X G (c.fact 46 (f := .glo "InvalidSpots") rfl)
  have g_InvalidStrokes := He.glo_ok X G (c.fact 47 (f := .glo "InvalidStrokes") rfl)
  have g_InvalidTable := He.glo_ok X G (c.fact 48 (f := .glo "InvalidTable") rfl)
  have g_InvalidText := He.glo_ok X G (c.fact 49 (f := .glo "InvalidText") rfl)
  have g_InvalidTree := He.glo_ok X G (c.fact 50 (f := .glo "InvalidTree") rfl)
  have g_InvalidTrees := He.glo_ok X G (c.fact 51 (f := .glo "InvalidTrees") rfl)
  have g_LimitError := He.glo_ok X G (c.fact 52 (f := .glo "LimitError") rfl)
  have g_MissingSpot := He.glo_ok X G (c.fact 53 (f := .glo "MissingSpot") rfl)
  have g_NotALayer := He.glo_ok X G (c.fact 54 (f := .glo "NotALayer") rfl)
  have g_NotAPicture := He.glo_ok X G (c.fact 55 (f := .glo "NotAPicture") rfl)
  have g_NotAStack := He.glo_ok X G (c.fact 56 (f := .glo "NotAStack") rfl)
  have g_NothingToUndo := He.glo_ok X G (c.fact 57 (f := .glo "NothingToUndo") rfl)
  have g_StateError := He.glo_ok X G (c.fact 58 (f := .glo "StateError") rfl)
  have g_TooMany := He.glo_ok X G (c.fact 59 (f := .glo "TooMany") rfl)
  have g_UnknownPicture := He.glo_ok X G (c.fact 60 (f := .glo "UnknownPicture") rfl)
  have g_UsedOften := He.glo_ok X G (c.fact 61 (f := .glo "UsedOften") rfl)
  have g_WrongKind := He.glo_ok X G (c.fact 62 (f := .glo "WrongKind") rfl)
  have g_WrongSize := He.glo_ok X G (c.fact 63 (f := .glo "WrongSize") rfl)
  exact {
    d_is_integer := by obtain ⟨fd, F⟩ := c.def_ 0 (d := e_is_integer) rfl; exact ⟨fdAt_of F, He.glo_ok X G (c.fact 0 (f := .glo "is_integer") rfl)⟩
    d_common_divisor := by obtain ⟨fd, F⟩ := c.def_ 1 (d := e_common_divisor) rfl; exact ⟨fdAt_of F, He.glo_ok X G (c.fact 1 (f := .glo "common_divisor") rfl)⟩
    d_lowest := by obtain ⟨fd, F⟩ := c.def_ 2 (d := e_lowest) rfl; exact ⟨fdAt_of F, He.glo_ok X G (c.fact 2 (f := .glo "lowest") rfl)⟩
    d_is_less := by obtain ⟨fd, F⟩ := c.def_ 3 (d := e_is_less) rfl; exact ⟨fdAt_of F, He.glo_ok X G (c.fact 3 (f := .glo "is_less") rfl)⟩
    d_is_ratio := by obtain ⟨fd, F⟩ := c.def_ 4 (d := e_is_ratio) rfl; exact ⟨fdAt_of F, He.glo_ok X G (c.fact 4 (f := .glo "is_ratio") rfl)⟩
    d_is_share := by obtain ⟨fd, F⟩ := c.def_ 5 (d := e_is_share) rfl; exact ⟨fdAt_of F, He.glo_ok X G (c.fact 5 (f := .glo "is_share") rfl)⟩
    d_is_pixel := by obtain ⟨fd, F⟩ := c.def_ 6 (d := e_is_pixel) rfl; exact ⟨fdAt_of F, He.glo_ok X G (c.fact 6 (f := .glo "is_pixel") rfl)⟩
    d_is_kind := by obtain ⟨fd, F⟩ := c.def_ 7 (d := e_is_kind) rfl; exact ⟨fdAt_of F, He.glo_ok X G (c.fact 7 (f := .glo "is_kind") rfl)⟩
    d_check_pixel := by obtain ⟨fd, F⟩ := c.def_ 8 (d := e_check_pixel) rfl; exact ⟨fdAt_of F, He.glo_ok X G (c.fact 8 (f := .glo "check_pixel") rfl)⟩
    d_check_kind := by obtain ⟨fd, F⟩ := c.def_ 9 (d := e_check_kind) rfl; exact ⟨fdAt_of F, He.glo_ok X G (c.fact 9 (f := .glo "check_kind") rfl)⟩
    d_is_let := by obtain ⟨fd, F⟩ := c.def_ 10 (d := e_is_let) rfl; exact ⟨fdAt_of F, He.glo_ok X G (c.fact 10 (f := .glo "is_let") rfl)⟩
    d_has_kind := by obtain ⟨fd, F⟩ := c.def_ 11 (d := e_has_kind) rfl; exact ⟨fdAt_of F, He.glo_ok X G (c.fact 11 (f := .glo "has_kind") rfl)⟩
    d_kind_tests := by obtain ⟨fd, F⟩ := c.def_ 12 (d := e_kind_tests) rfl; exact ⟨fdAt_of F, He.glo_ok X G (c.fact 12 (f := .glo "kind_tests") rfl)⟩
    d_test_pixels := by obtain ⟨fd, F⟩ := c.def_ 13 (d := e_test_pixels) rfl; exact ⟨fdAt_of F, He.glo_ok X G (c.fact 13 (f := .glo "test_pixels") rfl)⟩
    d__law_cell := by obtain ⟨fd, F⟩ := c.def_ 14 (d := e__law_cell) rfl; exact ⟨fdAt_of F, He.glo_ok X G (c.fact 14 (f := .glo "_law_cell") rfl)⟩
    d__law_pool := by obtain ⟨fd, F⟩ := c.def_ 15 (d := e__law_pool) rfl; exact ⟨fdAt_of F, He.glo_ok X G (c.fact 15 (f := .glo "_law_pool") rfl)⟩
    d__law_take := by obtain ⟨fd, F⟩ := c.def_ 16 (d := e__law_take) rfl; exact ⟨fdAt_of F, He.glo_ok X G (c.fact 16 (f := .glo "_law_take") rfl)⟩
    d__law_pick := by obtain ⟨fd, F⟩ := c.def_ 17 (d := e__law_pick) rfl; exact ⟨fdAt_of F, He.glo_ok X G (c.fact 17 (f := .glo "_law_pick") rfl)⟩
    d__law_low := by obtain ⟨fd, F⟩ := c.def_ 18 (d := e__law_low) rfl; exact ⟨fdAt_of F, He.glo_ok X G (c.fact 18 (f := .glo "_law_low") rfl)⟩
    d__law_add := by obtain ⟨fd, F⟩ := c.def_ 19 (d := e__law_add) rfl; exact ⟨fdAt_of F, He.glo_ok X G (c.fact 19 (f := .glo "_law_add") rfl)⟩
    d__law_less := by obtain ⟨fd, F⟩ := c.def_ 20 (d := e__law_less) rfl; exact ⟨fdAt_of F, He.glo_ok X G (c.fact 20 (f := .glo "_law_less") rfl)⟩
    d__law_lattice := by obtain ⟨fd, F⟩ := c.def_ 21 (d := e__law_lattice) rfl; exact ⟨fdAt_of F, He.glo_ok X G (c.fact 21 (f := .glo "_law_lattice") rfl)⟩
    d__law_kind := by obtain ⟨fd, F⟩ := c.def_ 22 (d := e__law_kind) rfl; exact ⟨fdAt_of F, He.glo_ok X G (c.fact 22 (f := .glo "_law_kind") rfl)⟩
    d__law_field := by obtain ⟨fd, F⟩ := c.def_ 23 (d := e__law_field) rfl; exact ⟨fdAt_of F, He.glo_ok X G (c.fact 23 (f := .glo "_law_field") rfl)⟩
    d__law_caught := by obtain ⟨fd, F⟩ := c.def_ 24 (d := e__law_caught) rfl; exact ⟨fdAt_of F, He.glo_ok X G (c.fact 24 (f := .glo "_law_caught") rfl)⟩
    d__law_told_right := by obtain ⟨fd, F⟩ := c.def_ 25 (d := e__law_told_right) rfl; exact ⟨fdAt_of F, He.glo_ok X G (c.fact 25 (f := .glo "_law_told_right") rfl)⟩
    d__law_refused_right := by obtain ⟨fd, F⟩ := c.def_ 26 (d := e__law_refused_right) rfl; exact ⟨fdAt_of F, He.glo_ok X G (c.fact 26 (f := .glo "_law_refused_right") rfl)⟩
    d__law_right := by obtain ⟨fd, F⟩ := c.def_ 27 (d := e__law_right) rfl; exact ⟨fdAt_of F, He.glo_ok X G (c.fact 27 (f := .glo "_law_right") rfl)⟩
    d_law := by obtain ⟨fd, F⟩ := c.def_ 28 (d := e_law) rfl; exact ⟨fdAt_of F, He.glo_ok X G (c.fact 28 (f := .glo "law") rfl)⟩
    z_ArithmeticError := He.free_ok X G (c.fact 64 (f := .free "ArithmeticError") rfl)
    z_LookupError := He.free_ok X G (c.fact 65 (f := .free "LookupError") rfl)
    z_ValueError := He.free_ok X G (c.fact 66 (f := .free "ValueError") rfl)
    z_abs := He.free_ok X G (c.fact 67 (f := .free "abs") rfl)
    z_all := He.free_ok X G (c.fact 68 (f := .free "all") rfl)
    z_bool := He.free_ok X G (c.fact 69 (f := .free "bool") rfl)
    z_divmod := He.free_ok X G (c.fact 70 (f := .free "divmod") rfl)
    z_int := He.free_ok X G (c.fact 71 (f := .free "int") rfl)
    z_isinstance := He.free_ok X G (c.fact 72 (f := .free "isinstance") rfl)
    z_len := He.free_ok X G (c.fact 73 (f := .free "len") rfl)
    z_max := He.free_ok X G (c.fact 74 (f := .free "max") rfl)
    z_min := He.free_ok X G (c.fact 75 (f := .free "min") rfl)
    z_range := He.free_ok X G (c.fact 76 (f := .free "range") rfl)
    z_repr := He.free_ok X G (c.fact 77 (f := .free "repr") rfl)
    z_str := He.free_ok X G (c.fact 78 (f := .free "str") rfl)
    z_tuple := He.free_ok X G (c.fact 79 (f := .free "tuple") rfl)
    g_Busy := g_Busy
    g_Closed := g_Closed
    g_InputError := g_InputError
    g_InvalidForm := g_InvalidForm
    g_InvalidKind := g_InvalidKind
    g_InvalidKinds := g_InvalidKinds
    g_InvalidLayers := g_InvalidLayers
    g_InvalidLine := g_InvalidLine
    g_InvalidMode := g_InvalidMode
    g_InvalidName := g_InvalidName
    g_InvalidNumber := g_InvalidNumber
    g_InvalidOption := g_InvalidOption
    g_InvalidPath := g_InvalidPath
    g_InvalidPixel := g_InvalidPixel
    g_InvalidRows := g_InvalidRows
    g_InvalidShare := g_InvalidShare
    g_InvalidSpot := g_InvalidSpot
    g_InvalidSpots := g_InvalidSpots
    g_InvalidStrokes := g_InvalidStrokes
    g_InvalidTable := g_InvalidTable
    g_InvalidText := g_InvalidText
    g_InvalidTree := g_InvalidTree
    g_InvalidTrees := g_InvalidTrees
    g_LimitError := g_LimitError
    g_MissingSpot := g_MissingSpot
    g_NotALayer := g_NotALayer
    g_NotAPicture := g_NotAPicture
    g_NotAStack := g_NotAStack
    g_NothingToUndo := g_NothingToUndo
    g_StateError := g_StateError
    g_TooMany := g_TooMany
    g_UnknownPicture := g_UnknownPicture
    g_UsedOften := g_UsedOften
    g_WrongKind := g_WrongKind
    g_WrongSize := g_WrongSize
    e_InvalidKind := errB_ok (fx_at m (.head _))
    i_InvalidKind := by obtain ⟨fd, F⟩ := c.def_ 29 (d := e_InvalidKind) rfl; exact fdAt_of F
    e_InvalidNumber := errB_ok (fx_at m (.tail _ (.head _)))
    i_InvalidNumber := by obtain ⟨fd, F⟩ := c.def_ 30 (d := e_InvalidNumber) rfl; exact fdAt_of F
    e_InvalidPixel := errB_ok (fx_at m (.tail _ (.tail _ (.head _))))
    i_InvalidPixel := by obtain ⟨fd, F⟩ := c.def_ 31 (d := e_InvalidPixel) rfl; exact fdAt_of F
    at_form := at_of (.cons g_InvalidKind (.cons g_InvalidNumber (.cons g_InvalidPixel .nil))) (fx_at m (.tail _ (.tail _ (.tail _ (.head _)))))
    at_index := at_of (.cons g_InvalidKind (.cons g_InvalidNumber (.cons g_InvalidPixel .nil))) (fx_at m (.tail _ (.tail _ (.tail _ (.tail _ (.head _))))))
    at_kind := at_of (.cons g_InvalidKind (.cons g_InvalidNumber (.cons g_InvalidPixel .nil))) (fx_at m (.tail _ (.tail _ (.tail _ (.tail _ (.tail _ (.head _)))))))
    at_limit := at_of (.cons g_InvalidKind (.cons g_InvalidNumber (.cons g_InvalidPixel .nil))) (fx_at m (.tail _ (.tail _ (.tail _ (.tail _ (.tail _ (.tail _ (.head _))))))))
    at_line := at_of (.cons g_InvalidKind (.cons g_InvalidNumber (.cons g_InvalidPixel .nil))) (fx_at m (.tail _ (.tail _ (.tail _ (.tail _ (.tail _ (.tail _ (.tail _ (.head _)))))))))
    at_mode := at_of (.cons g_InvalidKind (.cons g_InvalidNumber (.cons g_InvalidPixel .nil))) (fx_at m (.tail _ (.tail _ (.tail _ (.tail _ (.tail _ (.tail _ (.tail _ (.tail _ (.head _))))))))))
    at_name := at_of (.cons g_InvalidKind (.cons g_InvalidNumber (.cons g_InvalidPixel .nil))) (fx_at m (.tail _ (.tail _ (.tail _ (.tail _ (.tail _ (.tail _ (.tail _ (.tail _ (.tail _ (.head _)))))))))))
    at_number := at_of (.cons g_InvalidKind (.cons g_InvalidNumber (.cons g_InvalidPixel .nil))) (fx_at m (.tail _ (.tail _ (.tail _ (.tail _ (.tail _ (.tail _ (.tail _ (.tail _ (.tail _ (.tail _ (.head _))))))))))))
    at_path := at_of (.cons g_InvalidKind (.cons g_InvalidNumber (.cons g_InvalidPixel .nil))) (fx_at m (.tail _ (.tail _ (.tail _ (.tail _ (.tail _ (.tail _ (.tail _ (.tail _ (.tail _ (.tail _ (.tail _ (.head _)))))))))))))
    at_spot := at_of (.cons g_InvalidKind (.cons g_InvalidNumber (.cons g_InvalidPixel .nil))) (fx_at m (.tail _ (.tail _ (.tail _ (.tail _ (.tail _ (.tail _ (.tail _ (.tail _ (.tail _ (.tail _ (.tail _ (.tail _ (.head _))))))))))))))
    at_table := at_of (.cons g_InvalidKind (.cons g_InvalidNumber (.cons g_InvalidPixel .nil))) (fx_at m (.tail _ (.tail _ (.tail _ (.tail _ (.tail _ (.tail _ (.tail _ (.tail _ (.tail _ (.tail _ (.tail _ (.tail _ (.tail _ (.head _)))))))))))))))
    at_text := at_of (.cons g_InvalidKind (.cons g_InvalidNumber (.cons g_InvalidPixel .nil))) (fx_at m (.tail _ (.tail _ (.tail _ (.tail _ (.tail _ (.tail _ (.tail _ (.tail _ (.tail _ (.tail _ (.tail _ (.tail _ (.tail _ (.tail _ (.head _))))))))))))))))
    at_value := at_of (.cons g_InvalidKind (.cons g_InvalidNumber (.cons g_InvalidPixel .nil))) (fx_at m (.tail _ (.tail _ (.tail _ (.tail _ (.tail _ (.tail _ (.tail _ (.tail _ (.tail _ (.tail _ (.tail _ (.tail _ (.tail _ (.tail _ (.tail _ (.head _)))))))))))))))))
    ct := ct_of (.cons g_InvalidKind (.cons g_InvalidNumber (.cons g_InvalidPixel .nil))) (.cons g_Busy (.cons g_Closed (.cons g_InputError (.cons g_InvalidForm (.cons g_InvalidKind (.cons g_InvalidKinds (.cons g_InvalidLayers (.cons g_InvalidLine (.cons g_InvalidMode (.cons g_InvalidName (.cons g_InvalidNumber (.cons g_InvalidOption (.cons g_InvalidPath (.cons g_InvalidPixel (.cons g_InvalidRows (.cons g_InvalidShare (.cons g_InvalidSpot (.cons g_InvalidSpots (.cons g_InvalidStrokes (.cons g_InvalidTable (.cons g_InvalidText (.cons g_InvalidTree (.cons g_InvalidTrees (.cons g_LimitError (.cons g_MissingSpot (.cons g_NotALayer (.cons g_NotAPicture (.cons g_NotAStack (.cons g_NothingToUndo (.cons g_StateError (.cons g_TooMany (.cons g_UnknownPicture (.cons g_UsedOften (.cons g_WrongKind (.cons g_WrongSize .nil))))))))))))))))))))))))))))))))))) (fx_at m (.tail _ (.tail _ (.tail _ (.tail _ (.tail _ (.tail _ (.tail _ (.tail _ (.tail _ (.tail _ (.tail _ (.tail _ (.tail _ (.tail _ (.tail _ (.tail _ (.head _))))))))))))))))))
    mt_0 := mt_of3 (.cons g_InvalidKind (.cons g_InvalidNumber (.cons g_InvalidPixel .nil))) (fx_at m (.tail _ (.tail _ (.tail _ (.tail _ (.tail _ (.tail _ (.tail _ (.tail _ (.tail _ (.tail _ (.tail _ (.tail _ (.tail _ (.tail _ (.tail _ (.tail _ (.tail _ (.head _)))))))))))))))))))
    k_CLEAR := conB_ok X G (fx_at m (.tail _ (.tail _ (.tail _ (.tail _ (.tail _ (.tail _ (.tail _ (.tail _ (.tail _ (.tail _ (.tail _ (.tail _ (.tail _ (.tail _ (.tail _ (.tail _ (.tail _ (.tail _ (.head _))))))))))))))))))))
    k_KINDS := conB_ok X G (fx_at m (.tail _ (.tail _ (.tail _ (.tail _ (.tail _ (.tail _ (.tail _ (.tail _ (.tail _ (.tail _ (.tail _ (.tail _ (.tail _ (.tail _ (.tail _ (.tail _ (.tail _ (.tail _ (.tail _ (.head _)))))))))))))))))))))
    k_MAX_NODES := conB_ok X G (fx_at m (.tail _ (.tail _ (.tail _ (.tail _ (.tail _ (.tail _ (.tail _ (.tail _ (.tail _ (.tail _ (.tail _ (.tail _ (.tail _ (.tail _ (.tail _ (.tail _ (.tail _ (.tail _ (.tail _ (.tail _ (.head _))))))))))))))))))))))
    k_ONE := conB_ok X G (fx_at m (.tail _ (.tail _ (.tail _ (.tail _ (.tail _ (.tail _ (.tail _ (.tail _ (.tail _ (.tail _ (.tail _ (.tail _ (.tail _ (.tail _ (.tail _ (.tail _ (.tail _ (.tail _ (.tail _ (.tail _ (.tail _ (.head _)))))))))))))))))))))))
    k_WHITE := conB_ok X G (fx_at m (.tail _ (.tail _ (.tail _ (.tail _ (.tail _ (.tail _ (.tail _ (.tail _ (.tail _ (.tail _ (.tail _ (.tail _ (.tail _ (.tail _ (.tail _ (.tail _ (.tail _ (.tail _ (.tail _ (.tail _ (.tail _ (.tail _ (.head _))))))))))))))))))))))))
    k_ZERO := conB_ok X G (fx_at m (.tail _ (.tail _ (.tail _ (.tail _ (.tail _ (.tail _ (.tail _ (.tail _ (.tail _ (.tail _ (.tail _ (.tail _ (.tail _ (.tail _ (.tail _ (.tail _ (.tail _ (.tail _ (.tail _ (.tail _ (.tail _ (.tail _ (.tail _ (.head _)))))))))))))))))))))))))
    nd := of_decide_eq_true (fx_at m (.tail _ (.tail _ (.tail _ (.tail _ (.tail _ (.tail _ (.tail _ (.tail _ (.tail _ (.tail _ (.tail _ (.tail _ (.tail _ (.tail _ (.tail _ (.tail _ (.tail _ (.tail _ (.tail _ (.tail _ (.tail _ (.tail _ (.tail _ (.tail _ (.head _))))))))))))))))))))))))))
    ks := by have := fx_at m (.tail _ (.tail _ (.tail _ (.tail _ (.tail _ (.tail _ (.tail _ (.tail _ (.tail _ (.tail _ (.tail _ (.tail _ (.tail _ (.tail _ (.tail _ (.tail _ (.tail _ (.tail _ (.tail _ (.tail _ (.tail _ (.tail _ (.tail _ (.tail _ (.tail _ (.head _)))))))))))))))))))))))))); simpa using this }
end Zk37

/-! the pool: what is drawn. -/
namespace Zk37
open PySem PySem.Spec PyProof.Rows L2 SE
/-- a pool that was drawn from at most n times -/
def Pl (l : Nat) (n : Int) (μ : Mem) : Prop := ∃ a b c : Int, μ[l]? = some (.lst [.int a, .int b, .int c]) ∧ 0 ≤ a ∧ a < 2147483353 ∧ 0 ≤ b ∧ 0 ≤ c ∧ c ≤ n
theorem Pl.mono {l : Nat} {n m : Int} {μ : Mem} (h : Pl l n μ) (w : n ≤ m) : Pl l m μ := by
  obtain ⟨a, b, c, h1, h2, h3, h4, h5, h6⟩ := h
  exact ⟨a, b, c, h1, h2, h3, h4, h5, by omega⟩
theorem Pl.lt {l : Nat} {n : Int} {μ : Mem} (h : Pl l n μ) : l < μ.length := by
  obtain ⟨a, b, c, h1, _⟩ := h
  exact (List.getElem?_eq_some_iff.mp h1).1
theorem ws_sSubN {ρ : Ev} {μ : Mem} {mo mi mv : Ev → M D} {j : Nat} {N B C : Ev → Mem → Prop} {R : D → Mem → Prop} {E : Ex → Mem → Prop} : ws (sSubN mo mi mv j ρ μ) N R B C E = wr (mv ρ μ) (fun d μ1 => match d with
    | .tup [a, b] => wr (mo ρ μ1) (fun o μ2 => wr (mi ρ μ2) (fun i μ3 => ws (subR o i a (ρ.set j (some b)) μ3) N R B C E) E) E
    | _ => False) E := by
  unfold sSubN
  rw [ws_bindS]
  congr 1
  funext d μ1
  split
  · rw [ws_bindS]
    congr 1
    funext o μ2
    rw [ws_bindS]
  · rename_i hne
    first
      | rfl
      | (split
         · exact absurd rfl (hne _ _)
         · rfl)
theorem divmodM_i {i j : Int} {μ : Mem} (h0 : 0 < j) (h1 : j.natAbs < 2 ^ 8000) : divmodM [.int i, .int j] μ = .ok (.tup [.int (i / j), .int (i % j)]) μ := by
  have h : fdivOk j = true := by
    unfold fdivOk
    rw [decide_eq_true h0, decide_eq_true h1]
    rfl
  exact if_pos h
theorem take_ok {l : Nat} {n many : Int} {μ : Mem} (hs : Pl l n μ) (hn : n < 1000000000) (h0 : 0 < many) (h1 : many.natAbs < 2 ^ 8000) :
    wr (m__law_take [.loc l, .int many] μ) (fun d μ' => ∃ k, d = .int k ∧ 0 ≤ k ∧ k < many ∧ Pl l (n + 1) μ' ∧ Fr l μ μ') (fun _ _ => False) := by
  obtain ⟨a, b, c, hl, ha, ha2, hb, hc, hc2⟩ := hs
  have hll := (List.getElem?_eq_some_iff.mp hl).1
  unfold m__law_take b__law_take
  have i2 : ixM (.loc l) (.int 2) μ = .ok (.int c) μ := ixM_o hl (atI_of (n := 2) rfl rfl)
  sizeOf_list_dec
  rw [i2]
  sizeOf_list_dec
  rw [ws_subR hl (show ixN 3 2 = some 2 by rfl)]
  have hl1 : (μ.set l (.lst [.int a, .int b, .int (c + 1)]))[l]? = some (.lst [.int a, .int b, .int (c + 1)]) := by rw [List.getElem?_set]; simp [hll]
  show ws (t__law_take_4 _ (μ.set l (.lst [.int a, .int b, .int (c + 1)]))) _ _ _ _ _
  have f1 : Fr l μ (μ.set l (.lst [.int a, .int b, .int (c + 1)])) := Fr.set
  generalize μ.set l (.lst [.int a, .int b, .int (c + 1)]) = μ1 at hl1 f1
  have hl1l := (List.getElem?_eq_some_iff.mp hl1).1
  have j0 : ixM (.loc l) (.int 0) μ1 = .ok (.int a) μ1 := ixM_o hl1 atI_0
  have j2 : ixM (.loc l) (.int 2) μ1 = .ok (.int (c + 1)) μ1 := ixM_o hl1 (atI_of (n := 2) rfl rfl)
  unfold t__law_take_4
  sizeOf_list_dec
  rw [j0]
  sizeOf_list_dec
  unfold t__law_take_3
  sizeOf_list_dec
  rw [modM_i (j := 43037) (by omega)]
  sizeOf_list_dec
  have r0 := Int.emod_nonneg a (show (43037 : Int) ≠ 0 by omega)
  have r1 := Int.emod_lt_of_pos a (show (0 : Int) < 43037 by omega)
  rw [mulM_i (i := a) (mulOk_le (B := 20000000000) (by omega) (by omega) (by decide +kernel))]
  sizeOf_list_dec
  rw [j2]
  sizeOf_list_dec
  rw [mulM_i (i := 60041) (j := c + 1) (mulOk_le (B := 2000000000) (by omega) (by omega) (by decide +kernel))]
  sizeOf_list_dec
  rw [modM_i (j := 2147483353) (by omega)]
  have p0 := Int.emod_nonneg (a * (a % 43037 + 26017) + 60041 * (c + 1) + 29) (show (2147483353 : Int) ≠ 0 by omega)
  have p1 := Int.emod_lt_of_pos (a * (a % 43037 + 26017) + 60041 * (c + 1) + 29) (show (0 : Int) < 2147483353 by omega)
  generalize (a * (a % 43037 + 26017) + 60041 * (c + 1) + 29) % 2147483353 = t at p0 p1 ⊢
  sizeOf_list_dec
  rw [ws_subR hl1 (show ixN 3 0 = some 0 by rfl)]
  have hl2 : (μ1.set l (.lst [.int t, .int b, .int (c + 1)]))[l]? = some (.lst [.int t, .int b, .int (c + 1)]) := by rw [List.getElem?_set]; simp [hl1l]
  show ws (t__law_take_2 _ (μ1.set l (.lst [.int t, .int b, .int (c + 1)]))) _ _ _ _ _
  have f2 : Fr l μ (μ1.set l (.lst [.int t, .int b, .int (c + 1)])) := f1.trans Fr.set
  generalize μ1.set l (.lst [.int t, .int b, .int (c + 1)]) = μ2 at hl2 f2
  have hl2l := (List.getElem?_eq_some_iff.mp hl2).1
  have k0 : ixM (.loc l) (.int 0) μ2 = .ok (.int t) μ2 := ixM_o hl2 atI_0
  have k1 : ixM (.loc l) (.int 1) μ2 = .ok (.int b) μ2 := ixM_o hl2 (atI_of (n := 1) rfl rfl)
  unfold t__law_take_2
  sizeOf_list_dec
  simp only [k1, wr_ok, cmpM_i, wr_isBl]
  sizeOf_list_dec
  by_cases h : 0 < b
  · simp only [decide_eq_true h, if_true]
    sizeOf_list_dec
    rw [ws_sSubN]
    sizeOf_list_dec
    simp only [k1, wr_ok]
    sizeOf_list_dec
    rw [divmodM_i h0 h1]
    sizeOf_list_dec
    rw [ws_subR hl2 (show ixN 3 1 = some 1 by rfl)]
    unfold t__law_take_0
    sizeOf_list_dec
    exact ⟨_, rfl, Int.emod_nonneg _ (by omega), Int.emod_lt_of_pos _ h0, ⟨t, b / many, c + 1, by rw [List.getElem?_set]; simp [hl2l], p0, p1, Int.ediv_nonneg hb (by omega), by omega, by omega⟩, f2.trans Fr.set⟩
  · simp only [decide_eq_false h, Bool.false_eq_true, if_false]
    unfold t__law_take_1
    sizeOf_list_dec
    simp only [k0, wr_ok]
    sizeOf_list_dec
    rw [fdivM_i (j := 32) (by omega) (Nat.lt_of_lt_of_le (show (32 : Int).natAbs < 2 ^ 13 by decide) (Nat.pow_le_pow_right (by omega) (by omega)))]
    sizeOf_list_dec
    rw [modM_i h0]
    sizeOf_list_dec
    exact ⟨_, rfl, Int.emod_nonneg _ (by omega), Int.emod_lt_of_pos _ h0, ⟨t, b, c + 1, hl2, p0, p1, hb, by omega, by omega⟩, f2⟩
section
variable {μ : Mem} {Q : D → Mem → Prop} {E : Ex → Mem → Prop}
theorem take_k {l : Nat} {n many : Int} (hs : Pl l n μ) (hn : n < 1000000000) (h0 : 0 < many) (h1 : many.natAbs ≤ 10 ^ 60) (h : ∀ k μ', 0 ≤ k → k < many → Pl l (n + 1) μ' → Fr l μ μ' → Q (.int k) μ') :
    wr (m__law_take [.loc l, .int many] μ) Q E := by
  refine wr_mono (take_ok hs hn h0 (lt_big h1 (by decide +kernel))) ?_ (fun _ _ z => z.elim)
  rintro _ μ3 ⟨k, rfl, k0, k1, s3, f3⟩
  exact h k μ3 k0 k1 s3 f3
theorem pick_k {l : Nat} {n : Int} {xs : List D} (hs : Pl l n μ) (hn : n < 1000000000) (h0 : 0 < xs.length) (h1 : xs.length ≤ 100000) (h : ∀ d ∈ xs, ∀ μ', Pl l (n + 1) μ' → Fr l μ μ' → Q d μ') :
    wr (m__law_pick [.loc l, .lst xs] μ) Q E := by
  unfold m__law_pick b__law_pick
  sizeOf_list_dec
  refine take_k hs hn (by omega) (by omega) fun k μ' k0 k1 s f => ?_
  refine wr_ix k0 k1 fun e he => ?_
  exact h e he μ' s f
theorem pool_k {z : Int} (h : ∀ μ', Pl μ.length 0 μ' → μ'.length = μ.length + 1 → (∀ m, m < μ.length → μ'[m]? = μ[m]?) → Q (.loc μ.length) μ') : wr (m__law_pool [.int z] μ) Q E := by
  have fin : ∀ b : Int, 0 ≤ b → Q (.loc μ.length) (μ ++ [.lst [.int (z % 2147483353), .int b, .int 0]]) := fun b hb =>
    h _ ⟨z % 2147483353, b, 0, by simp, Int.emod_nonneg _ (by omega), Int.emod_lt_of_pos _ (by omega), hb, by omega, by omega⟩ (by simp) (fun m hm => by rw [List.getElem?_append_left hm])
  unfold m__law_pool b__law_pool
  sizeOf_list_dec
  by_cases c : z < 0
  · rw [decide_eq_true c]
    sizeOf_list_dec
    unfold t__law_pool_0
    sizeOf_list_dec
    rw [modM_i (by omega)]
    sizeOf_list_dec
    simp only [if_pos c]
    refine fin _ ?_; omega
  · rw [decide_eq_false c]
    sizeOf_list_dec
    rw [powM_i ⟨by omega, by omega, by decide +kernel⟩]
    sizeOf_list_dec
    by_cases c2 : z ≥ 10 ^ (Int.toNat 18)
    · rw [decide_eq_true c2]
      sizeOf_list_dec
      unfold t__law_pool_0
      sizeOf_list_dec
      rw [modM_i (by omega)]
      sizeOf_list_dec
      simp only [if_neg c]
      refine fin _ ?_; omega
    · rw [decide_eq_false c2]
      sizeOf_list_dec
      unfold t__law_pool_0
      sizeOf_list_dec
      rw [modM_i (by omega)]
      sizeOf_list_dec
      refine fin _ ?_; omega
theorem cut_sub {xs : List D} {lo hi : Option Int} : ∀ d ∈ SE.cutD xs lo hi, d ∈ xs := by
  intro d hd
  unfold SE.cutD at hd
  exact List.mem_of_mem_drop (List.mem_of_mem_take hd)
theorem cell_k {ns : List Int} {k : Int} (h0 : 0 ≤ k) (h1 : k ≤ 1000) (h : ∀ z, Q (.int z) μ) : wr (m__law_cell [.ro (ns.map .int), .int k] μ) Q E := by
  have hk : k = (k.toNat : Int) := by omega
  unfold m__law_cell b__law_cell
  sizeOf_list_dec
  by_cases c : k < ((ns.map D.int).length : Int)
  · rw [decide_eq_true c]
    sizeOf_list_dec
    have hn : k.toNat < (ns.map D.int).length := by omega
    have hz : (ns.map D.int)[k.toNat]? = some (.int (ns[k.toNat]'(by simpa using hn))) := by simp at hn ⊢
    rw [ixM_r (atI_of hk hz)]
    sizeOf_list_dec
    exact h _
  · rw [decide_eq_false c]
    sizeOf_list_dec
    unfold t__law_cell_2
    sizeOf_list_dec
    rw [mulM_i (i := k) (j := k) (mulOk_le (B := 20000000) (by omega) (by omega) (by decide +kernel))]
    sizeOf_list_dec
    rw [mulM_i (i := 17) (j := k) (mulOk_le (B := 20000000) (by omega) (by omega) (by decide +kernel))]
    sizeOf_list_dec
    have kk : 0 ≤ k * k ∧ k * k ≤ 1000000 := ⟨Int.mul_nonneg h0 h0, by have := Int.mul_le_mul h1 h1 h0 (by omega); omega⟩
    generalize k * k = kq at kk
    rw [mulM_i (i := 51043) (mulOk_le (B := 20000000) (by omega) (by omega) (by decide +kernel))]
    sizeOf_list_dec
    rw [modM_i (by omega)]
    sizeOf_list_dec
    have p0 := Int.emod_nonneg (51043 * (kq + 17 * k + 5)) (show (2147483353 : Int) ≠ 0 by omega)
    have p1 := Int.emod_lt_of_pos (51043 * (kq + 17 * k + 5)) (show (0 : Int) < 2147483353 by omega)
    generalize (51043 * (kq + 17 * k + 5)) % 2147483353 = t at p0 p1 ⊢
    unfold t__law_cell_1
    sizeOf_list_dec
    show wr (slM (.ro (ns.map .int)) none (some 3) μ) _ _
    rw [show slM (.ro (ns.map .int)) none (some 3) μ = .ok (.lst (SE.cutD (ns.map .int) none (some 3))) μ from rfl]
    sizeOf_list_dec
    refine ws_for (fun _ ρ μ' => μ' = μ ∧ ∃ t a, 0 ≤ t ∧ t < 2147483353 ∧ ρ = [some (.ro (ns.map .int)), some (.int k), some (.int t), a]) ⟨rfl, t, _, p0, p1, rfl⟩ ?_ ?_
    · rintro j x ρ μ' hx ⟨rfl, t, a, t0, t1, rfl⟩
      have hm := cut_sub _ (List.mem_of_getElem? hx)
      obtain ⟨z, _, rfl⟩ := List.mem_map.mp hm
      sizeOf_list_dec
      rw [mulM_i (i := t) (j := 40063) (mulOk_le (B := 3000000000) (by omega) (by omega) (by decide +kernel))]
      sizeOf_list_dec
      rw [modM_i (by omega)]
      sizeOf_list_dec
      refine ⟨_, _, ?_, ?_, rfl⟩
      · exact Int.emod_nonneg _ (by omega)
      · exact Int.emod_lt_of_pos _ (by omega)
    · rintro ρ μ' ⟨rfl, t, a, t0, t1, rfl⟩
      unfold t__law_cell_0
      sizeOf_list_dec
      exact h _
end
end Zk37

/-! numbers, pixels, kinds. -/
namespace Zk37
open PySem PySem.Spec PyProof.Rows L2 SE
section
variable {μ : Mem}
theorem integer_v0 {d : D} (h : plD d = true) : m_is_integer [d, .non, .non] μ = .ok (.bl (isI d)) μ := by
  refine wr_eq.mp ?_
  unfold m_is_integer b_is_integer t_is_integer_0
  array_mem_dec
  simp only [isi_int h, isi_bool h, wr_ok]
  array_mem_dec
  cases d <;> simp [isI, isB]
theorem integer_v1 {d : D} (h : plD d = true) : m_is_integer [d, .int 1, .non] μ = .ok (.bl (match d with | .int i => decide (1 ≤ i) | _ => false)) μ := by
  refine wr_eq.mp ?_
  unfold m_is_integer b_is_integer t_is_integer_0
  array_mem_dec
  simp only [isi_int h, isi_bool h, wr_ok]
  array_mem_dec
  cases d with
  | int i =>
    array_mem_dec
    simp only [isI, isB]
    by_cases z : 1 ≤ i
    · simp [z]
    · simp [z]
  | _ => simp [isI, isB]
theorem gcd_v {a b : Int} : m_common_divisor [.int a, .int b] μ = .ok (.int (Int.gcd a b)) μ := by
  refine wr_eq.mp ?_
  unfold m_common_divisor b_common_divisor t_common_divisor_1 t_common_divisor_0
  array_mem_dec
  refine ws_while (fun ρ μ' => μ' = μ ∧ ∃ x y : Int, ρ = [some (.int x), some (.int y)] ∧ 0 ≤ x ∧ 0 ≤ y ∧ Int.gcd x y = Int.gcd a b) (fun ρ _ => match ρ with | [_, some (.int y)] => y.toNat | _ => 0) ?_ ?_
  · refine ⟨rfl, _, _, rfl, by split <;> omega, by split <;> omega, ?_⟩
    rw [abs_gcd, Int.gcd_comm, abs_gcd, Int.gcd_comm]
  · rintro ρ μ' ⟨rfl, x, y, rfl, hx, hy, hg⟩
    array_mem_dec
    by_cases z : 0 < y
    · simp only [decide_eq_true z, if_true, modM_i z]
      array_mem_dec
      refine ⟨⟨_, _, rfl, hy, Int.emod_nonneg _ (by omega), by rw [gcd_step z, hg]⟩, ?_⟩
      have := Int.emod_lt_of_pos x z
      have := Int.emod_nonneg x (show y ≠ 0 by omega)
      omega
    · simp only [decide_eq_false z, Bool.false_eq_true, if_false]
      array_mem_dec
      have : y = 0 := by omega
      subst this
      rw [← hg, gcd_end hx]
theorem low_v {a b : Int} (hb : 1 ≤ b) (hb2 : b.natAbs < 2 ^ 8000) : m__law_low [.int a, .int b] μ = .ok (.tup [.int (a / Int.gcd a b), .int (b / Int.gcd a b)]) μ := by
  refine wr_eq.mp ?_
  unfold m__law_low b__law_low t__law_low_1 t__law_low_0
  array_mem_dec
  refine ws_while (fun ρ μ' => μ' = μ ∧ ∃ x y : Int, ρ = [some (.int a), some (.int b), some (.int x), some (.int y)] ∧ 0 ≤ x ∧ 0 ≤ y ∧ Int.gcd x y = Int.gcd a b) (fun ρ _ => match ρ with | [_, _, _, some (.int y)] => y.toNat | _ => 0) ?_ ?_
  · refine ⟨rfl, _, _, rfl, by split <;> omega, by omega, ?_⟩
    rw [abs_gcd]
  · rintro ρ μ' ⟨rfl, x, y, rfl, hx, hy, hg⟩
    array_mem_dec
    by_cases z : 0 < y
    · simp only [decide_eq_true z, if_true, modM_i z]
      array_mem_dec
      refine ⟨⟨_, _, rfl, hy, Int.emod_nonneg _ (by omega), by rw [gcd_step z, hg]⟩, ?_⟩
      have := Int.emod_lt_of_pos x z
      have := Int.emod_nonneg x (show y ≠ 0 by omega)
      omega
    · simp only [decide_eq_false z, Bool.false_eq_true, if_false]
      have : y = 0 := by omega
      subst this
      have e : x = Int.gcd a b := by rw [← hg, gcd_end hx]
      have g := gcd_le (a := a) hb
      have k : x.natAbs < 2 ^ 8000 := Nat.lt_of_le_of_lt (by omega) hb2
      simp only [fdivM_i (show 0 < x by omega) k]
      array_mem_dec
      rw [e]
theorem ix0 {x : D} {xs : List D} {μ : Mem} : ixM (.tup (x :: xs)) (.int 0) μ = .ok x μ := ixM_t atI_0
theorem ix1 {x y : D} {xs : List D} {μ : Mem} : ixM (.tup (x :: y :: xs)) (.int 1) μ = .ok y μ := ixM_t (atI_of (n := 1) rfl rfl)
theorem ratio_v {d : D} (h : smD d = true) : m_is_ratio [d] μ = .ok (.bl (rat d)) μ := by
  refine wr_eq.mp ?_
  unfold m_is_ratio b_is_ratio t_is_ratio_1 t_is_ratio_0
  array_mem_dec
  simp only [isi_tuple (smD_pl h), wr_ok]
  array_mem_dec
  cases d with
  | tup xs =>
    simp only [isT]
    array_mem_dec
    match xs, h with
    | [], _ => simp [rat]
    | [_], _ => simp [rat]
    | _ :: _ :: _ :: _, _ =>
      simp [rat]
      intro hz
      omega
    | [x, y], h =>
      obtain ⟨hx, hy⟩ := sm_2 h
      array_mem_dec
      simp only [ix0, ix1, wr_ok, integer_v0 (smD_pl hx), integer_v1 (smD_pl hy)]
      array_mem_dec
      cases x <;> cases y <;> simp [isI, rat]
      rename_i a b
      by_cases z : b < 1
      · simp [z]
        omega
      · have z' : 1 ≤ b := by omega
        simp only [z, if_false]
        rw [gcd_v]
        array_mem_dec
        simp [z']
        norm_cast
  | _ => simp [isT, rat]
theorem share_v {d : D} (h : smD d = true) : m_is_share [d] μ = .ok (.bl (shr d)) μ := by
  refine wr_eq.mp ?_
  unfold m_is_share b_is_share
  array_mem_dec
  rw [ratio_v h]
  array_mem_dec
  cases q : rat d with
  | false =>
    simp only [Bool.false_eq_true, if_false]
    unfold rat at q
    unfold shr
    split at q
    · rw [q]; rfl
    · rfl
  | true =>
    simp only [if_true]
    unfold rat at q
    split at q
    · rename_i a b
      simp only [ix0, ix1, wr_ok]
      array_mem_dec
      simp only [shr, q, Bool.true_and]
      by_cases z : 0 ≤ a
      · simp [z]
      · simp [z]
    · cases q
theorem mul_b {a b : Int} (ha : a.natAbs ≤ 10 ^ 40) (hb : b.natAbs ≤ 10 ^ 40) : mulOk a b = true := mulOk_le (B := 10 ^ 40) ha hb (by decide +kernel)
theorem two2 : (!decide (((2 : Nat) : Int) = 2)) = false := by decide
theorem less_v {a b c e : Int} (ha : a.natAbs ≤ 10 ^ 40) (hb : b.natAbs ≤ 10 ^ 40) (hc : c.natAbs ≤ 10 ^ 40) (he : e.natAbs ≤ 10 ^ 40) : m_is_less [.tup [.int a, .int b], .tup [.int c, .int e]] μ = .ok (.bl (decide (a * e < c * b))) μ := by
  refine wr_eq.mp ?_
  unfold m_is_less b_is_less
  array_mem_dec
  have e1 := mul_b ha he
  have e2 := mul_b hc hb
  simp only [ix0, ix1, wr_ok, mulM_i e1, mulM_i e2]
  array_mem_dec
theorem pixel_v {d : D} (h : smD d = true) : m_is_pixel [d] μ = .ok (.bl (pix d)) μ := by
  refine wr_eq.mp ?_
  unfold m_is_pixel b_is_pixel t_is_pixel_0
  array_mem_dec
  simp only [isi_tuple (smD_pl h), wr_ok]
  array_mem_dec
  cases d with
  | tup xs =>
    simp only [isT]
    array_mem_dec
    match xs, h with
    | [], _ => simp [pix]
    | [_], _ => simp [pix]
    | _ :: _ :: _ :: _, _ =>
      simp [pix]
      intro hz
      omega
    | [x, y], h =>
      obtain ⟨hx, hy⟩ := sm_2 h
      array_mem_dec
      simp only [ix0, ix1, wr_ok, share_v hx, share_v hy]
      array_mem_dec
      cases q1 : shr x with
      | false => simp [pix, q1]
      | true =>
        cases q2 : shr y with
        | false => simp [pix, q1, q2]
        | true =>
          obtain ⟨a, b, rfl, _⟩ := shr_is q1
          obtain ⟨c, e, rfl, _⟩ := shr_is q2
          have ha := sm_int (sm_2 hx).1
          have hb := sm_int (sm_2 hx).2
          have hc := sm_int (sm_2 hy).1
          have he := sm_int (sm_2 hy).2
          simp [pix, q1, q2]
          rw [less_v hc he ha hb]
          array_mem_dec
          simp only [leP]
          by_cases z : c * b < a * e
          · have : ¬ a * e ≤ c * b := by omega
            simp [z]
          · have : a * e ≤ c * b := by omega
            simp [z, this]
  | _ => simp [isT, pix]
end
theorem s_free_solid : decide ((("free" : Str)) = "solid") = false := by decide +kernel
theorem s_free_cutout : decide ((("free" : Str)) = "cutout") = false := by decide +kernel
theorem s_free_white : decide ((("free" : Str)) = "white") = false := by decide +kernel
theorem s_free_stencil : decide ((("free" : Str)) = "stencil") = false := by decide +kernel
theorem s_solid_free : decide ((("solid" : Str)) = "free") = false := by decide +kernel
theorem s_solid_cutout : decide ((("solid" : Str)) = "cutout") = false := by decide +kernel
theorem s_solid_white : decide ((("solid" : Str)) = "white") = false := by decide +kernel
theorem s_solid_stencil : decide ((("solid" : Str)) = "stencil") = false := by decide +kernel
theorem s_cutout_free : decide ((("cutout" : Str)) = "free") = false := by decide +kernel
theorem s_cutout_solid : decide ((("cutout" : Str)) = "solid") = false := by decide +kernel
theorem s_cutout_white : decide ((("cutout" : Str)) = "white") = false := by decide +kernel
theorem s_cutout_stencil : decide ((("cutout" : Str)) = "stencil") = false := by decide +kernel
theorem s_white_free : decide ((("white" : Str)) = "free") = false := by decide +kernel
theorem s_white_solid : decide ((("white" : Str)) = "solid") = false := by decide +kernel
theorem s_white_cutout : decide ((("white" : Str)) = "cutout") = false := by decide +kernel
theorem s_white_stencil : decide ((("white" : Str)) = "stencil") = false := by decide +kernel
theorem s_stencil_free : decide ((("stencil" : Str)) = "free") = false := by decide +kernel
theorem s_stencil_solid : decide ((("stencil" : Str)) = "solid") = false := by decide +kernel
theorem s_stencil_cutout : decide ((("stencil" : Str)) = "cutout") = false := by decide +kernel
theorem s_stencil_white : decide ((("stencil" : Str)) = "white") = false := by decide +kernel
section
variable {μ : Mem}
theorem wr_exq {α : Type} {r : Res α} {e : Ex} (h : wr r (fun _ _ => False) (fun x μ' => x = e ∧ μ' = μ)) : r = .exc e μ := by
  cases r with
  | ok x μ' => exact h.elim
  | exc x μ' => obtain ⟨rfl, rfl⟩ := h; rfl
  | bad => exact h.elim
def kinds5 : List D := [.str "free", .str "solid", .str "cutout", .str "white", .str "stencil"]
def kindB : D → Bool
  | .str x => decide (x = "free") || (decide (x = "solid") || (decide (x = "cutout") || (decide (x = "white") || decide (x = "stencil"))))
  | _ => false
theorem kind_v {k : D} (h : k ∈ kinds5) : m_is_kind [k] μ = .ok (.bl (kindB k)) μ := by
  simp only [kinds5, List.mem_cons, List.not_mem_nil, or_false] at h
  rcases h with rfl | rfl | rfl | rfl | rfl <;> kernel_rfl
theorem ckp_ok {d : D} (h : smD d = true) (q : pix d = true) : m_check_pixel [d] μ = .ok .non μ := by
  refine wr_eq.mp ?_
  unfold m_check_pixel b_check_pixel
  array_mem_dec
  rw [pixel_v h, q]
  array_mem_dec
theorem ckk_ok {k : D} (h : k ∈ kinds5) (q : kindB k = true) : m_check_kind [k] μ = .ok .non μ := by
  refine wr_eq.mp ?_
  unfold m_check_kind b_check_kind
  array_mem_dec
  rw [kind_v h, q]
  array_mem_dec
theorem ckk_no {k : D} (h : k ∈ kinds5) (q : kindB k = false) : m_check_kind [k] μ = .exc ⟨"InvalidKind", [("kind", k)]⟩ μ := by
  refine wr_exq ?_
  unfold m_check_kind b_check_kind
  array_mem_dec
  rw [kind_v h, q]
  array_mem_dec
  simp only [ws_sRaise]
  array_mem_dec
theorem hk_ok {d k : D} (h : smD d = true) (q : pix d = true) (hk : k ∈ kinds5) (qk : kindB k = true) : m_has_kind [d, k] μ = m_is_let [d, k] μ := by
  have key : ∀ r : Res D, m_is_let [d, k] μ = r → m_has_kind [d, k] μ = r := by
    intro r hr
    unfold m_has_kind b_has_kind t_has_kind_1 t_has_kind_0 callM
    simp only [sSeq_ap, sDrop_ap, sRet_ap, eCall_ap, lCons_ap, lNil_ap, eVar_ap, bindS, List.map_cons, List.map_nil, List.cons_append, List.nil_append, List.length_cons, List.length_nil, Nat.sub_self, List.replicate, List.getElem?_cons_zero, List.getElem?_cons_succ, Nat.reduceAdd, Nat.zero_add, ckp_ok h q, ckk_ok hk qk, hr]
    cases r <;> rfl
  exact (key _ rfl)
def one (c e : Int) : Bool := decide (c = 1) && decide (e = 1)
def zer (c e : Int) : Bool := decide (c = 0) && decide (e = 1)
def same (a b c e : Int) : Bool := decide (a = c) && decide (b = e)
def letB (k : Str) (a b c e : Int) : Bool :=
  if decide (k = "solid") = true then one c e else if decide (k = "cutout") = true then one c e || zer c e else if decide (k = "white") = true then same a b c e else decide (k = "free") || (same a b c e && (one c e || zer c e))
theorem in_2 {c e : Int} : inM (.tup [.int c, .int e]) (.tup [.tup [.int 0, .int 1], .tup [.int 1, .int 1]]) μ = .ok (.bl ((decide (0 = c) && (decide (1 = e) && true)) || ((decide (1 = c) && (decide (1 = e) && true)) || false))) μ := by rfl
theorem in_4 {a b c e : Int} : inM (.tup [.tup [.int a, .int b], .tup [.int c, .int e]]) (.tup [.tup [.tup [.int 0, .int 1], .tup [.int 0, .int 1]], .tup [.tup [.int 1, .int 1], .tup [.int 1, .int 1]]]) μ
    = .ok (.bl (((decide (0 = a) && (decide (1 = b) && true)) && ((decide (0 = c) && (decide (1 = e) && true)) && true)) || ((((decide (1 = a) && (decide (1 = b) && true)) && ((decide (1 = c) && (decide (1 = e) && true)) && true))) || false))) μ := by rfl
theorem let_v {k : Str} {a b c e : Int} (hk : D.str k ∈ kinds5) : m_is_let [.tup [.tup [.int a, .int b], .tup [.int c, .int e]], .str k] μ = .ok (.bl (letB k a b c e)) μ := by
  refine wr_eq.mp ?_
  unfold m_is_let b_is_let t_is_let_1 t_is_let_0
  array_get_dec
  simp only [gT, gsCons, gsNil, gN, List.length_cons, List.length_nil, Nat.reduceAdd, if_true]
  array_get_dec
  simp only [kinds5, List.mem_cons, List.not_mem_nil, or_false, D.str.injEq] at hk
  unfold c_ONE c_ZERO c_CLEAR c_WHITE letB one zer same
  rcases hk with rfl | rfl | rfl | rfl | rfl
  · simp only [s_free_solid, s_free_cutout, s_free_white, s_free_stencil, s_solid_free, s_solid_cutout, s_solid_white, s_solid_stencil, s_cutout_free, s_cutout_solid, s_cutout_white, s_cutout_stencil, s_white_free, s_white_solid, s_white_cutout, s_white_stencil, s_stencil_free, s_stencil_solid, s_stencil_cutout, s_stencil_white, eq_self, decide_true, if_true, Bool.false_eq_true, if_false]
    simp
  · simp only [s_free_solid, s_free_cutout, s_free_white, s_free_stencil, s_solid_free, s_solid_cutout, s_solid_white, s_solid_stencil, s_cutout_free, s_cutout_solid, s_cutout_white, s_cutout_stencil, s_white_free, s_white_solid, s_white_cutout, s_white_stencil, s_stencil_free, s_stencil_solid, s_stencil_cutout, s_stencil_white, eq_self, decide_true, if_true, Bool.false_eq_true, if_false, eqM_2]
    array_get_dec
  · simp only [s_free_solid, s_free_cutout, s_free_white, s_free_stencil, s_solid_free, s_solid_cutout, s_solid_white, s_solid_stencil, s_cutout_free, s_cutout_solid, s_cutout_white, s_cutout_stencil, s_white_free, s_white_solid, s_white_cutout, s_white_stencil, s_stencil_free, s_stencil_solid, s_stencil_cutout, s_stencil_white, eq_self, decide_true, if_true, Bool.false_eq_true, if_false, in_2]
    array_get_dec
    rw [D.bl.injEq, Bool.eq_iff_iff]
    simp
    omega
  · simp only [s_free_solid, s_free_cutout, s_free_white, s_free_stencil, s_solid_free, s_solid_cutout, s_solid_white, s_solid_stencil, s_cutout_free, s_cutout_solid, s_cutout_white, s_cutout_stencil, s_white_free, s_white_solid, s_white_cutout, s_white_stencil, s_stencil_free, s_stencil_solid, s_stencil_cutout, s_stencil_white, eq_self, decide_true, if_true, Bool.false_eq_true, if_false, eqM_2]
    array_get_dec
  · simp only [s_free_solid, s_free_cutout, s_free_white, s_free_stencil, s_solid_free, s_solid_cutout, s_solid_white, s_solid_stencil, s_cutout_free, s_cutout_solid, s_cutout_white, s_cutout_stencil, s_white_free, s_white_solid, s_white_cutout, s_white_stencil, s_stencil_free, s_stencil_solid, s_stencil_cutout, s_stencil_white, eq_self, decide_true, if_true, Bool.false_eq_true, if_false, in_4]
    array_get_dec
    rw [D.bl.injEq, Bool.eq_iff_iff]
    simp
    omega
end
end Zk37

/-! the test pixels of a kind. -/
namespace Zk37
open PySem PySem.Spec PyProof.Rows L2 SE
section
variable {i j : Nat} {me : Ev → M D} {mi : Ev → M (List D)} {ρ : Ev} {μ : Mem}
theorem lc2I_map {k : List D → M D} {g : D → D} : ∀ {ds acc : List D} {μ : Mem}, (∀ d ∈ ds, ∀ μ, me ((ρ.set j none).set j (some d)) μ = .ok (g d) μ) → acc.length + ds.length ≤ 100000 → lc2I j bYes me ρ k ds acc μ = k (acc ++ ds.map g) μ
  | [], acc, μ, _, _ => by
    show k acc μ = _
    rw [List.map_nil, List.append_nil]
  | d :: ds, acc, μ, h, hl => by
    have e1 := h d List.mem_cons_self μ
    simp only [List.length_cons] at hl
    show M.bind (noE (bYes _)) _ μ = _
    unfold M.bind noE
    dsimp only [bYes, M.pure]
    rw [if_pos rfl]
    rw [e1]
    dsimp only
    rw [if_pos (by omega), lc2I_map (g := g) (fun x hx => h x (List.mem_cons_of_mem _ hx)) (by simp; omega)]
    simp
theorem lc2O_map {xs : D → List D} {g : D → D → D} : ∀ {ds acc : List D} {μ : Mem}, (∀ d ∈ ds, ∀ μ, mi (((ρ.set j none).set i none).set i (some d)) μ = .ok (xs d) μ) →
    (∀ d ∈ ds, ∀ x ∈ xs d, ∀ μ, me ((((((ρ.set j none).set i none).set i (some d))).set j none).set j (some x)) μ = .ok (g d x) μ) → acc.length + (ds.flatMap fun d => (xs d).map (g d)).length ≤ 100000 →
    lc2O i j bYes mi bYes me ρ ds acc μ = .ok (.lst (acc ++ ds.flatMap fun d => (xs d).map (g d))) μ
  | [], acc, μ, _, _, _ => by
    show Res.ok (D.lst acc) μ = _
    rw [List.flatMap_nil, List.append_nil]
  | d :: ds, acc, μ, h1, h2, hl => by
    have e1 := h1 d List.mem_cons_self μ
    rw [List.flatMap_cons, List.length_append, List.length_map] at hl
    show M.bind (noE (bYes _)) _ μ = _
    unfold M.bind noE
    dsimp only [bYes, M.pure]
    rw [if_pos rfl]
    rw [e1]
    dsimp only
    rw [lc2I_map (g := g d) (fun x hx => h2 d List.mem_cons_self x hx) (by omega), lc2O_map (xs := xs) (g := g) (fun x hx => h1 x (List.mem_cons_of_mem _ hx)) (fun x hx => h2 x (List.mem_cons_of_mem _ hx)) (by simp only [List.length_append, List.length_map]; omega)]
    simp
theorem wr_eLc2 {mi0 : Ev → M (List D)} {mt mt1 : Ev → M Bool} {P : D → Mem → Prop} {E : Ex → Mem → Prop} : wr (eLc2 i j mi0 mt mi mt1 me ρ μ) P E = wr (mi0 ρ μ) (fun ds μ1 => wr (lc2O i j mt mi mt1 me ρ ds [] μ1) P E) E := wr_bnd
end
/-- the share k of n -/
def lw (k n : Nat) : D := .tup [.int ((k : Int) / Int.gcd k n), .int ((n : Int) / Int.gcd k n)]
def px (n : Nat) (p : Nat × Nat) : D := .tup [lw p.1 n, lw p.2 n]
def kinds : List Str := ["free", "solid", "cutout", "white", "stencil"]
/-- light and cover of the tests, in order -/
def ixs (kd : Str) (n : Nat) : List (Nat × Nat) :=
  if kd = "free" then (List.range (n + 1)).flatMap fun c => (List.range (c + 1)).map fun l => (l, c)
  else if kd = "solid" then (List.range (n + 1)).map fun l => (l, n)
  else if kd = "cutout" then (0, 0) :: (List.range (n + 1)).map fun l => (l, n)
  else if kd = "white" then (List.range (n + 1)).map fun l => (l, l)
  else [(0, 0), (n, n)]
theorem ixs_free {n : Nat} : ixs "free" n = (List.range (n + 1)).flatMap fun c => (List.range (c + 1)).map fun l => (l, c) := if_pos rfl
theorem ixs_solid {n : Nat} : ixs "solid" n = (List.range (n + 1)).map fun l => (l, n) := by
  unfold ixs
  rw [if_neg (by decide +kernel), if_pos rfl]
theorem ixs_cutout {n : Nat} : ixs "cutout" n = (0, 0) :: (List.range (n + 1)).map fun l => (l, n) := by
  unfold ixs
  rw [if_neg (by decide +kernel), if_neg (by decide +kernel), if_pos rfl]
theorem ixs_white {n : Nat} : ixs "white" n = (List.range (n + 1)).map fun l => (l, l) := by
  unfold ixs
  rw [if_neg (by decide +kernel), if_neg (by decide +kernel), if_neg (by decide +kernel), if_pos rfl]
theorem ixs_stencil {n : Nat} : ixs "stencil" n = [(0, 0), (n, n)] := by
  unfold ixs
  rw [if_neg (by decide +kernel), if_neg (by decide +kernel), if_neg (by decide +kernel), if_neg (by decide +kernel)]
def due (kd : Str) (n : Nat) : List D := (ixs kd n).map (px n)
theorem lw_0 {n : Nat} (h : 1 ≤ n) : lw 0 n = .tup [.int 0, .int 1] := by
  unfold lw
  have : (n : Int) / n = 1 := Int.ediv_self (by omega)
  simp [this]
theorem lw_n {n : Nat} (h : 1 ≤ n) : lw n n = .tup [.int 1, .int 1] := by
  unfold lw
  have : (n : Int) / n = 1 := Int.ediv_self (by omega)
  simp [this]
def gl (n : Nat) : D → D
  | .int k => .tup [.int (k / Int.gcd k n), .int ((n : Int) / Int.gcd k n)]
  | d => d
theorem rng_map {m : Nat} (g : D → D) : (rngL 0 m).map g = (List.range m).map fun k : Nat => g (.int (k : Int)) := by
  unfold rngL
  rw [List.map_map]
  refine List.map_congr_left fun k _ => ?_
  simp
theorem parts_is {n : Nat} : (rngL 0 (n + 1)).map (gl n) = (List.range (n + 1)).map fun k => lw k n := rng_map (gl n)
section
variable {μ : Mem}
theorem lowest_v {a b : Int} (hb : 1 ≤ b) (hb2 : b.natAbs < 2 ^ 8000) : m_lowest [.int a, .int b] μ = .ok (.tup [.int (a / Int.gcd a b), .int (b / Int.gcd a b)]) μ := by
  have g := gcd_le (a := a) hb
  have k : (Int.gcd a b : Int).natAbs < 2 ^ 8000 := Nat.lt_of_le_of_lt (by omega) hb2
  refine wr_eq.mp ?_
  unfold m_lowest b_lowest t_lowest_0
  sizeOf_list_dec
  rw [gcd_v]
  sizeOf_list_dec
  rw [fdivM_i g.1 k]
  sizeOf_list_dec
  rw [fdivM_i g.1 k]
  sizeOf_list_dec
theorem n8 {n : Nat} (h : n ≤ 200) : ((n : Int)).natAbs < 2 ^ 8000 := Nat.lt_of_lt_of_le (show ((n : Int)).natAbs < 2 ^ 13 by omega) (Nat.pow_le_pow_right (by omega) (by omega))
theorem part_at {n k : Nat} (h : k ≤ n) : atI ((List.range (n + 1)).map fun k => lw k n) (k : Int) = some (lw k n) := atI_of rfl (by rw [List.getElem?_map, List.getElem?_range (by omega)]; rfl)
theorem rng_mem {n : Nat} {d : D} (h : d ∈ rngL 0 n) : ∃ k : Nat, k < n ∧ d = .int k := by
  unfold rngL at h
  obtain ⟨k, hk, rfl⟩ := List.mem_map.mp h
  exact ⟨k, List.mem_range.mp hk, by simp⟩
theorem flat_len {α : Type} {f : Nat → List α} {b : Nat} : ∀ {L : List Nat}, (∀ c ∈ L, (f c).length ≤ b) → (L.flatMap f).length ≤ L.length * b
  | [], _ => by simp
  | c :: L, h => by
    rw [List.flatMap_cons, List.length_append, List.length_cons, Nat.succ_mul]
    have h1 := h c List.mem_cons_self
    have h2 := flat_len (f := f) (b := b) (L := L) fun x hx => h x (List.mem_cons_of_mem _ hx)
    omega
def fxs (n : Nat) : List (Nat × Nat) := (List.range (n + 1)).flatMap fun c => (List.range (c + 1)).map fun l => (l, c)
theorem fxs_len {n : Nat} (h : n ≤ 200) : (fxs n).length ≤ 40401 := by
  have := flat_len (f := fun c => (List.range (c + 1)).map fun l => (l, c)) (b := n + 1) (L := List.range (n + 1)) fun c hc => by
    have := List.mem_range.mp hc
    simp
    omega
  have e : (List.range (n + 1)).length * (n + 1) ≤ 201 * 201 := Nat.mul_le_mul (by simp; omega) (by omega)
  unfold fxs
  omega
def xsF : D → List D
  | .int c => rngL 0 (c + 1).toNat
  | _ => []
def gF (n : Nat) : D → D → D
  | .int c, .int l => px n (l.toNat, c.toNat)
  | d, _ => d
theorem free_is {n : Nat} : ((rngL 0 (n + 1)).flatMap fun d => (xsF d).map (gF n d)) = (fxs n).map (px n) := by
  unfold fxs
  rw [List.map_flatMap]
  conv => lhs; unfold rngL
  rw [List.flatMap_map]
  congr 1
  funext c
  rw [show xsF (D.int (0 + (c : Int))) = rngL 0 (c + 1) from by show rngL 0 _ = _; congr 1; omega, rng_map, List.map_map]
  refine List.map_congr_left fun l _ => ?_
  show px n (_, _) = px n (l, c)
  congr 2
  omega
theorem solid_is {n : Nat} (h : 1 ≤ n) : due "solid" n = ((List.range (n + 1)).map fun k => lw k n).map fun d => .tup [d, .tup [.int 1, .int 1]] := by
  unfold due
  rw [ixs_solid, List.map_map, List.map_map]
  refine List.map_congr_left fun k _ => ?_
  show D.tup [lw k n, lw n n] = _
  rw [lw_n h]
  rfl
theorem cutout_is {n : Nat} (h : 1 ≤ n) : due "cutout" n = .tup [.tup [.int 0, .int 1], .tup [.int 0, .int 1]] :: ((List.range (n + 1)).map fun k => lw k n).map fun d => .tup [d, .tup [.int 1, .int 1]] := by
  unfold due
  rw [ixs_cutout, List.map_cons, List.map_map, List.map_map]
  congr 1
  · show D.tup [lw 0 n, lw 0 n] = _
    rw [lw_0 h]
  · refine List.map_congr_left fun k _ => ?_
    show D.tup [lw k n, lw n n] = _
    rw [lw_n h]
    rfl
theorem white_is {n : Nat} (h : 1 ≤ n) : due "white" n = ((List.range (n + 1)).map fun k => lw k n).map fun d => .tup [d, d] := by
  unfold due
  rw [ixs_white, List.map_map, List.map_map]
  refine List.map_congr_left fun k _ => rfl
theorem stencil_is {n : Nat} (h : 1 ≤ n) : due "stencil" n = [.tup [.tup [.int 0, .int 1], .tup [.int 0, .int 1]], .tup [.tup [.int 1, .int 1], .tup [.int 1, .int 1]]] := by
  unfold due
  rw [ixs_stencil]
  show [D.tup [lw 0 n, lw 0 n], D.tup [lw n n, lw n n]] = _
  rw [lw_0 h, lw_n h]
theorem kt_v {kd : Str} {n : Nat} (hk : kd ∈ kinds) (h1 : 1 ≤ n) (h2 : n ≤ 200) : m_kind_tests [.str kd, .int n] μ = .ok (.lst (due kd n)) μ := by
  refine wr_eq.mp ?_
  unfold m_kind_tests b_kind_tests
  sizeOf_list_dec
  rw [rng1M_i (by omega)]
  sizeOf_list_dec
  rw [show ((n : Int) + 1).toNat = n + 1 by omega]
  rw [lcF_map (g := gl n) (fun d hd μ => by
    obtain ⟨k, hk, rfl⟩ := rng_mem hd
    simp only [eCall_ap, lCons_ap, lNil_ap, eVar_ap, List.set_cons_zero, List.set_cons_succ, List.getElem?_cons_zero, List.getElem?_cons_succ]
    exact lowest_v (by omega) (n8 h2)) (by simp [rngL]; omega)]
  rw [List.nil_append, parts_is]
  unfold t_kind_tests_1 t_kind_tests_0
  sizeOf_list_dec
  have hp : ((List.range (n + 1)).map fun k => lw k n).length ≤ 100000 := by simp; omega
  simp only [kinds, List.mem_cons, List.not_mem_nil, or_false] at hk
  rcases hk with rfl | rfl | rfl | rfl | rfl
  · simp only [s_free_solid, s_free_cutout, s_free_white, s_free_stencil, eq_self, decide_true, if_true, Bool.false_eq_true, if_false]
    rw [wr_eLc2]
    sizeOf_list_dec
    rw [rng1M_i (by omega)]
    sizeOf_list_dec
    rw [show ((n : Int) + 1).toNat = n + 1 by omega]
    rw [lc2O_map (xs := xsF) (g := gF n) (fun d hd μ => by
      obtain ⟨k, hk, rfl⟩ := rng_mem hd
      refine wr_eq.mp ?_
      sizeOf_list_dec
      rw [rng1M_i (by omega)]
      exact ⟨rfl, rfl⟩) (fun d hd x hx μ => by
      obtain ⟨k, hk, rfl⟩ := rng_mem hd
      obtain ⟨l, hl, rfl⟩ := rng_mem (n := k + 1) (by have e : xsF (.int (k : Int)) = rngL 0 (k + 1) := (by show rngL 0 _ = _; congr 1); rw [e] at hx; exact hx)
      refine wr_eq.mp ?_
      sizeOf_list_dec
      rw [ixM_l (part_at (show l ≤ n by omega))]
      sizeOf_list_dec
      rw [ixM_l (part_at (show k ≤ n by omega))]
      sizeOf_list_dec
      show px n (_, _) = px n (_, _)
      congr 2) (by rw [free_is]; simp; have := fxs_len h2; omega)]
    rw [free_is, List.nil_append]
    sizeOf_list_dec
    rfl
  · simp only [s_solid_free, s_solid_cutout, s_solid_white, s_solid_stencil, eq_self, decide_true, if_true, Bool.false_eq_true, if_false]
    sizeOf_list_dec
    rw [lcF_map (g := fun d => .tup [d, c_ONE]) (fun d hd μ => by refine wr_eq.mp ?_; sizeOf_list_dec) (by simp; omega)]
    sizeOf_list_dec
    rw [solid_is h1]
    rfl
  · simp only [s_cutout_free, s_cutout_solid, s_cutout_white, s_cutout_stencil, eq_self, decide_true, if_true, Bool.false_eq_true, if_false]
    sizeOf_list_dec
    rw [lcF_map (g := fun d => .tup [d, c_ONE]) (fun d hd μ => by refine wr_eq.mp ?_; sizeOf_list_dec) (by simp; omega)]
    sizeOf_list_dec
    rw [addM_l (by simp; omega)]
    sizeOf_list_dec
    rw [cutout_is h1]
    rfl
  · simp only [s_white_free, s_white_solid, s_white_cutout, s_white_stencil, eq_self, decide_true, if_true, Bool.false_eq_true, if_false]
    sizeOf_list_dec
    rw [lcF_map (g := fun d => .tup [d, d]) (fun d hd μ => by refine wr_eq.mp ?_; sizeOf_list_dec) (by simp; omega)]
    sizeOf_list_dec
    rw [white_is h1]
  · simp only [s_stencil_free, s_stencil_solid, s_stencil_cutout, s_stencil_white, eq_self, decide_true, if_true, Bool.false_eq_true, if_false]
    sizeOf_list_dec
    rw [stencil_is h1]
    rfl
end
end Zk37

/-! the law's own list of tests. -/
namespace Zk37
open PySem PySem.Spec PyProof.Rows L2 SE
section
variable {μ : Mem} {Q : D → Mem → Prop} {E : Ex → Mem → Prop}
def rowsF (n j : Nat) : List D := ((List.range j).flatMap fun c => (List.range (c + 1)).map fun l => (l, c)).map (px n)
theorem rowsF_s {n j : Nat} : rowsF n (j + 1) = rowsF n j ++ (List.range (j + 1)).map fun l => px n (l, j) := by
  unfold rowsF
  conv => lhs; rw [List.range_succ]
  rw [List.flatMap_append, List.map_append, List.flatMap_cons, List.flatMap_nil, List.append_nil, List.map_map]
  rfl
theorem rowsF_len {n j : Nat} (h : j ≤ 200) : (rowsF n j).length ≤ 40401 := by
  unfold rowsF
  rw [List.length_map]
  have := flat_len (f := fun c => (List.range (c + 1)).map fun l => (l, c)) (b := j) (L := List.range j) fun c hc => by
    have := List.mem_range.mp hc
    simp
    omega
  have e : (List.range j).length * j ≤ 200 * 200 := Nat.mul_le_mul (by simp; omega) (by omega)
  omega
theorem mul0 {x : D} : mulM (.lst [x]) (.int 0) μ = .ok (.lst []) μ := by kernel_rfl
theorem mul1 {x : D} : mulM (.lst [x]) (.int 1) μ = .ok (.lst [x]) μ := by kernel_rfl
theorem lat_k {kd : Str} {n : Nat} (hk : kd ∈ kinds) (h1 : 1 ≤ n) (h2 : n ≤ 200) (h : ∀ d o, seqD (μ ++ [o]) d = some (due kd n) → Q d (μ ++ [o])) : wr (m__law_lattice [.str kd, .int n] μ) Q E := by
  unfold m__law_lattice b__law_lattice
  sizeOf_list_dec
  rw [rng1M_i (by omega)]
  sizeOf_list_dec
  rw [show ((n : Int) + 1).toNat = n + 1 by omega]
  rw [lcF_map (g := gl n) (fun d hd μ => by
    obtain ⟨k, hk, rfl⟩ := rng_mem hd
    simp only [eCall_ap, lCons_ap, lNil_ap, eVar_ap, List.set_cons_zero, List.set_cons_succ, List.getElem?_cons_zero, List.getElem?_cons_succ]
    exact low_v (by omega) (n8 h2)) (by simp [rngL]; omega)]
  rw [List.nil_append, parts_is]
  sizeOf_list_dec
  simp only [gT, gsCons, gsNil, gN, List.length_cons, List.length_nil, Nat.reduceAdd, if_true]
  sizeOf_list_dec
  unfold t__law_lattice_4
  sizeOf_list_dec
  have hp : ((List.range (n + 1)).map fun k => lw k n).length ≤ 100000 := by simp; omega
  simp only [kinds, List.mem_cons, List.not_mem_nil, or_false] at hk
  rcases hk with rfl | rfl | rfl | rfl | rfl
  · simp only [s_free_solid, s_free_cutout, s_free_white, s_free_stencil, eq_self, decide_true, if_true, Bool.false_eq_true, if_false]
    sizeOf_list_dec
    rw [rng1M_i (by omega)]
    sizeOf_list_dec
    rw [show ((n : Int) + 1).toNat = n + 1 by omega]
    refine ws_for (fun j ρ μ' => j ≤ n + 1 ∧ μ' = μ ++ [.lst (rowsF n j)] ∧ ∃ a b c, ρ = [some (.str "free"), some (.int n), some (.lst ((List.range (n + 1)).map fun k => lw k n)), some (.loc μ.length), a, b, c]) ⟨by omega, rfl, _, _, _, rfl⟩ ?_ ?_
    · rintro j x ρ μ' hx ⟨hj, rfl, a, b, c, rfl⟩
      obtain ⟨j2, hj2, rfl⟩ := rng_mem (List.mem_of_getElem? hx)
      have : j2 = j := by
        unfold rngL at hx
        rw [List.getElem?_map] at hx
        obtain ⟨y, hy, e⟩ := Option.map_eq_some_iff.mp hx
        have := (List.getElem?_eq_some_iff.mp hy)
        obtain ⟨_, e2⟩ := this
        rw [List.getElem_range] at e2
        injection e with e
        omega
      subst this
      have hl : (μ ++ [MO.lst (rowsF n j2)])[μ.length]? = some (.lst (rowsF n j2)) := by simp
      sizeOf_list_dec
      rw [show isLstB (D.loc μ.length) (μ ++ [MO.lst (rowsF n j2)]) = true from by unfold isLstB; dsimp only; rw [hl]]
      sizeOf_list_dec
      rw [rng1M_i (by omega)]
      sizeOf_list_dec
      rw [show ((j2 : Int) + 1).toNat = j2 + 1 by omega]
      rw [lcF_map (g := fun d => match d with | .int l => px n (l.toNat, j2) | d => d) (fun d hd μ => by
        obtain ⟨k, hk, rfl⟩ := rng_mem hd
        refine wr_eq.mp ?_
        sizeOf_list_dec
        rw [ixM_l (part_at (show k ≤ n by omega))]
        sizeOf_list_dec
        rw [ixM_l (part_at (show j2 ≤ n by omega))]
        sizeOf_list_dec
        show px n (_, _) = px n (_, _)
        congr 2) (by simp [rngL]; omega)]
      rw [List.nil_append, rng_map]
      sizeOf_list_dec
      show wr (match (μ ++ [MO.lst (rowsF n j2)])[μ.length]? with
        | some (.lst xs) => if xs.length + _ < 100000 then Res.ok D.non _ else .bad
        | _ => .bad) _ _
      rw [hl]
      have := rowsF_len (n := n) (j := j2) (by omega)
      dsimp only
      rw [if_pos (by simp; omega)]
      refine ⟨by omega, ?_, _, _, _, rfl⟩
      rw [rowsF_s]
      simp
    · rintro ρ μ' ⟨_, rfl, a, b, c, rfl⟩
      unfold t__law_lattice_0
      sizeOf_list_dec
      refine h _ _ ?_
      unfold seqD
      simp [rngL, rowsF, due, ixs_free]
  · simp only [s_solid_free, s_solid_cutout, s_solid_white, s_solid_stencil, eq_self, decide_true, if_true, Bool.false_eq_true, if_false]
    unfold t__law_lattice_3
    sizeOf_list_dec
    try simp only [s_solid_free, s_solid_cutout, s_solid_white, s_solid_stencil, eq_self, decide_true, if_true, Bool.false_eq_true, if_false]
    unfold t__law_lattice_2
    sizeOf_list_dec
    try simp only [s_solid_free, s_solid_cutout, s_solid_white, s_solid_stencil, eq_self, decide_true, if_true, Bool.false_eq_true, if_false]
    unfold t__law_lattice_1
    sizeOf_list_dec
    try simp only [s_solid_free, s_solid_cutout, s_solid_white, s_solid_stencil, eq_self, decide_true, if_true, Bool.false_eq_true, if_false]
    sizeOf_list_dec
    rw [mul0]
    sizeOf_list_dec
    rw [lcF_map (g := fun d => .tup [d, .tup [.int 1, .int 1]]) (fun d hd μ => by refine wr_eq.mp ?_; sizeOf_list_dec) (by simp; omega)]
    sizeOf_list_dec
    rw [addM_l (by simp; omega)]
    sizeOf_list_dec
    refine h _ _ ?_
    rw [solid_is h1]
    rfl
  · simp only [s_cutout_free, s_cutout_solid, s_cutout_white, s_cutout_stencil, eq_self, decide_true, if_true, Bool.false_eq_true, if_false]
    unfold t__law_lattice_3
    sizeOf_list_dec
    try simp only [s_cutout_free, s_cutout_solid, s_cutout_white, s_cutout_stencil, eq_self, decide_true, if_true, Bool.false_eq_true, if_false]
    unfold t__law_lattice_2
    sizeOf_list_dec
    try simp only [s_cutout_free, s_cutout_solid, s_cutout_white, s_cutout_stencil, eq_self, decide_true, if_true, Bool.false_eq_true, if_false]
    unfold t__law_lattice_1
    sizeOf_list_dec
    try simp only [s_cutout_free, s_cutout_solid, s_cutout_white, s_cutout_stencil, eq_self, decide_true, if_true, Bool.false_eq_true, if_false]
    sizeOf_list_dec
    rw [mul1]
    sizeOf_list_dec
    rw [lcF_map (g := fun d => .tup [d, .tup [.int 1, .int 1]]) (fun d hd μ => by refine wr_eq.mp ?_; sizeOf_list_dec) (by simp; omega)]
    sizeOf_list_dec
    rw [addM_l (by simp; omega)]
    sizeOf_list_dec
    refine h _ _ ?_
    rw [cutout_is h1]
    rfl
  · simp only [s_white_free, s_white_solid, s_white_cutout, s_white_stencil, eq_self, decide_true, if_true, Bool.false_eq_true, if_false]
    unfold t__law_lattice_3
    sizeOf_list_dec
    try simp only [s_white_free, s_white_solid, s_white_cutout, s_white_stencil, eq_self, decide_true, if_true, Bool.false_eq_true, if_false]
    sizeOf_list_dec
    rw [lcF_map (g := fun d => .tup [d, d]) (fun d hd μ => by refine wr_eq.mp ?_; sizeOf_list_dec) (by simp; omega)]
    sizeOf_list_dec
    refine h _ _ ?_
    rw [white_is h1]
    rfl
  · simp only [s_stencil_free, s_stencil_solid, s_stencil_cutout, s_stencil_white, eq_self, decide_true, if_true, Bool.false_eq_true, if_false]
    unfold t__law_lattice_3
    sizeOf_list_dec
    try simp only [s_stencil_free, s_stencil_solid, s_stencil_cutout, s_stencil_white, eq_self, decide_true, if_true, Bool.false_eq_true, if_false]
    unfold t__law_lattice_2
    sizeOf_list_dec
    try simp only [s_stencil_free, s_stencil_solid, s_stencil_cutout, s_stencil_white, eq_self, decide_true, if_true, Bool.false_eq_true, if_false]
    sizeOf_list_dec
    refine h _ _ ?_
    rw [stencil_is h1]
    rfl
end
end Zk37

/-! the tests: shown, in order, of their kind. -/
namespace Zk37
open PySem PySem.Spec PyProof.Rows L2 SE
/-! what is shown -/
theorem pL {e c : Nat} : ∀ {xs : List D}, (∀ x ∈ xs, SE.isP x = true ∧ (dP x).showable = true ∧ (dP x).depth ≤ e ∧ cost x ≤ c) → SE.isPL xs = true ∧ PyData.showableAll (dPL xs) = true ∧ PyData.depthAll (dPL xs) ≤ e ∧ costL xs ≤ xs.length * (c + 2)
  | [], _ => ⟨rfl, rfl, Nat.zero_le _, Nat.zero_le _⟩
  | x :: xs, h => by
    obtain ⟨a1, a2, a3, a4⟩ := h x List.mem_cons_self
    obtain ⟨b1, b2, b3, b4⟩ := pL (xs := xs) fun y hy => h y (List.mem_cons_of_mem _ hy)
    refine ⟨by simp [SE.isPL, a1, b1], by simp [dPL, PyData.showableAll, a2, b2], ?_, ?_⟩
    · simp only [dPL, PyData.depthAll]
      omega
    · simp only [costL, List.length_cons, Nat.succ_mul]
      omega
theorem sh_i {i : Int} (h : i.natAbs ≤ 200) : (dP (.int i)).showable = true := by
  show decide (i.natAbs.log2 < 1920) = true
  have : i.natAbs < 2 ^ 8 := by omega
  exact decide_eq_true (Nat.lt_of_lt_of_le (PySem.Flt.log2_lt_of (by omega) this) (by omega))
theorem lw_bd {k n : Nat} (h : k ≤ n) (h2 : n ≤ 200) : ((k : Int) / Int.gcd k n).natAbs ≤ 200 ∧ ((n : Int) / Int.gcd k n).natAbs ≤ 200 := by
  have a := Int.natAbs_ediv_le_natAbs (k : Int) (Int.gcd k n)
  have b := Int.natAbs_ediv_le_natAbs (n : Int) (Int.gcd k n)
  omega
theorem lw_p {k n : Nat} (h : k ≤ n) (h2 : n ≤ 200) : SE.isP (lw k n) = true ∧ (dP (lw k n)).showable = true ∧ (dP (lw k n)).depth ≤ 1 ∧ cost (lw k n) ≤ 3887 := by
  obtain ⟨a, b⟩ := lw_bd h h2
  have s1 := sh_i a
  have s2 := sh_i b
  unfold lw
  refine ⟨rfl, ?_, ?_, ?_⟩
  · show (PyData.showable _ && (PyData.showable _ && true)) = true
    rw [s1, s2]
    rfl
  · simp [dP, dPL, PyData.depth, PyData.depthAll]
  · simp [cost, costL]
theorem px_p {n : Nat} {p : Nat × Nat} (h : p.1 ≤ n ∧ p.2 ≤ n) (h2 : n ≤ 200) : SE.isP (px n p) = true ∧ (dP (px n p)).showable = true ∧ (dP (px n p)).depth ≤ 2 ∧ cost (px n p) ≤ 7781 := by
  obtain ⟨a1, a2, a3, a4⟩ := lw_p h.1 h2
  obtain ⟨b1, b2, b3, b4⟩ := lw_p h.2 h2
  unfold px
  refine ⟨?_, ?_, ?_, ?_⟩
  · simp [SE.isP, SE.isPL, a1, b1]
  · show (PyData.showable _ && (PyData.showable _ && true)) = true
    rw [a2, b2]
    rfl
  · simp only [dP, dPL, PyData.depth, PyData.depthAll]
    omega
  · simp only [cost, costL]
    omega
/-! the order -/
def lts (p q : Nat × Nat) : Prop := p.2 < q.2 ∨ p.2 = q.2 ∧ p.1 < q.1
theorem ixs_le {kd : Str} {n : Nat} (hk : kd ∈ kinds) : ∀ p ∈ ixs kd n, p.1 ≤ p.2 ∧ p.2 ≤ n := by
  simp only [kinds, List.mem_cons, List.not_mem_nil, or_false] at hk
  rcases hk with rfl | rfl | rfl | rfl | rfl
  · rw [ixs_free]
    intro p hp
    obtain ⟨c, hc, hp⟩ := List.mem_flatMap.mp hp
    obtain ⟨l, hl, rfl⟩ := List.mem_map.mp hp
    have := List.mem_range.mp hc
    have := List.mem_range.mp hl
    dsimp only
    omega
  · rw [ixs_solid]
    intro p hp
    obtain ⟨l, hl, rfl⟩ := List.mem_map.mp hp
    have := List.mem_range.mp hl
    dsimp only
    omega
  · rw [ixs_cutout]
    intro p hp
    rcases List.mem_cons.mp hp with rfl | hp
    · dsimp only
      omega
    · obtain ⟨l, hl, rfl⟩ := List.mem_map.mp hp
      have := List.mem_range.mp hl
      dsimp only
      omega
  · rw [ixs_white]
    intro p hp
    obtain ⟨l, hl, rfl⟩ := List.mem_map.mp hp
    have := List.mem_range.mp hl
    dsimp only
    omega
  · rw [ixs_stencil]
    intro p hp
    simp only [List.mem_cons, List.not_mem_nil, or_false] at hp
    rcases hp with rfl | rfl <;> dsimp only <;> omega
theorem ixs_lt {kd : Str} {n : Nat} (h1 : 1 ≤ n) (hk : kd ∈ kinds) : List.Pairwise lts (ixs kd n) := by
  simp only [kinds, List.mem_cons, List.not_mem_nil, or_false] at hk
  rcases hk with rfl | rfl | rfl | rfl | rfl
  · rw [ixs_free, List.pairwise_flatMap]
    refine ⟨fun c _ => ?_, ?_⟩
    · rw [List.pairwise_map]
      exact List.pairwise_lt_range.imp fun h => .inr ⟨rfl, h⟩
    · refine List.pairwise_lt_range.imp fun {a b} h x hx y hy => ?_
      obtain ⟨l, _, rfl⟩ := List.mem_map.mp hx
      obtain ⟨l', _, rfl⟩ := List.mem_map.mp hy
      exact .inl h
  · rw [ixs_solid, List.pairwise_map]
    exact List.pairwise_lt_range.imp fun h => .inr ⟨rfl, h⟩
  · rw [ixs_cutout, List.pairwise_cons, List.pairwise_map]
    refine ⟨fun p hp => ?_, List.pairwise_lt_range.imp fun h => .inr ⟨rfl, h⟩⟩
    obtain ⟨l, hl, rfl⟩ := List.mem_map.mp hp
    exact .inl (by show 0 < n; omega)
  · rw [ixs_white, List.pairwise_map]
    exact List.pairwise_lt_range.imp fun h => .inl h
  · rw [ixs_stencil]
    exact List.pairwise_pair.mpr (.inl (by show 0 < n; omega))
/-- how many may be shown -/
def Few (kd : Str) (n : Nat) : Prop := kd ≠ "free" ∨ n ≤ 40
theorem free_41 : ∀ n, n < 41 → (fxs n).length ≤ 861 := by decide +kernel
theorem ixs_few {kd : Str} {n : Nat} (hk : kd ∈ kinds) (h2 : n ≤ 200) (hf : Few kd n) : (ixs kd n).length ≤ 861 := by
  simp only [kinds, List.mem_cons, List.not_mem_nil, or_false] at hk
  rcases hk with rfl | rfl | rfl | rfl | rfl
  · rcases hf with hf | hf
    · exact absurd rfl hf
    · rw [ixs_free]
      exact free_41 n (by omega)
  · rw [ixs_solid]; simp; omega
  · rw [ixs_cutout]; simp; omega
  · rw [ixs_white]; simp; omega
  · rw [ixs_stencil]; simp
theorem ixs_len {kd : Str} {n : Nat} (hk : kd ∈ kinds) (h2 : n ≤ 200) : (ixs kd n).length ≤ 40401 := by
  simp only [kinds, List.mem_cons, List.not_mem_nil, or_false] at hk
  rcases hk with rfl | rfl | rfl | rfl | rfl
  · rw [ixs_free]
    exact fxs_len h2
  · rw [ixs_solid]; simp; omega
  · rw [ixs_cutout]; simp; omega
  · rw [ixs_white]; simp; omega
  · rw [ixs_stencil]; simp
theorem due_p {kd : Str} {n : Nat} (hk : kd ∈ kinds) (h2 : n ≤ 200) : ∀ x ∈ due kd n, SE.isP x = true ∧ (dP x).showable = true ∧ (dP x).depth ≤ 2 ∧ cost x ≤ 7781 := by
  intro x hx
  obtain ⟨p, hp, rfl⟩ := List.mem_map.mp hx
  have := ixs_le hk p hp
  exact px_p ⟨by omega, by omega⟩ h2
theorem due_sh {kd : Str} {n : Nat} (hk : kd ∈ kinds) (h2 : n ≤ 200) (hf : Few kd n) : shOk (.lst [.tup (due kd n), .tup (due kd n)]) = true := by
  obtain ⟨a1, a2, a3, a4⟩ := pL (due_p (n := n) hk h2)
  have hl : (due kd n).length ≤ 861 := by
    unfold due
    rw [List.length_map]
    exact ixs_few hk h2 hf
  have e : (due kd n).length * (7781 + 2) ≤ 861 * 7783 := Nat.mul_le_mul hl (by omega)
  unfold shOk
  simp only [SE.isP, SE.isPL, a1, dP, dPL, PyData.showable, PyData.showableAll, a2, PyData.depth, PyData.depthAll, cost, costL, Bool.and_true, Bool.true_or, Bool.and_self, Bool.true_and, Bool.and_eq_true, decide_eq_true_eq]
  exact ⟨by omega, decide_eq_true (by omega)⟩
/-! the difference of two -/
section
variable {μ : Mem}
theorem less_sgn {a b n : Nat} (h1 : 1 ≤ n) (ha : a ≤ n) (hb : b ≤ n) (h2 : n ≤ 200) : ∃ x y : Int, m__law_less [lw a n, lw b n] μ = .ok (.tup [.int x, .int y]) μ ∧ (b ≤ a → 0 ≤ x) ∧ (x = 0 → a = b) ∧ (b < a → 1 ≤ x) ∧ (a = b → x = 0) := by
  have ga := gcd_le (a := (a : Int)) (b := (n : Int)) (by omega)
  have gb := gcd_le (a := (b : Int)) (b := (n : Int)) (by omega)
  have ba := lw_bd ha h2
  have bb := lw_bd hb h2
  obtain ⟨x1, e1⟩ : (Int.gcd a n : Int) ∣ a := Int.gcd_dvd_left ..
  obtain ⟨x2, e2⟩ : (Int.gcd a n : Int) ∣ n := Int.gcd_dvd_right ..
  obtain ⟨y1, e3⟩ : (Int.gcd b n : Int) ∣ b := Int.gcd_dvd_left ..
  obtain ⟨y2, e4⟩ : (Int.gcd b n : Int) ∣ n := Int.gcd_dvd_right ..
  unfold lw
  generalize (Int.gcd (a : Int) n : Int) = g at ga ba e1 e2 ⊢
  generalize (Int.gcd (b : Int) n : Int) = g' at gb bb e3 e4 ⊢
  have f1 : (a : Int) / g = x1 := Int.ediv_eq_of_eq_mul_right (by omega) e1
  have f2 : (n : Int) / g = x2 := Int.ediv_eq_of_eq_mul_right (by omega) e2
  have f3 : (b : Int) / g' = y1 := Int.ediv_eq_of_eq_mul_right (by omega) e3
  have f4 : (n : Int) / g' = y2 := Int.ediv_eq_of_eq_mul_right (by omega) e4
  rw [f1, f2] at ba ⊢
  rw [f3, f4] at bb ⊢
  have p2 : 1 ≤ x2 := by
    rcases Int.lt_or_le x2 1 with z | z
    · have := Int.mul_nonpos_of_nonneg_of_nonpos (show 0 ≤ g by omega) (show x2 ≤ 0 by omega)
      omega
    · exact z
  have p4 : 1 ≤ y2 := by
    rcases Int.lt_or_le y2 1 with z | z
    · have := Int.mul_nonpos_of_nonneg_of_nonpos (show 0 ≤ g' by omega) (show y2 ≤ 0 by omega)
      omega
    · exact z
  have d1 : 1 ≤ x2 * y2 := Int.mul_pos p2 p4
  have d2 : (x2 * y2).natAbs ≤ 200 * 200 := by rw [Int.natAbs_mul]; exact Nat.mul_le_mul ba.2 bb.2
  have key : (x1 * y2 + (0 - y1) * x2) * (g * g') = (a - b) * n := by
    have : ((a : Int) - b) * n = a * n - b * n := Int.sub_mul ..
    rw [this]
    have q1 : (a : Int) * n = (g * x1) * (g' * y2) := by rw [← e1, ← e4]
    have q2 : (b : Int) * n = (g' * y1) * (g * x2) := by rw [← e3, ← e2]
    rw [q1, q2]
    grind
  have gg : 0 < g * g' := Int.mul_pos ga.1 gb.1
  have call : m__law_less [.tup [.int x1, .int x2], .tup [.int y1, .int y2]] μ = .ok (.tup [.int ((x1 * y2 + (0 - y1) * x2) / Int.gcd (x1 * y2 + (0 - y1) * x2) (x2 * y2)), .int (x2 * y2 / Int.gcd (x1 * y2 + (0 - y1) * x2) (x2 * y2))]) μ := by
    refine wr_eq.mp ?_
    unfold m__law_less b__law_less
    sizeOf_list_dec
    rw [ix0]
    sizeOf_list_dec
    rw [ix1]
    sizeOf_list_dec
    unfold m__law_add b__law_add
    sizeOf_list_dec
    try simp only [ix0, ix1, wr_ok]
    rw [mulM_i (mulOk_le (B := 20000000) (by omega) (by omega) (by decide +kernel))]
    sizeOf_list_dec
    try simp only [ix0, ix1, wr_ok]
    rw [mulM_i (mulOk_le (B := 20000000) (by omega) (by omega) (by decide +kernel))]
    sizeOf_list_dec
    rw [mulM_i (mulOk_le (B := 20000000) (by omega) (by omega) (by decide +kernel))]
    sizeOf_list_dec
    rw [low_v d1 (Nat.lt_of_le_of_lt d2 (Nat.lt_of_lt_of_le (show 200 * 200 < 2 ^ 16 by decide) (Nat.pow_le_pow_right (by omega) (by omega))))]
    exact ⟨rfl, rfl⟩
  refine ⟨_, _, call, ?_⟩
  generalize x1 * y2 + (0 - y1) * x2 = N at key
  have hg := gcd_le (a := N) d1
  obtain ⟨q, hq⟩ : (Int.gcd N (x2 * y2) : Int) ∣ N := Int.gcd_dvd_left ..
  generalize (Int.gcd N (x2 * y2) : Int) = h at hg hq ⊢
  rw [Int.ediv_eq_of_eq_mul_right (by omega) hq]
  have sN : (0 < N → b < a) ∧ (N < 0 → a < b) ∧ (N = 0 → a = b) := by
    refine ⟨fun z => ?_, fun z => ?_, fun z => ?_⟩
    · have := Int.mul_pos z gg
      rw [key] at this
      rcases Nat.lt_or_ge b a with w | w
      · exact w
      · have := Int.mul_nonpos_of_nonpos_of_nonneg (show (a : Int) - b ≤ 0 by omega) (show 0 ≤ (n : Int) by omega)
        omega
    · have := Int.mul_neg_of_neg_of_pos z gg
      rw [key] at this
      rcases Nat.lt_or_ge a b with w | w
      · exact w
      · have := Int.mul_nonneg (show 0 ≤ (a : Int) - b by omega) (show 0 ≤ (n : Int) by omega)
        omega
    · rw [z, Int.zero_mul] at key
      rcases Int.mul_eq_zero.mp key.symm with w | w <;> omega
  have sq : (0 < q → 0 < N) ∧ (q < 0 → N < 0) ∧ (q = 0 → N = 0) := by
    refine ⟨fun z => ?_, fun z => ?_, fun z => ?_⟩
    · rw [hq]; exact Int.mul_pos hg.1 z
    · rw [hq]; exact Int.mul_neg_of_pos_of_neg hg.1 z
    · rw [hq, z, Int.mul_zero]
  omega
end
end Zk37

/-! each test is a pixel of its kind. -/
namespace Zk37
open PySem PySem.Spec PyProof.Rows L2 SE
theorem lw_shr {k n : Nat} (h1 : 1 ≤ n) (h : k ≤ n) : shr (lw k n) = true := by
  have g := gcd_le (a := (k : Int)) (b := (n : Int)) (by omega)
  have e : Int.gcd ((k : Int) / Int.gcd k n) ((n : Int) / Int.gcd k n) = 1 := Int.gcd_ediv_gcd_ediv_gcd (by omega)
  have q1 : (0 : Int) ≤ (k : Int) / Int.gcd k n := Int.ediv_nonneg (by omega) (by omega)
  have q2 : (k : Int) / Int.gcd k n ≤ (n : Int) / Int.gcd k n := Int.ediv_le_ediv (by omega) (by omega)
  have q3 : (1 : Int) ≤ (n : Int) / Int.gcd k n := by
    have := Int.le_ediv_of_mul_le (a := 1) (b := (n : Int)) (c := Int.gcd k n) (by omega) (by omega)
    exact this
  unfold lw shr
  dsimp only
  rw [decide_eq_true q1, decide_eq_true q2, decide_eq_true q3, decide_eq_true e]
  rfl
theorem lw_le {a b n : Nat} (h1 : 1 ≤ n) (h : a ≤ b) (hb : b ≤ n) : leP (lw a n) (lw b n) = true := by
  have ga := gcd_le (a := (a : Int)) (b := (n : Int)) (by omega)
  have gb := gcd_le (a := (b : Int)) (b := (n : Int)) (by omega)
  obtain ⟨x1, e1⟩ : (Int.gcd a n : Int) ∣ a := Int.gcd_dvd_left ..
  obtain ⟨x2, e2⟩ : (Int.gcd a n : Int) ∣ n := Int.gcd_dvd_right ..
  obtain ⟨y1, e3⟩ : (Int.gcd b n : Int) ∣ b := Int.gcd_dvd_left ..
  obtain ⟨y2, e4⟩ : (Int.gcd b n : Int) ∣ n := Int.gcd_dvd_right ..
  unfold lw
  generalize (Int.gcd (a : Int) n : Int) = g at ga e1 e2 ⊢
  generalize (Int.gcd (b : Int) n : Int) = g' at gb e3 e4 ⊢
  rw [Int.ediv_eq_of_eq_mul_right (by omega) e1, Int.ediv_eq_of_eq_mul_right (by omega) e2, Int.ediv_eq_of_eq_mul_right (by omega) e3, Int.ediv_eq_of_eq_mul_right (by omega) e4]
  show decide (x1 * y2 ≤ y1 * x2) = true
  refine decide_eq_true ?_
  have gg : 0 < g * g' := Int.mul_pos ga.1 gb.1
  have key : (y1 * x2 - x1 * y2) * (g * g') = (b - a) * n := by
    have : ((b : Int) - a) * n = b * n - a * n := Int.sub_mul ..
    rw [this]
    have q1 : (a : Int) * n = (g * x1) * (g' * y2) := by rw [← e1, ← e4]
    have q2 : (b : Int) * n = (g' * y1) * (g * x2) := by rw [← e3, ← e2]
    rw [q1, q2]
    grind
  have r := Int.mul_nonneg (show 0 ≤ (b : Int) - a by omega) (show 0 ≤ (n : Int) by omega)
  rcases Int.lt_or_le (y1 * x2 - x1 * y2) 0 with z | z
  · have := Int.mul_neg_of_neg_of_pos z gg
    omega
  · omega
theorem px_sm {n : Nat} {p : Nat × Nat} (h : p.1 ≤ n ∧ p.2 ≤ n) (h2 : n ≤ 200) : smD (px n p) = true := by
  obtain ⟨a, b⟩ := lw_bd h.1 h2
  obtain ⟨c, d⟩ := lw_bd h.2 h2
  have k : ∀ {i : Int}, i.natAbs ≤ 200 → decide (i.natAbs ≤ 10 ^ 40) = true := fun h => decide_eq_true (by omega)
  unfold px lw
  simp only [smD, smL, k a, k b, k c, k d, Bool.and_self]
theorem px_pix {n : Nat} {p : Nat × Nat} (h1 : 1 ≤ n) (h : p.1 ≤ p.2 ∧ p.2 ≤ n) : pix (px n p) = true := by
  show (shr _ && (shr _ && leP _ _)) = true
  rw [lw_shr h1 (by omega), lw_shr h1 h.2, lw_le h1 h.1 h.2]
  rfl
section
variable {μ : Mem}
theorem px_kind {kd : Str} {n : Nat} {p : Nat × Nat} (hk : kd ∈ kinds) (h1 : 1 ≤ n) (h2 : n ≤ 200) (hp : p ∈ ixs kd n) : m_has_kind [px n p, .str kd] μ = .ok (.bl true) μ := by
  have le := ixs_le hk p hp
  have hk5 : D.str kd ∈ kinds5 := List.mem_map_of_mem (f := D.str) hk
  have hb : kindB (.str kd) = true := by
    simp only [kinds, List.mem_cons, List.not_mem_nil, or_false] at hk
    rcases hk with rfl | rfl | rfl | rfl | rfl <;> decide +kernel
  rw [hk_ok (px_sm ⟨by omega, le.2⟩ h2) (px_pix h1 le) hk5 hb]
  have lv := fun a b c e => let_v (μ := μ) (k := kd) (a := a) (b := b) (c := c) (e := e) hk5
  have fin : ∀ q, m_is_let [px n p, .str kd] μ = .ok (.bl q) μ → q = true → m_is_let [px n p, .str kd] μ = .ok (.bl true) μ := fun q h e => by rw [h, e]
  refine fin _ (lv _ _ _ _) ?_
  have hn : (n : Int) / Int.gcd n n = 1 := by
    have := lw_n h1
    unfold lw at this
    injection this with this
    injection this with this _
    injection this
  have h00 : ((0 : Nat) : Int) / Int.gcd (0 : Nat) n = 0 ∧ (n : Int) / Int.gcd (0 : Nat) n = 1 := by
    have := lw_0 h1
    unfold lw at this
    injection this with this
    injection this with e1 this
    injection this with e2 _
    injection e1 with e1
    injection e2 with e2
    exact ⟨e1, e2⟩
  simp only [kinds, List.mem_cons, List.not_mem_nil, or_false] at hk
  unfold letB
  rcases hk with rfl | rfl | rfl | rfl | rfl
  · simp only [s_free_solid, s_free_cutout, s_free_white, s_free_stencil, eq_self, decide_true, if_true, Bool.false_eq_true, if_false, Bool.true_or]
  · rw [ixs_solid] at hp
    obtain ⟨l, hl, rfl⟩ := List.mem_map.mp hp
    simp only [s_solid_free, s_solid_cutout, s_solid_white, s_solid_stencil, eq_self, decide_true, if_true, Bool.false_eq_true, if_false, one, hn, Bool.and_self]
  · rw [ixs_cutout] at hp
    simp only [s_cutout_free, s_cutout_solid, s_cutout_white, s_cutout_stencil, eq_self, decide_true, if_true, Bool.false_eq_true, if_false]
    rcases List.mem_cons.mp hp with rfl | hp
    · simp only [zer, h00.1, h00.2, decide_true, Bool.and_self, Bool.or_true]
    · obtain ⟨l, hl, rfl⟩ := List.mem_map.mp hp
      simp only [one, hn, decide_true, Bool.and_self, Bool.true_or]
  · rw [ixs_white] at hp
    obtain ⟨l, hl, rfl⟩ := List.mem_map.mp hp
    simp only [s_white_free, s_white_solid, s_white_cutout, s_white_stencil, eq_self, decide_true, if_true, Bool.false_eq_true, if_false, same, Bool.and_self]
  · rw [ixs_stencil] at hp
    simp only [s_stencil_free, s_stencil_solid, s_stencil_cutout, s_stencil_white, eq_self, decide_true, if_true, Bool.false_eq_true, if_false, Bool.false_or]
    simp only [List.mem_cons, List.not_mem_nil, or_false] at hp
    rcases hp with rfl | rfl
    · simp only [zer, same, h00.1, h00.2, decide_true, Bool.and_self, Bool.or_true]
    · simp only [one, same, hn, decide_true, Bool.and_self, Bool.true_or]
end
end Zk37

/-! what is told. -/
namespace Zk37
open PySem PySem.Spec PyProof.Rows L2 SE
def Lg (μ μ' : Mem) : Prop := ∃ ν, μ' = μ ++ ν
theorem Lg.refl {μ : Mem} : Lg μ μ := ⟨[], by simp⟩
theorem Lg.trans {μ μ1 μ2 : Mem} (h : Lg μ μ1) (h' : Lg μ1 μ2) : Lg μ μ2 := by
  obtain ⟨a, rfl⟩ := h
  obtain ⟨b, rfl⟩ := h'
  exact ⟨a ++ b, by simp⟩
theorem Lg.one {μ : Mem} {o : MO} : Lg μ (μ ++ [o]) := ⟨_, rfl⟩
theorem Pl.lg {l : Nat} {n : Int} {μ μ' : Mem} (h : Pl l n μ) (g : Lg μ μ') : Pl l n μ' := by
  obtain ⟨ν, rfl⟩ := g
  have hl := h.lt
  obtain ⟨a, b, c, h1, h2⟩ := h
  exact ⟨a, b, c, by rw [List.getElem?_append_left hl]; exact h1, h2⟩
section
variable {μ : Mem}
theorem ckk_k {kd : Str} (hk : kd ∈ kinds) : m_check_kind [.str kd] μ = .ok .non μ := by
  refine ckk_ok (List.mem_map_of_mem (f := D.str) hk) ?_
  simp only [kinds, List.mem_cons, List.not_mem_nil, or_false] at hk
  rcases hk with rfl | rfl | rfl | rfl | rfl <;> decide +kernel
theorem integer_v2 {d : D} {lo hi : Int} (h : plD d = true) : m_is_integer [d, .int lo, .int hi] μ = .ok (.bl (match d with | .int i => decide (lo ≤ i) && decide (i ≤ hi) | _ => false)) μ := by
  refine wr_eq.mp ?_
  unfold m_is_integer b_is_integer t_is_integer_0
  array_mem_dec
  simp only [isi_int h, isi_bool h, wr_ok]
  array_mem_dec
  cases d with
  | int i =>
    array_mem_dec
    simp only [isI, isB]
    by_cases z : lo ≤ i
    · simp [z]
    · simp [z]
  | _ => simp [isI, isB]
theorem tupA_l {xs : List D} : tupleAM [.lst xs] μ = .ok (.tup xs) μ := rfl
theorem tp_v {kd : Str} {n : Nat} (hk : kd ∈ kinds) (h1 : 1 ≤ n) (h2 : n ≤ 200) : m_test_pixels [.str kd, .int n] μ = .ok (.tup (due kd n)) μ := by
  refine wr_eq.mp ?_
  unfold m_test_pixels b_test_pixels
  sizeOf_list_dec
  rw [ckk_k hk]
  sizeOf_list_dec
  unfold t_test_pixels_1 c_MAX_NODES
  sizeOf_list_dec
  rw [integer_v2 rfl]
  simp only [decide_eq_true (show (1 : Int) ≤ n by omega), decide_eq_true (show (n : Int) ≤ 200 by omega)]
  sizeOf_list_dec
  unfold t_test_pixels_0
  sizeOf_list_dec
  rw [kt_v hk h1 h2]
  sizeOf_list_dec
  rw [tupA_l]
  exact ⟨rfl, rfl⟩
theorem rng2M_i {i j : Int} (h1 : -100000 ≤ i ∧ i ≤ 100000) (h2 : -100000 ≤ j ∧ j ≤ 100000) : rng2M [.int i, .int j] μ = .ok (rngL i (j - i).toNat) μ := if_pos ⟨h1.1, h1.2, h2.1, h2.2⟩
theorem rngL_at {i : Int} {n j : Nat} {x : D} (h : (rngL i n)[j]? = some x) : j < n ∧ x = .int (i + j) := by
  have hj : j < n := by
    have := (List.getElem?_eq_some_iff.mp h).1
    simpa [rngL] using this
  refine ⟨hj, ?_⟩
  unfold rngL at h
  rw [List.getElem?_map, List.getElem?_range hj] at h
  exact (Option.some.inj h).symm
theorem mul2 {x : D} : mulM (.lst [x]) (.int 2) μ = .ok (.lst [x, x]) μ := by kernel_rfl
theorem due_at {kd : Str} {n k : Nat} (h : k < (ixs kd n).length) : atI (due kd n) (k : Int) = some (px n (ixs kd n)[k]) := atI_of rfl (by unfold due; rw [List.getElem?_map, List.getElem?_eq_getElem h]; rfl)
theorem told_v {kd : Str} {n : Nat} (hk : kd ∈ kinds) (h1 : 1 ≤ n) (h2 : n ≤ 200) (hf : Few kd n) : wr (m__law_told_right [.str kd, .int n] μ) (fun d μ' => d = .bl true ∧ Lg μ μ') (fun _ _ => False) := by
  unfold m__law_told_right b__law_told_right
  sizeOf_list_dec
  refine lat_k hk h1 h2 fun d o hd => ?_
  have g1 : Lg μ (μ ++ [o]) := Lg.one
  generalize μ ++ [o] = μ1 at hd g1
  rw [show tupleAM [d] μ1 = .ok (.tup (due kd n)) μ1 from by unfold tupleAM; dsimp only; rw [hd]]
  sizeOf_list_dec
  unfold t__law_told_right_4
  sizeOf_list_dec
  rw [tp_v hk h1 h2]
  sizeOf_list_dec
  rw [show gD_test_pixels_0_uses_kind [] [.int n, .str kd] = [.str kd, .int n] from rfl, tp_v hk h1 h2]
  sizeOf_list_dec
  unfold t__law_told_right_3
  sizeOf_list_dec
  rw [reprM_ap (due_sh hk h2 hf)]
  sizeOf_list_dec
  rw [mul2]
  sizeOf_list_dec
  rw [reprM_ap (due_sh hk h2 hf)]
  sizeOf_list_dec
  unfold t__law_told_right_2
  sizeOf_list_dec
  have hlen : (due kd n).length = (ixs kd n).length := List.length_map ..
  have l2 := ixs_len (n := n) hk h2
  rw [rng2M_i (by omega) (by omega)]
  sizeOf_list_dec
  refine ws_for (fun _ ρ μ' => μ' = μ1 ∧ ∃ a b c, ρ = [some (.str kd), some (.int n), some (.tup (due kd n)), some (.lst [.tup (due kd n), .tup (due kd n)]), a, b, c]) ⟨rfl, _, _, _, rfl⟩ ?_ ?_
  · rintro j x ρ μ' hx ⟨rfl, a, b, c, rfl⟩
    obtain ⟨hj, rfl⟩ := rngL_at hx
    have hj2 : j + 1 < (ixs kd n).length := by omega
    have hlt := List.pairwise_iff_getElem.mp (ixs_lt h1 hk) j (j + 1) (by omega) hj2 (by omega)
    have le1 := ixs_le hk _ (List.getElem_mem (show j < (ixs kd n).length by omega))
    have le2 := ixs_le hk _ (List.getElem_mem hj2)
    have a1 := due_at (kd := kd) (n := n) (k := j) (by omega)
    have a2 := due_at (kd := kd) (n := n) (k := j + 1) hj2
    generalize (ixs kd n)[j] = p at hlt le1 a1
    generalize (ixs kd n)[j + 1] = q at hlt le2 a2
    have i2 : ∀ μ, ixM (.tup (due kd n)) (.int (1 + (j : Int))) μ = .ok (px n q) μ := fun μ => ixM_t (by rw [show (1 + (j : Int)) = ((j + 1 : Nat) : Int) by omega]; exact a2)
    have i1 : ∀ μ, ixM (.tup (due kd n)) (.int (1 + (j : Int) - 1)) μ = .ok (px n p) μ := fun μ => ixM_t (by rw [show (1 + (j : Int) - 1) = (j : Int) by omega]; exact a1)
    have p0 : ∀ (p : Nat × Nat) μ, ixM (px n p) (.int 0) μ = .ok (lw p.1 n) μ := fun p μ => ix0
    have p1 : ∀ (p : Nat × Nat) μ, ixM (px n p) (.int 1) μ = .ok (lw p.2 n) μ := fun p μ => ix1
    sizeOf_list_dec
    rw [i2]
    sizeOf_list_dec
    rw [p1]
    sizeOf_list_dec
    rw [i1]
    sizeOf_list_dec
    rw [p1]
    sizeOf_list_dec
    obtain ⟨x, y, e, c1, c2, c3, c4⟩ := less_sgn (μ := μ') (a := q.2) (b := p.2) h1 (by omega) (by omega) h2
    rw [e]
    sizeOf_list_dec
    unfold t__law_told_right_0
    sizeOf_list_dec
    rw [ix0]
    sizeOf_list_dec
    have x0 : 0 ≤ x := c1 (by rcases hlt with h | h <;> omega)
    rw [decide_eq_false (show ¬ x < 0 by omega)]
    sizeOf_list_dec
    rw [ix0]
    sizeOf_list_dec
    by_cases z : x = 0
    · rw [decide_eq_true z]
      sizeOf_list_dec
      rw [i2]
      sizeOf_list_dec
      rw [p0]
      sizeOf_list_dec
      rw [i1]
      sizeOf_list_dec
      rw [p0]
      sizeOf_list_dec
      obtain ⟨x', y', e', d1, d2, d3, d4⟩ := less_sgn (μ := μ') (a := q.1) (b := p.1) h1 (by omega) (by omega) h2
      rw [e']
      sizeOf_list_dec
      rw [ix0]
      sizeOf_list_dec
      have := c2 z
      have x1 : 1 ≤ x' := d3 (by rcases hlt with h | h <;> omega)
      rw [decide_eq_false (show ¬ x' < 1 by omega)]
      sizeOf_list_dec
      exact ⟨_, _, _, rfl⟩
    · rw [decide_eq_false z]
      sizeOf_list_dec
      exact ⟨_, _, _, rfl⟩
  · rintro ρ μ' ⟨rfl, a, b, c, rfl⟩
    unfold t__law_told_right_1
    sizeOf_list_dec
    have cl : ∀ lo hi, (SE.cutD (due kd n) lo hi).length ≤ 40401 := fun lo hi => by
      unfold SE.cutD
      rw [List.length_take, List.length_drop]
      omega
    have := cl none (some 40)
    have := cl (some (-40)) none
    rw [addM_t (by omega)]
    sizeOf_list_dec
    rw [lcF_map (g := fun _ => .bl true) (fun d hd μ => by
      have hd : d ∈ due kd n := by
        rcases List.mem_append.mp hd with h | h <;> exact cut_sub _ h
      obtain ⟨p, hp, rfl⟩ := List.mem_map.mp hd
      simp only [eCall_ap, lCons_ap, lNil_ap, eVar_ap, List.set_cons_zero, List.set_cons_succ, List.getElem?_cons_zero, List.getElem?_cons_succ]
      exact px_kind hk h1 h2 hp) (by simp only [List.length_nil, List.length_append]; omega)]
    sizeOf_list_dec
    rw [allM_map (f := fun _ => true)]
    refine ⟨?_, g1⟩
    congr 1
    simp
end
end Zk37

/-! what is refused. -/
namespace Zk37
open PySem PySem.Spec PyProof.Rows L2 SE
section
variable {μ : Mem}
theorem kind_3 {fs : List (Str × D)} : m__law_kind [.err "InvalidKind" fs] μ = .ok (.int 3) μ := by kernel_rfl
theorem kind_6 {fs : List (Str × D)} : m__law_kind [.err "InvalidNumber" fs] μ = .ok (.int 6) μ := by kernel_rfl
theorem in3a : inM (.int 3) (.lst [.int 0, .int 1, .int 20, .int 21, .int 22]) μ = .ok (.bl false) μ := by kernel_rfl
theorem in3b : inM (.int 3) (.lst [.int 2, .int 15, .int 23, .int 26, .int 27]) μ = .ok (.bl false) μ := by kernel_rfl
theorem in3c : inM (.int 3) (.lst [.int 4, .int 8, .int 11, .int 14, .int 16, .int 17]) μ = .ok (.bl false) μ := by kernel_rfl
theorem in3d : inM (.int 3) (.lst [.int 7, .int 9]) μ = .ok (.bl false) μ := by kernel_rfl
theorem in3e : inM (.int 3) (.lst [.int 10, .int 24, .int 25]) μ = .ok (.bl false) μ := by kernel_rfl
theorem in3f : inM (.int 3) (.lst [.int 3, .int 5, .int 6]) μ = .ok (.bl true) μ := by kernel_rfl
theorem in6a : inM (.int 6) (.lst [.int 0, .int 1, .int 20, .int 21, .int 22]) μ = .ok (.bl false) μ := by kernel_rfl
theorem in6b : inM (.int 6) (.lst [.int 2, .int 15, .int 23, .int 26, .int 27]) μ = .ok (.bl false) μ := by kernel_rfl
theorem in6c : inM (.int 6) (.lst [.int 4, .int 8, .int 11, .int 14, .int 16, .int 17]) μ = .ok (.bl false) μ := by kernel_rfl
theorem in6d : inM (.int 6) (.lst [.int 7, .int 9]) μ = .ok (.bl false) μ := by kernel_rfl
theorem in6e : inM (.int 6) (.lst [.int 10, .int 24, .int 25]) μ = .ok (.bl false) μ := by kernel_rfl
theorem in6f : inM (.int 6) (.lst [.int 3, .int 5, .int 6]) μ = .ok (.bl true) μ := by kernel_rfl
theorem lookup1 (k : Str) (d : D) : List.lookup k [(k, d)] = some d := by simp [List.lookup]
theorem field_3 {d : D} (h : shOk d = true) : m__law_field [.err "InvalidKind" [("kind", d)], .int 3] μ = .ok (.str (dP d).shown) μ := by
  refine wr_eq.mp ?_
  unfold m__law_field b__law_field
  sizeOf_list_dec
  rw [in3a]
  sizeOf_list_dec
  unfold t__law_field_6
  sizeOf_list_dec
  rw [in3b]
  sizeOf_list_dec
  unfold t__law_field_5
  sizeOf_list_dec
  rw [in3c]
  sizeOf_list_dec
  unfold t__law_field_4
  sizeOf_list_dec
  rw [in3d]
  sizeOf_list_dec
  unfold t__law_field_3
  sizeOf_list_dec
  rw [in3e]
  sizeOf_list_dec
  unfold t__law_field_2
  sizeOf_list_dec
  rw [in3f]
  sizeOf_list_dec
  rw [atM_ap (by decide) (lookup1 _ _)]
  sizeOf_list_dec
  rw [reprM_ap h]
  exact ⟨rfl, rfl⟩
theorem field_6 {d : D} (h : shOk d = true) : m__law_field [.err "InvalidNumber" [("number", d)], .int 6] μ = .ok (.str (dP d).shown) μ := by
  refine wr_eq.mp ?_
  unfold m__law_field b__law_field
  sizeOf_list_dec
  rw [in6a]
  sizeOf_list_dec
  unfold t__law_field_6
  sizeOf_list_dec
  rw [in6b]
  sizeOf_list_dec
  unfold t__law_field_5
  sizeOf_list_dec
  rw [in6c]
  sizeOf_list_dec
  unfold t__law_field_4
  sizeOf_list_dec
  rw [in6d]
  sizeOf_list_dec
  unfold t__law_field_3
  sizeOf_list_dec
  rw [in6e]
  sizeOf_list_dec
  unfold t__law_field_2
  sizeOf_list_dec
  rw [in6f]
  sizeOf_list_dec
  rw [atM_ap (by decide) (lookup1 _ _)]
  sizeOf_list_dec
  rw [reprM_ap h]
  exact ⟨rfl, rfl⟩
theorem caught_x {mb : Ev → M D} {ρ : Ev} {c f : Str} {k : Int} {d : D} {μ1 : Mem} (hm : mt_0 c = some true) (hk : ∀ fs μ, m__law_kind [.err c fs] μ = .ok (.int k) μ) (hf : ∀ μ, m__law_field [.err c [(f, d)], .int k] μ = .ok (.str (dP d).shown) μ)
    (h : mb ρ μ = .exc ⟨c, [(f, d)]⟩ μ1) : mL__law_caught mb [.clo ρ] μ = .ok (.lst [.int k, .str (dP d).shown]) μ1 := by
  have e0 : e1 (callThk mb) (eVar 0) [some (.clo ρ), none, none] μ = .exc ⟨c, [(f, d)]⟩ μ1 := by
    rw [e1_ap, eVar_ap]
    exact h
  unfold mL__law_caught b__law_caught
  refine callM_rt ?_
  rw [sSeq_ap]
  have t : ∀ b : MS, sTry (sDrop (e1 (callThk mb) (eVar 0))) (⟨mt_0, some 1, b⟩ :: []) [some (.clo ρ), none, none] μ = suiteEnd (some 1) (b [some (.clo ρ), some (.err c [(f, d)]), none] μ1) := by
    intro b
    refine try_exc (e := ⟨c, [(f, d)]⟩) (ρ' := [some (.clo ρ), none, none]) (μ' := μ1) ?_ ?_
    · rw [sDrop_ap, e0]
      rfl
    · exact handle_in hm rfl
  have n1 : noExc m__law_kind [.err c [(f, d)]] μ1 = .ok (.int k) μ1 := by
    unfold noExc
    rw [hk]
  have n2 : noExc m__law_field [.err c [(f, d)], .int k] μ1 = .ok (.str (dP d).shown) μ1 := by
    unfold noExc
    rw [hf]
  have b : (sSeq (sSet 2 (eCall (noExc m__law_kind) (lCons (eVar 1) lNil))) (sRet (eL lstM (lCons (eVar 2) (lCons (eCall (noExc m__law_field) (lCons (eVar 1) (lCons (eVar 2) lNil))) lNil))))) [some (.clo ρ), some (.err c [(f, d)]), none] μ1 = .ok (.rt (.lst [.int k, .str (dP d).shown])) μ1 := by
    simp only [sSeq_ap, sSet_ap, sRet_ap, eCall_ap, eL_ap, lCons_ap, lNil_ap, eVar_ap, List.getElem?_cons_zero, List.getElem?_cons_succ, List.set_cons_zero, List.set_cons_succ, n1, n2, bindS, lstM_ap, List.length_cons, List.length_nil, Nat.reduceAdd, Nat.reduceLeDiff, if_true]
  have := t _ |>.trans (suite_rt b rfl)
  show (match sTry _ _ [some (.clo ρ), none, none] μ with | .ok (.nx ρ) μ => _ | r => r) = _
  rw [this]
end
end Zk37

/-! what is refused: the whole. -/
namespace Zk37
open PySem PySem.Spec PyProof.Rows L2 SE
def odds1 : List D := [.non, .int 0, .bl true, .str "", .str "Free", .str "free ", .str "over", .lst [.str "free"], .tup [.str "free"], .dct []]
def odds2 : List D := [.non, .int 0, .int (-1), .int 201, .bl true, .bl false, .str "1", .tup [.int 1], .lst [.int 1], .dct [], .int 100000000000000000000000000000, .int (-100000000000000000000000000000)]
theorem odds1_sh : ∀ x ∈ odds1, shOk x = true := by
  intro x h
  simp only [odds1, List.mem_cons, List.not_mem_nil, or_false] at h
  rcases h with rfl | rfl | rfl | rfl | rfl | rfl | rfl | rfl | rfl | rfl <;> decide +kernel
theorem odds2_sh : ∀ x ∈ odds2, shOk x = true := by
  intro x h
  simp only [odds2, List.mem_cons, List.not_mem_nil, or_false] at h
  rcases h with rfl | rfl | rfl | rfl | rfl | rfl | rfl | rfl | rfl | rfl | rfl | rfl <;> decide +kernel
section
variable {μ : Mem}
theorem odds1_k {x : D} (h : x ∈ odds1) : m_is_kind [x] μ = .ok (.bl false) μ := by
  simp only [odds1, List.mem_cons, List.not_mem_nil, or_false] at h
  rcases h with rfl | rfl | rfl | rfl | rfl | rfl | rfl | rfl | rfl | rfl <;> kernel_rfl
theorem odds2_n {x : D} (h : x ∈ odds2) : m_is_integer [x, .int 1, .int 200] μ = .ok (.bl false) μ := by
  simp only [odds2, List.mem_cons, List.not_mem_nil, or_false] at h
  rcases h with rfl | rfl | rfl | rfl | rfl | rfl | rfl | rfl | rfl | rfl | rfl | rfl <;> exact (integer_v2 rfl).trans (by first | rfl | decide +kernel)
theorem bad_1 {x y : D} (h : x ∈ odds1) : m_test_pixels [x, y] μ = .exc ⟨"InvalidKind", [("kind", x)]⟩ μ := by
  refine wr_exq ?_
  unfold m_test_pixels b_test_pixels
  sizeOf_list_dec
  unfold m_check_kind b_check_kind
  sizeOf_list_dec
  rw [odds1_k h]
  sizeOf_list_dec
  simp only [ws_sRaise]
  sizeOf_list_dec
theorem bad_2 {kd : Str} {x : D} (hk : kd ∈ kinds) (h : x ∈ odds2) : m_test_pixels [.str kd, x] μ = .exc ⟨"InvalidNumber", [("number", x)]⟩ μ := by
  refine wr_exq ?_
  unfold m_test_pixels b_test_pixels
  sizeOf_list_dec
  rw [ckk_k hk]
  sizeOf_list_dec
  unfold t_test_pixels_1 c_MAX_NODES
  sizeOf_list_dec
  rw [odds2_n h]
  sizeOf_list_dec
  simp only [ws_sRaise]
  sizeOf_list_dec
theorem ne_two {l : Nat} {k : Int} {s : Str} (h : μ[l]? = some (.lst [.lst [.int k, .str s], .lst [.int k, .str s]])) : neM (.loc l) (.lst [.lst [.int k, .str s], .lst [.int k, .str s]]) μ = .ok (.bl false) μ := by
  have e1 : lookD μ (.loc l) = .ro [.lst [.int k, .str s], .lst [.int k, .str s]] := by
    unfold lookD
    dsimp only
    rw [h]
  have e2 : lookD μ (.lst [.lst [.int k, .str s], .lst [.int k, .str s]]) = .lst [.lst [.int k, .str s], .lst [.int k, .str s]] := rfl
  unfold neM eqB
  have h : eqOk (.lst [.lst [.int k, .str s], .lst [.int k, .str s]]) = true := by simp [eqOk, SE.isP, SE.isPL, dP, dPL, PyData.depth, PyData.depthAll]
  have h' : eqOk (.ro [.lst [.int k, .str s], .lst [.int k, .str s]]) = true := by simp [eqOk, SE.isP, SE.isPL, dP, dPL, PyData.depth, PyData.depthAll]
  rw [e1, e2]
  simp only [scD, h, h', and_self, if_true, dP, dPL, PyData.eqv, PyData.eqvAll, Bool.and_true, decide_true, beq_self_eq_true]
  rfl
end
end Zk37

/-! what is refused: the loops. -/
namespace Zk37
open PySem PySem.Spec PyProof.Rows L2 SE
section
variable {μ : Mem}
theorem lam_x {mb : Ev → M D} {ρ : Ev} {c f : Str} {k : Int} {d : D} (hm : mt_0 c = some true) (hk : ∀ fs μ, m__law_kind [.err c fs] μ = .ok (.int k) μ) (hf : ∀ μ, m__law_field [.err c [(f, d)], .int k] μ = .ok (.str (dP d).shown) μ)
    (h : mb (ρ.map keepE) μ = .exc ⟨c, [(f, d)]⟩ μ) : eLam mL__law_caught mb ρ μ = .ok (.lst [.int k, .str (dP d).shown]) μ := eLam_ap (caught_x hm hk hf h) rfl
theorem lam_1 {mb : Ev → M D} {ρ : Ev} {x y : D} (hx : x ∈ odds1) (h : mb (ρ.map keepE) μ = m_test_pixels [x, y] μ) : eLam mL__law_caught mb ρ μ = .ok (.lst [.int 3, .str (dP x).shown]) μ :=
  lam_x (c := "InvalidKind") (f := "kind") (by rfl) (fun _ _ => kind_3) (fun _ => field_3 (odds1_sh x hx)) (h.trans (bad_1 hx))
theorem lam_2 {mb : Ev → M D} {ρ : Ev} {kd : Str} {x : D} (hk : kd ∈ kinds) (hx : x ∈ odds2) (h : mb (ρ.map keepE) μ = m_test_pixels [.str kd, x] μ) : eLam mL__law_caught mb ρ μ = .ok (.lst [.int 6, .str (dP x).shown]) μ :=
  lam_x (c := "InvalidNumber") (f := "number") (by rfl) (fun _ _ => kind_6) (fun _ => field_6 (odds2_sh x hx)) (h.trans (bad_2 hk hx))
theorem app_1 {a b : D} : wr (appM (.loc μ.length) b (μ ++ [.lst [a]])) (fun d μ' => μ' = μ ++ [.lst [a, b]]) (fun _ _ => False) := by
  have hl : (μ ++ [MO.lst [a]])[μ.length]? = some (.lst [a]) := by simp
  unfold appM
  dsimp only
  rw [hl]
  dsimp only
  rw [if_pos (by simp)]
  show (μ ++ [MO.lst [a]]).set μ.length _ = _
  simp
theorem isl_1 {a : D} : isLstB (.loc μ.length) (μ ++ [.lst [a]]) = true := by
  unfold isLstB
  simp
theorem pw29 : powM (.int 10) (.int 29) μ = .ok (.int 100000000000000000000000000000) μ := by
  rw [powM_i ⟨by omega, by omega, by decide +kernel⟩]
  rfl
theorem ng1 : negM (.int 1) μ = .ok (.int (-1)) μ := rfl
theorem ng29 : negM (.int 100000000000000000000000000000) μ = .ok (.int (-100000000000000000000000000000)) μ := rfl
theorem lst2 {ρ : Ev} : (eL lstM (lCons (eC .non) (lCons (eC (.int 0)) (lCons (e1 negM (eC (.int 1))) (lCons (eC (.int 201)) (lCons (eC (.bl true)) (lCons (eC (.bl false)) (lCons (eC (.str "1")) (lCons (eL tupM (lCons (eC (.int 1)) lNil)) (lCons (eL lstM (lCons (eC (.int 1)) lNil)) (lCons (eC (.dct [])) (lCons (e2 powM (eC (.int 10)) (eC (.int 29))) (lCons (e1 negM (e2 powM (eC (.int 10)) (eC (.int 29)))) lNil))))))))))))) ρ μ = .ok (.lst odds2) μ := by
  simp only [eL_ap, lCons_ap, lNil_ap, eC_ap, e1_ap, e2_ap, tupM_ap, lstM_ap, pw29, ng1, ng29, List.length_cons, List.length_nil, Nat.reduceAdd, Nat.reduceLeDiff, if_true]
  rfl
theorem refused_v {kd : Str} {n : Nat} (hk : kd ∈ kinds) : wr (m__law_refused_right [.str kd, .int n] μ) (fun d μ' => d = .bl true ∧ Lg μ μ') (fun _ _ => False) := by
  have k0 : keepE (some (D.str kd)) = some (D.str kd) := keep_some rfl
  have k1 : keepE (some (D.int n)) = some (D.int n) := keep_some rfl
  unfold m__law_refused_right b__law_refused_right
  sizeOf_list_dec
  rw [show ([.non, .int 0, .bl true, .str "", .str "Free", .str "free ", .str "over", .lst [.str "free"], .tup [.str "free"], .dct []] : List D) = odds1 from rfl]
  refine ws_for (fun _ ρ μ' => Lg μ μ' ∧ ∃ a b, ρ = [some (.str kd), some (.int n), a, b]) ⟨Lg.refl, _, _, rfl⟩ ?_ ?_
  · rintro j x ρ μ1 hx ⟨g, a, b, rfl⟩
    have hx := List.mem_of_getElem? hx
    have k2 : keepE (some x) = some x := keep_some (shOk_no (odds1_sh x hx))
    sizeOf_list_dec
    have t1 : eLam mL__law_caught (eCall m_test_pixels (lCons (eVar 2) (lCons (eVar 1) lNil))) [some (.str kd), some (.int n), some x, b] μ1 = _ := lam_1 (y := .int n) hx (by
      rw [eCall_ap]
      simp only [lCons_ap, eVar_ap, lNil_ap, List.map_cons, List.getElem?_cons_zero, List.getElem?_cons_succ, k1, k2])
    rw [t1]
    sizeOf_list_dec
    unfold t__law_refused_right_1
    sizeOf_list_dec
    rw [isl_1]
    sizeOf_list_dec
    have t2 : eLam mL__law_caught (eCallK m_test_pixels gD_test_pixels_0_uses_kind lNil (lCons (eC .non) (lCons (eVar 2) lNil))) [some (.str kd), some (.int n), some x, some (.loc μ1.length)] (μ1 ++ [.lst [.lst [.int 3, .str (dP x).shown]]]) = _ := lam_1 (y := .non) hx (by
      rw [eCallK_ap]
      simp only [lCons_ap, eVar_ap, eC_ap, lNil_ap, List.map_cons, List.getElem?_cons_zero, List.getElem?_cons_succ, k1, k2]
      rfl)
    rw [t2]
    sizeOf_list_dec
    refine wr_mono app_1 ?_ (fun _ _ z => z.elim)
    rintro _ _ rfl
    unfold t__law_refused_right_0
    sizeOf_list_dec
    rw [reprM_ap (odds1_sh x hx)]
    sizeOf_list_dec
    rw [mul2]
    sizeOf_list_dec
    rw [ne_two (by simp)]
    sizeOf_list_dec
    exact ⟨g.trans Lg.one, _, _, rfl⟩
  · rintro ρ μ1 ⟨g, a, b, rfl⟩
    unfold t__law_refused_right_5
    simp only [ws_sSeq, ws_sForE, wr_eSeq]
    rw [lst2]
    simp only [wr_ok, seqL_l]
    refine ws_for (fun _ ρ μ' => Lg μ μ' ∧ ∃ a b, ρ = [some (.str kd), some (.int n), a, b]) ⟨g, _, _, rfl⟩ ?_ ?_
    · rintro j x ρ μ2 hx ⟨g, a, b, rfl⟩
      have hx := List.mem_of_getElem? hx
      have k2 : keepE (some x) = some x := keep_some (shOk_no (odds2_sh x hx))
      sizeOf_list_dec
      have t1 : eLam mL__law_caught (eCall m_test_pixels (lCons (eVar 0) (lCons (eVar 2) lNil))) [some (.str kd), some (.int n), some x, b] μ2 = _ := lam_2 hk hx (by
        rw [eCall_ap]
        simp only [lCons_ap, eVar_ap, lNil_ap, List.map_cons, List.getElem?_cons_zero, List.getElem?_cons_succ, k0, k2])
      rw [t1]
      sizeOf_list_dec
      unfold t__law_refused_right_3
      sizeOf_list_dec
      rw [isl_1]
      sizeOf_list_dec
      have t2 : eLam mL__law_caught (eCallK m_test_pixels gD_test_pixels_0_uses_kind lNil (lCons (eVar 2) (lCons (eVar 0) lNil))) [some (.str kd), some (.int n), some x, some (.loc μ2.length)] (μ2 ++ [.lst [.lst [.int 6, .str (dP x).shown]]]) = _ := lam_2 hk hx (by
        rw [eCallK_ap]
        simp only [lCons_ap, eVar_ap, eC_ap, lNil_ap, List.map_cons, List.getElem?_cons_zero, List.getElem?_cons_succ, k0, k2]
        rfl)
      rw [t2]
      sizeOf_list_dec
      refine wr_mono app_1 ?_ (fun _ _ z => z.elim)
      rintro _ _ rfl
      unfold t__law_refused_right_2
      sizeOf_list_dec
      rw [reprM_ap (odds2_sh x hx)]
      sizeOf_list_dec
      rw [mul2]
      sizeOf_list_dec
      rw [ne_two (by simp)]
      sizeOf_list_dec
      exact ⟨g.trans Lg.one, _, _, rfl⟩
    · rintro ρ μ2 ⟨g, a, b, rfl⟩
      unfold t__law_refused_right_4
      sizeOf_list_dec
      exact g
end
end Zk37

/-! the whole. -/
namespace Zk37
open PySem PySem.Spec PyProof.Rows L2 SE
section
variable {μ : Mem}
theorem right_v {l : Nat} (hs : Pl l 0 μ) : wr (m__law_right [.loc l] μ) (fun d _ => d = .bl true) (fun _ _ => False) := by
  unfold m__law_right b__law_right
  sizeOf_list_dec
  refine pick_k hs (by omega) (by simp) (by simp) fun d hd μ1 s1 f1 => ?_
  have hd : ∃ kd ∈ kinds, d = .str kd := by
    simp only [List.mem_cons, List.not_mem_nil, or_false] at hd
    rcases hd with rfl | rfl | rfl | rfl | rfl <;> exact ⟨_, by simp [kinds], rfl⟩
  obtain ⟨kd, hk, rfl⟩ := hd
  sizeOf_list_dec
  refine take_k s1 (by omega) (by omega) (by decide +kernel) fun k μ2 k0 k1 s2 f2 => ?_
  sizeOf_list_dec
  obtain ⟨n, hn⟩ : ∃ n : Nat, 1 + k = (n : Int) := ⟨(1 + k).toNat, by omega⟩
  rw [hn]
  unfold t__law_right_1
  sizeOf_list_dec
  refine wr_mono (told_v hk (by omega) (by omega) (.inr (by omega))) ?_ (fun _ _ z => z.elim)
  rintro _ μ3 ⟨rfl, g3⟩
  have s3 := s2.lg g3
  sizeOf_list_dec
  refine wr_mono (refused_v hk) ?_ (fun _ _ z => z.elim)
  rintro _ μ4 ⟨rfl, g4⟩
  have s4 := s3.lg g4
  sizeOf_list_dec
  unfold t__law_right_0
  sizeOf_list_dec
  refine take_k s4 (by omega) (by omega) (by decide +kernel) fun j μ5 j0 j1 s5 f5 => ?_
  sizeOf_list_dec
  obtain ⟨m, hm⟩ : ∃ m : Nat, 200 - j = (m : Int) := ⟨(200 - j).toNat, by omega⟩
  rw [hm]
  refine wr_mono (told_v (kd := "solid") (by simp [kinds]) (by omega) (by omega) (.inl (by decide +kernel))) ?_ (fun _ _ z => z.elim)
  rintro _ μ6 ⟨rfl, g6⟩
  sizeOf_list_dec
  refine wr_mono (told_v (kd := "cutout") (n := 200) (by simp [kinds]) (by omega) (by omega) (.inl (by decide +kernel))) ?_ (fun _ _ z => z.elim)
  rintro _ μ7 ⟨rfl, g7⟩
  rfl
theorem lcF_t {i : Nat} {me : Ev → M D} {ρ : Ev} : ∀ {ds acc : List D} {μ : Mem}, (∀ d ∈ ds, ∀ μ, wr (me ((ρ.set i none).set i (some d)) μ) (fun y _ => y = .bl true) (fun _ _ => False)) → acc.length + ds.length ≤ 100000 →
    wr (lcF i bYes me ρ ds acc μ) (fun x _ => x = .lst (acc ++ ds.map fun _ => .bl true)) (fun _ _ => False)
  | [], acc, μ, _, _ => by
    show D.lst acc = _
    rw [List.map_nil, List.append_nil]
  | d :: ds, acc, μ, h, hl => by
    have e1 := h d List.mem_cons_self μ
    simp only [List.length_cons] at hl
    show wr (M.bind (noE (bYes _)) _ μ) _ _
    unfold M.bind noE
    dsimp only [bYes, M.pure]
    rw [if_pos rfl]
    cases q : me ((ρ.set i none).set i (some d)) μ with
    | ok y μ1 =>
      rw [q] at e1
      have e1 : y = .bl true := e1
      subst e1
      dsimp only
      rw [if_pos (by omega)]
      have := lcF_t (acc := acc ++ [.bl true]) (μ := μ1) (fun x hx => h x (List.mem_cons_of_mem _ hx)) (by simp; omega)
      rw [List.append_assoc] at this
      exact this
    | exc e μ1 =>
      rw [q] at e1
      exact e1.elim
    | bad =>
      rw [q] at e1
      exact e1.elim
theorem all_t {ds : List D} : allM [.lst (ds.map fun _ => .bl true)] μ = .ok (.bl true) μ := by
  rw [allM_map (f := fun _ => true)]
  congr 2
  simp
theorem free_200 : (due "free" 200).length = 20301 := by
  unfold due
  rw [List.length_map, ixs_free]
  decide +kernel
theorem white_200 : (due "white" 200).length = 201 := by
  unfold due
  rw [List.length_map, ixs_white]
  simp
def g1 : D → D
  | .str kd => .tup (due kd 1)
  | d => d
theorem first_is : ([.str "free", .str "solid", .str "cutout", .str "white", .str "stencil"] : List D).map g1 = [.tup [.tup [.tup [.int 0, .int 1], .tup [.int 0, .int 1]], .tup [.tup [.int 0, .int 1], .tup [.int 1, .int 1]], .tup [.tup [.int 1, .int 1], .tup [.int 1, .int 1]]],
    .tup [.tup [.tup [.int 0, .int 1], .tup [.int 1, .int 1]], .tup [.tup [.int 1, .int 1], .tup [.int 1, .int 1]]], .tup [.tup [.tup [.int 0, .int 1], .tup [.int 0, .int 1]], .tup [.tup [.int 0, .int 1], .tup [.int 1, .int 1]], .tup [.tup [.int 1, .int 1], .tup [.int 1, .int 1]]],
    .tup [.tup [.tup [.int 0, .int 1], .tup [.int 0, .int 1]], .tup [.tup [.int 1, .int 1], .tup [.int 1, .int 1]]], .tup [.tup [.tup [.int 0, .int 1], .tup [.int 0, .int 1]], .tup [.tup [.int 1, .int 1], .tup [.int 1, .int 1]]]] := by kernel_rfl
theorem law_true : ∀ ns : List Int, ns.length ≤ 63 → (∀ z ∈ ns, Builtin.Int.intBits z ≤ 1048576) → ∃ μ', m_law [.ro (ns.map .int)] [] = .ok (.bl true) μ' := by
  intro ns hl _
  refine wr_ex ?_
  unfold m_law b_law
  sizeOf_list_dec
  simp only [gT, gsCons, gsNil, gN, List.length_cons, List.length_nil, Nat.reduceAdd, if_true]
  sizeOf_list_dec
  unfold t_law_5
  sizeOf_list_dec
  unfold t_law_4
  sizeOf_list_dec
  unfold t_law_3
  sizeOf_list_dec
  have kd_of : ∀ d ∈ ([.str "free", .str "solid", .str "cutout", .str "white", .str "stencil"] : List D), ∃ kd ∈ kinds, d = .str kd := by
    intro d hd
    simp only [List.mem_cons, List.not_mem_nil, or_false] at hd
    rcases hd with rfl | rfl | rfl | rfl | rfl <;> exact ⟨_, by simp [kinds], rfl⟩
  rw [lcF_map (g := g1) (fun d hd μ => by
    obtain ⟨kd, hk, rfl⟩ := kd_of d hd
    simp only [eCall_ap, lCons_ap, lNil_ap, eVar_ap, eC_ap, List.set_cons_zero, List.set_cons_succ, List.getElem?_cons_zero, List.getElem?_cons_succ]
    exact tp_v (n := 1) hk (by omega) (by omega)) (by simp)]
  rw [List.nil_append, first_is]
  sizeOf_list_dec
  rw [reprM_ap (by decide +kernel)]
  sizeOf_list_dec
  rw [reprM_ap (by decide +kernel)]
  sizeOf_list_dec
  unfold t_law_2
  sizeOf_list_dec
  rw [rng2M_i (by omega) (by omega)]
  sizeOf_list_dec
  generalize hk5 : ([.str "free", .str "solid", .str "cutout", .str "white", .str "stencil"] : List D) = K5 at kd_of
  have k5l : K5.length = 5 := by rw [← hk5]; rfl
  refine ws_for (fun _ ρ _ => ∃ a b c d e f g, ρ = [some (.ro (ns.map .int)), a, b, c, d, some (.lst K5), e, f, g]) ⟨_, _, _, _, _, _, _, rfl⟩ ?_ ?_
  · rintro j x ρ μ hx ⟨a, b, c, d, e, f, g, rfl⟩
    obtain ⟨hj, rfl⟩ := rngL_at hx
    have hj : j < 8 := hj
    sizeOf_list_dec
    have hn : (1 : Int) + j = ((1 + j : Nat) : Int) := by omega
    rw [hn]
    refine wr_mono (lcF_t (fun d hd μ => ?_) (by rw [k5l]; simp)) ?_ (fun _ _ z => z.elim)
    · obtain ⟨kd, hk, rfl⟩ := kd_of d hd
      simp only [wr_eCall, wr_lCons, wr_lNil, wr_eVar, List.set_cons_zero, List.set_cons_succ, List.getElem?_cons_zero, List.getElem?_cons_succ]
      exact wr_mono (told_v hk (by omega) (by omega) (.inr (by omega))) (fun _ _ z => z.1) (fun _ _ z => z)
    · rintro _ μ2 rfl
      rw [List.nil_append, all_t]
      sizeOf_list_dec
      exact ⟨_, _, _, _, _, _, _, rfl⟩
  · rintro ρ μ ⟨a, b, c, d, e, f, g, rfl⟩
    unfold t_law_1
    sizeOf_list_dec
    have t200 : m_test_pixels [.str "free", .int 200] μ = .ok (.tup (due "free" 200)) μ := tp_v (n := 200) (by simp [kinds]) (by omega) (by omega)
    have w200 : m_test_pixels [.str "white", .int 200] μ = .ok (.tup (due "white" 200)) μ := tp_v (n := 200) (by simp [kinds]) (by omega) (by omega)
    rw [t200]
    generalize hd1 : due "free" 200 = d1 at *
    have l1 : d1.length = 20301 := by rw [← hd1]; exact free_200
    sizeOf_list_dec
    rw [l1]
    sizeOf_list_dec
    rw [w200]
    generalize hd2 : due "white" 200 = d2 at *
    have l2 : d2.length = 201 := by rw [← hd2]; exact white_200
    sizeOf_list_dec
    rw [l2]
    sizeOf_list_dec
    unfold t_law_0
    sizeOf_list_dec
    have e : ((ns.map D.int).length : Int) = ns.length := by simp
    rw [e]
    rw [rng1M_i (by split <;> split <;> omega)]
    sizeOf_list_dec
    have hj : (if (if (4 : Int) < ns.length then (4 : Int) else ns.length) > 2 then (if (4 : Int) < ns.length then (4 : Int) else ns.length) else 2).toNat ≤ 4 := by
      split <;> split <;> omega
    generalize (if (if (4 : Int) < ns.length then (4 : Int) else ns.length) > 2 then (if (4 : Int) < ns.length then (4 : Int) else ns.length) else 2).toNat = N at hj
    refine wr_mono (lcF_t (fun d hd μ => ?_) (by simp [rngL]; omega)) ?_ (fun _ _ z => z.elim)
    · obtain ⟨k, hk, rfl⟩ := rng_mem hd
      simp only [wr_eCall, wr_lCons, wr_lNil, wr_eVar, List.set_cons_zero, List.set_cons_succ, List.getElem?_cons_zero, List.getElem?_cons_succ]
      refine cell_k (by omega) (by omega) fun z => ?_
      refine pool_k fun μ1 s1 _ _ => ?_
      exact right_v s1
    · rintro _ μ2 rfl
      rw [List.nil_append, all_t]
      exact rfl
end
end Zk37

open PySem PySem.W PySem.Calls PyProof.Rows
theorem PySem.Challenge.cw_layertrees_k37_test_pixels_holds : PySem.Challenge.rw_layertrees_k37_test_pixels.Holds := by
  w_on; o_law
  refine HandSHeadRun.head_any (r := OpenLaw.row PySem.Challenge.rw_layertrees_k37_test_pixels) (q := view (OpenLaw.row PySem.Challenge.rw_layertrees_k37_test_pixels).prog [74]) (H := Zk37.hk) (ob := Zk37.ob) (M := 16000) (loose := Zk37.loose) (d := HandSHeadRun.topDef (OpenLaw.row PySem.Challenge.rw_layertrees_k37_test_pixels).prog 74) (kwd := []) Zk37.ob_eq
    (by kernel_rfl) (fun s => by kernel_rfl) Zk37.run (by kernel_rfl) (by kernel_rfl) (by kernel_rfl) (by rfl) (by first | assumption | decide +kernel) (by decide +kernel) ⟨rfl, rfl, rfl, rfl, rfl, by decide +kernel⟩ ?hw ?hc
  case hw => w_witness2
  case hc =>
    refine SE.walk_gT (l := PySem.Challenge.rw_layertrees_k37_test_pixels) (n := 63) (k := 10) (x := "_law_script") rfl (by decide) (by kernel_rfl) ⟨rfl, by decide, by decide⟩ ?F
    intro w mg fa h Y G hmg0
    obtain ⟨K, KX, ⟨c, hsys⟩⟩ := Y
    have hmg : mg ("law" : PySem.Str) = some (.ref fa) := by
      have e : (HandSHeadRun.topDef (OpenLaw.row PySem.Challenge.rw_layertrees_k37_test_pixels).prog 74).name = ("law" : PySem.Str) := by kernel_rfl
      rw [← e]
      exact hmg0
    have T := Zk37.txt KX G c.t.d c.more c.t
    have e := hmg.symm.trans T.d_law.g
    cases e
    have inC : ∀ p ∈ Zk37.cs K, ∃ q ∈ Zk37.tf, He.cT K q = p := fun p hp => List.mem_map.mp (show p ∈ Zk37.tf.map (He.cT K) from hp)
    exact ⟨K, KX, _, Zk37.m_law, Zk37.TT K, Zk37.cs K, fun p hp => by obtain ⟨q, hq, rfl⟩ := inC p hp; exact c.empty q hq, fun p hp => by obtain ⟨q, hq, rfl⟩ := inC p hp; exact c.out q hq, fun p hp => by obtain ⟨q, hq, rfl⟩ := inC p hp; exact PySem.W.codeHd_of_K KX (c.hd q hq),
      fun q hq => by
        have e : Zk37.TT K = (Zk37.TT K) := rfl
        simp only [Zk37.TT, List.mem_cons, List.not_mem_nil, or_false] at hq
        rcases hq with rfl <;> exact ⟨_, by simp [Zk37.cs], rfl⟩, hsys, T.ks,
      fun s v => L2.FunD.bindsA (ps := ["_law_script"]) T.d_law.F (fun _ _ _ _ _ _ us hl => match us, hl with | [_], _ => rfl) s [v] rfl, Zk37.law_true, fun base _ _ TB => Zk37.ok_law T TB⟩
