import PyProof.Rows.All
import Wide.All
import OpenK.AllK
import Wide.FinOn
import HandS.ForMost
import HandS.ForExc
import HandS.Defaults
import HandS.CallSlots
import HandS.Wide
import HandS.EndTab
import HandS.HeadHook4
import HandS.Head2
import HandS.ExcInit
import HandS.ExcField
import HandS.ExcIs
import HandS.IsInst
import HandS.TupAny
import HandS.DeepEq
import HandS.Style
import KE.DataFind
import PyProof.ReprReads
import PyProof.ReprRoads
import HandS.RaiseMore
import HandS.TryOnly
import HandS.ExcCtx
import HandS.HotCalls
import HandS.Dict
import HandS.Head0
import HandS.Head1
import HandS.HeadEnd
import HandS.HeadHook1
import HandS.HeadHook2
import HandS.HeadHook3
import HandS.TryMany
import HandS.ExcInitHot
import HandS.Comp
import HandS.List
import HandS.Text
import PyProof.RulesMatch
import HandS.FStr
import HandS.Codes
import PySem.Challenge.RW_layertrees_k05_texts_of_pixels
set_option Elab.async false
set_option linter.all false
set_option maxRecDepth 100000
set_option maxHeartbeats 4000000
/-! SE0: values; what the head tells, as Booleans. -/
namespace SE
open PySem PySem.Spec PyProof.Rows L2
/-- a value: a tree of what never changes; loc l is the l-th object that may change -/
inductive D where
  | non | bl (b : Bool) | int (i : Int) | str (x : Str)
  | tup (xs : List D) | lst (xs : List D) | ro (xs : List D) | dct (kvs : List (Key × D))
  | loc (l : Nat)
  /-- a built-in type; a class or a def of the text, by its global name -/
  | ty (n : String) | gl (x : Str)
  /-- an exception object of the text: the name of its class, its own fields -/
  | err (cls : Str) (fs : List (Str × D))
  /-- a lambda that was handed on: the slots of the def that made it -/
  | clo (ρ : List (Option D))
deriving Inhabited

/-! ### what the top says of an exception's class -/
def oexB (K : PySem.W.Frag) (C : Addr) : Bool := (match K.lookup C with
  | some ⟨.type t, _, .cls cd, sl⟩ => decide (t = "type") && (match cd.mro, sl.toList with
    | .ref C' :: bm, [_, _, _, _, some (.builtin n), _] => decide (C' = C) && (decide (n = "ValueError.__new__") && (!cd.hasDel && (PySem.HandSPX.refsVE bm && cd.hasDict)))
    | _, _ => false)
  | _ => false) && (decide (PySem.W.findIn K (.ref C) "__setattr__" = some (some (.builtin "object.__setattr__"))) && (decide (PySem.W.subIn K (.ref C) (.type "BaseException") = some true) && (decide (PySem.W.typeIn K (.ref C) = some (.type "type")) && PySem.W.keepIn K (.ref C))))
def errB (K : PySem.W.Frag) (c fld : Str) : Bool := oexB K (He.ga K c) && (decide (PySem.W.findIn K (.ref (He.ga K c)) "__init__" = some (some (.ref (He.ma K (He.ga K c) "__init__")))) && (decide (PySem.W.typeIn K (.ref (He.ma K (He.ga K c) "__init__")) = some (.type "function")) && decide (PySem.W.findIn K (.ref (He.ga K c)) fld = some none)))
/-- a class, its bases of the text, its built-in bases -/
structure ClsE where
  c : Str
  ups : List Str
  bs : List String
structure CT where
  es : List ClsE
  ns : List Str
  ts : List String
def clsInit : Stmt → Stmt
  | .ClassDef _ _ _ (st :: _) _ _ _ _ _ _ _ => st
  | x => x
def atB (K : PySem.W.Frag) (cs : List Str) (f : Str) : Bool := cs.all fun c => xfB K (He.ga K c) && decide (PySem.W.findIn K (.ref (He.ga K c)) f = some none)
def excB (K : PySem.W.Frag) (D : Addr) : Bool := decide (PySem.W.findIn K (.ref D) "__getattribute__" = some (some (.builtin "BaseException.__getattribute__"))) && (decide (PySem.W.findIn K (.ref D) "__getattr__" = some none) && (decide (PySem.W.subIn K (.ref D) (.type "BaseException") = some true) &&
  (PySem.W.hasDictIn K D && (decide (PySem.W.findIn K (.ref D) "__class__" = some (some (.builtin "object.__class__"))) && (decide (PySem.W.specialIn K (.builtin "object.__class__") "__get__" = some (some (.builtin "getset_descriptor.__get__"))) && (decide (PySem.W.takesIn K (.builtin "object.__class__") = some true) && decide (PySem.W.mroIn K D (.type "object") = some true)))))))
def ctB (K : PySem.W.Frag) (ct : CT) : Bool := ct.es.all fun e => excB K (He.ga K e.c) && ((ct.ns.all fun T => decide (PySem.W.kitOne K (.ref (He.ga K e.c)) (.ref (He.ga K T)) = some (e.ups.contains T))) && ct.ts.all fun T => decide (PySem.W.kitOne K (.ref (He.ga K e.c)) (.type T) = some (e.bs.contains T)))
def mtL (l : List (Str × Bool)) : Str → Option Bool := fun c => l.lookup c
def mtB (K : PySem.W.Frag) (l : List (Str × Bool)) (as : List Str) : Bool := l.all fun q => match as with
  | [a] => decide (PySem.W.exmOne K (.ref (He.ga K q.1)) (.ref (He.ga K a)) = some q.2)
  | as => decide (PySem.W.exmAny K (.ref (He.ga K q.1)) (as.map fun a => .ref (He.ga K a)) = some q.2)
mutual
def datB (K : PySem.W.Frag) : D → Value → Bool
  | .non, .none => true
  | .bl b, .bool c => decide (b = c)
  | .int i, .int j _ => decide (i = j)
  | .str x, .str y _ => decide (x = y)
  | .tup ds, .ref a => (match K.lookup a with
    | some ⟨cl, _, .seq its _, _⟩ => decide (cl = .type "tuple") && (decide (its.size ≤ sizeLine) && datLB K ds its.toList)
    | _ => false)
  | _, _ => false
def datLB (K : PySem.W.Frag) : List D → List Value → Bool
  | [], [] => true
  | d :: ds, v :: vs => datB K d v && datLB K ds vs
  | _, _ => false
end
def conB (K : PySem.W.Frag) (x : Str) (d : D) : Bool := match PySem.W.nsIn K mainGlobals x with
  | some (some u) => datB K d u
  | _ => false
/-! ### the Hook -/
def sysB (g : Addr → Option Obj) : Bool := match g sysModules with
  | some ⟨_, _, .dict _ _, _⟩ => true
  | _ => false
theorem sysB_ok {g : Addr → Option Obj} (h : sysB g = true) : ∃ oS esS epS, g sysModules = some oS ∧ oS.data = .dict esS epS := by
  unfold sysB at h
  split at h
  · rename_i e
    exact ⟨_, _, _, e, rfl⟩
  · cases h
structure SaysY (fa : List He.Fa) (fn : List He.DefD) (tf : List He.Defn) (ex : PySem.W.Frag → Bool) (w : World) (h : Heap) (K : PySem.W.Frag) : Prop where
  x : He.SaysX fa fn [] tf ex w h K
  sys : ∃ oS esS epS, h.get? sysModules = some oS ∧ oS.data = .dict esS epS
def hookY (n : Nat) (fa : List He.Fa) (fn : List He.DefD) (tf : List He.Defn) (ex : PySem.W.Frag → Bool) : PySem.W.Hook where
  α := He.AlX × Bool
  obs := fun s => (He.obsX n fa fn [] tf ex s.heap.get?, sysB s.heap.get?)
  val := fun w => (He.valX fn [] w, true)
  says := fun w h => ∃ K : PySem.W.Frag, K.In h ∧ SaysY fa fn tf ex w h K
  of := fun _ _ e => ⟨_, He.frT_in, He.saysX_of (congrArg Prod.fst e), sysB_ok (congrArg Prod.snd e)⟩
  keeps := fun _ _ _ ⟨K, hK, c⟩ k => ⟨K, PySem.W.Frag.In.keeps hK k, ⟨c.x.t, c.x.more, c.x.hd, c.x.out, fun p hp => k _ _ (c.x.empty p hp)⟩, let ⟨o, es, ep, e, d⟩ := c.sys; ⟨o, es, ep, k _ _ e, d⟩⟩
def obsY (n : Nat) (fa : List He.Fa) (fn : List He.DefD) (tf : List He.Defn) (ex : PySem.W.Frag → Bool) (g : Addr → Option Obj) : He.AlX × Bool := (He.obsX n fa fn [] tf ex g, sysB g)
theorem obsY_eq {n : Nat} {fa : List He.Fa} {fn : List He.DefD} {tf : List He.Defn} {ex : PySem.W.Frag → Bool} {g : Addr → Option Obj} {s : Shared} (h : ∀ a, g a = s.heap.get? a) : obsY n fa fn tf ex g = (hookY n fa fn tf ex).obs s := by
  have e : g = s.heap.get? := funext h
  rw [e]
  rfl
/-! ### the run's equation in parts: each part runs the head anew, the kernel keeps less at once -/
section
variable {σ α β : Type} {x : Option σ}
theorem map_pair {f : σ → α} {g : σ → β} {u : α} {v : β} (h1 : x.map f = some u) (h2 : x.map g = some v) : x.map (fun s => (f s, g s)) = some (u, v) := by
  cases x with
  | none => cases h1
  | some s =>
    have e1 : f s = u := Option.some.inj h1
    have e2 : g s = v := Option.some.inj h2
    show some (f s, g s) = _
    rw [e1, e2]
theorem map_and {f g : σ → Bool} (h1 : x.map f = some true) (h2 : x.map g = some true) : x.map (fun s => f s && g s) = some true := by
  cases x with
  | none => cases h1
  | some s =>
    have e1 : f s = true := Option.some.inj h1
    have e2 : g s = true := Option.some.inj h2
    show some (f s && g s) = _
    rw [e1, e2]
    rfl
theorem map_cut {f : σ → List Bool} (n : Nat) (h1 : x.map (fun s => ((f s).take n).all id) = some true) (h2 : x.map (fun s => ((f s).drop n).all id) = some true) : x.map (fun s => (f s).all id) = some true := by
  cases x with
  | none => cases h1
  | some s =>
    have e1 : ((f s).take n).all id = true := Option.some.inj h1
    have e2 : ((f s).drop n).all id = true := Option.some.inj h2
    show some ((f s).all id) = _
    rw [← List.take_append_drop n (f s), List.all_append, e1, e2]
    rfl
theorem map_obsD {k : σ → PySem.W.Frag} {fa fb : List He.Fa} {fn fm : List He.DefD} (h1 : x.map (fun s => He.obsD fa fn (k s)) = some (He.valD fn)) (h2 : x.map (fun s => He.obsD fb fm (k s)) = some (He.valD fm)) : x.map (fun s => He.obsD (fa ++ fb) (fn ++ fm) (k s)) = some (He.valD (fn ++ fm)) := by
  cases x with
  | none => cases h1
  | some s =>
    have e1 : He.obsD fa fn (k s) = He.valD fn := Option.some.inj h1
    have e2 : He.obsD fb fm (k s) = He.valD fm := Option.some.inj h2
    show some (He.obsD (fa ++ fb) (fn ++ fm) (k s)) = _
    congr 1
    have a1 := congrArg Prod.fst e1
    have a2 := congrArg Prod.snd e1
    have b1 := congrArg Prod.fst e2
    have b2 := congrArg Prod.snd e2
    have c1 : ((fa.all fun f => f.ok (k s)) && fn.all fun d => d.ok (k s)) = true := a1
    have d1 : ((fb.all fun f => f.ok (k s)) && fm.all fun d => d.ok (k s)) = true := b1
    have c2 : (fn.map fun d => He.fnW (k s) d.at_) = fn.map He.DefD.val := a2
    have d2 : (fm.map fun d => He.fnW (k s) d.at_) = fm.map He.DefD.val := b2
    obtain ⟨p1, p2⟩ := Bool.and_eq_true_iff.mp c1
    obtain ⟨q1, q2⟩ := Bool.and_eq_true_iff.mp d1
    show (((fa ++ fb).all fun f => f.ok (k s)) && (fn ++ fm).all fun d => d.ok (k s), (fn ++ fm).map fun d => He.fnW (k s) d.at_) = (true, (fn ++ fm).map He.DefD.val)
    rw [List.all_append, List.all_append, p1, p2, q1, q2, List.map_append, List.map_append, c2, d2]
    rfl
end
section
open PySem.W PySem.Calls HandSHeadRun
/-- the run that the parts look at -/
noncomputable abbrev runO (R : OpenRow) (M : Nat) (w : World) (os : OsState) : Option SharedT := endF (stepQ (denQ tabQ) R.prog w) M R.prog w os
noncomputable abbrev runK (n : Nat) (s : SharedT) : PySem.W.Frag := He.frT (getT s) (He.asD (getT s) n)
theorem run_of {R : OpenRow} {q : Program} {n M : Nat} {fa : List He.Fa} {fn : List He.DefD} {tf : List He.Defn} {ex : PySem.W.Frag → Bool} {loose : List PySem.Str} {w : World}
    (hL : ∀ os, (runO R M w os).map (fun s => looksF R.prog (boot_heap w.params) s.abs) = some true)
    (hS : ∀ os, (runO R M w os).map (fun s => seenQ q loose (importedModules R.prog.main.body) (fun s => xlAt q [] s && recOk R.toRowW.records s) s.abs) = some (openGood q loose))
    (hD : ∀ os, (runO R M w os).map (fun s => He.obsD fa fn (runK n s)) = some (He.valD fn))
    (hE : ∀ os, (runO R M w os).map (fun s => ex (runK n s)) = some true)
    (hT : ∀ os, (runO R M w os).map (fun s => He.tabsB (getT s) tf (runK n s)) = some true)
    (hY : ∀ os, (runO R M w os).map (fun s => sysB (getT s)) = some true) :
    RunEq R q (hookY n fa fn tf ex) (fun s => obsY n fa fn tf ex (getT s)) M loose w := fun os => by
  have hX : (runO R M w os).map (fun s => ((He.obsD fa fn (runK n s), ([] : List (Option (List (Option (Str × Int)))))), (ex (runK n s) && He.tabsB (getT s) tf (runK n s)))) = some ((He.valD fn, []), true) :=
    map_pair (f := fun s => (He.obsD fa fn (runK n s), ([] : List (Option (List (Option (Str × Int))))))) (map_pair (g := fun _ => []) (hD os) (by
      have := hL os
      cases h : runO R M w os with
      | none => rw [h] at this; cases this
      | some s => rfl)) (map_and (hE os) (hT os))
  exact map_pair (hL os) (map_pair (hS os) (map_pair hX (hY os)))
end
end SE

namespace Zk05
open PySem PySem.Spec PyProof.Rows L2 SE
def topS (i : Nat) : Stmt := PySem.Challenge.pw_layertrees_k05_texts_of_pixels.main.body.getD i (.Pass ⟨0, 0, 0, 0⟩)
abbrev s_is_integer : Stmt := topS 39
abbrev s_common_divisor : Stmt := topS 40
abbrev s_is_less : Stmt := topS 41
abbrev s_is_ratio : Stmt := topS 42
abbrev s_is_share : Stmt := topS 43
abbrev s_ratio_text : Stmt := topS 44
abbrev s_integer_in : Stmt := topS 45
abbrev s_ratio_in : Stmt := topS 46
abbrev s_is_pixel : Stmt := topS 48
abbrev s_check_pixel : Stmt := topS 49
abbrev s_pixel_text : Stmt := topS 50
abbrev s_pixel_in : Stmt := topS 51
abbrev s_read_pixel : Stmt := topS 52
abbrev s__law_seed : Stmt := topS 54
abbrev s__law_draw : Stmt := topS 55
abbrev s__law_low : Stmt := topS 56
abbrev s__law_mul : Stmt := topS 57
abbrev s__law_part : Stmt := topS 58
abbrev s__law_dot : Stmt := topS 59
abbrev s__law_is_one : Stmt := topS 60
abbrev s__law_caught : Stmt := topS 61
abbrev s__law_written : Stmt := topS 62
abbrev s__law_number : Stmt := topS 63
abbrev s__law_half : Stmt := topS 64
abbrev s__law_reading : Stmt := topS 65
abbrev s__law_bent : Stmt := topS 66
abbrev s__law_text_right : Stmt := topS 67
abbrev s__law_odd_right : Stmt := topS 68
abbrev s_law : Stmt := topS 69
abbrev s_InvalidPixel : Stmt := clsInit (topS 3)
abbrev s_InvalidShare : Stmt := clsInit (topS 2)
abbrev s_InvalidText : Stmt := clsInit (topS 20)
/-! ### classes, tables -/
def atc : List Str := ["InvalidPixel", "InvalidShare", "InvalidText"]
def ct : CT := ⟨[⟨"InvalidPixel", ["InvalidPixel", "InputError"], ["ValueError"]⟩, ⟨"InvalidShare", ["InvalidShare", "InputError"], ["ValueError"]⟩, ⟨"InvalidText", ["InvalidText", "InputError"], ["ValueError"]⟩], "Busy" :: "Closed" :: "InputError" :: "InvalidForm" :: "InvalidKind" :: "InvalidKinds" :: "InvalidLayers" :: "InvalidLine" :: "InvalidMode" :: "InvalidName" :: "InvalidNumber" :: "InvalidOption" :: "InvalidPath" :: "InvalidPixel" :: "InvalidRows" :: "InvalidShare" :: "InvalidSpot" :: "InvalidSpots" :: "InvalidStrokes" :: "InvalidTable" :: "InvalidText" :: "InvalidTree" :: "InvalidTrees" :: "LimitError" :: "MissingSpot" :: "NotALayer" :: "NotAPicture" :: "NotAStack" :: "NothingToUndo" :: "StateError" :: "TooMany" :: "UnknownPicture" :: "UsedOften" :: "WrongKind" :: "WrongSize" :: [], "ArithmeticError" :: "LookupError" :: "ValueError" :: []⟩
def mtl_0 : List (Str × Bool) := [("InvalidPixel", true), ("InvalidShare", true), ("InvalidText", true)]
abbrev mt_0 : Str → Option Bool := mtL mtl_0
def mtl_1 : List (Str × Bool) := [("InvalidPixel", false), ("InvalidShare", false), ("InvalidText", true)]
abbrev mt_1 : Str → Option Bool := mtL mtl_1
def mtl_2 : List (Str × Bool) := [("InvalidPixel", true), ("InvalidShare", false), ("InvalidText", false)]
abbrev mt_2 : Str → Option Bool := mtL mtl_2
def cs (K : PySem.W.Frag) : List (Addr × Addr) := [He.cT K ("_law_text_right", none), He.cT K ("_law_odd_right", none), He.cT K ("law", none)]
def TT (K : PySem.W.Frag) : List (Addr × Str) := [((He.cT K ("_law_text_right", none)).2, ("_law_text_right" : Str) ++ ".<locals>." ++ "<lambda>"), ((He.cT K ("_law_odd_right", none)).2, ("_law_odd_right" : Str) ++ ".<locals>." ++ "<lambda>"), ((He.cT K ("law", none)).2, ("law" : Str) ++ ".<locals>." ++ "<lambda>")]
def c_DIGITS : D := (.str "0123456789")
def c_LONGEST_INTEGER : D := (.int 4000)
def fx (K : PySem.W.Frag) : List Bool := [errB K "InvalidPixel" "value", errB K "InvalidShare" "value", errB K "InvalidText" "text", atB K atc "text", atB K atc "value", ctB K ct, mtB K mtl_0 ["InputError", "StateError", "LimitError"], mtB K mtl_1 ["InvalidText"], mtB K mtl_2 ["InvalidPixel"], conB K "DIGITS" c_DIGITS, conB K "LONGEST_INTEGER" c_LONGEST_INTEGER, decide (((TT K).map (·.1)).Nodup), (K.lookup sysModules).isNone]
def ex (K : PySem.W.Frag) : Bool := (fx K).all id
def e_is_integer : He.DefD := ⟨("is_integer", none), "is_integer", "is_integer", defArgs s_is_integer, defBody s_is_integer, defScope s_is_integer, [], []⟩
def e_common_divisor : He.DefD := ⟨("common_divisor", none), "common_divisor", "common_divisor", defArgs s_common_divisor, defBody s_common_divisor, defScope s_common_divisor, [], []⟩
def e_is_less : He.DefD := ⟨("is_less", none), "is_less", "is_less", defArgs s_is_less, defBody s_is_less, defScope s_is_less, [], []⟩
def e_is_ratio : He.DefD := ⟨("is_ratio", none), "is_ratio", "is_ratio", defArgs s_is_ratio, defBody s_is_ratio, defScope s_is_ratio, [], []⟩
def e_is_share : He.DefD := ⟨("is_share", none), "is_share", "is_share", defArgs s_is_share, defBody s_is_share, defScope s_is_share, [], []⟩
def e_ratio_text : He.DefD := ⟨("ratio_text", none), "ratio_text", "ratio_text", defArgs s_ratio_text, defBody s_ratio_text, defScope s_ratio_text, [], []⟩
def e_integer_in : He.DefD := ⟨("integer_in", none), "integer_in", "integer_in", defArgs s_integer_in, defBody s_integer_in, defScope s_integer_in, [], []⟩
def e_ratio_in : He.DefD := ⟨("ratio_in", none), "ratio_in", "ratio_in", defArgs s_ratio_in, defBody s_ratio_in, defScope s_ratio_in, [], []⟩
def e_is_pixel : He.DefD := ⟨("is_pixel", none), "is_pixel", "is_pixel", defArgs s_is_pixel, defBody s_is_pixel, defScope s_is_pixel, [], []⟩
def e_check_pixel : He.DefD := ⟨("check_pixel", none), "check_pixel", "check_pixel", defArgs s_check_pixel, defBody s_check_pixel, defScope s_check_pixel, [], []⟩
def e_pixel_text : He.DefD := ⟨("pixel_text", none), "pixel_text", "pixel_text", defArgs s_pixel_text, defBody s_pixel_text, defScope s_pixel_text, [], []⟩
def e_pixel_in : He.DefD := ⟨("pixel_in", none), "pixel_in", "pixel_in", defArgs s_pixel_in, defBody s_pixel_in, defScope s_pixel_in, [], []⟩
def e_read_pixel : He.DefD := ⟨("read_pixel", none), "read_pixel", "read_pixel", defArgs s_read_pixel, defBody s_read_pixel, defScope s_read_pixel, [], []⟩
def e__law_seed : He.DefD := ⟨("_law_seed", none), "_law_seed", "_law_seed", defArgs s__law_seed, defBody s__law_seed, defScope s__law_seed, [], []⟩
def e__law_draw : He.DefD := ⟨("_law_draw", none), "_law_draw", "_law_draw", defArgs s__law_draw, defBody s__law_draw, defScope s__law_draw, [], []⟩
def e__law_low : He.DefD := ⟨("_law_low", none), "_law_low", "_law_low", defArgs s__law_low, defBody s__law_low, defScope s__law_low, [], []⟩
def e__law_mul : He.DefD := ⟨("_law_mul", none), "_law_mul", "_law_mul", defArgs s__law_mul, defBody s__law_mul, defScope s__law_mul, [], []⟩
def e__law_part : He.DefD := ⟨("_law_part", none), "_law_part", "_law_part", defArgs s__law_part, defBody s__law_part, defScope s__law_part, [], []⟩
def e__law_dot : He.DefD := ⟨("_law_dot", none), "_law_dot", "_law_dot", defArgs s__law_dot, defBody s__law_dot, defScope s__law_dot, [], []⟩
def e__law_is_one : He.DefD := ⟨("_law_is_one", none), "_law_is_one", "_law_is_one", defArgs s__law_is_one, defBody s__law_is_one, defScope s__law_is_one, [], []⟩
def e__law_caught : He.DefD := ⟨("_law_caught", none), "_law_caught", "_law_caught", defArgs s__law_caught, defBody s__law_caught, defScope s__law_caught, [], []⟩
def e__law_written : He.DefD := ⟨("_law_written", none), "_law_written", "_law_written", defArgs s__law_written, defBody s__law_written, defScope s__law_written, [], []⟩
def e__law_number : He.DefD := ⟨("_law_number", none), "_law_number", "_law_number", defArgs s__law_number, defBody s__law_number, defScope s__law_number, [], []⟩
def e__law_half : He.DefD := ⟨("_law_half", none), "_law_half", "_law_half", defArgs s__law_half, defBody s__law_half, defScope s__law_half, [], []⟩
def e__law_reading : He.DefD := ⟨("_law_reading", none), "_law_reading", "_law_reading", defArgs s__law_reading, defBody s__law_reading, defScope s__law_reading, [], []⟩
def e__law_bent : He.DefD := ⟨("_law_bent", none), "_law_bent", "_law_bent", defArgs s__law_bent, defBody s__law_bent, defScope s__law_bent, [], []⟩
def e__law_text_right : He.DefD := ⟨("_law_text_right", none), "_law_text_right", "_law_text_right", defArgs s__law_text_right, defBody s__law_text_right, defScope s__law_text_right, [], []⟩
def e__law_odd_right : He.DefD := ⟨("_law_odd_right", none), "_law_odd_right", "_law_odd_right", defArgs s__law_odd_right, defBody s__law_odd_right, defScope s__law_odd_right, [], []⟩
def e_law : He.DefD := ⟨("law", none), "law", "law", defArgs s_law, defBody s_law, defScope s_law, [], []⟩
def e_InvalidPixel : He.DefD := ⟨("InvalidPixel", some "__init__"), "__init__", "InvalidPixel.__init__", defArgs s_InvalidPixel, defBody s_InvalidPixel, defScope s_InvalidPixel, [], []⟩
def e_InvalidShare : He.DefD := ⟨("InvalidShare", some "__init__"), "__init__", "InvalidShare.__init__", defArgs s_InvalidShare, defBody s_InvalidShare, defScope s_InvalidShare, [], []⟩
def e_InvalidText : He.DefD := ⟨("InvalidText", some "__init__"), "__init__", "InvalidText.__init__", defArgs s_InvalidText, defBody s_InvalidText, defScope s_InvalidText, [], []⟩
def fn_0 : List He.DefD := [e_is_integer, e_common_divisor, e_is_less, e_is_ratio, e_is_share, e_ratio_text, e_integer_in, e_ratio_in, e_is_pixel, e_check_pixel, e_pixel_text, e_pixel_in, e_read_pixel, e__law_seed, e__law_draw, e__law_low, e__law_mul, e__law_part, e__law_dot, e__law_is_one, e__law_caught, e__law_written, e__law_number, e__law_half, e__law_reading, e__law_bent, e__law_text_right, e__law_odd_right, e_law, e_InvalidPixel, e_InvalidShare, e_InvalidText]
def fn : List He.DefD := (fn_0)
def fa_0 : List He.Fa := .glo "is_integer" :: .glo "common_divisor" :: .glo "is_less" :: .glo "is_ratio" :: .glo "is_share" :: .glo "ratio_text" :: .glo "integer_in" :: .glo "ratio_in" :: .glo "is_pixel" :: .glo "check_pixel" :: .glo "pixel_text" :: .glo "pixel_in" :: .glo "read_pixel" :: .glo "_law_seed" :: .glo "_law_draw" :: .glo "_law_low" :: .glo "_law_mul" :: .glo "_law_part" :: .glo "_law_dot" :: .glo "_law_is_one" :: .glo "_law_caught" :: .glo "_law_written" :: .glo "_law_number" :: .glo "_law_half" :: .glo "_law_reading" :: .glo "_law_bent" :: .glo "_law_text_right" :: .glo "_law_odd_right" :: .glo "law" :: .glo "Busy" :: .glo "Closed" :: .glo "InputError" :: .glo "InvalidForm" :: .glo "InvalidKind" :: .glo "InvalidKinds" :: .glo "InvalidLayers" :: .glo "InvalidLine" :: .glo "InvalidMode" :: .glo "InvalidName" :: .glo "InvalidNumber" :: .glo "InvalidOption" :: .glo "InvalidPath" :: .glo "InvalidPixel" :: .glo "InvalidRows" :: .glo "InvalidShare" :: .glo "InvalidSpot" :: .glo "InvalidSpots" :: .glo "InvalidStrokes" :: .glo "InvalidTable" :: .glo "InvalidText" :: .glo "InvalidTree" :: .glo "InvalidTrees" :: .glo "LimitError" :: .glo "MissingSpot" :: .glo "NotALayer" :: .glo "NotAPicture" :: .glo "NotAStack" :: .glo "NothingToUndo" :: .glo "StateError" :: .glo "TooMany" :: .glo "UnknownPicture" :: .glo "UsedOften" :: .glo "WrongKind" :: .glo "WrongSize" :: .free "ArithmeticError" :: .free "LookupError" :: .free "ValueError" :: .free "abs" :: .free "all" :: .free "bool" :: .free "int" :: .free "isinstance" :: .free "len" :: .free "list" :: .free "max" :: .free "min" :: .free "range" :: .free "repr" :: .free "str" :: .free "tuple" :: []
def fa : List He.Fa := (fa_0)
abbrev R : PySem.W.OpenRow := PySem.W.OpenLaw.row PySem.Challenge.rw_layertrees_k05_texts_of_pixels
def tf : List He.Defn := [("_law_text_right", none), ("_law_odd_right", none), ("law", none)]
abbrev hk : PySem.W.Hook := hookY 5 fa fn tf ex
def ob (s : PySem.W.SharedT) : He.AlX × Bool := obsY 5 fa fn tf ex (HandSHeadRun.getT s)
theorem ob_eq (s : PySem.W.SharedT) : ob s = hk.obs s.abs := obsY_eq (HandSHeadRun.getT_eq s)
def loose : List Str := "InputError" :: "InvalidShare" :: "InvalidPixel" :: "InvalidName" :: "InvalidKind" :: "InvalidKinds" :: "InvalidMode" :: "InvalidNumber" :: "InvalidTree" :: "InvalidTrees" :: "InvalidPath" :: "InvalidSpot" :: "InvalidSpots" :: "InvalidTable" :: "InvalidForm" :: "InvalidRows" :: "InvalidOption" :: "InvalidLayers" :: "InvalidStrokes" :: "InvalidText" :: "InvalidLine" :: "NotAPicture" :: "NotALayer" :: "NotAStack" :: "StateError" :: "UnknownPicture" :: "MissingSpot" :: "UsedOften" :: "WrongKind" :: "WrongSize" :: "Busy" :: "Closed" :: "NothingToUndo" :: "LimitError" :: "TooMany" :: "DIGITS" :: "LONGEST_INTEGER" :: "is_integer" :: "common_divisor" :: "is_less" :: "is_ratio" :: "is_share" :: "ratio_text" :: "integer_in" :: "ratio_in" :: "is_pixel" :: "check_pixel" :: "pixel_text" :: "pixel_in" :: "read_pixel" :: "_law_seed" :: "_law_draw" :: "_law_low" :: "_law_mul" :: "_law_part" :: "_law_dot" :: "_law_is_one" :: "_law_caught" :: "_law_written" :: "_law_number" :: "_law_half" :: "_law_reading" :: "_law_bent" :: "_law_text_right" :: "_law_odd_right" :: []
open PySem PySem.W PySem.Calls PyProof.Rows HandSHeadRun in
theorem run_a (w : World) (os : OsState) : (runO R 16000 w os).map (fun s => (looksF R.prog (boot_heap w.params) s.abs, (seenQ (PySem.W.view R.prog [69]) loose (importedModules R.prog.main.body) (fun s => xlAt (PySem.W.view R.prog [69]) [] s && recOk R.toRowW.records s) s.abs, sysB (getT s)))) = some (true, (openGood (PySem.W.view R.prog [69]) loose, true)) := by
  kernel_rfl
open PySem PySem.W PySem.Calls PyProof.Rows HandSHeadRun in
theorem run_d0 (w : World) (os : OsState) : (runO R 16000 w os).map (fun s => He.obsD fa_0 fn_0 (runK 5 s)) = some (He.valD fn_0) := by
  kernel_rfl
open PySem PySem.W PySem.Calls PyProof.Rows HandSHeadRun in
theorem run_e (w : World) (os : OsState) : (runO R 16000 w os).map (fun s => (ex (runK 5 s), He.tabsB (getT s) tf (runK 5 s))) = some (true, true) := by
  kernel_rfl
theorem fst_of {σ α β : Type} {x : Option σ} {f : σ → α} {g : σ → β} {u : α} {v : β} (h : x.map (fun s => (f s, g s)) = some (u, v)) : x.map f = some u ∧ x.map g = some v := by
  cases x with
  | none => cases h
  | some s =>
    have e := Option.some.inj h
    exact ⟨congrArg some (congrArg Prod.fst e), congrArg some (congrArg Prod.snd e)⟩
theorem run (w : World) : HandSHeadRun.RunEq R (PySem.W.view R.prog [69]) hk ob 16000 loose w :=
  run_of (fun os => (fst_of (run_a w os)).1) (fun os => (fst_of (fst_of (run_a w os)).2).1) (fun os => run_d0 w os) (fun os => (fst_of (run_e w os)).1) (fun os => (fst_of (run_e w os)).2) (fun os => (fst_of (fst_of (run_a w os)).2).2)
end Zk05

/-! SE1: values as trees, a store of labels, and computations over them; what ties them to the abstract heap of the hand layer. -/
namespace SE
open PySem PySem.Spec PyProof.Rows L2

/-- the exception that is handled here; the tables of code objects, by their names -/
structure Gs where
  cur : Option (Addr × Obj)
  lam : Option (Addr × Addr × Str × L2.St)
  T : List (Addr × Str)
structure Gx where
  K : PySem.W.Frag
  mg : Str → Option Value
  s : Gs
/-- no exception is handled -/
def Gs.off (s : Gs) : Gs := ⟨none, none, s.T⟩
abbrev Gx.off (G : Gx) : Gx := ⟨G.K, G.mg, G.s.off⟩
/-- what stands at a label -/
inductive MO where
  | lst (xs : List D)
deriving Inhabited
abbrev Mem := List MO
abbrev Ev := List (Option D)
/-- an exception: the name of its class, its fields -/
structure Ex where
  cls : Str
  fs : List (Str × D)
inductive Res (α : Type) where
  | ok (a : α) (μ : Mem)
  | exc (e : Ex) (μ : Mem)
  | bad
abbrev M (α : Type) := Mem → Res α
namespace M
def pure {α : Type} (a : α) : M α := fun μ => .ok a μ
def bind {α β : Type} (m : M α) (k : α → M β) : M β := fun μ => match m μ with
  | .ok a μ' => k a μ'
  | .exc e μ' => .exc e μ'
  | .bad => .bad
def bad {α : Type} : M α := fun _ => .bad
def raise {α : Type} (e : Ex) : M α := fun μ => .exc e μ
end M
instance : Monad M where
  pure := M.pure
  bind := M.bind

/-! ### the ties -/
/-- the addresses of the labels; addresses that are hidden: what is under way -/
structure Lab where
  l : List Addr
  h : List Addr
instance : Membership Addr Lab := ⟨fun φ a => a ∈ φ.l ∨ a ∈ φ.h⟩
/-- a tuple, a list that nothing here changes: tracked outside of the labels, or written at the top -/
def SqTz (K : PySem.W.Frag) (φ : Lab) (H : Hp) (a : Addr) (vs : List V) : Prop := (Rd H a (.tup vs) ∧ a ∉ φ) ∨ SqT K (fun _ => none) a vs
def SqLz (K : PySem.W.Frag) (φ : Lab) (H : Hp) (a : Addr) (vs : List V) : Prop := (Rd H a (.lst vs) ∧ a ∉ φ) ∨ SqL K (fun _ => none) a vs
theorem SqTz.t {K : PySem.W.Frag} {φ : Lab} {H : Hp} {a : Addr} {vs : List V} (h : SqTz K φ H a vs) : SqT K H a vs := by
  rcases h with ⟨h, _⟩ | h
  · exact .inl h
  · rcases h with h | h
    · rcases h with h | ⟨o, h⟩ <;> cases h
    · exact .inr h
theorem SqLz.t {K : PySem.W.Frag} {φ : Lab} {H : Hp} {a : Addr} {vs : List V} (h : SqLz K φ H a vs) : SqL K H a vs := by
  rcases h with ⟨h, _⟩ | h
  · exact .inl h
  · rcases h with h | h
    · rcases h with h | ⟨o, h⟩ <;> cases h
    · exact .inr h

mutual
/-- what is taken out of a suite holds no exception -/
def noErr : D → Bool
  | .tup xs => noErrL xs
  | .lst xs => noErrL xs
  | .ro xs => noErrL xs
  | .dct kvs => noErrK kvs
  | .err _ _ => false
  | .clo _ => false
  | _ => true
def noErrL : List D → Bool
  | [] => true
  | d :: ds => noErr d && noErrL ds
def noErrK : List (Key × D) → Bool
  | [] => true
  | (_, d) :: ds => noErr d && noErrK ds
end
/-- of slots -/
def noErrE : List (Option D) → Bool
  | [] => true
  | some d :: r => noErr d && noErrE r
  | none :: r => noErrE r
theorem Gx.off_eq {G : Gx} (h : G.s.off = G.s) : G.off = G := by
  obtain ⟨K, mg, s⟩ := G
  show Gx.mk K mg s.off = _
  rw [show s.off = s from h]
/-- an exception object: the handled one, one that was made as a value -/
def ErrAt (G : Gx) (φ : Lab) (H : Hp) (a : Addr) (oe : Obj) : Prop := G.s.cur = some (a, oe) ∨ ∃ u, H a = some (.frz oe u) ∧ a ∉ φ
/-- its class -/
structure ErrC (G : Gx) (c : Str) (C : Addr) (oe : Obj) : Prop where
  cls : oe.cls = .ref C
  mg : G.mg c = some (.ref C)
  fields : ∃ us, oe.data = .fields us
mutual
inductive Rp (G : Gx) (φ : Lab) (H : Hp) : D → V → Prop
  | non : Rp G φ H .non .non
  | bl (b : Bool) : Rp G φ H (.bl b) (.bl b)
  | int (i : Int) : Rp G φ H (.int i) (.int i)
  | str (x : Str) : Rp G φ H (.str x) (.str x)
  | tup {a : Addr} {vs : List V} {ds : List D} : SqTz G.K φ H a vs → RpL G φ H ds vs → Rp G φ H (.tup ds) (.ref a)
  | lst {a : Addr} {vs : List V} {ds : List D} : H a = some (.lst vs) → a ∉ φ → RpL G φ H ds vs → Rp G φ H (.lst ds) (.ref a)
  | ro {a : Addr} {vs : List V} {ds : List D} : SqLz G.K φ H a vs → RpL G φ H ds vs → Rp G φ H (.ro ds) (.ref a)
  | dct {a : Addr} {vs : List (Key × V)} {ds : List (Key × D)} : H a = some (.dK vs) → a ∉ φ → RpK G φ H ds vs → Rp G φ H (.dct ds) (.ref a)
  | loc {a : Addr} {l : Nat} : φ.l[l]? = some a → Rp G φ H (.loc l) (.ref a)
  | ty (n : String) : Rp G φ H (.ty n) (.ty n)
  | gl {x : Str} {a : Addr} : G.mg x = some (.ref a) → Rp G φ H (.gl x) (.ref a)
  | err {c : Str} {C a d : Addr} {oe : Obj} {fs : List (Str × D)} {vs : List (Str × V)} : ErrAt G φ H a oe → ErrC G c C oe → oe.dict = some d → H d = some (.xd vs) → d ∉ φ → RpF G φ H fs vs → Rp G φ H (.err c fs) (.ref a)
  | err0 {c : Str} {C a : Addr} {oe : Obj} : ErrAt G φ H a oe → ErrC G c C oe → oe.dict = none → Rp G φ H (.err c []) (.ref a)
  | clo {f c : Addr} {q : Str} {σ : L2.St} {ρ : List (Option D)} : G.s.lam = some (f, c, q, σ) → H c = some (LamX.CodeO c q) → c ∉ φ → noErrE ρ = true → RpE G φ H ρ σ → Rp G φ H (.clo ρ) (.ref f)
inductive RpL (G : Gx) (φ : Lab) (H : Hp) : List D → List V → Prop
  | nil : RpL G φ H [] []
  | cons {d : D} {v : V} {ds : List D} {vs : List V} : Rp G φ H d v → RpL G φ H ds vs → RpL G φ H (d :: ds) (v :: vs)
inductive RpK (G : Gx) (φ : Lab) (H : Hp) : List (Key × D) → List (Key × V) → Prop
  | nil : RpK G φ H [] []
  | cons {k : Key} {d : D} {v : V} {ds : List (Key × D)} {vs : List (Key × V)} : Rp G φ H d v → RpK G φ H ds vs → RpK G φ H ((k, d) :: ds) ((k, v) :: vs)
/-- an object's fields -/
inductive RpF (G : Gx) (φ : Lab) (H : Hp) : List (Str × D) → List (Str × V) → Prop
  | nil : RpF G φ H [] []
  | cons {k : Str} {d : D} {v : V} {ds : List (Str × D)} {vs : List (Str × V)} : Rp G φ H d v → RpF G φ H ds vs → RpF G φ H ((k, d) :: ds) ((k, v) :: vs)
/-- slots -/
inductive RpE (G : Gx) (φ : Lab) (H : Hp) : List (Option D) → List (Option V) → Prop
  | nil : RpE G φ H [] []
  | no {o : Option V} {ρ : List (Option D)} {σ : List (Option V)} : RpE G φ H ρ σ → RpE G φ H (none :: ρ) (o :: σ)
  | so {d : D} {v : V} {ρ : List (Option D)} {σ : List (Option V)} : Rp G φ H d v → RpE G φ H ρ σ → RpE G φ H (some d :: ρ) (some v :: σ)
end

/-- the heap grows: new labels at new places, all else that is tracked stands -/
structure Grow (φ : Lab) (H : Hp) (φ' : Lab) (H' : Hp) : Prop where
  ex : ∃ ψ, φ'.l = φ.l ++ ψ ∧ ∀ a ∈ ψ, ∀ u, H a = some u → ∃ ps, u = .tbl ps
  hx : ∀ a ∈ φ'.h, a ∉ φ.h → ∀ u, H a = some u → ∃ ps, u = .tbl ps
  hs : ∀ a ∈ φ.h, a ∈ φ'.h
  kp : ∀ b o, H b = some o → b ∉ φ.l → (∀ ps, o ≠ .tbl ps) → H' b = some o
  dm : ∀ b u, H b = some u → (∀ ps, u ≠ .tbl ps) → ∃ v, H' b = some v ∧ ∀ ps, v ≠ .tbl ps
/-- as far as the ties go: what is hidden may be written -/
structure Gw (φ : Lab) (H : Hp) (φ' : Lab) (H' : Hp) : Prop where
  ex : ∃ ψ, φ'.l = φ.l ++ ψ
  out : ∀ {a : Addr} {u : HO}, H a = some u → (∀ ps, u ≠ .tbl ps) → a ∉ φ → a ∉ φ'
  st : ∀ b o, H b = some o → b ∉ φ → (∀ ps, o ≠ .tbl ps) → H' b = some o
theorem Grow.st {φ φ' : Lab} {H H' : Hp} (g : Grow φ H φ' H') (b : Addr) (o : HO) (h : H b = some o) (n : b ∉ φ) (t : ∀ ps, o ≠ .tbl ps) : H' b = some o := g.kp b o h (fun z => n (.inl z)) t
theorem Grow.refl (φ : Lab) (H : Hp) : Grow φ H φ H := ⟨⟨[], by simp, fun _ h => nomatch h⟩, fun _ h n => absurd h n, fun _ h => h, fun _ _ h _ _ => h, fun _ u h t => ⟨u, h, t⟩⟩
theorem Grow.outL {φ φ' : Lab} {H H' : Hp} (g : Grow φ H φ' H') {a : Addr} {u : HO} (h : H a = some u) (t : ∀ ps, u ≠ .tbl ps) (n : a ∉ φ.l) : a ∉ φ'.l := by
  obtain ⟨ψ, e, hn⟩ := g.ex
  rw [e]
  intro hm
  rcases List.mem_append.mp hm with z | z
  · exact n z
  · obtain ⟨ps, e⟩ := hn a z u h
    exact t ps e
theorem Grow.out {φ φ' : Lab} {H H' : Hp} (g : Grow φ H φ' H') {a : Addr} {u : HO} (h : H a = some u) (t : ∀ ps, u ≠ .tbl ps) (n : a ∉ φ) : a ∉ φ' := by
  rintro (z | z)
  · exact g.outL h t (fun z => n (.inl z)) z
  · obtain ⟨ps, e⟩ := g.hx a z (fun z => n (.inr z)) u h
    exact t ps e
theorem Grow.w {φ φ' : Lab} {H H' : Hp} (g : Grow φ H φ' H') : Gw φ H φ' H' := ⟨let ⟨ψ, e, _⟩ := g.ex; ⟨ψ, e⟩, fun h t n => g.out h t n, g.st⟩
theorem Grow.trans {φ φ1 φ2 : Lab} {H H1 H2 : Hp} (g : Grow φ H φ1 H1) (g' : Grow φ1 H1 φ2 H2) : Grow φ H φ2 H2 := by
  obtain ⟨ψ, e, hn⟩ := g.ex
  obtain ⟨ψ', e', hn'⟩ := g'.ex
  refine ⟨⟨ψ ++ ψ', by rw [e', e, List.append_assoc], fun a ha u hu => ?_⟩, fun a ha na u hu => ?_, fun a h => g'.hs a (g.hs a h), fun b o h n t => ?_, fun b u h t => ?_⟩
  · rcases List.mem_append.mp ha with z | z
    · exact hn a z u hu
    · refine Classical.byContradiction fun c => ?_
      obtain ⟨v, hv, tv⟩ := g.dm a u hu fun ps q => c ⟨ps, q⟩
      obtain ⟨ps, q⟩ := hn' a z v hv
      exact tv ps q
  · refine Classical.byContradiction fun c => ?_
    by_cases z : a ∈ φ1.h
    · exact c (g.hx a z na u hu)
    · obtain ⟨v, hv, tv⟩ := g.dm a u hu fun ps q => c ⟨ps, q⟩
      obtain ⟨ps, q⟩ := g'.hx a ha z v hv
      exact tv ps q
  · exact g'.kp b o (g.kp b o h n t) (g.outL h t n) t
  · obtain ⟨v, hv, tv⟩ := g.dm b u h t
    exact g'.dm b v hv tv
theorem Rd.growW {φ φ' : Lab} {H H' : Hp} (g : Gw φ H φ' H') {a : Addr} {u : HO} (r : Rd H a u) (n : a ∉ φ) (t : ∀ ps, u ≠ .tbl ps) : Rd H' a u ∧ a ∉ φ' := by
  rcases r with r | ⟨o, r⟩
  · exact ⟨.inl (g.st _ _ r n t), g.out r t n⟩
  · exact ⟨.inr ⟨o, g.st _ _ r n fun _ z => nomatch z⟩, g.out r (fun _ z => nomatch z) n⟩
theorem SqTz.growW {K : PySem.W.Frag} {φ φ' : Lab} {H H' : Hp} (g : Gw φ H φ' H') {a : Addr} {vs : List V} (h : SqTz K φ H a vs) : SqTz K φ' H' a vs := by
  rcases h with ⟨r, n⟩ | h
  · exact .inl (Rd.growW g r n fun _ z => nomatch z)
  · exact .inr h
theorem SqLz.growW {K : PySem.W.Frag} {φ φ' : Lab} {H H' : Hp} (g : Gw φ H φ' H') {a : Addr} {vs : List V} (h : SqLz K φ H a vs) : SqLz K φ' H' a vs := by
  rcases h with ⟨r, n⟩ | h
  · exact .inl (Rd.growW g r n fun _ z => nomatch z)
  · exact .inr h
theorem ErrAt.growW {G : Gx} {φ φ' : Lab} {H H' : Hp} {a : Addr} {oe : Obj} (g : Gw φ H φ' H') (h : ErrAt G φ H a oe) : ErrAt G φ' H' a oe := by
  rcases h with h | ⟨u, h, n⟩
  · exact .inl h
  · exact .inr ⟨u, g.st _ _ h n (fun _ z => nomatch z), g.out h (fun _ z => nomatch z) n⟩
section
variable {G : Gx} {φ φ' : Lab} {H H' : Hp}
mutual
theorem Rp.growW (g : Gw φ H φ' H') : ∀ {d : D} {v : V}, Rp G φ H d v → Rp G φ' H' d v
  | _, _, .non => .non
  | _, _, .bl b => .bl b
  | _, _, .int i => .int i
  | _, _, .str x => .str x
  | _, _, .tup h r => .tup (h.growW g) (RpL.growW g r)
  | _, _, .lst h n r => .lst (g.st _ _ h n fun _ z => nomatch z) (g.out h (fun _ z => nomatch z) n) (RpL.growW g r)
  | _, _, .ro h r => .ro (h.growW g) (RpL.growW g r)
  | _, _, .dct h n r => .dct (g.st _ _ h n fun _ z => nomatch z) (g.out h (fun _ z => nomatch z) n) (RpK.growW g r)
  | _, _, .loc h => .loc (by
      obtain ⟨ψ, e⟩ := g.ex
      rw [e]
      obtain ⟨hl, _⟩ := List.getElem?_eq_some_iff.mp h
      rw [List.getElem?_append_left hl]
      exact h)
  | _, _, .ty n => .ty n
  | _, _, .gl h => .gl h
  | _, _, .err ha hc hd hx hn r => .err (ha.growW g) hc hd (g.st _ _ hx hn fun _ z => nomatch z) (g.out hx (fun _ z => nomatch z) hn) (RpF.growW g r)
  | _, _, .err0 ha hc hd => .err0 (ha.growW g) hc hd
  | _, _, .clo hl hc no hn r => .clo hl (g.st _ _ hc no LamX.codeO_ne) (g.out hc LamX.codeO_ne no) hn (RpE.growW g r)
theorem RpL.growW (g : Gw φ H φ' H') : ∀ {ds : List D} {vs : List V}, RpL G φ H ds vs → RpL G φ' H' ds vs
  | _, _, .nil => .nil
  | _, _, .cons r t => .cons (Rp.growW g r) (RpL.growW g t)
theorem RpK.growW (g : Gw φ H φ' H') : ∀ {ds : List (Key × D)} {vs : List (Key × V)}, RpK G φ H ds vs → RpK G φ' H' ds vs
  | _, _, .nil => .nil
  | _, _, .cons r t => .cons (Rp.growW g r) (RpK.growW g t)
theorem RpF.growW (g : Gw φ H φ' H') : ∀ {ds : List (Str × D)} {vs : List (Str × V)}, RpF G φ H ds vs → RpF G φ' H' ds vs
  | _, _, .nil => .nil
  | _, _, .cons r t => .cons (Rp.growW g r) (RpF.growW g t)
theorem RpE.growW (g : Gw φ H φ' H') : ∀ {ρ : List (Option D)} {σ : List (Option V)}, RpE G φ H ρ σ → RpE G φ' H' ρ σ
  | _, _, .nil => .nil
  | _, _, .no t => .no (RpE.growW g t)
  | _, _, .so r t => .so (Rp.growW g r) (RpE.growW g t)
end
section
variable {G : Gx} {φ φ' : Lab} {H H' : Hp}
theorem SqTz.grow {K : PySem.W.Frag} (g : Grow φ H φ' H') {a : Addr} {vs : List V} (h : SqTz K φ H a vs) : SqTz K φ' H' a vs := SqTz.growW g.w h
theorem SqLz.grow {K : PySem.W.Frag} (g : Grow φ H φ' H') {a : Addr} {vs : List V} (h : SqLz K φ H a vs) : SqLz K φ' H' a vs := SqLz.growW g.w h
theorem ErrAt.grow {a : Addr} {oe : Obj} (g : Grow φ H φ' H') (h : ErrAt G φ H a oe) : ErrAt G φ' H' a oe := ErrAt.growW g.w h
theorem Rp.grow (g : Grow φ H φ' H') {d : D} {v : V} (h : Rp G φ H d v) : Rp G φ' H' d v := Rp.growW g.w h
theorem RpL.grow (g : Grow φ H φ' H') {ds : List D} {vs : List V} (h : RpL G φ H ds vs) : RpL G φ' H' ds vs := RpL.growW g.w h
theorem RpK.grow (g : Grow φ H φ' H') {ds : List (Key × D)} {vs : List (Key × V)} (h : RpK G φ H ds vs) : RpK G φ' H' ds vs := RpK.growW g.w h
theorem RpF.grow (g : Grow φ H φ' H') {ds : List (Str × D)} {vs : List (Str × V)} (h : RpF G φ H ds vs) : RpF G φ' H' ds vs := RpF.growW g.w h
theorem RpE.grow (g : Grow φ H φ' H') {ρ : List (Option D)} {σ : List (Option V)} (h : RpE G φ H ρ σ) : RpE G φ' H' ρ σ := RpE.growW g.w h
end
/-- more is known -/
structure Gs.Le (s t : Gs) : Prop where
  cur : ∀ p, s.cur = some p → t.cur = some p
  lam : ∀ p, s.lam = some p → t.lam = some p
theorem Gs.off_le (s : Gs) : s.off.Le s := ⟨fun _ h => (by cases h), fun _ h => (by cases h)⟩
section
variable {K : PySem.W.Frag} {mg : Str → Option Value} {s t : Gs}
theorem ErrAt.up (l : s.Le t) {a : Addr} {oe : Obj} (h : ErrAt ⟨K, mg, s⟩ φ H a oe) : ErrAt ⟨K, mg, t⟩ φ H a oe := by
  rcases h with h | h
  · exact .inl (l.cur _ h)
  · exact .inr h
mutual
theorem Rp.up (l : s.Le t) : ∀ {d : D} {v : V}, Rp ⟨K, mg, s⟩ φ H d v → Rp ⟨K, mg, t⟩ φ H d v
  | _, _, .non => .non
  | _, _, .bl b => .bl b
  | _, _, .int i => .int i
  | _, _, .str x => .str x
  | _, _, .tup h r => .tup h (RpL.up l r)
  | _, _, .lst h n r => .lst h n (RpL.up l r)
  | _, _, .ro h r => .ro h (RpL.up l r)
  | _, _, .dct h n r => .dct h n (RpK.up l r)
  | _, _, .loc h => .loc h
  | _, _, .ty n => .ty n
  | _, _, .gl h => .gl h
  | _, _, .err ha hc hd hx hn r => .err (ha.up l) ⟨hc.cls, hc.mg, hc.fields⟩ hd hx hn (RpF.up l r)
  | _, _, .err0 ha hc hd => .err0 (ha.up l) ⟨hc.cls, hc.mg, hc.fields⟩ hd
  | _, _, .clo hl hc no hn r => .clo (l.lam _ hl) hc no hn (RpE.up l r)
theorem RpL.up (l : s.Le t) : ∀ {ds : List D} {vs : List V}, RpL ⟨K, mg, s⟩ φ H ds vs → RpL ⟨K, mg, t⟩ φ H ds vs
  | _, _, .nil => .nil
  | _, _, .cons r t => .cons (Rp.up l r) (RpL.up l t)
theorem RpK.up (l : s.Le t) : ∀ {ds : List (Key × D)} {vs : List (Key × V)}, RpK ⟨K, mg, s⟩ φ H ds vs → RpK ⟨K, mg, t⟩ φ H ds vs
  | _, _, .nil => .nil
  | _, _, .cons r t => .cons (Rp.up l r) (RpK.up l t)
theorem RpF.up (l : s.Le t) : ∀ {ds : List (Str × D)} {vs : List (Str × V)}, RpF ⟨K, mg, s⟩ φ H ds vs → RpF ⟨K, mg, t⟩ φ H ds vs
  | _, _, .nil => .nil
  | _, _, .cons r t => .cons (Rp.up l r) (RpF.up l t)
theorem RpE.up (l : s.Le t) : ∀ {ρ : List (Option D)} {σ : List (Option V)}, RpE ⟨K, mg, s⟩ φ H ρ σ → RpE ⟨K, mg, t⟩ φ H ρ σ
  | _, _, .nil => .nil
  | _, _, .no t => .no (RpE.up l t)
  | _, _, .so r t => .so (Rp.up l r) (RpE.up l t)
end
end
theorem Rp.on {d : D} {v : V} (h : Rp G.off φ H d v) : Rp G φ H d v := Rp.up (s := G.s.off) (t := G.s) G.s.off_le h
theorem RpL.on {ds : List D} {vs : List V} (h : RpL G.off φ H ds vs) : RpL G φ H ds vs := RpL.up (s := G.s.off) (t := G.s) G.s.off_le h
theorem RpF.on {ds : List (Str × D)} {vs : List (Str × V)} (h : RpF G.off φ H ds vs) : RpF G φ H ds vs := RpF.up (s := G.s.off) (t := G.s) G.s.off_le h
mutual
theorem Rp.out : ∀ {d : D} {v : V}, Rp G φ H d v → noErr d = true → Rp G.off φ H d v
  | _, _, .non, _ => .non
  | _, _, .bl b, _ => .bl b
  | _, _, .int i, _ => .int i
  | _, _, .str x, _ => .str x
  | _, _, .tup h r, k => .tup h (RpL.out r k)
  | _, _, .lst h n r, k => .lst h n (RpL.out r k)
  | _, _, .ro h r, k => .ro h (RpL.out r k)
  | _, _, .dct h n r, k => .dct h n (RpK.out r k)
  | _, _, .loc h, _ => .loc h
  | _, _, .ty n, _ => .ty n
  | _, _, .gl h, _ => .gl h
  | _, _, .err _ _ _ _ _ _, k => by cases k
  | _, _, .err0 _ _ _, k => by cases k
  | _, _, .clo _ _ _ _ _, k => by cases k
theorem RpL.out : ∀ {ds : List D} {vs : List V}, RpL G φ H ds vs → noErrL ds = true → RpL G.off φ H ds vs
  | _, _, .nil, _ => .nil
  | _, _, .cons r t, k => .cons (Rp.out r (Bool.and_eq_true_iff.mp k).1) (RpL.out t (Bool.and_eq_true_iff.mp k).2)
theorem RpK.out : ∀ {ds : List (Key × D)} {vs : List (Key × V)}, RpK G φ H ds vs → noErrK ds = true → RpK G.off φ H ds vs
  | _, _, .nil, _ => .nil
  | _, _, .cons r t, k => .cons (Rp.out r (Bool.and_eq_true_iff.mp k).1) (RpK.out t (Bool.and_eq_true_iff.mp k).2)
end
theorem RpE.out : ∀ {ρ : List (Option D)} {σ : List (Option V)}, RpE G φ H ρ σ → noErrE ρ = true → RpE G.off φ H ρ σ
  | _, _, .nil, _ => .nil
  | _, _, .no t, k => .no (RpE.out t k)
  | _, _, .so r t, k => .so (Rp.out r (Bool.and_eq_true_iff.mp k).1) (RpE.out t (Bool.and_eq_true_iff.mp k).2)
theorem RpL.length : ∀ {ds : List D} {vs : List V}, RpL G φ H ds vs → ds.length = vs.length
  | _, _, .nil => rfl
  | _, _, .cons _ t => congrArg Nat.succ t.length
theorem RpL.append : ∀ {ds es : List D} {vs ws : List V}, RpL G φ H ds vs → RpL G φ H es ws → RpL G φ H (ds ++ es) (vs ++ ws)
  | _, _, _, _, .nil, s => s
  | _, _, _, _, .cons r t, s => .cons r (t.append s)
theorem RpL.get : ∀ {ds : List D} {vs : List V} {i : Nat} {d : D}, RpL G φ H ds vs → ds[i]? = some d → ∃ v, vs[i]? = some v ∧ Rp G φ H d v
  | _, _, _, _, .nil, e => by simp at e
  | _, _, 0, _, .cons r _, e => by simp at e; subst e; exact ⟨_, rfl, r⟩
  | _, _, i + 1, d, .cons _ t, e => by
    obtain ⟨v, h1, h2⟩ := RpL.get (i := i) (d := d) t (by simpa using e)
    exact ⟨v, by simpa using h1, h2⟩
theorem RpL.getV : ∀ {ds : List D} {vs : List V} {i : Nat} {v : V}, RpL G φ H ds vs → vs[i]? = some v → ∃ d, ds[i]? = some d ∧ Rp G φ H d v
  | _, _, _, _, .nil, e => by simp at e
  | _, _, 0, _, .cons r _, e => by simp at e; subst e; exact ⟨_, rfl, r⟩
  | _, _, i + 1, v, .cons _ t, e => by
    obtain ⟨d, h1, h2⟩ := RpL.getV (i := i) (v := v) t (by simpa using e)
    exact ⟨d, by simpa using h1, h2⟩
theorem RpL.set : ∀ {ds : List D} {vs : List V} {d : D} {v : V} (i : Nat), Rp G φ H d v → RpL G φ H ds vs → RpL G φ H (ds.set i d) (vs.set i v)
  | _, _, _, _, _, _, .nil => .nil
  | _, _, _, _, 0, r, .cons _ t => .cons r t
  | _, _, _, _, i + 1, r, .cons q t => .cons q (t.set i r)
theorem RpL.take : ∀ {ds : List D} {vs : List V} (n : Nat), RpL G φ H ds vs → RpL G φ H (ds.take n) (vs.take n)
  | _, _, 0, _ => .nil
  | _, _, _ + 1, .nil => .nil
  | _, _, n + 1, .cons r t => .cons r (t.take n)
theorem RpL.drop : ∀ {ds : List D} {vs : List V} (n : Nat), RpL G φ H ds vs → RpL G φ H (ds.drop n) (vs.drop n)
  | _, _, 0, r => r
  | _, _, _ + 1, .nil => .nil
  | _, _, n + 1, .cons _ t => t.drop n
theorem RpK.length : ∀ {ds : List (Key × D)} {vs : List (Key × V)}, RpK G φ H ds vs → ds.length = vs.length
  | _, _, .nil => rfl
  | _, _, .cons _ t => congrArg Nat.succ t.length

/-- the labels' objects -/
def MOR (G : Gx) (φ : Lab) (H : Hp) : MO → Addr → Prop
  | .lst xs, a => ∃ vs, H a = some (.lst vs) ∧ RpL G.off φ H xs vs
structure MemR (G : Gx) (φ : Lab) (μ : Mem) (H : Hp) : Prop where
  tb : LamX.Tabs G.s.T H
  sm : ∃ o, H sysModules = some (.frz o (.own 0))
  len : φ.l.length = μ.length
  nd : φ.l.Nodup
  at_ : ∀ (l : Nat) (o : MO), μ[l]? = some o → ∃ a, φ.l[l]? = some a ∧ MOR G φ H o a
  hd : ∀ a ∈ φ.h, ∃ vs, H a = some (.lst vs)
def EvR (G : Gx) (φ : Lab) (H : Hp) (ρ : Ev) (σ : L2.St) : Prop := ρ.length = σ.length ∧ ∀ (i : Nat) (d : D), ρ[i]? = some (some d) → ∃ v, σ[i]? = some (some v) ∧ Rp G φ H d v
theorem EvR.growW {ρ : Ev} {σ : L2.St} (g : Gw φ H φ' H') (h : EvR G φ H ρ σ) : EvR G φ' H' ρ σ := ⟨h.1, fun i d e => by
  obtain ⟨v, h1, h2⟩ := h.2 i d e
  exact ⟨v, h1, h2.growW g⟩⟩
theorem EvR.grow {ρ : Ev} {σ : L2.St} (g : Grow φ H φ' H') (h : EvR G φ H ρ σ) : EvR G φ' H' ρ σ := h.growW g.w
theorem EvR.set {ρ : Ev} {σ : L2.St} {d : D} {v : V} (i : Nat) (h : EvR G φ H ρ σ) (r : Rp G φ H d v) : EvR G φ H (ρ.set i (some d)) (σ.set i (some v)) := by
  refine ⟨by simp [h.1], fun j e hj => ?_⟩
  by_cases hij : i = j
  · subst hij
    have hl : i < ρ.length := by
      have := (List.getElem?_eq_some_iff.mp hj).1
      simpa using this
    rw [List.getElem?_set_self hl] at hj
    cases hj
    exact ⟨v, by rw [List.getElem?_set_self (by rw [← h.1]; exact hl)], r⟩
  · rw [List.getElem?_set_ne hij] at hj
    obtain ⟨u, h1, h2⟩ := h.2 j e hj
    exact ⟨u, by rw [List.getElem?_set_ne hij]; exact h1, h2⟩
theorem EvR.forget {ρ : Ev} {σ : L2.St} (i : Nat) (o : Option V) (h : EvR G φ H ρ σ) : EvR G φ H (ρ.set i none) (σ.set i o) := by
  refine ⟨by simp [h.1], fun j e hj => ?_⟩
  by_cases hij : i = j
  · subst hij
    have hl : i < ρ.length := by
      have := (List.getElem?_eq_some_iff.mp hj).1
      simpa using this
    rw [List.getElem?_set_self hl] at hj
    cases hj
  · rw [List.getElem?_set_ne hij] at hj
    obtain ⟨u, h1, h2⟩ := h.2 j e hj
    exact ⟨u, by rw [List.getElem?_set_ne hij]; exact h1, h2⟩

theorem EvR.e : ∀ {ρ : Ev} {σ : L2.St}, EvR G φ H ρ σ → RpE G φ H ρ σ
  | [], [], _ => .nil
  | [], _ :: _, h => by cases h.1
  | _ :: _, [], h => by cases h.1
  | o :: ρ, p :: σ, h => by
    have t : EvR G φ H ρ σ := ⟨Nat.succ.inj h.1, fun i d e => h.2 (i + 1) d e⟩
    cases o with
    | none => exact .no t.e
    | some d =>
      obtain ⟨v, h1, h2⟩ := h.2 0 d rfl
      cases h1
      exact .so h2 t.e
theorem RpE.ev : ∀ {ρ : Ev} {σ : L2.St}, RpE G φ H ρ σ → EvR G φ H ρ σ
  | _, _, .nil => ⟨rfl, fun i d e => by simp at e⟩
  | _, _, .no t => ⟨congrArg Nat.succ t.ev.1, fun i d e => by
      cases i with
      | zero => cases e
      | succ i => exact t.ev.2 i d e⟩
  | _, _, .so r t => ⟨congrArg Nat.succ t.ev.1, fun i d e => by
      cases i with
      | zero => cases e; exact ⟨_, rfl, r⟩
      | succ i => exact t.ev.2 i d e⟩
/-- an exception of the text: its class, its own dict's fields -/
def ExR (G : Gx) (φ : Lab) (H : Hp) (e : Ex) (cls : Value) (dd : Option Addr) : Prop :=
  (∃ C, cls = .ref C ∧ G.mg e.cls = some cls) ∧ ((e.fs = [] ∧ dd = none) ∨ ∃ d vs, dd = some d ∧ H d = some (.xd vs) ∧ d ∉ φ ∧ RpF G.off φ H e.fs vs)
end

/-! ### what a computation promises -/
section
variable (G : Gx)
/-- how a result is told: a value's tie, a row's, a truth's -/
abbrev Tie (α ν : Type) := Lab → Hp → α → ν → Prop
abbrev tieD : Tie D V := Rp G
abbrev tieL : Tie (List D) (List V) := RpL G
def tieB : Tie Bool Bool := fun _ _ b c => c = b
def Post {α ν : Type} (T : Tie α ν) (φ : Lab) (H : Hp) (r : Res α) (Q : ν → Hp → Prop) (E : XK) : Prop := match r with
  | .ok d μ' => ∀ φ' H' v, Grow φ H φ' H' → MemR G φ' μ' H' → T φ' H' d v → Q v H'
  | .exc e μ' => ∀ φ' H' cls dd, Grow φ H φ' H' → MemR G φ' μ' H' → ExR G φ' H' e cls dd → E cls dd H'
  | .bad => False
def tG {α ν : Type} (T : Tie α ν) (W : WX) (m : Ev → M α) : L2.St → Hp → (ν → Hp → Prop) → Prop := fun σ H Q => ∃ φ ρ μ, EvR G φ H ρ σ ∧ MemR G φ μ H ∧ Post G T φ H (m ρ μ) Q fun cls dd H' => W cls dd σ H'
/-- how a statement ends -/
inductive Fl where
  | nx (ρ : Ev) | rt (d : D) | bk (ρ : Ev) | ct (ρ : Ev)
inductive RS where
  | ok (f : Fl) (μ : Mem)
  | exc (e : Ex) (ρ : Ev) (μ : Mem)
  | bad
abbrev MS := Ev → Mem → RS
def PostS (φ : Lab) (H : Hp) (r : RS) (Z : Ends) (W : WX) : Prop := match r with
  | .ok (.nx ρ') μ' => ∀ φ' H' σ', Grow φ H φ' H' → MemR G φ' μ' H' → EvR G φ' H' ρ' σ' → Z.nx σ' H'
  | .ok (.bk ρ') μ' => ∀ φ' H' σ', Grow φ H φ' H' → MemR G φ' μ' H' → EvR G φ' H' ρ' σ' → Z.bk σ' H'
  | .ok (.ct ρ') μ' => ∀ φ' H' σ', Grow φ H φ' H' → MemR G φ' μ' H' → EvR G φ' H' ρ' σ' → Z.ct σ' H'
  | .ok (.rt d) μ' => ∀ φ' H' v, Grow φ H φ' H' → MemR G φ' μ' H' → Rp G φ' H' d v → Z.rt v H'
  | .exc e ρ' μ' => ∀ φ' H' σ' cls dd, Grow φ H φ' H' → MemR G φ' μ' H' → EvR G φ' H' ρ' σ' → ExR G φ' H' e cls dd → W cls dd σ' H'
  | .bad => False
def tS (W : WX) (m : MS) : TS := fun Z σ H => ∃ φ ρ μ, EvR G φ H ρ σ ∧ MemR G φ μ H ∧ PostS G φ H (m ρ μ) Z W
end

/-! ### weakening, composing -/
section
variable {G : Gx} {φ φ1 : Lab} {H H1 : Hp} {α ν : Type} {T : Tie α ν}
theorem Post.grow {r : Res α} {Q : ν → Hp → Prop} {E : XK} (g : Grow φ H φ1 H1) (h : Post G T φ H r Q E) : Post G T φ1 H1 r Q E := by
  cases r with
  | ok d μ => exact fun φ' H' v g' => h φ' H' v (g.trans g')
  | exc e μ => exact fun φ' H' c d g' => h φ' H' c d (g.trans g')
  | bad => exact h
theorem PostS.grow {r : RS} {Z : Ends} {W : WX} (g : Grow φ H φ1 H1) (h : PostS G φ H r Z W) : PostS G φ1 H1 r Z W := by
  cases r with
  | ok f μ => cases f <;> exact fun φ' H' v g' => h φ' H' v (g.trans g')
  | exc e ρ μ => exact fun φ' H' σ c d g' => h φ' H' σ c d (g.trans g')
  | bad => exact h
end
end SE

/-! SE2: expressions as computations. -/
namespace SE
open PySem PySem.Spec PyProof.Rows L2
end SE
abbrev L2.Cx.G (X : L2.Cx) (Γ : SE.Gs) : SE.Gx := ⟨X.K, X.mg, Γ⟩
namespace SE
open PySem PySem.Spec PyProof.Rows L2
abbrev JE (X : Cx) (Γ : Gs) (W : WX) (e : Expr) (m : Ev → M D) : Prop := PE X e (tG (X.G Γ) (tieD (X.G Γ)) W m)
abbrev JL (X : Cx) (Γ : Gs) (W : WX) (es : List Expr) (m : Ev → M (List D)) : Prop := PA X es (tG (X.G Γ) (tieL (X.G Γ)) W m)
abbrev JT (X : Cx) (Γ : Gs) (W : WX) (e : Expr) (m : Ev → M Bool) : Prop := PT X e (tG (X.G Γ) tieB W m)
theorem pe_w {X : Cx} {e : Expr} {t t' : TE} (h : PE X e t) (w : ∀ σ H Q, t' σ H Q → t σ H Q) : PE X e t' := ⟨fun pins s σ H Q I q => h.run pins s σ H Q I (w σ H Q q)⟩
theorem pa_w {X : Cx} {e : List Expr} {t t' : TA} (h : PA X e t) (w : ∀ σ H Q, t' σ H Q → t σ H Q) : PA X e t' := ⟨fun p pins s σ H Q I q => h.run p pins s σ H Q I (w σ H Q q)⟩
theorem pt_w {X : Cx} {e : Expr} {t t' : TT} (h : PT X e t) (w : ∀ σ H Q, t' σ H Q → t σ H Q) : PT X e t' := ⟨fun pins s σ H Q I q => h.run pins s σ H Q I (w σ H Q q)⟩
theorem ps_w {X : Cx} {e : Stmt} {t t' : TS} (h : PS X e t) (w : ∀ D σ H, t' D σ H → t D σ H) : PS X e t' := ⟨fun pins s σ H D I q => h.run pins s σ H D I (w D σ H q)⟩
theorem pss_w {X : Cx} {e : List Stmt} {t t' : TS} (h : PSs X e t) (w : ∀ D σ H, t' D σ H → t D σ H) : PSs X e t' := ⟨fun pins s σ H D I q => h.run pins s σ H D I (w D σ H q)⟩

section
variable {G : Gx} {φ : Lab} {μ : Mem} {H : Hp}
theorem MemR.keep {H' : Hp} {φ : Lab} (R : MemR G φ μ H) (k : ∀ b o, H b = some o → H' b = some o) (g : Grow φ H φ H') : MemR G φ μ H' :=
  ⟨R.tb.ext k, let ⟨o, e⟩ := R.sm; ⟨o, k _ _ e⟩, R.len, R.nd, fun l o e => by
    obtain ⟨a, h1, h2⟩ := R.at_ l o e
    refine ⟨a, h1, ?_⟩
    cases o with
    | lst xs =>
      obtain ⟨vs, h3, h4⟩ := h2
      exact ⟨vs, k _ _ h3, h4.grow g⟩, fun a ha => let ⟨u, e⟩ := R.hd a ha; ⟨u, k _ _ e⟩⟩
/-- the tables stand where another thing is written -/
theorem tabs_upd {T : List (Addr × Str)} {p : Addr} {o u : HO} (t : LamX.Tabs T H) (h : H p = some u) (n1 : ∀ ps, u ≠ .tbl ps) (n2 : ∀ c q, u ≠ LamX.CodeO c q) : LamX.Tabs T (upd H p o) := fun q hq => by
  obtain ⟨ps, t1, t2, t3⟩ := t q hq
  refine ⟨ps, ?_, t2, fun pos cv hc => ?_⟩
  · rw [upd_ne (fun z => by rw [z, h] at t1; exact n1 ps (Option.some.inj t1))]
    exact t1
  · obtain ⟨c, e1, e2⟩ := t3 pos cv hc
    refine ⟨c, e1, ?_⟩
    rw [upd_ne (fun z => by rw [z, h] at e2; exact n2 _ _ (Option.some.inj e2))]
    exact e2
theorem MemR.out (R : MemR G φ μ H) {p : Addr} (h : H p = none) : p ∉ φ := fun hm => by
  rcases hm with hm | hm
  · obtain ⟨l, hl, e⟩ := List.getElem_of_mem hm
    have e2 : φ.l[l]? = some p := by rw [List.getElem?_eq_getElem hl, e]
    have hl2 : l < μ.length := by rw [← R.len]; exact hl
    obtain ⟨a, h1, h2⟩ := R.at_ l μ[l] (List.getElem?_eq_getElem hl2)
    rw [e2] at h1
    cases h1
    cases q : μ[l] with
    | lst xs =>
      rw [q] at h2
      obtain ⟨vs, h3, _⟩ := h2
      rw [h] at h3
      cases h3
  · obtain ⟨u, e⟩ := R.hd p hm
    rw [h] at e
    cases e
theorem dm_upd {p : Addr} {o : HO} (ho : ∀ ps, o ≠ .tbl ps) (b : Addr) (u : HO) (e : H b = some u) (t : ∀ ps, u ≠ .tbl ps) : ∃ v, upd H p o b = some v ∧ ∀ ps, v ≠ .tbl ps := by
  by_cases hb : b = p
  · exact ⟨o, by rw [hb, upd_same], ho⟩
  · exact ⟨u, by rw [upd_ne hb]; exact e, t⟩
theorem dm_laid {p : Addr} {o : HO} (h : H p = none) (b : Addr) (u : HO) (e : H b = some u) (t : ∀ ps, u ≠ .tbl ps) : ∃ v, upd H p o b = some v ∧ ∀ ps, v ≠ .tbl ps := ⟨u, by rw [upd_ne (ne_of_none e h)]; exact e, t⟩
theorem Grow.laid {p : Addr} {o : HO} (h : H p = none) : Grow φ H φ (upd H p o) :=
  ⟨⟨[], by simp, fun _ z => nomatch z⟩, fun _ z n => absurd z n, fun _ z => z, fun b u e _ _ => by rw [upd_ne (ne_of_none e h)]; exact e, dm_laid h⟩
theorem keep_laid {p : Addr} {o : HO} (h : H p = none) : ∀ b u, H b = some u → upd H p o b = some u := fun b u e => by rw [upd_ne (ne_of_none e h)]; exact e
theorem MemR.laid {p : Addr} {o : HO} (R : MemR G φ μ H) (h : H p = none) : MemR G φ μ (upd H p o) := R.keep (keep_laid h) (Grow.laid h)
/-- a new label -/
def Lab.add (φ : Lab) (p : Addr) : Lab := ⟨φ.l ++ [p], φ.h⟩
theorem Grow.newl {p : Addr} {o : HO} (h : H p = none) : Grow φ H (φ.add p) (upd H p o) :=
  ⟨⟨[p], rfl, fun a z u e => by rw [List.mem_singleton.mp z, h] at e; cases e⟩, fun _ z n => absurd z n, fun _ z => z, fun b u e _ _ => by rw [upd_ne (ne_of_none e h)]; exact e, dm_laid h⟩
theorem MemR.newl {p : Addr} {vs : List V} {ds : List D} (R : MemR G φ μ H) (h : H p = none) (r : RpL G.off φ H ds vs) : MemR G (φ.add p) (μ ++ [.lst ds]) (upd H p (.lst vs)) := by
  have g : Grow φ H (φ.add p) (upd H p (.lst vs)) := Grow.newl h
  refine ⟨R.tb.ext (keep_laid h), let ⟨o, e⟩ := R.sm; ⟨o, keep_laid h _ _ e⟩, by simp [R.len, Lab.add], ?_, fun l o e => ?_, fun a ha => let ⟨u, e⟩ := R.hd a ha; ⟨u, keep_laid h _ _ e⟩⟩
  · show (φ.l ++ [p]).Nodup
    rw [List.nodup_append]
    refine ⟨R.nd, by simp, fun a ha b hb => ?_⟩
    rw [List.mem_singleton.mp hb]
    intro z
    subst z
    exact R.out h (.inl ha)
  · by_cases hl : l < μ.length
    · rw [List.getElem?_append_left hl] at e
      obtain ⟨a, h1, h2⟩ := R.at_ l o e
      refine ⟨a, by show (φ.l ++ [p])[l]? = _; rw [List.getElem?_append_left (by rw [R.len]; exact hl)]; exact h1, ?_⟩
      cases o with
      | lst xs =>
        obtain ⟨ws, h3, h4⟩ := h2
        exact ⟨ws, keep_laid h _ _ h3, h4.grow g⟩
    · have hl2 : l = μ.length := by
        have := (List.getElem?_eq_some_iff.mp e).1
        simp at this
        omega
      subst hl2
      rw [List.getElem?_append_right (Nat.le_refl _)] at e
      simp at e
      subst e
      refine ⟨p, by show (φ.l ++ [p])[_]? = _; rw [List.getElem?_append_right (by rw [R.len]; exact Nat.le_refl _), R.len]; simp, vs, upd_same, r.grow g⟩
/-- a label's object is written -/
theorem Grow.wr {l : Nat} {a : Addr} {o : HO} (h : φ.l[l]? = some a) (ho : ∀ ps, o ≠ .tbl ps := by intro _ z; cases z) : Grow φ H φ (upd H a o) :=
  ⟨⟨[], by simp, fun _ z => nomatch z⟩, fun _ z n => absurd z n, fun _ z => z, fun b u e n _ => by rw [upd_ne (fun z => n (by rw [z]; exact List.mem_of_getElem? h))]; exact e, dm_upd ho⟩
theorem MemR.tbWr {l : Nat} {a : Addr} {vs : List V} (R : MemR G φ μ H) (h : φ.l[l]? = some a) : LamX.Tabs G.s.T (upd H a (.lst vs)) := by
  have hl : l < μ.length := by
    rw [← R.len]
    exact (List.getElem?_eq_some_iff.mp h).1
  obtain ⟨b, h1, h2⟩ := R.at_ l μ[l] (List.getElem?_eq_getElem hl)
  rw [h] at h1
  cases h1
  cases q : μ[l] with
  | lst xs =>
    rw [q] at h2
    obtain ⟨vs0, h3, _⟩ := h2
    exact tabs_upd R.tb h3 (fun _ z => nomatch z) fun c q z => by
      have z' : HO.lst vs0 = HO.ext _ := z
      cases z'
theorem MemR.smWr {l : Nat} {a : Addr} {vs : List V} (R : MemR G φ μ H) (h : φ.l[l]? = some a) : ∃ o, upd H a (.lst vs) sysModules = some (.frz o (.own 0)) := by
  have hl : l < μ.length := by
    rw [← R.len]
    exact (List.getElem?_eq_some_iff.mp h).1
  obtain ⟨b, h1, h2⟩ := R.at_ l μ[l] (List.getElem?_eq_getElem hl)
  rw [h] at h1
  cases h1
  obtain ⟨o, e⟩ := R.sm
  refine ⟨o, ?_⟩
  cases q : μ[l] with
  | lst xs =>
    rw [q] at h2
    obtain ⟨vs0, h3, _⟩ := h2
    rw [upd_ne (fun z => by rw [z, h3] at e; cases e)]
    exact e
theorem MemR.wr {l : Nat} {a : Addr} {vs : List V} {ds : List D} (R : MemR G φ μ H) (h : φ.l[l]? = some a) (r : RpL G.off φ H ds vs) : MemR G φ (μ.set l (.lst ds)) (upd H a (.lst vs)) := by
  have g : Grow φ H φ (upd H a (.lst vs)) := Grow.wr h
  refine ⟨R.tbWr h, R.smWr h, by simp [R.len], R.nd, fun j o e => ?_, fun b hb => let ⟨u, e⟩ := R.hd b hb; by
    by_cases q : b = a
    · exact ⟨vs, by rw [q, upd_same]⟩
    · exact ⟨u, by rw [upd_ne q]; exact e⟩⟩
  by_cases hj : l = j
  · subst hj
    have hl : l < μ.length := by
      have := (List.getElem?_eq_some_iff.mp e).1
      simpa using this
    rw [List.getElem?_set_self hl] at e
    cases e
    exact ⟨a, h, vs, upd_same, r.grow g⟩
  · rw [List.getElem?_set_ne hj] at e
    obtain ⟨b, h1, h2⟩ := R.at_ j o e
    refine ⟨b, h1, ?_⟩
    cases o with
    | lst xs =>
      obtain ⟨ws, h3, h4⟩ := h2
      have hb : b ≠ a := fun z => hj (by
        subst z
        obtain ⟨i1, q1⟩ := List.getElem?_eq_some_iff.mp h
        obtain ⟨i2, q2⟩ := List.getElem?_eq_some_iff.mp h1
        exact (List.getElem_inj R.nd).mp (q1.trans q2.symm))
      exact ⟨ws, by rw [upd_ne hb]; exact h3, h4.grow g⟩

/-- a part, then the rest -/
theorem bG {α ν β ξ : Type} {T : Tie α ν} {U : Tie β ξ} {W : WX} {m : Ev → M α} {k : α → M β} {ρ : Ev} {σ : L2.St} {Q : ξ → Hp → Prop} {R : ν → Hp → Prop}
    (e : EvR G φ H ρ σ) (r : MemR G φ μ H) (p : Post G U φ H (M.bind (m ρ) k μ) Q fun cls dd H' => W cls dd σ H')
    (hk : ∀ φ1 H1 x v μ1, Grow φ H φ1 H1 → EvR G φ1 H1 ρ σ → MemR G φ1 μ1 H1 → T φ1 H1 x v → Post G U φ1 H1 (k x μ1) Q (fun cls dd H' => W cls dd σ H') → R v H1) : tG G T W m σ H R := by
  refine ⟨φ, ρ, μ, e, r, ?_⟩
  unfold M.bind at p
  cases q : m ρ μ with
  | ok d μ1 =>
    rw [q] at p
    intro φ1 H1 v g r1 rv
    exact hk φ1 H1 d v μ1 g (e.grow g) r1 rv (Post.grow g p)
  | exc x μ1 =>
    rw [q] at p
    exact p
  | bad =>
    rw [q] at p
    exact p
/-- the whole from its own tie -/
theorem bE {α ν β ξ : Type} {T : Tie α ν} {U : Tie β ξ} {W : WX} {m : Ev → M α} {k : α → Ev → M β} {σ : L2.St} {Q : ξ → Hp → Prop} {R : ν → Hp → Prop}
    (h : tG G U W (fun ρ => M.bind (m ρ) fun x => k x ρ) σ H Q)
    (hk : ∀ φ1 H1 x v ρ μ1, EvR G φ1 H1 ρ σ → MemR G φ1 μ1 H1 → T φ1 H1 x v → Post G U φ1 H1 (k x ρ μ1) Q (fun cls dd H' => W cls dd σ H') → R v H1) : tG G T W m σ H R := by
  obtain ⟨φ, ρ, μ, e, r, p⟩ := h
  exact bG e r p fun φ1 H1 x v μ1 _ e1 r1 t1 p1 => hk φ1 H1 x v ρ μ1 e1 r1 t1 p1
theorem Post.pure {α ν : Type} {T : Tie α ν} {d : α} {v : ν} {Q : ν → Hp → Prop} {E : XK} (p : Post G T φ H (.ok d μ) Q E) (R : MemR G φ μ H) (r : T φ H d v) : Q v H := p φ H v (Grow.refl _ _) R r
end

/-! ### operations by values -/
/-- a reading of two values is met by a computation -/
def OpI (G : Gx) (f : D → D → M D) (r : R2) : Prop :=
  ∀ (φ : Lab) (μ : Mem) (H : Hp) (a b : D) (x y : V) (Q : VK) (E : XK), MemR G φ μ H → Rp G φ H a x → Rp G φ H b y → Post G (tieD G) φ H (f a b μ) Q E → r x y H Q
def UnI (G : Gx) (f : D → M D) (r : V → Hp → VK → Prop) : Prop :=
  ∀ (φ : Lab) (μ : Mem) (H : Hp) (a : D) (x : V) (Q : VK) (E : XK), MemR G φ μ H → Rp G φ H a x → Post G (tieD G) φ H (f a μ) Q E → r x H Q
def CallI (G : Gx) (f : List D → M D) (r : List V → Hp → VK → Prop) : Prop :=
  ∀ (φ : Lab) (μ : Mem) (H : Hp) (a : List D) (x : List V) (Q : VK) (E : XK), MemR G φ μ H → RpL G φ H a x → Post G (tieD G) φ H (f a μ) Q E → r x H Q

def eVar (i : Nat) : Ev → M D := fun ρ => match ρ[i]? with
  | some (some d) => M.pure d
  | _ => M.bad
def eC (d : D) : Ev → M D := fun _ => M.pure d
def e2 (f : D → D → M D) (a b : Ev → M D) : Ev → M D := fun ρ => do let x ← a ρ; let y ← b ρ; f x y
def e1 (f : D → M D) (a : Ev → M D) : Ev → M D := fun ρ => do let x ← a ρ; f x
def eL (f : List D → M D) (a : Ev → M (List D)) : Ev → M D := fun ρ => do let x ← a ρ; f x
def lNil : Ev → M (List D) := fun _ => M.pure []
def lCons (a : Ev → M D) (r : Ev → M (List D)) : Ev → M (List D) := fun ρ => do let x ← a ρ; let xs ← r ρ; M.pure (x :: xs)
/-- a truth value, as a test, as a value -/
def truB (d : D) : M Bool := fun μ => match d with
  | .bl b => .ok b μ
  | .non => .ok false μ
  | .int i => .ok (i != 0) μ
  | .str x => if x.length ≤ sizeLine then .ok ((x.length : Int) != 0) μ else .bad
  | .tup xs => .ok (!xs.isEmpty) μ
  | .lst xs => .ok (!xs.isEmpty) μ
  | .ro xs => .ok (!xs.isEmpty) μ
  | .dct kvs => .ok (!kvs.isEmpty) μ
  | .loc l => match μ[l]? with
    | some (.lst xs) => .ok (!xs.isEmpty) μ
    | none => .bad
  | _ => .bad
def bTru (a : Ev → M D) : Ev → M Bool := fun ρ => do let x ← a ρ; truB x
def bNot (a : Ev → M Bool) : Ev → M Bool := fun ρ => do let x ← a ρ; M.pure (!x)
def bAnd (a b : Ev → M Bool) : Ev → M Bool := fun ρ => do let x ← a ρ; if x = true then b ρ else M.pure false
def bOr (a b : Ev → M Bool) : Ev → M Bool := fun ρ => do let x ← a ρ; if x = true then M.pure true else b ρ
def isBl (d : D) : M Bool := fun μ => match d with
  | .bl b => .ok b μ
  | _ => .bad
def bOf (a : Ev → M D) : Ev → M Bool := fun ρ => do let x ← a ρ; isBl x
/-- and, or of truth values (all but the last) -/
def eAnd (a b : Ev → M D) : Ev → M D := fun ρ => do let x ← a ρ; let c ← isBl x; if c = true then b ρ else M.pure (.bl false)
def eOr (a b : Ev → M D) : Ev → M D := fun ρ => do let x ← a ρ; let c ← isBl x; if c = true then M.pure (.bl true) else b ρ
def eNot (a : Ev → M D) : Ev → M D := fun ρ => do let x ← a ρ; let c ← isBl x; M.pure (.bl (!c))
def eIf (t : Ev → M Bool) (a b : Ev → M D) : Ev → M D := fun ρ => do let x ← t ρ; if x = true then a ρ else b ρ

section
variable {X : Cx} {W : WX} {a b c : Expr} {es : List Expr} {ma mb mc : Ev → M D} {ms : Ev → M (List D)} {mt mu : Ev → M Bool} {pos : Pos}
theorem j_var (i : Nat) {x : Str} (hN : X.N[i]? = some x := by rfl) (hv : Vis X.env.scope x := by first | exact Or.inl rfl | exact Or.inr (Or.inl rfl) | exact Or.inr (Or.inr rfl)) (hd : (x == ("__debug__" : Str)) = false := by decide)
    (hcd : (x == ("__classdict__" : Str)) = false := by decide) : JE X Γ W (.Name x pos) (eVar i) := by
  refine pe_w (pv i hN hv hd hcd) fun σ H Q h => ?_
  obtain ⟨φ, ρ, μ, e, r, p⟩ := h
  unfold eVar at p
  cases q : ρ[i]? with
  | none =>
    rw [q] at p
    exact p.elim
  | some o =>
    cases o with
    | none =>
      rw [q] at p
      exact p.elim
    | some d =>
      rw [q] at p
      obtain ⟨v, h1, h2⟩ := e.2 i d q
      exact ⟨v, h1, Post.pure p r h2⟩
theorem j_const {d : D} {v : V} {e : Expr} (h : PE X e (tC v)) (hr : ∀ φ H, Rp (X.G Γ) φ H d v) : JE X Γ W e (eC d) := by
  refine pe_w h fun σ H Q q => ?_
  obtain ⟨φ, ρ, μ, e, r, p⟩ := q
  exact Post.pure p r (hr φ H)
theorem j_int {i : Int} {j : Nat} : JE X Γ W (.Constant (.int i) j pos) (eC (.int i)) := j_const pe_int fun _ _ => .int i
theorem j_bl {i : Bool} {j : Nat} : JE X Γ W (.Constant (.bool i) j pos) (eC (.bl i)) := j_const pe_bl fun _ _ => .bl i
theorem j_non {j : Nat} : JE X Γ W (.Constant .none j pos) (eC .non) := j_const pe_non fun _ _ => .non
theorem j_str {x : Str} {j : Nat} : JE X Γ W (.Constant (.str x) j pos) (eC (.str x)) := j_const pe_str fun _ _ => .str x
theorem j_op {op : Operator} {r : R2} {f : D → D → M D} (ho : OpR X (binaryOp op) r) (hi : OpI (X.G Γ) f r) (ha : JE X Γ W a ma) (hb : JE X Γ W b mb) : JE X Γ W (.BinOp a op b pos) (e2 f ma mb) := by
  refine pe_w (pe_op ho ha hb) fun σ H Q h => ?_
  refine bE h fun φ1 H1 x v ρ μ1 e r rv p => ?_
  refine bG e r p fun φ2 H2 y u μ2 g e2 r2 ru p2 => ?_
  exact hi φ2 μ2 H2 x y v u Q _ r2 (rv.grow g) ru p2
theorem j_un {op : UnaryOp} {r : V → Hp → VK → Prop} {f : D → M D} (ho : UnR X (unaryOp op) r) (hi : UnI (X.G Γ) f r) (ha : JE X Γ W a ma) : JE X Γ W (.UnaryOp op a pos) (e1 f ma) := by
  refine pe_w (pe_un ho ha) fun σ H Q h => ?_
  exact bE h fun φ1 H1 x v ρ μ1 e r rv p => hi φ1 μ1 H1 x v Q _ r rv p
theorem j_cmp {op : CmpOp} {r : R2} {f : D → D → M D} (ho : OpR X (compareOp op) r) (hi : OpI (X.G Γ) f r) (ha : JE X Γ W a ma) (hb : JE X Γ W b mb) (hm : behindInMarks op b = false) : JE X Γ W (.Compare a [op] [b] pos) (e2 f ma mb) := by
  refine pe_w (pe_cmpR ho ha hb hm) fun σ H Q h => ?_
  refine bE h fun φ1 H1 x v ρ μ1 e r rv p => ?_
  refine bG e r p fun φ2 H2 y u μ2 g e2 r2 ru p2 => ?_
  exact hi φ2 μ2 H2 x y v u Q _ r2 (rv.grow g) ru p2
theorem jl_nil : JL X Γ W [] lNil := by
  refine pa_w pa_nil fun σ H Q h => ?_
  obtain ⟨φ, ρ, μ, e, r, p⟩ := h
  exact Post.pure p r .nil
theorem jl_cons (ha : JE X Γ W a ma) (hr : JL X Γ W es ms) (hs : starEach (a :: es) X.env = (false, eval a X.env) :: starEach es X.env := by rfl) : JL X Γ W (a :: es) (lCons ma ms) := by
  refine pa_w (pa_cons ha hr hs) fun σ H Q h => ?_
  refine bE h fun φ1 H1 x v ρ μ1 e r rv p => ?_
  refine bG e r p fun φ2 H2 y u μ2 g e2 r2 ru p2 => ?_
  exact Post.pure p2 r2 (.cons (rv.grow g) ru)
/-! ### truth -/
theorem isEmpty_L {G : Gx} {φ : Lab} {H : Hp} {ds : List D} {vs : List V} (r : RpL G φ H ds vs) : (!vs.isEmpty) = !ds.isEmpty := by
  cases r <;> rfl
theorem isEmpty_K {G : Gx} {φ : Lab} {H : Hp} {ds : List (Key × D)} {vs : List (Key × V)} (r : RpK G φ H ds vs) : (!vs.isEmpty) = !ds.isEmpty := by
  cases r <;> rfl
theorem tru_i {G : Gx} {φ : Lab} {μ : Mem} {H : Hp} {d : D} {v : V} {Q : Bool → Hp → Prop} {E : XK} (R : MemR G φ μ H) (r : Rp G φ H d v) (p : Post G tieB φ H (truB d μ) Q E) : ∃ k, TruV G.K v H k ∧ Q k H := by
  cases r with
  | non => exact ⟨false, rfl, Post.pure p R rfl⟩
  | bl b => exact ⟨b, rfl, Post.pure p R rfl⟩
  | int i => exact ⟨i != 0, rfl, Post.pure p R rfl⟩
  | str x =>
    unfold truB at p
    by_cases h : x.length ≤ sizeLine
    · simp only [if_pos h] at p
      exact ⟨_, ⟨h, rfl⟩, Post.pure p R rfl⟩
    · simp only [if_neg h] at p
      exact p.elim
  | tup h r => exact ⟨_, .inr (.inl ⟨_, h.t, rfl⟩), by rw [isEmpty_L r]; exact Post.pure p R rfl⟩
  | lst h _ r => exact ⟨_, .inl ⟨_, SqL.of h, rfl⟩, by rw [isEmpty_L r]; exact Post.pure p R rfl⟩
  | ro h r => exact ⟨_, .inl ⟨_, h.t, rfl⟩, by rw [isEmpty_L r]; exact Post.pure p R rfl⟩
  | dct h _ r => exact ⟨_, .inr (.inr ⟨_, h, rfl⟩), by rw [isEmpty_K r]; exact Post.pure p R rfl⟩
  | @loc a l h =>
    unfold truB at p
    cases q : μ[l]? with
    | none =>
      simp only [q] at p
      exact p.elim
    | some o =>
      obtain ⟨b, h1, h2⟩ := R.at_ l o q
      rw [h] at h1
      cases h1
      cases o with
      | lst xs =>
        simp only [q] at p
        obtain ⟨vs, h3, h4⟩ := h2
        exact ⟨_, .inl ⟨_, SqL.of h3, rfl⟩, by rw [isEmpty_L h4]; exact Post.pure p R rfl⟩
  | ty n => exact p.elim
  | gl h => exact p.elim
  | err _ _ _ _ _ _ => exact p.elim
  | err0 _ _ _ => exact p.elim
  | clo _ _ _ _ _ => exact p.elim
theorem jt_tru (ha : JE X Γ W a ma) (he : ∀ whole, isTrue a X.env whole = (do let v ← whole; standAt a.pos; holding [v] (truthy v)) := by intro _; rfl) : JT X Γ W a (bTru ma) := by
  refine pt_w (pt_truth ha he) fun σ H Q h => ?_
  exact bE h fun φ1 H1 x v ρ μ1 e r rv p => tru_i r rv p
theorem jt_cmp {op : CmpOp} {r : R2} {f : D → D → M D} (ho : OpR X (compareOp op) r) (hi : OpI (X.G Γ) f r) (ha : JE X Γ W a ma) (hb : JE X Γ W b mb) (hm : behindInMarks op b = false) : JT X Γ W (.Compare a [op] [b] pos) (bOf (e2 f ma mb)) := by
  refine pt_w (pt_cmpR ho ha hb hm) fun σ H Q h => ?_
  obtain ⟨φ, ρ, μ, e, r, p⟩ := h
  change Post (X.G Γ) tieB φ H (M.bind (M.bind (ma ρ) fun x => M.bind (mb ρ) fun y => f x y) (fun x => isBl x) μ) _ _ at p
  have p' : Post (X.G Γ) tieB φ H (M.bind (ma ρ) (fun x => M.bind (mb ρ) fun y => M.bind (f x y) fun z => isBl z) μ) Q (fun cls dd H' => W cls dd σ H') := by
    have e1 : M.bind (M.bind (ma ρ) fun x => M.bind (mb ρ) fun y => f x y) (fun x => isBl x) μ = M.bind (ma ρ) (fun x => M.bind (mb ρ) fun y => M.bind (f x y) fun z => isBl z) μ := by
      unfold M.bind
      cases ma ρ μ with
      | ok d μ1 =>
        dsimp only
        cases mb ρ μ1 <;> rfl
      | exc e μ1 => rfl
      | bad => rfl
    rw [← e1]
    exact p
  refine bG (T := tieD (X.G Γ)) e r p' fun φ1 H1 x v μ1 g e1 r1 rv p1 => ?_
  refine bG (T := tieD (X.G Γ)) e1 r1 p1 fun φ2 H2 y u μ2 g2 e2 r2 ru p2 => ?_
  refine hi φ2 μ2 H2 x y v u _ (fun cls dd H' => W cls dd σ H') r2 (rv.grow g2) ru ?_
  unfold M.bind at p2
  cases q : f x y μ2 with
  | ok d μ3 =>
    rw [q] at p2
    intro φ3 H3 z g3 r3 rz
    dsimp only at p2
    cases rz with
    | bl k => exact ⟨k, rfl, p2 φ3 H3 k g3 r3 rfl⟩
    | _ => exact p2.elim
  | exc x μ3 =>
    rw [q] at p2
    exact p2
  | bad =>
    rw [q] at p2
    exact p2
abbrev JW (X : Cx) (Γ : Gs) (W : WX) (e : Expr) (m : Ev → M Bool) : Prop := PW X e (tG (X.G Γ) tieB W m)
theorem pw_w {X : Cx} {e : Expr} {t t' : TT} (h : PW X e t) (w : ∀ σ H Q, t' σ H Q → t σ H Q) : PW X e t' := ⟨fun wh pins s σ H Q I q => h.run wh pins s σ H Q I (w σ H Q q)⟩
theorem jw_and1 (ha : JT X Γ W a mt) : JW X Γ W (.BoolOp .And [a] pos) mt := pw_and1 ha
theorem jw_or1 (ha : JT X Γ W a mt) : JW X Γ W (.BoolOp .Or [a] pos) mt := pw_or1 ha
theorem jw_and {rest : List Expr} (ha : JT X Γ W a mt) (hb : JW X Γ W (.BoolOp .And (b :: rest) pos) mu) : JW X Γ W (.BoolOp .And (a :: b :: rest) pos) (bAnd mt mu) := by
  refine pw_w (pw_and ha hb) fun σ H Q h => ?_
  refine bE h fun φ1 H1 x v ρ μ1 e r rv p => ?_
  cases (show v = x from rv)
  cases x with
  | true => exact ⟨φ1, ρ, μ1, e, r, p⟩
  | false => exact Post.pure p r rfl
theorem jw_or {rest : List Expr} (ha : JT X Γ W a mt) (hb : JW X Γ W (.BoolOp .Or (b :: rest) pos) mu) : JW X Γ W (.BoolOp .Or (a :: b :: rest) pos) (bOr mt mu) := by
  refine pw_w (pw_or ha hb) fun σ H Q h => ?_
  refine bE h fun φ1 H1 x v ρ μ1 e r rv p => ?_
  cases (show v = x from rv)
  cases x with
  | true => exact Post.pure p r rfl
  | false => exact ⟨φ1, ρ, μ1, e, r, p⟩
theorem jt_w (h : JW X Γ W a mt) : JT X Γ W a mt := h.pt
theorem jt_not (ha : JT X Γ W a mt) : JT X Γ W (.UnaryOp .Not a pos) (bNot mt) := by
  refine pt_w (pt_not ha) fun σ H Q h => ?_
  exact bE h fun φ1 H1 x v ρ μ1 e r rv p => by
    cases (show v = x from rv)
    exact Post.pure p r rfl
/-- .. as values -/
theorem isBl_i {G : Gx} {β ξ : Type} {U : Tie β ξ} {φ : Lab} {μ : Mem} {H : Hp} {d : D} {v : V} {k : Bool → M β} {Q : ξ → Hp → Prop} {E : XK} (r : Rp G φ H d v) (p : Post G U φ H (M.bind (isBl d) k μ) Q E) : ∃ c, v = .bl c ∧ Post G U φ H (k c μ) Q E := by
  cases r with
  | bl b => exact ⟨b, rfl, p⟩
  | _ => exact p.elim
theorem j_and {rest : List Expr} (ha : JE X Γ W a ma) (hb : JE X Γ W (.BoolOp .And (b :: rest) pos) mb) : JE X Γ W (.BoolOp .And (a :: b :: rest) pos) (eAnd ma mb) := by
  refine pe_w (pe_and ha hb) fun σ H Q h => ?_
  refine bE h fun φ1 H1 x v ρ μ1 e r rv p => ?_
  obtain ⟨c, rfl, p⟩ := isBl_i rv p
  refine ⟨c, rfl, ?_⟩
  cases c with
  | true => exact ⟨φ1, ρ, μ1, e, r, p⟩
  | false => exact Post.pure p r (.bl false)
theorem j_or {rest : List Expr} (ha : JE X Γ W a ma) (hb : JE X Γ W (.BoolOp .Or (b :: rest) pos) mb) : JE X Γ W (.BoolOp .Or (a :: b :: rest) pos) (eOr ma mb) := by
  refine pe_w (pe_or ha hb) fun σ H Q h => ?_
  refine bE h fun φ1 H1 x v ρ μ1 e r rv p => ?_
  obtain ⟨c, rfl, p⟩ := isBl_i rv p
  refine ⟨c, rfl, ?_⟩
  cases c with
  | true => exact Post.pure p r (.bl true)
  | false => exact ⟨φ1, ρ, μ1, e, r, p⟩
theorem j_one {op : BoolOp} (ha : JE X Γ W a ma) : JE X Γ W (.BoolOp op [a] pos) ma := pe_one ha
theorem j_not (ha : JE X Γ W a ma) : JE X Γ W (.UnaryOp .Not a pos) (eNot ma) := by
  refine pe_w (pe_not ha) fun σ H Q h => ?_
  refine bE h fun φ1 H1 x v ρ μ1 e r rv p => ?_
  obtain ⟨c, rfl, p⟩ := isBl_i rv p
  exact ⟨c, rfl, Post.pure p r (.bl _)⟩
theorem j_if {t : Expr} (ht : JT X Γ W t mt) (ha : JE X Γ W a ma) (hb : JE X Γ W b mb) : JE X Γ W (.IfExp t a b pos) (eIf mt ma mb) := by
  refine pe_w (pe_ifExp ht ha hb) fun σ H Q h => ?_
  refine bE h fun φ1 H1 x v ρ μ1 e r rv p => ?_
  cases (show v = x from rv)
  cases x with
  | true => exact ⟨φ1, ρ, μ1, e, r, p⟩
  | false => exact ⟨φ1, ρ, μ1, e, r, p⟩
/-- a op b op' c -/
def e3c (f g : D → D → M D) (a b c : Ev → M D) : Ev → M D := fun ρ => do let x ← a ρ; let y ← b ρ; let z ← f x y; let k ← isBl z; if k = true then (do let w ← c ρ; g y w) else M.pure (.bl false)
theorem j_chain {op op' : CmpOp} {r r' : R2} {f g : D → D → M D} (ho : OpR X (compareOp op) r) (hi : OpI (X.G Γ) f r) (ho' : OpR X (compareOp op') r') (hi' : OpI (X.G Γ) g r') (ha : JE X Γ W a ma) (hb : JE X Γ W b mb) (hc : JE X Γ W c mc)
    (hm : lastMarks [op, op'] [b, c] = false := by with_unfolding_all rfl) : JE X Γ W (.Compare a [op, op'] [b, c] pos) (e3c f g ma mb mc) := by
  refine pe_w (pe_chain ho ho' ha hb hc hm) fun σ H Q h => ?_
  refine bE h fun φ1 H1 x v ρ μ1 e r rv p => ?_
  refine bG e r p fun φ2 H2 y u μ2 g2 e2 r2 ru p2 => ?_
  refine hi φ2 μ2 H2 x y v u _ (fun cls dd H' => W cls dd σ H') r2 (rv.grow g2) ru ?_
  change Post (X.G Γ) (tieD (X.G Γ)) φ2 H2 (M.bind (f x y) _ μ2) _ _ at p2
  unfold M.bind at p2
  cases q : f x y μ2 with
  | ok d μ3 =>
    rw [q] at p2
    intro φ3 H3 z g3 r3 rz
    dsimp only at p2
    obtain ⟨k, rfl, p3⟩ := isBl_i rz (Post.grow g3 p2)
    refine ⟨k, rfl, ?_⟩
    cases k with
    | false => exact Post.pure p3 r3 (.bl false)
    | true =>
      refine bG (e2.grow g3) r3 p3 fun φ4 H4 w t μ4 g4 e4 r4 rt p4 => ?_
      exact hi' φ4 μ4 H4 y w u t Q _ r4 ((ru.grow g3).grow g4) rt p4
  | exc x μ3 =>
    rw [q] at p2
    exact p2
  | bad =>
    rw [q] at p2
    exact p2
/-! ### displays -/
def tupM (ds : List D) : M D := fun μ => if ds.length ≤ 100000 then .ok (.tup ds) μ else .bad
def lstM (ds : List D) : M D := fun μ => if ds.length ≤ 100000 then .ok (.lst ds) μ else .bad
def newM (ds : List D) : M D := fun μ => if ds.length ≤ 100000 then .ok (.loc μ.length) (μ ++ [.lst ds]) else .bad
theorem line5 {n : Nat} (h : n ≤ 100000) : n ≤ sizeLine := by rw [sizeLine_eq]; omega
theorem j_tup {k : Nat} (h : JL X Γ W es ms) : JE X Γ W (.Tuple es k pos) (eL tupM ms) := by
  refine pe_w (pe_tup h) fun σ H Q q => ?_
  refine bE q fun φ1 H1 x v ρ μ1 e r rv p => ?_
  unfold tupM at p
  by_cases hl : x.length ≤ 100000
  · simp only [if_pos hl] at p
    refine ⟨by rw [← rv.length]; exact line5 hl, fun a ha => ?_⟩
    exact p φ1 _ _ (Grow.laid ha) (r.laid ha) (.tup (.inl ⟨.inl upd_same, r.out ha⟩) (rv.grow (Grow.laid ha)))
  · simp only [if_neg hl] at p
    exact p.elim
theorem j_lst (h : JL X Γ W es ms) : JE X Γ W (.List es pos) (eL lstM ms) := by
  refine pe_w (pe_lst h) fun σ H Q q => ?_
  refine bE q fun φ1 H1 x v ρ μ1 e r rv p => ?_
  unfold lstM at p
  by_cases hl : x.length ≤ 100000
  · simp only [if_pos hl] at p
    refine ⟨by rw [← rv.length]; exact line5 hl, fun a ha => ?_⟩
    exact p φ1 _ _ (Grow.laid ha) (r.laid ha) (.lst upd_same (r.out ha) (rv.grow (Grow.laid ha)))
  · simp only [if_neg hl] at p
    exact p.elim
/-- a list that will change -/
theorem j_new (h : JL X Γ W es ms) (h0 : Γ.off = Γ := by rfl) : JE X Γ W (.List es pos) (eL newM ms) := by
  refine pe_w (pe_lst h) fun σ H Q q => ?_
  refine bE q fun φ1 H1 x v ρ μ1 e r rv p => ?_
  unfold newM at p
  by_cases hl : x.length ≤ 100000
  · simp only [if_pos hl] at p
    refine ⟨by rw [← rv.length]; exact line5 hl, fun a ha => ?_⟩
    exact p _ _ _ (Grow.newl ha) (r.newl ha (by rw [Gx.off_eq (G := X.G Γ) h0]; exact rv)) (.loc (by show (φ1.l ++ [a])[_]? = _; rw [List.getElem?_append_right (by rw [r.len]; exact Nat.le_refl _), r.len]; simp))
  · simp only [if_neg hl] at p
    exact p.elim
/-! ### calls of built-ins by name -/
theorem j_callB {x : Str} {e : Expr} {p0 : Pos} {id : String} {r : List V → Hp → VK → Prop} {f : List D → M D} (hc : CallR X (.builtin id) r) (hi : CallI (X.G Γ) f r) (hg : Gl X x) (hm : X.mg x = none) (hv : bootBuiltins x = some (.builtin id)) (ha : JL X Γ W (e :: es) ms) (hn : x ≠ "__name__" := by decide) (hdb : (x == ("__debug__" : Str)) = false := by decide)
    (he : starEach (e :: es) X.env = (false, eval e X.env) :: starEach es X.env := by rfl) (hpl : (backTo pos (starEach es X.env)).any (·.1) = false := by rfl) : JE X Γ W (.Call (.Name x p0) (e :: es) [] pos) (eL f ms) := by
  refine pe_w (pe_callB hc hg hm hv ha hn hdb he hpl) fun σ H Q h => ?_
  exact bE h fun φ1 H1 x v ρ μ1 e r rv p => hi φ1 μ1 H1 x v Q _ r rv p
theorem j_callTy {x : Str} {e : Expr} {p0 : Pos} {T : String} {r : List V → Hp → VK → Prop} {f : List D → M D} (hc : CallR X (.type T) r) (hi : CallI (X.G Γ) f r) (hg : Gl X x) (hm : X.mg x = none) (hv : bootBuiltins x = some (.type T)) (ha : JL X Γ W (e :: es) ms) (hn : x ≠ "__name__" := by decide) (hdb : (x == ("__debug__" : Str)) = false := by decide)
    (he : starEach (e :: es) X.env = (false, eval e X.env) :: starEach es X.env := by rfl) (hpl : (backTo pos (starEach es X.env)).any (·.1) = false := by rfl) : JE X Γ W (.Call (.Name x p0) (e :: es) [] pos) (eL f ms) := by
  refine pe_w (pe_callTy hc hg hm hv ha hn hdb he hpl) fun σ H Q h => ?_
  exact bE h fun φ1 H1 x v ρ μ1 e r rv p => hi φ1 μ1 H1 x v Q _ r rv p
/-! ### subscripts -/
theorem j_ix {r : R2} {f : D → D → M D} (hr : IxR X r) (hi : OpI (X.G Γ) f r) (ha : JE X Γ W a ma) (hb : JE X Γ W b mb) (hs : PlainIx b := by intro _ _; rfl) : JE X Γ W (.Subscript a b pos) (e2 f ma mb) := by
  refine pe_w (pe_ix hr ha hb hs) fun σ H Q h => ?_
  refine bE h fun φ1 H1 x v ρ μ1 e r rv p => ?_
  refine bG e r p fun φ2 H2 y u μ2 g e2 r2 ru p2 => ?_
  exact hi φ2 μ2 H2 x y v u Q _ r2 (rv.grow g) ru p2
end
end SE

/-! SE3: the operations on values, and that they do what the computations say. -/
namespace SE
open PySem PySem.Spec PyProof.Rows L2
/-! ### a tree as data -/
mutual
def dP : D → PyData
  | .non => .none
  | .bl b => .bool b
  | .int i => .int i
  | .str x => .str x
  | .tup xs => .tuple (dPL xs)
  | .lst xs => .list (dPL xs)
  | .ro xs => .list (dPL xs)
  | .dct kvs => .dict (dPK kvs)
  | .loc _ => .none
  | .ty _ => .none
  | .gl _ => .none
  | .err _ _ => .none
  | .clo _ => .none
def dPL : List D → List PyData
  | [] => []
  | d :: ds => dP d :: dPL ds
def dPK : List (Key × D) → List (PyData × PyData)
  | [] => []
  | (k, d) :: ds => ((match k with | .inl i => PyData.int i | .inr x => PyData.str x), dP d) :: dPK ds
end
mutual
/-- plain data; without dicts -/
def isP : D → Bool
  | .non | .bl _ | .int _ | .str _ => true
  | .tup xs => isPL xs
  | .lst xs => isPL xs
  | .ro xs => isPL xs
  | _ => false
def isPL : List D → Bool
  | [] => true
  | d :: ds => isP d && isPL ds
end
mutual
/-- plain data; without lists, dicts may be -/
def isQ : D → Bool
  | .non | .bl _ | .int _ | .str _ => true
  | .tup xs => isQL xs
  | .lst xs => isQL xs
  | .ro xs => isQL xs
  | .dct kvs => isQK kvs
  | _ => false
def isQL : List D → Bool
  | [] => true
  | d :: ds => isQ d && isQL ds
def isQK : List (Key × D) → Bool
  | [] => true
  | (_, d) :: ds => isQ d && isQK ds
end
mutual
/-- a bound of the text's length -/
def cost : D → Nat
  | .str x => (reprText x).length
  | .tup xs => costL xs + 3
  | .lst xs => costL xs + 3
  | .ro xs => costL xs + 3
  | .dct kvs => costK kvs + 3
  | _ => 1940
def costL : List D → Nat
  | [] => 0
  | d :: ds => cost d + 2 + costL ds
def costK : List (Key × D) → Nat
  | [] => 0
  | (k, d) :: ds => (match k with | .inl _ => 1940 | .inr x => (reprText x).length) + 4 + cost d + costK ds
end
section
variable {G : Gx} {φ : Lab} {H : Hp}
theorem andB {a b : Bool} (h : (a && b) = true) : a = true ∧ b = true := Bool.and_eq_true_iff.mp h
mutual
theorem Rp.dp : ∀ {d : D} {v : V}, Rp G φ H d v → isP d = true → Dp G.K H v (dP d)
  | _, _, .non, _ => .non
  | _, _, .bl b, _ => .bl b
  | _, _, .int i, _ => .int i
  | _, _, .str x, _ => .str x
  | _, _, .tup h r, p => .tup h.t (RpL.dp r p)
  | _, _, .lst h _ r, p => .lst (SqL.of h) (RpL.dp r p)
  | _, _, .ro h r, p => .lst h.t (RpL.dp r p)
  | _, _, .dct _ _ _, p => by cases p
  | _, _, .loc _, p => by cases p
  | _, _, .ty _, p => by cases p
  | _, _, .gl _, p => by cases p
  | _, _, .err _ _ _ _ _ _, p => by cases p
  | _, _, .err0 _ _ _, p => by cases p
  | _, _, .clo _ _ _ _ _, p => by cases p
theorem RpL.dp : ∀ {ds : List D} {vs : List V}, RpL G φ H ds vs → isPL ds = true → DpAll G.K H vs (dPL ds)
  | _, _, .nil, _ => .nil
  | _, _, .cons r t, p => .cons (Rp.dp r (andB p).1) (RpL.dp t (andB p).2)
end
mutual
theorem isP_nd : ∀ d : D, isP d = true → (dP d).hasDict = false
  | .non, _ => rfl
  | .bl _, _ => rfl
  | .int _, _ => rfl
  | .str _, _ => rfl
  | .tup xs, p => isPL_nd xs p
  | .lst xs, p => isPL_nd xs p
  | .ro xs, p => isPL_nd xs p
  | .dct _, p => by cases p
  | .loc _, p => by cases p
  | .ty _, p => by cases p
  | .gl _, p => by cases p
theorem isPL_nd : ∀ ds : List D, isPL ds = true → PyData.hasDictAll (dPL ds) = false
  | [], _ => rfl
  | d :: ds, p => by
    show ((dP d).hasDict || PyData.hasDictAll (dPL ds)) = false
    rw [isP_nd d (andB p).1, isPL_nd ds (andB p).2]
    rfl
end
theorem cost_join (sep : Nat) : ∀ ts : List Str, (Str.join ", " ts).length ≤ (ts.map (·.length)).sum + 2 * ts.length
  | [] => Nat.zero_le _
  | [x] => by
    show x.length ≤ _
    simp
  | x :: y :: r => by
    have ih := cost_join sep (y :: r)
    show (x ++ ", " ++ Str.join ", " (y :: r)).length ≤ _
    have e2 : ((", " : String) : Str).length = 2 := rfl
    rw [PySem.strLen_append, PySem.strLen_append, e2]
    simp only [List.map_cons, List.sum_cons, List.length_cons] at ih ⊢
    omega
theorem cost_int {i : Int} (h : i.natAbs.log2 < 1920) : ((toString i : String) : Str).length ≤ 1930 := by
  have e := PySem.int_text_length_le (a := i) (k := 1920) (by omega) h
  have q : ((toString i : String) : Str).length = (toString i).length := PySem.ofString_length _
  omega
mutual
theorem shown_cost : ∀ d : D, (dP d).showable = true → (dP d).shown.length ≤ cost d
  | .non, _ => by decide
  | .bl b, _ => by cases b <;> decide
  | .int i, h => by
    have h2 : i.natAbs.log2 < 1920 := by simpa [dP, PyData.showable] using h
    have := cost_int h2
    show ((toString i : String) : Str).length ≤ 1940
    omega
  | .str x, _ => Nat.le_refl _
  | .tup xs, h => by
    obtain ⟨h1, h2⟩ := shown_costL xs (by simpa [dP, PyData.showable] using h)
    have := PySem.tupleText_len_le (PyData.shownAll (dPL xs))
    show (tupleText (PyData.shownAll (dPL xs))).length ≤ costL xs + 3
    omega
  | .lst xs, h => by
    obtain ⟨h1, h2⟩ := shown_costL xs (by simpa [dP, PyData.showable] using h)
    have := PySem.listText_len_le (PyData.shownAll (dPL xs))
    show (listText (PyData.shownAll (dPL xs))).length ≤ costL xs + 3
    omega
  | .ro xs, h => by
    obtain ⟨h1, h2⟩ := shown_costL xs (by simpa [dP, PyData.showable] using h)
    have := PySem.listText_len_le (PyData.shownAll (dPL xs))
    show (listText (PyData.shownAll (dPL xs))).length ≤ costL xs + 3
    omega
  | .dct kvs, h => by
    have h1 := shown_costK kvs (by simpa [dP, PyData.showable] using h)
    have h2 := cost_join 0 (PyData.shownKv (dPK kvs))
    show (dictText (PyData.shownKv (dPK kvs))).length ≤ costK kvs + 3
    unfold dictText
    rw [PySem.strLen_append, PySem.strLen_append]
    have e1 : (("{" : String) : Str).length = 1 := rfl
    have e2 : (("}" : String) : Str).length = 1 := rfl
    rw [e1, e2]
    omega
  | .loc _, _ => by show (4 : Nat) ≤ 1940; omega
  | .ty _, _ => by show (4 : Nat) ≤ 1940; omega
  | .gl _, _ => by show (4 : Nat) ≤ 1940; omega
  | .err _ _, _ => by show (4 : Nat) ≤ 1940; omega
  | .clo _, _ => by show (4 : Nat) ≤ 1940; omega
theorem shown_costL : ∀ ds : List D, PyData.showableAll (dPL ds) = true → ((PyData.shownAll (dPL ds)).map (·.length)).sum + 2 * (PyData.shownAll (dPL ds)).length ≤ costL ds ∧ True
  | [], _ => ⟨Nat.zero_le _, trivial⟩
  | d :: ds, h => by
    have h' : (dP d).showable = true ∧ PyData.showableAll (dPL ds) = true := by simpa [dPL, PyData.showableAll] using h
    have a := shown_cost d h'.1
    obtain ⟨b, _⟩ := shown_costL ds h'.2
    refine ⟨?_, trivial⟩
    show ((((dP d).shown :: PyData.shownAll (dPL ds)).map (·.length)).sum + 2 * ((dP d).shown :: PyData.shownAll (dPL ds)).length) ≤ cost d + 2 + costL ds
    simp only [List.map_cons, List.sum_cons, List.length_cons]
    omega
theorem shown_costK : ∀ ds : List (Key × D), PyData.showableKv (dPK ds) = true → ((PyData.shownKv (dPK ds)).map (·.length)).sum + 2 * (PyData.shownKv (dPK ds)).length ≤ costK ds
  | [], _ => Nat.zero_le _
  | (k, d) :: ds, h => by
    cases k with
    | inl i =>
      have h' : (i.natAbs.log2 < 1920 ∧ (dP d).showable = true) ∧ PyData.showableKv (dPK ds) = true := by simpa [dPK, PyData.showableKv, PyData.showable] using h
      have a := shown_cost d h'.1.2
      have b := shown_costK ds h'.2
      have c := cost_int h'.1.1
      show (((((toString i : String) : Str) ++ ": " ++ (dP d).shown) :: PyData.shownKv (dPK ds)).map (·.length)).sum + 2 * ((((toString i : String) : Str) ++ ": " ++ (dP d).shown) :: PyData.shownKv (dPK ds)).length ≤ 1940 + 4 + cost d + costK ds
      have e1 : ((": " : String) : Str).length = 2 := rfl
      simp only [List.map_cons, List.sum_cons, List.length_cons, PySem.strLen_append, e1]
      omega
    | inr x =>
      have h' : (dP d).showable = true ∧ PyData.showableKv (dPK ds) = true := by simpa [dPK, PyData.showableKv, PyData.showable] using h
      have a := shown_cost d h'.1
      have b := shown_costK ds h'.2
      show (((reprText x ++ ": " ++ (dP d).shown) :: PyData.shownKv (dPK ds)).map (·.length)).sum + 2 * ((reprText x ++ ": " ++ (dP d).shown) :: PyData.shownKv (dPK ds)).length ≤ (reprText x).length + 4 + cost d + costK ds
      have e1 : ((": " : String) : Str).length = 2 := rfl
      simp only [List.map_cons, List.sum_cons, List.length_cons, PySem.strLen_append, e1]
      omega
end
/-! ### the data is read off the heap, dicts too -/
section
variable {X : Cx} {pins : List (Addr × Obj)} {σ : L2.St} {s : Shared}
theorem keys_read {kvs : List (Key × V)} {vs : List (Key × Value)} (rk : KV kvs vs) {es : List DictEntry} (hp : Pairs (mixKind X.prog X.w) es vs) {ds : List (Key × D)} (r : RpK G φ H ds kvs) :
    ∃ as, ReadsAll s.heap (es.map (·.key)) ((dPK ds).map (·.1)) as ∧ sysModules ∉ as := by
  induction hp generalizing kvs ds with
  | nil =>
    cases rk
    cases r
    exact ⟨[], .nil, by simp⟩
  | @cons e kv es vs h1 h2 _ ih =>
    cases rk with
    | @cons p q _ _ hpq rk' =>
      cases r with
      | @cons k d v _ _ rd r' =>
        obtain ⟨as, ra, hn⟩ := ih rk' r'
        have hk : k = kv.1 := hpq.1
        rw [mixKind_is, ← hk] at h1
        rcases keyIs_shape h1 with ⟨i, t, rfl, ek⟩ | ⟨x, t, rfl, ek⟩
        · refine ⟨[] ++ as, ?_, by simpa using hn⟩
          show ReadsAll s.heap (e.key :: es.map (·.key)) (PyData.int i :: (dPK _).map (·.1)) _
          rw [ek]
          exact .cons (.int i t) ra
        · refine ⟨[] ++ as, ?_, by simpa using hn⟩
          show ReadsAll s.heap (e.key :: es.map (·.key)) (PyData.str x :: (dPK _).map (·.1)) _
          rw [ek]
          exact .cons (.str x t) ra
mutual
theorem Rp.rd (I : Inv X pins σ H s) (hG : X.K = G.K) (sm : ∃ o, H sysModules = some (.frz o (.own 0))) : ∀ {d : D} {v : V} {u : Value}, Rp G φ H d v → RelV v u → isQ d = true → ∃ as, Reads s.heap u (dP d) as ∧ sysModules ∉ as
  | _, _, _, .non, r, _ => by cases r; exact ⟨[], .none, by simp⟩
  | _, _, _, .bl b, r, _ => by cases r; exact ⟨[], .bool b, by simp⟩
  | _, _, _, .int i, r, _ => by obtain ⟨t, rfl⟩ := r; exact ⟨[], .int i t, by simp⟩
  | _, _, _, .str x, r, _ => by obtain ⟨t, rfl⟩ := r; exact ⟨[], .str x t, by simp⟩
  | _, _, _, .tup h r, rv, p => by
    cases rv
    have h2 := h.t
    rw [← hG] at h2
    obtain ⟨its, ri, ⟨o, ho, hc, n, hd⟩, _⟩ := I.tuple h2
    obtain ⟨as, ra, hn⟩ := RpL.rd I hG sm r ri p
    exact ⟨as, .tuple ho hc hd ra, hn⟩
  | _, _, _, .dct (a := a) h _ r, rv, p => by
    cases rv
    obtain ⟨_, hS, vs, rk, o, es, ep, ho, hx, hd, _, hp, _⟩ := I.hok _ _ h
    obtain ⟨as, ra, hn⟩ := keys_read (s := s) rk hp r
    obtain ⟨bs, rb, hm⟩ := RpK.rd I hG sm r rk hp p
    refine ⟨a :: as ++ bs, .dict ho hx.1 hd ra rb, fun hz => ?_⟩
    rcases List.mem_append.mp hz with z | z
    · rcases List.mem_cons.mp z with z | z
      · rw [← z] at hS
        simp at hS
      · exact hn z
    · exact hm z
  | _, _, _, .lst (a := a) h _ r, rv, p => by
    cases rv
    obtain ⟨its, ri, pl, _⟩ := I.list (SqL.of h)
    obtain ⟨⟨cls, dd, data, sl⟩, n, ho, hc, hdn, hd⟩ := pl
    obtain ⟨as, ra, hn⟩ := RpL.rd I hG sm r ri p
    refine ⟨a :: as, .list ho hc hd ra, fun z => ?_⟩
    rcases List.mem_cons.mp z with z | z
    · obtain ⟨o, e⟩ := sm
      rw [z, h] at e
      cases e
    · exact hn z
  | _, _, _, .ro (a := a) h r, rv, p => by
    cases rv
    have h2 := h.t
    rw [← hG] at h2
    obtain ⟨its, ri, pl, _⟩ := I.list h2
    obtain ⟨⟨cls, dd, data, sl⟩, n, ho, hc, hdn, hd⟩ := pl
    obtain ⟨as, ra, hn⟩ := RpL.rd I hG sm r ri p
    refine ⟨a :: as, .list ho hc hd ra, fun z => ?_⟩
    rcases List.mem_cons.mp z with z | z
    · obtain ⟨o, e⟩ := sm
      rcases h with ⟨k, _⟩ | k
      · rcases k with k | ⟨o', k⟩ <;> (rw [z, k] at e; cases e)
      · rcases k with (k | ⟨o', k⟩) | k
        · cases k
        · cases k
        · obtain ⟨ob, its', n', lk, _⟩ := k
          rw [← hG] at lk
          have n0 := (I.bs a ob (I.ok.mod.kin _ _ lk)).2
          rw [← z, e] at n0
          cases n0
    · exact hn z
  | _, _, _, .loc _, _, p => by cases p
  | _, _, _, .ty _, _, p => by cases p
  | _, _, _, .gl _, _, p => by cases p
  | _, _, _, .err _ _ _ _ _ _, _, p => by cases p
  | _, _, _, .err0 _ _ _, _, p => by cases p
  | _, _, _, .clo _ _ _ _ _, _, p => by cases p
theorem RpL.rd (I : Inv X pins σ H s) (hG : X.K = G.K) (sm : ∃ o, H sysModules = some (.frz o (.own 0))) : ∀ {ds : List D} {vs : List V} {us : List Value}, RpL G φ H ds vs → Vals vs us → isQL ds = true → ∃ as, ReadsAll s.heap us (dPL ds) as ∧ sysModules ∉ as
  | _, _, _, .nil, r, _ => by cases r; exact ⟨[], .nil, by simp⟩
  | _, _, _, .cons r t, rv, p => by
    cases rv with
    | cons r1 r2 =>
      obtain ⟨as, ra, hn⟩ := Rp.rd I hG sm r r1 (andB p).1
      obtain ⟨bs, rb, hm⟩ := RpL.rd I hG sm t r2 (andB p).2
      exact ⟨as ++ bs, .cons ra rb, fun z => (List.mem_append.mp z).elim hn hm⟩
theorem RpK.rd (I : Inv X pins σ H s) (hG : X.K = G.K) (sm : ∃ o, H sysModules = some (.frz o (.own 0))) : ∀ {ds : List (Key × D)} {kvs : List (Key × V)} {vs : List (Key × Value)} {es : List DictEntry}, RpK G φ H ds kvs → KV kvs vs → Pairs (mixKind X.prog X.w) es vs → isQK ds = true → ∃ as, ReadsAll s.heap (es.map (·.val)) ((dPK ds).map (·.2)) as ∧ sysModules ∉ as
  | _, _, _, _, .nil, r, hp, _ => by
    cases r
    cases hp
    exact ⟨[], .nil, by simp⟩
  | _, _, _, _, .cons (k := k) r t, rk, hp, p => by
    cases rk with
    | cons hpq rk' =>
      cases hp with
      | cons h1 h2 hp' =>
        have r1 := hpq.2
        rw [← h2] at r1
        obtain ⟨as, ra, hn⟩ := Rp.rd I hG sm r r1 (andB p).1
        obtain ⟨bs, rb, hm⟩ := RpK.rd I hG sm t rk' hp' (andB p).2
        refine ⟨as ++ bs, ?_, fun z => (List.mem_append.mp z).elim hn hm⟩
        cases k <;> exact .cons ra rb
end
end
end
/-! ### repr, str -/
/-- what may be shown -/
def shOk (d : D) : Bool := (isP d || isQ d) && (dP d).showable && decide ((dP d).depth ≤ 60) && decide (cost d ≤ 1000000)
def reprM : List D → M D
  | [d], μ => if shOk d = true then .ok (.str (dP d).shown) μ else .bad
  | _, _ => .bad
/-- of a value that is no str: the same as repr -/
def strM : List D → M D
  | [.str x], μ => .ok (.str x) μ
  | [.int i], μ => if i.natAbs.log2 < 1920 then .ok (.str (toString i)) μ else .bad
  | _, _ => .bad
section
variable {X : Cx}
theorem dp_nosys {G : Gx}  {φ : Lab} {H : Hp} {pins : List (Addr × Obj)} {σ : L2.St} {s : Shared} (I : Inv X pins σ H s) (hG : X.K = G.K) (sm : ∃ o, H sysModules = some (.frz o (.own 0))) {d : D} {v : V} {u : Value} (r : Rp G φ H d v) (rv : RelV v u) (h : (isP d || isQ d) = true) : ∃ as, Reads s.heap u (dP d) as ∧ ((dP d).hasDict = true → sysModules ∉ as) := by
  cases q : isP d with
  | true =>
    have h2 := Rp.dp r q
    rw [← hG] at h2
    obtain ⟨as, ra⟩ := Dp.reads I (dP d) v u h2 rv
    exact ⟨as, ra, fun z => by rw [isP_nd d q] at z; cases z⟩
  | false =>
    rw [q] at h
    obtain ⟨as, ra, hn⟩ := Rp.rd I hG sm r rv h
    exact ⟨as, ra, fun _ => hn⟩
def rRepr (G : Gx) : List V → Hp → VK → Prop := fun xs H Q => ∃ φ d v, xs = [v] ∧ (∃ o, H sysModules = some (.frz o (.own 0))) ∧ Rp G φ H d v ∧ shOk d = true ∧ Q (.str (dP d).shown) H
theorem call_reprD (hg : X.A.guards = some []) (hu : X.A.units + 64 < cLine) : CallR X (.builtin "repr") (rRepr (X.G Γ)) := by
  intro pins s σ H xs us Q I r h
  obtain ⟨φ, d, v, rfl, sm, rd, hs, q⟩ := h
  obtain ⟨u, rfl, rv⟩ := vals1 r
  obtain ⟨h12, hc⟩ := andB hs
  obtain ⟨h1, hd⟩ := andB h12
  obtain ⟨hp, hsh⟩ := andB h1
  have hd := of_decide_eq_true hd
  have hc := of_decide_eq_true hc
  obtain ⟨as, ra, hn⟩ := dp_nosys (G := (X.G Γ)) I rfl sm rd rv hp
  have hz : (dP d).shown.length ≤ sizeLine := by
    have := shown_cost d hsh
    rw [sizeLine_eq]
    omega
  have fin : ∀ (u' : Tok) (h' : Heap) (tk : Nat), (∀ b o, s.heap.get? b = some o → h'.get? b = some o) → EP X pins σ Q (.str (dP d).shown u') { s with heap := h', toks := tk } := fun u' h' tk k => ⟨.str _, H, I.kept k, ⟨_, rfl⟩, q⟩
  cases rd with
  | non => cases rv; exact PySem.P.repr_of_none (fin _ _ _ fun _ _ z => z)
  | bl b => cases rv; exact PySem.P.repr_of_bool (fin _ _ _ fun _ _ z => z)
  | int i => obtain ⟨t, rfl⟩ := rv; exact PySem.P.repr_of_int (by simpa [dP, PyData.showable] using hsh) (fin _ _ _ fun _ _ z => z)
  | str x => obtain ⟨t, rfl⟩ := rv; exact PySem.P.repr_of_str (fin _ _ _ fun _ _ z => z) hz
  | tup _ _ => cases rv; exact repr_of_reads' ra hsh hn hg (by omega) (fun _ _ z => z) (fun h' u' tk k => fin u' h' tk k) hz
  | lst _ _ _ => cases rv; exact repr_of_reads' ra hsh hn hg (by omega) (fun _ _ z => z) (fun h' u' tk k => fin u' h' tk k) hz
  | ro _ _ => cases rv; exact repr_of_reads' ra hsh hn hg (by omega) (fun _ _ z => z) (fun h' u' tk k => fin u' h' tk k) hz
  | dct _ _ _ => cases rv; exact repr_of_reads' ra hsh hn hg (by omega) (fun _ _ z => z) (fun h' u' tk k => fin u' h' tk k) hz
  | loc _ => cases hp
  | ty _ => cases hp
  | gl _ => cases hp
  | err _ _ _ _ _ _ => cases hp
  | err0 _ _ _ => cases hp
  | clo _ _ _ _ _ => cases hp
theorem repr_i (G : Gx) : CallI G reprM (rRepr G) := by
  intro φ μ H a x Q E R r p
  cases r with
  | nil => exact p.elim
  | @cons d v ds vs r t =>
    cases t with
    | cons _ _ => exact p.elim
    | nil =>
      unfold reprM at p
      by_cases h : shOk d = true
      · simp only [if_pos h] at p
        exact ⟨φ, d, v, rfl, R.sm, r, h, Post.pure p R (.str _)⟩
      · simp only [if_neg h] at p
        exact p.elim
def rStr : List V → Hp → VK → Prop := fun xs H Q => (∃ i, xs = [.int i] ∧ i.natAbs.log2 < 1920 ∧ Q (.str (toString i)) H) ∨ ∃ a, xs = [.str a] ∧ Q (.str a) H
theorem call_strD : CallR X (.type "str") rStr := by
  intro pins s σ H xs us Q I r h
  rcases h with h | h
  · exact call_str_int pins s σ H xs us Q I r h
  · obtain ⟨a, rfl, q⟩ := h
    obtain ⟨u, rfl, t, rfl⟩ := vals1 r
    exact PySem.P.str_of_str ⟨.str a, H, I, ⟨t, rfl⟩, q⟩
theorem str_i (G : Gx) : CallI G strM rStr := by
  intro φ μ H a x Q E R r p
  cases r with
  | nil => exact p.elim
  | @cons d v ds vs r t =>
    cases t with
    | cons _ _ => cases d <;> exact p.elim
    | nil =>
      cases r with
      | str x => exact .inr ⟨x, rfl, Post.pure p R (.str _)⟩
      | int i =>
        unfold strM at p
        by_cases h : i.natAbs.log2 < 1920
        · simp only [if_pos h] at p
          exact .inl ⟨i, rfl, h, Post.pure p R (.str _)⟩
        · simp only [if_neg h] at p
          exact p.elim
      | _ => exact p.elim
end
/-! ### numbers -/
def addM (a b : D) : M D := fun μ => match a, b with
  | .int i, .int j => .ok (.int (i + j)) μ
  | .str x, .str y => if x.length + y.length ≤ 1000000 then .ok (.str (x ++ y)) μ else .bad
  | .lst xs, .lst ys => if xs.length + ys.length ≤ 100000 then .ok (.lst (xs ++ ys)) μ else .bad
  | .tup xs, .tup ys => if xs.length + ys.length ≤ 100000 then .ok (.tup (xs ++ ys)) μ else .bad
  | _, _ => .bad
def subM (a b : D) : M D := fun μ => match a, b with
  | .int i, .int j => .ok (.int (i - j)) μ
  | _, _ => .bad
def mulOk (i j : Int) : Bool := decide (i.natAbs < 2 ^ 400000) && decide (j.natAbs < 2 ^ 400000)
def mulM (a b : D) : M D := fun μ => match a, b with
  | .int i, .int j => if mulOk i j = true then .ok (.int (i * j)) μ else .bad
  | .lst xs, .int k => if 0 ≤ k ∧ k ≤ 1000 ∧ xs.length ≤ 1000 then .ok (.lst (List.replicate k.toNat xs).flatten) μ else .bad
  | _, _ => .bad
def fdivOk (j : Int) : Bool := decide (0 < j) && decide (j.natAbs < 2 ^ 8000)
def fdivM (a b : D) : M D := fun μ => match a, b with
  | .int i, .int j => if fdivOk j = true then .ok (.int (i / j)) μ else .bad
  | _, _ => .bad
def modM (a b : D) : M D := fun μ => match a, b with
  | .int i, .int j => if 0 < j then .ok (.int (i % j)) μ else .bad
  | _, _ => .bad
def powM (a b : D) : M D := fun μ => match a, b with
  | .int i, .int j => if 0 ≤ j ∧ j ≤ 1000 ∧ i.natAbs < 2 ^ 64 then .ok (.int (i ^ j.toNat)) μ else .bad
  | _, _ => .bad
def negM (a : D) : M D := fun μ => match a with
  | .int i => .ok (.int (-i)) μ
  | _ => .bad
def cmpM (p : Int → Int → Bool) (a b : D) : M D := fun μ => match a, b with
  | .int i, .int j => .ok (.bl (p i j)) μ
  | _, _ => .bad
abbrev ltM := cmpM fun i j => decide (i < j)
abbrev leM := cmpM fun i j => decide (i ≤ j)
abbrev gtM := cmpM fun i j => decide (j < i)
abbrev geM := cmpM fun i j => decide (j ≤ i)
def isNM (a b : D) : M D := fun μ => match b with
  | .non => (match a with
    | .non => .ok (.bl true) μ
    | _ => .ok (.bl false) μ)
  | _ => .bad
def notNM (a b : D) : M D := fun μ => match b with
  | .non => (match a with
    | .non => .ok (.bl false) μ
    | _ => .ok (.bl true) μ)
  | _ => .bad
section
variable {X : Cx} {G : Gx}
/-- a list that is tracked, added -/
def rAdd (K : PySem.W.Frag) : R2 := fun x y H Q => rI0 (fun i j => .int (i + j)) x y H Q ∨ (∃ i j, x = .str i ∧ y = .str j ∧ i.length + j.length ≤ sizeLine ∧ Q (.str (i ++ j)) H) ∨ rCat x y H Q ∨ rCatA K x y H Q
theorem op_addD : OpR X (binaryOp .Add) (rAdd X.K) := op_add.or (op_add_str.or (op_cat.or op_catA))
theorem add_i : OpI G addM (rAdd G.K) := by
  intro φ μ H a b x y Q E R ra rb p
  cases ra with
  | int i =>
    cases rb with
    | int j => exact .inl ⟨i, j, rfl, rfl, Post.pure p R (.int _)⟩
    | _ => exact p.elim
  | str i =>
    cases rb with
    | str j =>
      unfold addM at p
      by_cases h : i.length + j.length ≤ 1000000
      · simp only [if_pos h] at p
        exact .inr (.inl ⟨i, j, rfl, rfl, by rw [sizeLine_eq]; omega, Post.pure p R (.str _)⟩)
      · simp only [if_neg h] at p
        exact p.elim
    | _ => exact p.elim
  | lst h1 n1 r1 =>
    cases rb with
    | lst h2 n2 r2 =>
      unfold addM at p
      rename_i a1 v1 d1 a2 v2 d2
      by_cases h : d1.length + d2.length ≤ 100000
      · simp only [if_pos h] at p
        refine .inr (.inr (.inl ⟨_, _, _, _, rfl, rfl, h1, h2, by rw [← r1.length, ← r2.length]; exact line5 h, fun c hc => ?_⟩))
        exact p φ _ _ (Grow.laid hc) (R.laid hc) (.lst upd_same (R.out hc) ((r1.append r2).grow (Grow.laid hc)))
      · simp only [if_neg h] at p
        exact p.elim
    | _ => exact p.elim
  | tup h1 r1 =>
    cases rb with
    | tup h2 r2 =>
      unfold addM at p
      rename_i a1 v1 d1 a2 v2 d2
      by_cases h : d1.length + d2.length ≤ 100000
      · simp only [if_pos h] at p
        refine .inr (.inr (.inr ⟨_, _, _, _, rfl, rfl, h1.t, h2.t, by rw [← r1.length, ← r2.length]; exact line5 h, fun e => ?_, fun _ e => ?_, fun _ _ c hc => ?_⟩))
        · subst e
          cases r1
          exact Post.pure p R (.tup h2 r2)
        · subst e
          cases r2
          rw [List.append_nil] at p
          exact Post.pure p R (.tup h1 r1)
        · exact p φ _ _ (Grow.laid hc) (R.laid hc) (.tup (.inl ⟨.inl upd_same, R.out hc⟩) ((r1.append r2).grow (Grow.laid hc)))
      · simp only [if_neg h] at p
        exact p.elim
    | _ => exact p.elim
  | _ => exact p.elim
theorem sub_i : OpI G subM (rI0 fun i j => .int (i - j)) := by
  intro φ μ H a b x y Q E R ra rb p
  cases ra with
  | int i =>
    cases rb with
    | int j => exact ⟨i, j, rfl, rfl, Post.pure p R (.int _)⟩
    | _ => exact p.elim
  | _ => exact p.elim
def rMul : R2 := fun x y H Q => rI CMulW (fun i j => .int (i * j)) x y H Q ∨ rRep x y H Q
theorem op_mulD : OpR X (binaryOp .Mult) rMul := op_mulW.or op_rep
theorem RpL.rep {φ : Lab} {H : Hp} {ds : List D} {vs : List V} (r : RpL G φ H ds vs) : ∀ k : Nat, RpL G φ H (List.replicate k ds).flatten (List.replicate k vs).flatten
  | 0 => .nil
  | k + 1 => by
    rw [List.replicate_succ, List.replicate_succ, List.flatten_cons, List.flatten_cons]
    exact r.append (RpL.rep r k)
theorem mul_i : OpI G mulM rMul := by
  intro φ μ H a b x y Q E R ra rb p
  cases ra with
  | int i =>
    cases rb with
    | int j =>
      unfold mulM at p
      by_cases h : mulOk i j = true
      · simp only [if_pos h] at p
        obtain ⟨h1, h2⟩ := andB h
        exact .inl ⟨i, j, rfl, rfl, wide_mul (of_decide_eq_true h1) (of_decide_eq_true h2) (by omega) (by omega) (by omega), Post.pure p R (.int _)⟩
      · simp only [if_neg h] at p
        exact p.elim
    | _ => exact p.elim
  | lst h1 n1 r1 =>
    cases rb with
    | int k =>
      unfold mulM at p
      rename_i a1 v1 d1
      by_cases h : 0 ≤ k ∧ k ≤ 1000 ∧ d1.length ≤ 1000
      · simp only [if_pos h] at p
        obtain ⟨k0, k1, k2⟩ := h
        have hz : v1.length * k.toNat ≤ sizeLine := by
          rw [← r1.length, sizeLine_eq]
          have : d1.length * k.toNat ≤ 1000 * 1000 := Nat.mul_le_mul k2 (by omega)
          omega
        refine .inr ⟨_, k, _, rfl, rfl, h1, by omega, by omega, hz, fun c hc => ?_⟩
        exact p φ _ _ (Grow.laid hc) (R.laid hc) (.lst upd_same (R.out hc) ((r1.rep _).grow (Grow.laid hc)))
      · simp only [if_neg h] at p
        exact p.elim
    | _ => exact p.elim
  | _ => exact p.elim
theorem fdiv_i : OpI G fdivM (rI CDivW fun i j => .int (i / j)) := by
  intro φ μ H a b x y Q E R ra rb p
  cases ra with
  | int i =>
    cases rb with
    | int j =>
      unfold fdivM at p
      by_cases h : fdivOk j = true
      · simp only [if_pos h] at p
        obtain ⟨h1, h2⟩ := andB h
        exact ⟨i, j, rfl, rfl, wide_div (of_decide_eq_true h1) (of_decide_eq_true h2) (by omega) (by omega), Post.pure p R (.int _)⟩
      · simp only [if_neg h] at p
        exact p.elim
    | _ => exact p.elim
  | _ => exact p.elim
theorem mod_i : OpI G modM (rI (fun _ j => 0 < j) fun i j => .int (i % j)) := by
  intro φ μ H a b x y Q E R ra rb p
  cases ra with
  | int i =>
    cases rb with
    | int j =>
      unfold modM at p
      by_cases h : 0 < j
      · simp only [if_pos h] at p
        exact ⟨i, j, rfl, rfl, h, Post.pure p R (.int _)⟩
      · simp only [if_neg h] at p
        exact p.elim
    | _ => exact p.elim
  | _ => exact p.elim
theorem pow_i : OpI G powM (rI CPow fun i j => .int (i ^ j.toNat)) := by
  intro φ μ H a b x y Q E R ra rb p
  cases ra with
  | int i =>
    cases rb with
    | int j =>
      unfold powM at p
      by_cases h : 0 ≤ j ∧ j ≤ 1000 ∧ i.natAbs < 2 ^ 64
      · simp only [if_pos h] at p
        exact ⟨i, j, rfl, rfl, ⟨h.1, by omega, h.2.2⟩, Post.pure p R (.int _)⟩
      · simp only [if_neg h] at p
        exact p.elim
    | _ => exact p.elim
  | _ => exact p.elim
theorem neg_i : UnI G negM (rU fun i => .int (-i)) := by
  intro φ μ H a x Q E R ra p
  cases ra with
  | int i => exact ⟨i, rfl, Post.pure p R (.int _)⟩
  | _ => exact p.elim
theorem cmp_i {f : Int → Int → Bool} : OpI G (cmpM f) (rI0 fun i j => .bl (f i j)) := by
  intro φ μ H a b x y Q E R ra rb p
  cases ra with
  | int i =>
    cases rb with
    | int j => exact ⟨i, j, rfl, rfl, Post.pure p R (.bl _)⟩
    | _ => exact p.elim
  | _ => exact p.elim
theorem isN_i : OpI G isNM (fun x y H Q => y = .non ∧ Q (.bl (decide (x = .non))) H) := by
  intro φ μ H a b x y Q E R ra rb p
  cases rb with
  | non =>
    refine ⟨rfl, ?_⟩
    cases ra <;> exact Post.pure p R (.bl _)
  | _ => exact p.elim
theorem notN_i : OpI G notNM (fun x y H Q => y = .non ∧ Q (.bl (!decide (x = .non))) H) := by
  intro φ μ H a b x y Q E R ra rb p
  cases rb with
  | non =>
    refine ⟨rfl, ?_⟩
    cases ra <;> exact Post.pure p R (.bl _)
  | _ => exact p.elim
end
mutual
theorem isP_plain : ∀ d : D, isP d = true → (dP d).plain = true
  | .non, _ => rfl
  | .bl _, _ => rfl
  | .int _, _ => rfl
  | .str _, _ => rfl
  | .tup xs, h => isPL_plain xs h
  | .lst xs, h => isPL_plain xs h
  | .ro xs, h => isPL_plain xs h
  | .dct _, h => by cases h
  | .loc _, h => by cases h
  | .ty _, h => by cases h
  | .gl _, h => by cases h
  | .err _ _, h => by cases h
  | .clo _, h => by cases h
theorem isPL_plain : ∀ ds : List D, isPL ds = true → PyData.plainAll (dPL ds) = true
  | [], _ => rfl
  | d :: ds, h => Bool.and_eq_true_iff.mpr ⟨isP_plain d (andB h).1, isPL_plain ds (andB h).2⟩
end
/-! ### == -/
/-- the object at a label as a tree -/
def lookD (μ : Mem) (d : D) : D := match d with
  | .loc l => (match μ[l]? with
    | some (.lst xs) => .ro xs
    | none => .loc l)
  | d => d
def eqOk (d : D) : Bool := isP d && decide ((dP d).depth ≤ 60)
def scD : D → D → Option Bool
  | .int i, .int j => some (decide (i = j))
  | .str x, .str y => some (decide (x = y))
  | .bl a, .bl b => some (decide (a = b))
  | .non, .non => some true
  | _, _ => none
def eqB (μ : Mem) (a b : D) : Option Bool := match scD a b with
  | some c => some c
  | none => if eqOk (lookD μ a) = true ∧ eqOk (lookD μ b) = true then some (PyData.eqv (dP (lookD μ a)) (dP (lookD μ b))) else none
def eqM (a b : D) : M D := fun μ => match eqB μ a b with
  | some c => .ok (.bl c) μ
  | none => .bad
def neM (a b : D) : M D := fun μ => match eqB μ a b with
  | some c => .ok (.bl (!c)) μ
  | none => .bad
section
variable {X : Cx} {G : Gx}
theorem Rp.lookD {φ : Lab} {μ : Mem} {H : Hp} {d : D} {v : V} (R : MemR G φ μ H) (r : Rp G φ H d v) (h : isP (lookD μ d) = true) : Dp G.K H v (dP (lookD μ d)) := by
  cases r with
  | @loc a l e =>
    unfold SE.lookD at h ⊢
    cases q : μ[l]? with
    | none =>
      simp only [q] at h
      cases h
    | some o =>
      obtain ⟨b, h1, h2⟩ := R.at_ l o q
      rw [e] at h1
      cases h1
      cases o with
      | lst xs =>
        simp only [q] at h ⊢
        obtain ⟨vs, h3, h4⟩ := h2
        exact .lst (SqL.of h3) (h4.dp h)
  | non => exact Rp.dp (φ := φ) (G := G) .non h
  | bl b => exact Rp.dp (φ := φ) (G := G) (.bl b) h
  | int i => exact Rp.dp (φ := φ) (G := G) (.int i) h
  | str x => exact Rp.dp (φ := φ) (G := G) (.str x) h
  | tup h1 r1 => exact Rp.dp (.tup h1 r1) h
  | lst h1 n1 r1 => exact Rp.dp (.lst h1 n1 r1) h
  | ro h1 r1 => exact Rp.dp (.ro h1 r1) h
  | dct h1 n1 r1 => exact Rp.dp (.dct h1 n1 r1) h
  | ty n => exact Rp.dp (φ := φ) (G := G) (.ty n) h
  | gl e => exact Rp.dp (φ := φ) (G := G) (.gl e) h
  | err _ _ _ _ _ _ => cases h
  | err0 _ _ _ => cases h
  | clo _ _ _ _ _ => cases h
def rEqP (K : PySem.W.Frag) (n : Bool) : R2 := fun x y H Q => ∃ d e, Dp K H x d ∧ Dp K H y e ∧ d.plain = true ∧ e.plain = true ∧ d.depth ≤ 60 ∧ Q (.bl (n ^^ PyData.eqv d e)) H
theorem op_eqP (hu : X.A.units + 64 < cLine) : OpR X (compareOp .Eq) (rEqP X.K false) := by
  intro pins s σ H x y v u Q I rx ry h
  obtain ⟨d, e, hd, he, p1, p2, dp, q⟩ := h
  obtain ⟨as, r1⟩ := Dp.reads I d x v hd rx
  obtain ⟨bs, r2⟩ := Dp.reads I e y u he ry
  refine SeqAt.eq_plain r1 r2 p1 p2 (by have := Nat.min_le_left d.depth e.depth; omega) ⟨.bl _, H, I, rfl, ?_⟩
  rw [Bool.false_xor] at q
  exact q
theorem op_neP (hu : X.A.units + 64 < cLine) : OpR X (compareOp .NotEq) (rEqP X.K true) := by
  intro pins s σ H x y v u Q I rx ry h
  obtain ⟨d, e, hd, he, p1, p2, dp, q⟩ := h
  obtain ⟨as, r1⟩ := Dp.reads I d x v hd rx
  obtain ⟨bs, r2⟩ := Dp.reads I e y u he ry
  refine SeqAt.ne_plain r1 r2 p1 p2 (by have := Nat.min_le_left d.depth e.depth; omega) ⟨.bl _, H, I, rfl, ?_⟩
  rw [Bool.true_xor] at q
  exact q
theorem op_eqA (hu : X.A.units + 64 < cLine) : OpR X (compareOp .Eq) (fun x y H Q => rEq x y H Q ∨ rEqP X.K false x y H Q) := op_eq.or (op_eqP hu)
theorem op_neA (hu : X.A.units + 64 < cLine) : OpR X (compareOp .NotEq) (fun x y H Q => rNe x y H Q ∨ rEqP X.K true x y H Q) := op_ne.or (op_neP hu)
theorem scD_v {φ : Lab} {H : Hp} {a b : D} {x y : V} {c : Bool} (ra : Rp G φ H a x) (rb : Rp G φ H b y) (h : scD a b = some c) : scal x y = true ∧ decide (x = y) = c := by
  cases ra with
  | int i =>
    cases rb with
    | int j => cases h; exact ⟨rfl, by simp⟩
    | _ => cases h
  | str i =>
    cases rb with
    | str j => cases h; exact ⟨rfl, by simp⟩
    | _ => cases h
  | bl i =>
    cases rb with
    | bl j => cases h; exact ⟨rfl, by simp⟩
    | _ => cases h
  | non =>
    cases rb with
    | non => cases h; exact ⟨rfl, by simp⟩
    | _ => cases h
  | _ => cases h
theorem eq_i : OpI G eqM (fun x y H Q => rEq x y H Q ∨ rEqP G.K false x y H Q) := by
  intro φ μ H a b x y Q E R ra rb p
  unfold eqM eqB at p
  cases q : scD a b with
  | some c =>
    simp only [q] at p
    obtain ⟨h1, h2⟩ := scD_v ra rb q
    exact .inl ⟨h1, by rw [h2]; exact Post.pure p R (.bl _)⟩
  | none =>
    simp only [q] at p
    by_cases h : eqOk (lookD μ a) = true ∧ eqOk (lookD μ b) = true
    · simp only [if_pos h] at p
      obtain ⟨⟨p1, s1⟩, p2, s2⟩ := (⟨andB h.1, andB h.2⟩ : (_ ∧ _) ∧ (_ ∧ _))
      exact .inr ⟨_, _, ra.lookD R p1, rb.lookD R p2, isP_plain _ p1, isP_plain _ p2, of_decide_eq_true s1, by rw [Bool.false_xor]; exact Post.pure p R (.bl _)⟩
    · simp only [if_neg h] at p
      exact p.elim
theorem ne_i : OpI G neM (fun x y H Q => rNe x y H Q ∨ rEqP G.K true x y H Q) := by
  intro φ μ H a b x y Q E R ra rb p
  unfold neM eqB at p
  cases q : scD a b with
  | some c =>
    simp only [q] at p
    obtain ⟨h1, h2⟩ := scD_v ra rb q
    exact .inl ⟨h1, by rw [h2]; exact Post.pure p R (.bl _)⟩
  | none =>
    simp only [q] at p
    by_cases h : eqOk (lookD μ a) = true ∧ eqOk (lookD μ b) = true
    · simp only [if_pos h] at p
      obtain ⟨⟨p1, s1⟩, p2, s2⟩ := (⟨andB h.1, andB h.2⟩ : (_ ∧ _) ∧ (_ ∧ _))
      exact .inr ⟨_, _, ra.lookD R p1, rb.lookD R p2, isP_plain _ p1, isP_plain _ p2, of_decide_eq_true s1, by rw [Bool.true_xor]; exact Post.pure p R (.bl _)⟩
    · simp only [if_neg h] at p
      exact p.elim
end
end SE

/-! SE4: more built-ins, subscripts; statements and loops as computations. -/
namespace SE
open PySem PySem.Spec PyProof.Rows L2
/-! ### len, abs, int, min, max -/
def lenM : List D → M D
  | [.str x], μ => if x.length ≤ 10000000 then .ok (.int x.length) μ else .bad
  | [.tup xs], μ => .ok (.int xs.length) μ
  | [.lst xs], μ => .ok (.int xs.length) μ
  | [.ro xs], μ => .ok (.int xs.length) μ
  | [.loc l], μ => (match μ[l]? with
    | some (.lst xs) => .ok (.int xs.length) μ
    | none => .bad)
  | _, _ => .bad
def absM : List D → M D
  | [.int i], μ => .ok (.int (if i < 0 then -i else i)) μ
  | _, _ => .bad
def intM : List D → M D
  | [.int i], μ => .ok (.int i) μ
  | [.bl k], μ => .ok (.int (if k then 1 else 0)) μ
  | _, _ => .bad
def max2M : List D → M D
  | [.int i, .int j], μ => .ok (.int (if j > i then j else i)) μ
  | _, _ => .bad
def min2M : List D → M D
  | [.int i, .int j], μ => .ok (.int (if j < i then j else i)) μ
  | _, _ => .bad
section
variable {X : Cx} {G : Gx}
theorem RpL.one {φ : Lab} {H : Hp} {d : D} {vs : List V} (r : RpL G φ H [d] vs) : ∃ v, vs = [v] ∧ Rp G φ H d v := by
  cases r with
  | cons r t => cases t; exact ⟨_, rfl, r⟩
theorem RpL.two {φ : Lab} {H : Hp} {d e : D} {vs : List V} (r : RpL G φ H [d, e] vs) : ∃ v w, vs = [v, w] ∧ Rp G φ H d v ∧ Rp G φ H e w := by
  cases r with
  | cons r t =>
    cases t with
    | cons r2 t2 => cases t2; exact ⟨_, _, rfl, r, r2⟩
theorem len_i : CallI G lenM (fun xs H Q => ∃ x n, xs = [x] ∧ LenV G.K x H n ∧ Q (.int n) H) := by
  intro φ μ H a x Q E R r p
  unfold lenM at p
  split at p
  · obtain ⟨v, rfl, r1⟩ := r.one
    rename_i x1
    cases r1
    by_cases h : x1.length ≤ 10000000
    · simp only [if_pos h] at p
      exact ⟨_, _, rfl, ⟨by rw [sizeLine_eq]; omega, rfl⟩, Post.pure p R (.int _)⟩
    · simp only [if_neg h] at p
      exact p.elim
  · obtain ⟨v, rfl, r1⟩ := r.one
    cases r1 with
    | tup h r1 => exact ⟨_, _, rfl, .inr ⟨_, h.t, rfl⟩, by rw [← r1.length]; exact Post.pure p R (.int _)⟩
  · obtain ⟨v, rfl, r1⟩ := r.one
    cases r1 with
    | lst h _ r1 => exact ⟨_, _, rfl, .inl ⟨_, SqL.of h, rfl⟩, by rw [← r1.length]; exact Post.pure p R (.int _)⟩
  · obtain ⟨v, rfl, r1⟩ := r.one
    cases r1 with
    | ro h r1 => exact ⟨_, _, rfl, .inl ⟨_, h.t, rfl⟩, by rw [← r1.length]; exact Post.pure p R (.int _)⟩
  · obtain ⟨v, rfl, r1⟩ := r.one
    rename_i l
    cases r1 with
    | loc h =>
      cases q : μ[l]? with
      | none =>
        simp only [q] at p
        exact p.elim
      | some o =>
        obtain ⟨b, h1, h2⟩ := R.at_ l o q
        rw [h] at h1
        cases h1
        cases o with
        | lst xs =>
          simp only [q] at p
          obtain ⟨vs, h3, h4⟩ := h2
          exact ⟨_, _, rfl, .inl ⟨_, SqL.of h3, rfl⟩, by rw [← h4.length]; exact Post.pure p R (.int _)⟩
  · exact p.elim
theorem abs_i : CallI G absM (fun xs H Q => ∃ i, xs = [.int i] ∧ Q (.int (if i < 0 then -i else i)) H) := by
  intro φ μ H a x Q E R r p
  unfold absM at p
  split at p
  · obtain ⟨v, rfl, r1⟩ := r.one
    cases r1
    exact ⟨_, rfl, Post.pure p R (.int _)⟩
  · exact p.elim
theorem int_i : CallI G intM (fun xs H Q => (∃ i, xs = [.int i] ∧ Q (.int i) H) ∨ ∃ k, xs = [.bl k] ∧ Q (.int (if k then 1 else 0)) H) := by
  intro φ μ H a x Q E R r p
  unfold intM at p
  split at p
  · obtain ⟨v, rfl, r1⟩ := r.one
    cases r1
    exact .inl ⟨_, rfl, Post.pure p R (.int _)⟩
  · obtain ⟨v, rfl, r1⟩ := r.one
    cases r1
    exact .inr ⟨_, rfl, Post.pure p R (.int _)⟩
  · exact p.elim
theorem max2_i : CallI G max2M (fun xs H Q => ∃ i j, xs = [.int i, .int j] ∧ Q (.int (if j > i then j else i)) H) := by
  intro φ μ H a x Q E R r p
  unfold max2M at p
  split at p
  · obtain ⟨v, w, rfl, r1, r2⟩ := r.two
    cases r1
    cases r2
    exact ⟨_, _, rfl, Post.pure p R (.int _)⟩
  · exact p.elim
theorem min2_i : CallI G min2M (fun xs H Q => ∃ i j, xs = [.int i, .int j] ∧ Q (.int (if j < i then j else i)) H) := by
  intro φ μ H a x Q E R r p
  unfold min2M at p
  split at p
  · obtain ⟨v, w, rfl, r1, r2⟩ := r.two
    cases r1
    cases r2
    exact ⟨_, _, rfl, Post.pure p R (.int _)⟩
  · exact p.elim
/-! ### isinstance with a built-in type -/
/-- the type of a value, by name -/
def tyD (μ : Mem) : D → Option String
  | .non => some "NoneType"
  | .bl _ => some "bool"
  | .int _ => some "int"
  | .str _ => some "str"
  | .tup _ => some "tuple"
  | .lst _ => some "list"
  | .ro _ => some "list"
  | .dct _ => some "dict"
  | .loc l => (match μ[l]? with
    | some (.lst _) => some "list"
    | none => none)
  | _ => none
def isiM : List D → M D
  | [d, .ty T], μ => (match tyD μ d with
    | some t => (match kitB t T with
      | some b => .ok (.bl b) μ
      | none => .bad)
    | none => .bad)
  | _, _ => .bad
/-- a value's type stands: by name -/
def TyIs (G : Gx) (H : Hp) (x : V) (t : String) : Prop := TyOf G.K H x (.type t) ∨ ∃ a xs, x = .ref a ∧ ((SqT G.K H a xs ∧ t = "tuple") ∨ (SqL G.K H a xs ∧ t = "list"))
def rIsi (G : Gx) : List V → Hp → VK → Prop := fun xs H Q => ∃ x t T b, xs = [x, .ty T] ∧ TyIs G H x t ∧ kitB t T = some b ∧ Q (.bl b) H
theorem call_isiD : CallR X (.builtin "isinstance") (rIsi (X.G Γ)) := by
  intro pins s σ H xs us Q I r h
  obtain ⟨x, t, T, b, rfl, ty, hk, q⟩ := h
  obtain ⟨u, w', rfl, r1, r2⟩ := vals2 r
  cases (show w' = Value.type T from r2)
  have fin : ∀ tk, EP X pins σ Q (.bool b) { s with toks := tk } := fun tk => ⟨.bl b, H, I.tok tk, rfl, q⟩
  rcases ty with ty | ⟨a, ys, rfl, ⟨hs, rfl⟩ | ⟨hs, rfl⟩⟩
  · exact isinst_ok I r1 ty (kit_ty hk) fin
  · cases (show u = Value.ref a from r1)
    obtain ⟨its, _, ⟨o, h1, h2, _⟩, _⟩ := I.tuple hs
    exact PySem.W.kia_one PySem.W.kitx_tuple I.kIn ⟨o, h1, h2⟩ (kit_ty hk) (fun z => nomatch z) fin
  · cases (show u = Value.ref a from r1)
    obtain ⟨its, _, ⟨o, n, h1, h2, _⟩, _⟩ := I.list hs
    exact PySem.W.kia_one PySem.W.kitx_list I.kIn ⟨o, h1, h2⟩ (kit_ty hk) (fun z => nomatch z) fin
theorem tyD_v {φ : Lab} {μ : Mem} {H : Hp} {d : D} {v : V} {t : String} (R : MemR G φ μ H) (r : Rp G φ H d v) (h : tyD μ d = some t) : TyIs G H v t := by
  cases r with
  | non => cases h; exact .inl .non
  | bl b => cases h; exact .inl (.bl b)
  | int i => cases h; exact .inl (.int i)
  | str x => cases h; exact .inl (.str x)
  | tup h1 r1 => cases h; exact .inr ⟨_, _, rfl, .inl ⟨h1.t, rfl⟩⟩
  | lst h1 _ r1 => cases h; exact .inr ⟨_, _, rfl, .inr ⟨SqL.of h1, rfl⟩⟩
  | ro h1 r1 => cases h; exact .inr ⟨_, _, rfl, .inr ⟨h1.t, rfl⟩⟩
  | dct h1 _ r1 => cases h; exact .inl (.dK h1)
  | @loc a l e =>
    unfold tyD at h
    cases q : μ[l]? with
    | none =>
      simp only [q] at h
      cases h
    | some o =>
      obtain ⟨b, h1, h2⟩ := R.at_ l o q
      rw [e] at h1
      cases h1
      cases o with
      | lst xs =>
        simp only [q] at h
        cases h
        obtain ⟨vs, h3, h4⟩ := h2
        exact .inr ⟨_, _, rfl, .inr ⟨SqL.of h3, rfl⟩⟩
  | ty n => cases h
  | gl e => cases h
  | err _ _ _ _ _ _ => cases h
  | err0 _ _ _ => cases h
  | clo _ _ _ _ _ => cases h
theorem isi_i : CallI G isiM (rIsi G) := by
  intro φ μ H a x Q E R r p
  unfold isiM at p
  split at p
  · rename_i d T
    obtain ⟨v, w, rfl, r1, r2⟩ := r.two
    cases r2
    cases q : tyD μ d with
    | none =>
      simp only [q] at p
      exact p.elim
    | some t =>
      simp only [q] at p
      cases k : kitB t T with
      | none =>
        simp only [k] at p
        exact p.elim
      | some b =>
        simp only [k] at p
        exact ⟨v, t, T, b, rfl, tyD_v R r1 q, k, Post.pure p R (.bl _)⟩
  · exact p.elim
/-! ### subscripts -/
def ixM (a b : D) : M D := fun μ => match a, b with
  | .tup xs, .int i => (match atI xs i with | some d => .ok d μ | none => .bad)
  | .lst xs, .int i => (match atI xs i with | some d => .ok d μ | none => .bad)
  | .ro xs, .int i => (match atI xs i with | some d => .ok d μ | none => .bad)
  | .str x, .int i => if x.length ≤ 1000000 then (match atI x.cps.toList i with | some c => .ok (.str ⟨#[c]⟩) μ | none => .bad) else .bad
  | .loc l, .int i => (match μ[l]? with
    | some (.lst xs) => (match atI xs i with | some d => .ok d μ | none => .bad)
    | none => .bad)
  | _, _ => .bad
theorem RpL.atI {φ : Lab} {H : Hp} {ds : List D} {vs : List V} {i : Int} {d : D} (r : RpL G φ H ds vs) (h : L2.atI ds i = some d) : ∃ v, L2.atI vs i = some v ∧ Rp G φ H d v := by
  unfold L2.atI at h ⊢
  rw [← r.length]
  cases q : ixN ds.length i with
  | none => rw [q] at h; cases h
  | some j =>
    rw [q] at h
    exact r.get h
theorem ix_i : OpI G ixM (rIx G.K) := by
  intro φ μ H a b x y Q E R ra rb p
  unfold ixM at p
  split at p
  · rename_i xs i
    cases rb
    cases ra with
    | tup h1 r1 =>
      cases q : atI xs i with
      | none => simp only [q] at p; exact p.elim
      | some d =>
        simp only [q] at p
        obtain ⟨v, e, rv⟩ := r1.atI q
        exact .inr (.inl ⟨_, _, _, v, rfl, rfl, h1.t, e, Post.pure p R rv⟩)
  · rename_i xs i
    cases rb
    cases ra with
    | lst h1 n1 r1 =>
      cases q : atI xs i with
      | none => simp only [q] at p; exact p.elim
      | some d =>
        simp only [q] at p
        obtain ⟨v, e, rv⟩ := r1.atI q
        exact .inl ⟨_, _, _, v, rfl, rfl, SqL.of h1, e, Post.pure p R rv⟩
  · rename_i xs i
    cases rb
    cases ra with
    | ro h1 r1 =>
      cases q : atI xs i with
      | none => simp only [q] at p; exact p.elim
      | some d =>
        simp only [q] at p
        obtain ⟨v, e, rv⟩ := r1.atI q
        exact .inl ⟨_, _, _, v, rfl, rfl, h1.t, e, Post.pure p R rv⟩
  · rename_i z i
    cases rb
    cases ra
    by_cases h : z.length ≤ 1000000
    · simp only [if_pos h] at p
      cases q : atI z.cps.toList i with
      | none => simp only [q] at p; exact p.elim
      | some c =>
        simp only [q] at p
        exact .inr (.inr ⟨_, _, c, rfl, rfl, by rw [sizeLine_eq]; omega, q, Post.pure p R (.str _)⟩)
    · simp only [if_neg h] at p
      exact p.elim
  · rename_i l i
    cases rb
    cases ra with
    | loc h =>
      cases q : μ[l]? with
      | none => simp only [q] at p; exact p.elim
      | some o =>
        obtain ⟨b, h1, h2⟩ := R.at_ l o q
        rw [h] at h1
        cases h1
        cases o with
        | lst xs =>
          simp only [q] at p
          obtain ⟨vs, h3, h4⟩ := h2
          cases q2 : atI xs i with
          | none => simp only [q2] at p; exact p.elim
          | some d =>
            simp only [q2] at p
            obtain ⟨v, e, rv⟩ := h4.atI q2
            exact .inl ⟨_, _, _, v, rfl, rfl, SqL.of h3, e, Post.pure p R rv.on⟩
  · exact p.elim
end
/-! ### statements -/
abbrev JS (X : Cx) (Γ : Gs) (W : WX) (s : Stmt) (m : MS) : Prop := PS X s (tS (X.G Γ) W m)
abbrev JSs (X : Cx) (Γ : Gs) (W : WX) (s : List Stmt) (m : MS) : Prop := PSs X s (tS (X.G Γ) W m)
def bindS {α : Type} (r : Res α) (ρ : Ev) (k : α → Mem → RS) : RS := match r with
  | .ok a μ => k a μ
  | .exc e μ => .exc e ρ μ
  | .bad => .bad
def sNext : MS := fun ρ μ => .ok (.nx ρ) μ
def sSeq (a b : MS) : MS := fun ρ μ => match a ρ μ with
  | .ok (.nx ρ') μ' => b ρ' μ'
  | r => r
def sSet (i : Nat) (m : Ev → M D) : MS := fun ρ μ => bindS (m ρ μ) ρ fun d μ' => .ok (.nx (ρ.set i (some d))) μ'
def sDrop (m : Ev → M D) : MS := fun ρ μ => bindS (m ρ μ) ρ fun _ μ' => .ok (.nx ρ) μ'
def sRet (m : Ev → M D) : MS := fun ρ μ => bindS (m ρ μ) ρ fun d μ' => .ok (.rt d) μ'
def sRetN : MS := fun _ μ => .ok (.rt .non) μ
def sIf (t : Ev → M Bool) (a b : MS) : MS := fun ρ μ => bindS (t ρ μ) ρ fun c μ' => if c = true then a ρ μ' else b ρ μ'
def sBrk : MS := fun ρ μ => .ok (.bk ρ) μ
def sCnt : MS := fun ρ μ => .ok (.ct ρ) μ
def sBad : MS := fun _ _ => .bad
section
variable {X : Cx} {W : WX} {e : Expr} {m : Ev → M D} {st : Stmt} {sts : List Stmt} {a b : MS} {pos : Pos} {G : Gx} {φ : Lab} {μ : Mem} {H : Hp}
theorem bS {α ν : Type} {T : Tie α ν} {m : Ev → M α} {k : α → Mem → RS} {ρ : Ev} {σ : L2.St} {Z : Ends} {R : ν → Hp → Prop}
    (e : EvR G φ H ρ σ) (r : MemR G φ μ H) (p : PostS G φ H (bindS (m ρ μ) ρ k) Z W)
    (hk : ∀ φ1 H1 x v μ1, Grow φ H φ1 H1 → EvR G φ1 H1 ρ σ → MemR G φ1 μ1 H1 → T φ1 H1 x v → PostS G φ1 H1 (k x μ1) Z W → R v H1) : tG G T W m σ H R := by
  refine ⟨φ, ρ, μ, e, r, ?_⟩
  unfold bindS at p
  cases q : m ρ μ with
  | ok d μ1 =>
    rw [q] at p
    intro φ1 H1 v g r1 rv
    exact hk φ1 H1 d v μ1 g (e.grow g) r1 rv (PostS.grow g p)
  | exc x μ1 =>
    rw [q] at p
    intro φ1 H1 cls dd g r1 ex
    exact p φ1 H1 σ cls dd g r1 (e.grow g) ex
  | bad =>
    rw [q] at p
    exact p
theorem js_nil : JSs X Γ W [] sNext := by
  refine pss_w pss_nil fun Z σ H h => ?_
  obtain ⟨φ, ρ, μ, e, r, p⟩ := h
  exact p φ H σ (Grow.refl _ _) r e
theorem js_cons (h1 : JS X Γ W st a) (h2 : JSs X Γ W sts b) : JSs X Γ W (st :: sts) (sSeq a b) := by
  refine pss_w (pss_cons h1 h2) fun Z σ H h => ?_
  obtain ⟨φ, ρ, μ, e, r, p⟩ := h
  refine ⟨φ, ρ, μ, e, r, ?_⟩
  unfold sSeq at p
  cases q : a ρ μ with
  | ok f μ1 =>
    rw [q] at p
    cases f with
    | nx ρ' => exact fun φ1 H1 σ1 g r1 e1 => ⟨φ1, ρ', μ1, e1, r1, PostS.grow g p⟩
    | rt d => exact p
    | bk ρ' => exact p
    | ct ρ' => exact p
  | exc x ρ' μ1 =>
    rw [q] at p
    exact p
  | bad =>
    rw [q] at p
    exact p
theorem js_one (h1 : JS X Γ W st a) : JSs X Γ W [st] a := by
  refine pss_w (pss_one h1) fun Z σ H h => h
theorem s_set {i : Nat} {x : Str} {pos' : Pos} (hN : X.N.Nodup) (he : JE X Γ W e m) (hi : X.N[i]? = some x := by rfl) (hx : Loc X.env.scope x := by first | exact .inl rfl | exact .inr rfl) (hs : swapsWith e (some (.Name x pos')) pos.line X.env = pure false := by rfl) (hf : X.fn x = true ∨ X.env.scope.names.lookup x = some .local := by first | exact .inl rfl | exact .inr rfl | assumption) :
    JS X Γ W (.Assign [.Name x pos'] e pos) (sSet i m) := by
  refine ps_w (ps_set hN hi hx he hs hf) fun Z σ H h => ?_
  obtain ⟨φ, ρ, μ, ev, r, p⟩ := h
  refine bS ev r p fun φ1 H1 d v μ1 g e1 r1 rv p1 => ?_
  exact p1 φ1 H1 _ (Grow.refl _ _) r1 (e1.set i rv)
theorem s_drop (he : JE X Γ W e m) (hs : swapsWith e none pos.line X.env = pure false := by rfl) : JS X Γ W (.Expr e pos) (sDrop m) := by
  refine ps_w (ps_expr he hs) fun Z σ H h => ?_
  obtain ⟨φ, ρ, μ, ev, r, p⟩ := h
  refine bS ev r p fun φ1 H1 d v μ1 g e1 r1 rv p1 => ?_
  exact p1 φ1 H1 _ (Grow.refl _ _) r1 e1
theorem s_ret (he : JE X Γ W e m) : JS X Γ W (.Return (some e) pos) (sRet m) := by
  refine ps_w (ps_ret he) fun Z σ H h => ?_
  obtain ⟨φ, ρ, μ, ev, r, p⟩ := h
  refine bS ev r p fun φ1 H1 d v μ1 g e1 r1 rv p1 => ?_
  exact p1 φ1 H1 _ (Grow.refl _ _) r1 rv
theorem s_retN : JS X Γ W (.Return none pos) sRetN := by
  refine ps_w ps_retN fun Z σ H h => ?_
  obtain ⟨φ, ρ, μ, ev, r, p⟩ := h
  exact p φ H _ (Grow.refl _ _) r .non
theorem s_pass : JS X Γ W (.Pass pos) sNext := by
  refine ps_w ps_pass fun Z σ H h => ?_
  obtain ⟨φ, ρ, μ, ev, r, p⟩ := h
  exact p φ H _ (Grow.refl _ _) r ev
theorem s_brk : JS X Γ W (.Break pos) sBrk := by
  refine ps_w ps_break fun Z σ H h => ?_
  obtain ⟨φ, ρ, μ, ev, r, p⟩ := h
  exact p φ H _ (Grow.refl _ _) r ev
theorem s_cnt : JS X Γ W (.Continue pos) sCnt := by
  refine ps_w ps_continue fun Z σ H h => ?_
  obtain ⟨φ, ρ, μ, ev, r, p⟩ := h
  exact p φ H _ (Grow.refl _ _) r ev
theorem s_if {t : Expr} {mt : Ev → M Bool} {xs ys : List Stmt} (ht : JT X Γ W t mt) (ha : JSs X Γ W xs a) (hb : JSs X Γ W ys b) : JS X Γ W (.If t xs ys pos) (sIf mt a b) := by
  refine ps_w (ps_if ht ha hb) fun Z σ H h => ?_
  obtain ⟨φ, ρ, μ, ev, r, p⟩ := h
  refine bS ev r p fun φ1 H1 d v μ1 g e1 r1 rv p1 => ?_
  cases (show v = d from rv)
  cases d with
  | true => exact ⟨φ1, ρ, μ1, e1, r1, p1⟩
  | false => exact ⟨φ1, ρ, μ1, e1, r1, p1⟩
/-! ### targets -/
abbrev GT := D → Ev → Option Ev
abbrev GTs := List D → Ev → Option Ev
def tgG (G : Gx) (f : GT) : TG := fun v σ H Q => ∃ φ d ρ μ, EvR G φ H ρ σ ∧ MemR G φ μ H ∧ Rp G φ H d v ∧ (match f d ρ with
  | some ρ' => ∀ σ', EvR G φ H ρ' σ' → Q σ' H
  | none => False)
def tgGs (G : Gx) (f : GTs) : TGs := fun vs σ H Q => ∃ φ ds ρ μ, EvR G φ H ρ σ ∧ MemR G φ μ H ∧ RpL G φ H ds vs ∧ (match f ds ρ with
  | some ρ' => ∀ σ', EvR G φ H ρ' σ' → Q σ' H
  | none => False)
abbrev JG (X : Cx) (Γ : Gs) (e : Expr) (f : GT) : Prop := PG X e (tgG (X.G Γ) f)
abbrev JGs (X : Cx) (Γ : Gs) (es : List Expr) (f : GTs) : Prop := PGs X es (tgGs (X.G Γ) f)
theorem pg_w {X : Cx} {e : Expr} {t t' : TG} (h : PG X e t) (w : ∀ v σ H Q, t' v σ H Q → t v σ H Q) : PG X e t' := ⟨fun pins s σ H v u Q I r q => h.run pins s σ H v u Q I r (w v σ H Q q)⟩
theorem pgs_w {X : Cx} {e : List Expr} {t t' : TGs} (h : PGs X e t) (w : ∀ v σ H Q, t' v σ H Q → t v σ H Q) : PGs X e t' := ⟨fun pins s σ H v u Q I r q => h.run pins s σ H v u Q I r (w v σ H Q q)⟩
def gN (i : Nat) : GT := fun d ρ => some (ρ.set i (some d))
def gsNil : GTs := fun ds ρ => match ds with
  | [] => some ρ
  | _ => none
def gsCons (f : GT) (g : GTs) : GTs := fun ds ρ => match ds with
  | d :: r => (match f d ρ with
    | some ρ' => g r ρ'
    | none => none)
  | [] => none
/-- a tuple of that many -/
def gT (n : Nat) (f : GTs) : GT := fun d ρ => match d with
  | .tup xs => if xs.length = n then f xs ρ else none
  | _ => none
theorem g_name {i : Nat} {x : Str} (hN : X.N.Nodup) (hi : X.N[i]? = some x := by rfl) (hx : Loc X.env.scope x := by first | exact .inl rfl | exact .inr rfl) (hf : X.fn x = true ∨ X.env.scope.names.lookup x = some .local := by first | exact .inl rfl | exact .inr rfl | assumption) : JG X Γ (.Name x pos) (gN i) := by
  refine pg_w (pg_name hN hi hx hf) fun v σ H Q h => ?_
  obtain ⟨φ, d, ρ, μ, e, r, rv, q⟩ := h
  exact q _ (e.set i rv)
theorem gs_nil : JGs X Γ [] gsNil := by
  refine pgs_w pgs_nil fun vs σ H Q h => ?_
  obtain ⟨φ, ds, ρ, μ, e, r, rv, q⟩ := h
  cases rv with
  | nil => exact ⟨rfl, q _ e⟩
  | cons _ _ => exact q.elim
theorem gs_cons {t : Expr} {ts : List Expr} {f : GT} {g : GTs} (h1 : JG X Γ t f) (h2 : JGs X Γ ts g)
    (hs : (assignEach (t :: ts) X.env).map (·.2) = assign t X.env :: (assignEach ts X.env).map (·.2) := by rfl) : JGs X Γ (t :: ts) (gsCons f g) := by
  refine pgs_w (pgs_cons h1 h2 hs) fun vs σ H Q h => ?_
  obtain ⟨φ, ds, ρ, μ, e, r, rv, q⟩ := h
  cases rv with
  | nil => exact q.elim
  | @cons d v ds vs r1 t1 =>
    unfold gsCons at q
    refine ⟨v, vs, rfl, φ, d, ρ, μ, e, r, r1, ?_⟩
    cases qq : f d ρ with
    | none =>
      simp only [qq] at q
    | some ρ' =>
      simp only [qq] at q ⊢
      exact fun σ' e' => ⟨φ, ds, ρ', μ, e', r, t1, q⟩
theorem g_tup {ts : List Expr} {f : GTs} {k n : Nat} (hc : X.calm = true) (h : JGs X Γ ts f) (hn : (assignEach ts X.env).length = n := by rfl) (hst : (assignEach ts X.env).findIdx? (·.1) = none := by rfl) : JG X Γ (.Tuple ts k pos) (gT n f) := by
  refine pg_w (pg_tup hc h hn hst) fun v σ H Q hh => ?_
  obtain ⟨φ, d, ρ, μ, e, r, rv, q⟩ := hh
  unfold gT at q
  cases rv with
  | tup hs rl =>
    rename_i a vs ds
    dsimp only at q
    by_cases hz : ds.length = n
    · rw [if_pos hz] at q
      exact ⟨a, vs, rfl, hs.t, by rw [← rl.length]; exact hz, φ, ds, ρ, μ, e, r, rl, q⟩
    · rw [if_neg hz] at q
      exact q.elim
  | _ => exact q.elim
/-- target = value -/
def sAsg (f : GT) (m : Ev → M D) : MS := fun ρ μ => bindS (m ρ μ) ρ fun d μ' => match f d ρ with
  | some ρ' => .ok (.nx ρ') μ'
  | none => .bad
theorem s_asg {tg : Expr} {f : GT} (he : JE X Γ W e m) (hg : JG X Γ tg f) (hs : swapsWithSole [tg] e pos.line X.env = pure false := by rfl) (hw : swappedStores [tg] e X.env = pure none := by rfl) (h1 : List.map (fun x => x.snd) (assignEach [tg] X.env) = [assign tg X.env] := by rfl) : JS X Γ W (.Assign [tg] e pos) (sAsg f m) := by
  refine ps_w (ps_asg he hg hs hw h1) fun Z σ H h => ?_
  obtain ⟨φ, ρ, μ, ev, r, p⟩ := h
  refine bS ev r p fun φ1 H1 d v μ1 g e1 r1 rv p1 => ?_
  refine ⟨φ1, d, ρ, μ1, e1, r1, rv, ?_⟩
  cases qq : f d ρ with
  | none =>
    simp only [qq] at p1
    exact p1
  | some ρ' =>
    simp only [qq] at p1 ⊢
    exact fun σ' e' => p1 φ1 H1 σ' (Grow.refl _ _) r1 e'
/-- a, b = x, y -/
def sPar (i j : Nat) (m : Ev → M (List D)) : MS := fun ρ μ => bindS (m ρ μ) ρ fun ds μ' => match ds with
  | [x, y] => .ok (.nx ((ρ.set i (some x)).set j (some y))) μ'
  | _ => .bad
theorem s_par {i j : Nat} {x y : Str} {a b : Expr} {ml : Ev → M (List D)} {px py pt : Pos} {kt k2 : Nat} {pt2 : Pos} (hc : X.calm = true) (hN : X.N.Nodup) (ha : JL X Γ W [a, b] ml) (h : ∀ ta, PA X [a, b] ta → PS X (.Assign [.Tuple [.Name x px, .Name y py] kt pt] (.Tuple [a, b] k2 pt2) pos) (tPar i j ta)) :
    JS X Γ W (.Assign [.Tuple [.Name x px, .Name y py] kt pt] (.Tuple [a, b] k2 pt2) pos) (sPar i j ml) := by
  refine ps_w (h _ ha) fun Z σ H h => ?_
  obtain ⟨φ, ρ, μ, ev, r, p⟩ := h
  refine bS ev r p fun φ1 H1 d v μ1 g e1 r1 rv p1 => ?_
  cases rv with
  | nil => exact p1.elim
  | cons r1' t1 =>
    cases t1 with
    | nil => exact p1.elim
    | cons r2' t2 =>
      cases t2 with
      | cons _ _ => exact p1.elim
      | nil => exact ⟨_, _, rfl, p1 φ1 H1 _ (Grow.refl _ _) r1 ((e1.set i r1').set j r2')⟩
/-- a label's list: an item is stored -/
def subR (o i d : D) (ρ : Ev) (μ : Mem) : RS := match o, i with
  | .loc l, .int k => (match μ[l]? with
    | some (.lst xs) => (match ixN xs.length k with
      | some j => .ok (.nx ρ) (μ.set l (.lst (xs.set j d)))
      | none => .bad)
    | none => .bad)
  | _, _ => .bad
def sSub (mo mi mv : Ev → M D) : MS := fun ρ μ => bindS (mv ρ μ) ρ fun d μ1 => bindS (mo ρ μ1) ρ fun o μ2 => bindS (mi ρ μ2) ρ fun i μ3 => subR o i d ρ μ3
theorem s_sub {o i : Expr} {mo mi : Ev → M D} {pos' : Pos} (he : JE X Γ W e m) (ho : JE X Γ W o mo) (hi : JE X Γ W i mi) (h : ∀ te to ti, PE X e te → PE X o to → PE X i ti → PS X (.Assign [.Subscript o i pos'] e pos) (tAsg te (gSub to ti rSetL))) (h0 : Γ.off = Γ := by rfl) :
    JS X Γ W (.Assign [.Subscript o i pos'] e pos) (sSub mo mi m) := by
  refine ps_w (h _ _ _ he ho hi) fun Z σ H h => ?_
  obtain ⟨φ, ρ, μ, ev, r, p⟩ := h
  refine bS ev r p fun φ1 H1 d v μ1 g1 e1 r1 rv p1 => ?_
  refine bS e1 r1 p1 fun φ2 H2 od ov μ2 g2 e2 r2 ro p2 => ?_
  refine bS e2 r2 p2 fun φ3 H3 id iv μ3 g3 e3 r3 ri p3 => ?_
  unfold subR at p3
  cases ro with
  | @loc a l ha =>
    cases ri with
    | int k =>
      dsimp only at p3
      cases q : μ3[l]? with
      | none =>
        rw [q] at p3
        exact p3.elim
      | some mo' =>
        obtain ⟨b, h1, h2⟩ := r3.at_ l mo' q
        rw [q] at p3
        cases mo' with
        | lst xs =>
          dsimp only at p3
          obtain ⟨vs, h3, h4⟩ := h2
          have hb : φ3.l[l]? = some a := by
            obtain ⟨ψ, e, _⟩ := g3.ex
            rw [e]
            rw [List.getElem?_append_left (List.getElem?_eq_some_iff.mp ha).1]
            exact ha
          rw [hb] at h1
          cases h1
          cases q2 : ixN xs.length k with
          | none =>
            rw [q2] at p3
            exact p3.elim
          | some j =>
            rw [q2] at p3
            dsimp only at p3
            refine ⟨a, vs, k, j, rfl, rfl, h3, by rw [← h4.length]; exact q2, ?_⟩
            have eo := Gx.off_eq (G := X.G Γ) h0
            have rl : RpL (X.G Γ).off φ3 H3 (xs.set j d) (vs.set j v) := h4.set j (by rw [eo]; exact (rv.grow g2).grow g3)
            exact p3 φ3 _ _ (Grow.wr hb) (r3.wr hb rl) (e3.grow (Grow.wr hb))
    | _ => exact p3.elim
  | _ => cases ri <;> exact p3.elim
end
/-! ### loops -/
/-- one turn's end -/
def sTurn (r : RS) (next : MS) : RS := match r with
  | .ok (.nx ρ) μ => next ρ μ
  | .ok (.ct ρ) μ => next ρ μ
  | .ok (.bk ρ) μ => .ok (.nx ρ) μ
  | r => r
def whileF (c : Ev → M Bool) (b : MS) : Nat → MS
  | 0 => fun _ _ => .bad
  | n + 1 => fun ρ μ => bindS (c ρ μ) ρ fun k μ1 => if k = true then sTurn (b ρ μ1) (whileF c b n) else .ok (.nx ρ) μ1
open Classical in
/-- a while: as many turns as it takes -/
noncomputable def sWhile (c : Ev → M Bool) (b : MS) : MS := fun ρ μ => if h : ∃ n, whileF c b n ρ μ ≠ .bad then whileF c b (Classical.choose h) ρ μ else .bad
def sFor (f : GT) (b : MS) : List D → MS
  | [] => sNext
  | d :: ds => fun ρ μ => match f d ρ with
    | some ρ1 => sTurn (b ρ1 μ) (sFor f b ds)
    | none => .bad
def sForE (m : Ev → M (List D)) (f : GT) (b : MS) : MS := fun ρ μ => bindS (m ρ μ) ρ fun ds μ' => sFor f b ds ρ μ'
theorem whileF_mono {c : Ev → M Bool} {b : MS} : ∀ {n m : Nat} {ρ : Ev} {μ : Mem}, n ≤ m → whileF c b n ρ μ ≠ .bad → whileF c b m ρ μ = whileF c b n ρ μ
  | 0, _, _, _, _, h => absurd rfl h
  | n + 1, 0, _, _, hl, _ => by omega
  | n + 1, m + 1, ρ, μ, hl, h => by
    unfold whileF at h ⊢
    unfold bindS at h ⊢
    cases q : c ρ μ with
    | exc e μ1 => rfl
    | bad => rfl
    | ok k μ1 =>
      rw [q] at h
      dsimp only at h ⊢
      cases k with
      | false => rfl
      | true =>
        rw [if_pos rfl] at h
        rw [if_pos rfl, if_pos rfl]
        unfold sTurn at h ⊢
        cases q2 : b ρ μ1 with
        | exc e ρ' μ2 => rfl
        | bad => rfl
        | ok f μ2 =>
          rw [q2] at h
          cases f with
          | nx ρ' => exact whileF_mono (by omega) h
          | ct ρ' => exact whileF_mono (by omega) h
          | bk ρ' => rfl
          | rt d => rfl
theorem sWhile_of {c : Ev → M Bool} {b : MS} {n : Nat} {ρ : Ev} {μ : Mem} (h : whileF c b n ρ μ ≠ .bad) : sWhile c b ρ μ = whileF c b n ρ μ := by
  have hx : ∃ n, whileF c b n ρ μ ≠ .bad := ⟨n, h⟩
  unfold sWhile
  rw [dif_pos hx]
  have h2 := Classical.choose_spec hx
  rcases Nat.le_total n (Classical.choose hx) with q | q
  · exact whileF_mono q h
  · exact (whileF_mono q h2).symm
/-- a while by what it comes to: some number of turns gives r -/
def WhileTo (c : Ev → M Bool) (b : MS) (ρ : Ev) (μ : Mem) (r : RS) : Prop := ∃ n, whileF c b n ρ μ = r
theorem WhileTo.eq {c : Ev → M Bool} {b : MS} {ρ : Ev} {μ : Mem} {r : RS} (h : WhileTo c b ρ μ r) (hr : r ≠ .bad) : sWhile c b ρ μ = r := by
  obtain ⟨n, e⟩ := h
  rw [sWhile_of (n := n) (by rw [e]; exact hr), e]
theorem WhileTo.stop {c : Ev → M Bool} {b : MS} {ρ : Ev} {μ μ1 : Mem} (h : c ρ μ = .ok false μ1) : WhileTo c b ρ μ (.ok (.nx ρ) μ1) := ⟨1, by
  unfold whileF bindS
  rw [h]
  rfl⟩
theorem WhileTo.turn {c : Ev → M Bool} {b : MS} {ρ ρ' : Ev} {μ μ1 μ2 : Mem} {r : RS} (h : c ρ μ = .ok true μ1) (hb : b ρ μ1 = .ok (.nx ρ') μ2) (hr : WhileTo c b ρ' μ2 r) : WhileTo c b ρ μ r := by
  obtain ⟨n, e⟩ := hr
  refine ⟨n + 1, ?_⟩
  unfold whileF bindS
  rw [h]
  dsimp only
  rw [if_pos rfl, hb]
  exact e
section
variable {X : Cx} {W : WX} {pos : Pos} {G : Gx}
theorem s_while {t : Expr} {body : List Stmt} {mt : Ev → M Bool} {b : MS} (hp : PassesOwn (model X.prog X.w) X.A X.env X.xe) (ht : JT X Γ W t mt) (hb : JSs X Γ W body b) : JS X Γ W (.While t body [] pos) (sWhile mt b) := by
  refine ps_w (ps_while hp ht hb) fun Z σ H h => ?_
  obtain ⟨φ, ρ, μ, ev, r, p⟩ := h
  unfold sWhile at p
  by_cases hx : ∃ n, whileF mt b n ρ μ ≠ .bad
  · rw [dif_pos hx] at p
    generalize Classical.choose hx = n at p
    refine ⟨fun m σ H => ∃ φ ρ μ, EvR (X.G Γ) φ H ρ σ ∧ MemR (X.G Γ) φ μ H ∧ PostS (X.G Γ) φ H (whileF mt b m ρ μ) Z W, ⟨n, φ, ρ, μ, ev, r, p⟩, ?_⟩
    rintro m σ H ⟨φ, ρ, μ, ev, r, p⟩
    cases m with
    | zero => exact p.elim
    | succ m =>
      unfold whileF at p
      refine bS ev r p fun φ1 H1 k kv μ1 g e1 r1 rv p1 => ?_
      cases (show kv = k from rv)
      cases k with
      | false => exact p1 φ1 H1 σ (Grow.refl _ _) r1 e1
      | true =>
        rw [if_pos rfl] at p1
        show ∃ N, _
        refine ⟨fun σ' H' => ∃ φ ρ μ, EvR (X.G Γ) φ H' ρ σ' ∧ MemR (X.G Γ) φ μ H' ∧ PostS (X.G Γ) φ H' (whileF mt b m ρ μ) Z W, fun σ' H' w => ⟨m, Nat.lt_succ_self _, w⟩, φ1, ρ, μ1, e1, r1, ?_⟩
        unfold sTurn at p1
        cases q : b ρ μ1 with
        | exc e ρ' μ2 => rw [q] at p1; exact p1
        | bad => rw [q] at p1; exact p1
        | ok f μ2 =>
          rw [q] at p1
          cases f with
          | nx ρ' => exact fun φ2 H2 σ2 g2 r2 e2 => ⟨φ2, ρ', μ2, e2, r2, PostS.grow g2 p1⟩
          | ct ρ' => exact fun φ2 H2 σ2 g2 r2 e2 => ⟨φ2, ρ', μ2, e2, r2, PostS.grow g2 p1⟩
          | bk ρ' => exact p1
          | rt d => exact p1
  · rw [dif_neg hx] at p
    exact p.elim
/-- what is walked: at every later heap the items come in turn -/
def tieI (G : Gx) : Tie (List D) It := fun φ H items J => ∀ φ1 H1, Grow φ H φ1 H1 → ∀ i : Nat, (∀ d, items[i]? = some d → J.go i H1 ∧ ∀ x H2 μ, MemR G φ1 μ H1 → J.yld i H1 x H2 → Grow φ1 H1 φ1 H2 ∧ MemR G φ1 μ H2 ∧ Rp G φ1 H2 d x) ∧ (items.length ≤ i → J.stop i H1)
abbrev JI (X : Cx) (Γ : Gs) (W : WX) (tg e : Expr) (m : Ev → M (List D)) : Prop := PI X tg e (tG (X.G Γ) (tieI (X.G Γ)) W m)
theorem pi_w {X : Cx} {tg e : Expr} {t t' : TI} (h : PI X tg e t) (w : ∀ σ H R, t' σ H R → t σ H R) : PI X tg e t' := ⟨fun pins s σ H R I q => h.run pins s σ H R I (w σ H R q)⟩
theorem s_for {tg iter : Expr} {body : List Stmt} {mi : Ev → M (List D)} {f : GT} {b : MS} (hp : PassesOwn (model X.prog X.w) X.A X.env X.xe) (hc : X.calm = true) (hi : JI X Γ W tg iter mi) (hg : JG X Γ tg f) (hb : JSs X Γ W body b) (hs : ∀ x, foldedSetIterable iter X.env x = pure x := by intro _; rfl) : JS X Γ W (.For tg iter body [] pos) (sForE mi f b) := by
  refine ps_w (ps_for hp hc hi hg hb hs) fun Z σ H h => ?_
  obtain ⟨φ, ρ, μ, ev, r, p⟩ := h
  refine bS ev r p fun φ1 H1 ds J μ1 g e1 r1 rj p1 => ?_
  refine ⟨fun i m σ H => i + m = ds.length ∧ ∃ φ ρ μ, Grow φ1 H1 φ H ∧ EvR (X.G Γ) φ H ρ σ ∧ MemR (X.G Γ) φ μ H ∧ PostS (X.G Γ) φ H (sFor f b (ds.drop i) ρ μ) Z W, ⟨ds.length, by omega, φ1, ρ, μ1, Grow.refl _ _, e1, r1, p1⟩, ?_⟩
  rintro i m σ H ⟨hm, φ, ρ, μ, g, ev, r, p⟩
  obtain ⟨jg, js⟩ := rj φ H g i
  by_cases hi : i < ds.length
  · have hd : ds[i]? = some ds[i] := List.getElem?_eq_getElem hi
    obtain ⟨j1, j2⟩ := jg _ hd
    rw [List.drop_eq_getElem_cons hi] at p
    refine .inr ⟨j1, fun σ' H' => ∃ φ ρ μ, Grow φ1 H1 φ H' ∧ EvR (X.G Γ) φ H' ρ σ' ∧ MemR (X.G Γ) φ μ H' ∧ PostS (X.G Γ) φ H' (sFor f b (ds.drop (i + 1)) ρ μ) Z W, fun σ' H' w => ⟨m - 1, by omega, by omega, w⟩, fun x H2 hy => ?_⟩
    obtain ⟨g2, r2, rx⟩ := j2 x H2 μ r hy
    unfold sFor at p
    refine ⟨φ, ds[i], ρ, μ, ev.grow g2, r2, rx, ?_⟩
    cases q : f ds[i] ρ with
    | none =>
      simp only [q] at p
      exact p
    | some ρ1 =>
      simp only [q] at p ⊢
      refine fun σ1 e1' => ⟨φ, ρ1, μ, e1', r2, ?_⟩
      unfold sTurn at p
      cases q2 : b ρ1 μ with
      | exc e ρ' μ2 => rw [q2] at p; exact PostS.grow g2 p
      | bad => rw [q2] at p; exact p
      | ok f2 μ2 =>
        rw [q2] at p
        cases f2 with
        | nx ρ' => exact fun φ2 H3 σ2 g3 r3 e3 => ⟨φ2, ρ', μ2, (g.trans g2).trans g3, e3, r3, PostS.grow (g2.trans g3) p⟩
        | ct ρ' => exact fun φ2 H3 σ2 g3 r3 e3 => ⟨φ2, ρ', μ2, (g.trans g2).trans g3, e3, r3, PostS.grow (g2.trans g3) p⟩
        | bk ρ' => exact PostS.grow (r := .ok (.nx ρ') μ2) g2 p
        | rt d => exact PostS.grow (r := .ok (.rt d) μ2) g2 p
  · have : ds.drop i = [] := List.drop_of_length_le (by omega)
    rw [this] at p
    exact .inl ⟨js (by omega), p φ H σ (Grow.refl _ _) r ev⟩
/-- range(n), range(a, b) -/
def rngL (lo : Int) (n : Nat) : List D := (List.range n).map fun (i : Nat) => D.int (lo + i)
def rng1M : List D → M (List D)
  | [.int j], μ => if j ≤ 100000 ∧ -100000 ≤ j then .ok (rngL 0 j.toNat) μ else .bad
  | _, _ => .bad
def rng2M : List D → M (List D)
  | [.int i, .int j], μ => if -100000 ≤ i ∧ i ≤ 100000 ∧ -100000 ≤ j ∧ j ≤ 100000 then .ok (rngL i (j - i).toNat) μ else .bad
  | _, _ => .bad
def eLL (f : List D → M (List D)) (a : Ev → M (List D)) : Ev → M (List D) := fun ρ => do let x ← a ρ; f x
theorem itr_tie {φ : Lab} {H : Hp} (lo : Int) (n : Nat) : tieI G φ H (rngL lo n) (Itr lo n) := by
  intro φ1 H1 g i
  have hl : (rngL lo n).length = n := by simp [rngL]
  refine ⟨fun d hd => ?_, fun h => by rw [hl] at h; exact h⟩
  have hi : i < n := by
    have := (List.getElem?_eq_some_iff.mp hd).1
    rw [hl] at this
    exact this
  refine ⟨hi, fun x H2 μ R hy => ?_⟩
  obtain ⟨e1, e2⟩ := (show H2 = H1 ∧ x = .int (lo + i) from hy)
  subst e1 e2
  have : d = .int (lo + i) := by
    unfold rngL at hd
    rw [List.getElem?_map, List.getElem?_range hi] at hd
    exact (Option.some.inj hd).symm
  subst this
  exact ⟨Grow.refl _ _, R, .int _⟩
theorem i_rng1 {tg a : Expr} {ml : Ev → M (List D)} {p0 : Pos} (hg : Gl X "range") (hm : X.mg "range" = none) (ha : JL X Γ W [a] ml) (hs : starEach [a] X.env = [(false, eval a X.env)] := by rfl) : JI X Γ W tg (.Call (.Name "range" p0) [a] [] pos) (eLL rng1M ml) := by
  refine pi_w (pi_range1 hg hm ha hs) fun σ H R h => ?_
  refine bE h fun φ1 H1 x v ρ μ1 e r rv p => ?_
  unfold rng1M at p
  split at p
  · rename_i j
    obtain ⟨v, rfl, r1⟩ := rv.one
    cases r1
    by_cases hz : j ≤ 100000 ∧ -100000 ≤ j
    · simp only [if_pos hz] at p
      exact ⟨j, rfl, by omega, by omega, Post.pure p r (itr_tie 0 _)⟩
    · simp only [if_neg hz] at p
      exact p.elim
  · exact p.elim
theorem i_rng2 {tg a b : Expr} {ml : Ev → M (List D)} {p0 : Pos} (hg : Gl X "range") (hm : X.mg "range" = none) (ha : JL X Γ W [a, b] ml) (hs : starEach [a, b] X.env = [(false, eval a X.env), (false, eval b X.env)] := by rfl) (hs2 : starEach [b] X.env = [(false, eval b X.env)] := by rfl) : JI X Γ W tg (.Call (.Name "range" p0) [a, b] [] pos) (eLL rng2M ml) := by
  refine pi_w (pi_range2 hg hm ha hs hs2) fun σ H R h => ?_
  refine bE h fun φ1 H1 x v ρ μ1 e r rv p => ?_
  unfold rng2M at p
  split at p
  · rename_i i j
    obtain ⟨v, w, rfl, r1, r2⟩ := rv.two
    cases r1
    cases r2
    by_cases hz : -100000 ≤ i ∧ i ≤ 100000 ∧ -100000 ≤ j ∧ j ≤ 100000
    · simp only [if_pos hz] at p
      exact ⟨i, j, rfl, by omega, Post.pure p r (itr_tie i _)⟩
    · simp only [if_neg hz] at p
      exact p.elim
  · exact p.elim
/-- a list, a tuple that stands -/
def seqL (d : D) : M (List D) := fun μ => match d with
  | .lst xs => .ok xs μ
  | .ro xs => .ok xs μ
  | _ => .bad
def seqT (d : D) : M (List D) := fun μ => match d with
  | .tup xs => .ok xs μ
  | _ => .bad
def eSeq (f : D → M (List D)) (a : Ev → M D) : Ev → M (List D) := fun ρ => do let x ← a ρ; f x
theorem itt_tie {φ : Lab} {H : Hp} {a : Addr} {vs : List V} {ds : List D} (h : SqTz G.K φ H a vs) (r : RpL G φ H ds vs) : tieI G φ H ds (Itt G.K a) := by
  intro φ1 H1 g i
  have hh := (h.grow g).t
  refine ⟨fun d hd => ?_, fun hl => ⟨vs, hh, by rw [← r.length]; exact hl⟩⟩
  obtain ⟨v, hv, rv⟩ := r.get hd
  refine ⟨⟨vs, v, hh, hv⟩, fun x H2 μ R hy => ?_⟩
  obtain ⟨e1, e2⟩ := (show H2 = H1 ∧ ∀ xs, SqT G.K H1 a xs → xs[i]? = some x from hy)
  subst e1
  have e3 := e2 vs hh
  rw [hv] at e3
  cases e3
  exact ⟨Grow.refl _ _, R, rv.grow g⟩
theorem itl_tie' {φ : Lab} {H : Hp} {a : Addr} {vs : List V} {ds : List D} (h : ∀ φ1 H1, Grow φ H φ1 H1 → SqL G.K H1 a vs) (r : RpL G φ H ds vs) : tieI G φ H ds (Itl G.K a) := by
  intro φ1 H1 g i
  refine ⟨fun d hd => ?_, fun hl => ⟨vs, h _ _ g, by rw [← r.length]; exact hl⟩⟩
  obtain ⟨v, hv, rv⟩ := r.get hd
  refine ⟨⟨vs, v, h _ _ g, hv⟩, fun x H2 μ R hy => ?_⟩
  obtain ⟨e1, e2⟩ := (show H2 = H1 ∧ ∀ xs, SqL G.K H1 a xs → xs[i]? = some x from hy)
  subst e1
  have e3 := e2 vs (h _ _ g)
  rw [hv] at e3
  cases e3
  exact ⟨Grow.refl _ _, R, rv.grow g⟩
theorem i_list {tg l : Expr} {ml : Ev → M D} (hl : JE X Γ W l ml) : JI X Γ W tg l (eSeq seqL ml) := by
  refine pi_w (pi_list hl) fun σ H R h => ?_
  refine bE h fun φ1 H1 x v ρ μ1 e r rv p => ?_
  cases rv with
  | lst h1 n1 r1 =>
    refine ⟨_, rfl, ⟨_, SqL.of h1⟩, Post.pure p r (itl_tie' (vs := _) (fun φ2 H2 g => SqL.of (g.st _ _ h1 n1 fun _ z => nomatch z)) r1)⟩
  | ro h1 r1 => exact ⟨_, rfl, ⟨_, h1.t⟩, Post.pure p r (itl_tie' (fun φ2 H2 g => (h1.grow g).t) r1)⟩
  | _ => exact p.elim
theorem i_tup {tg l : Expr} {ml : Ev → M D} (hl : JE X Γ W l ml) : JI X Γ W tg l (eSeq seqT ml) := by
  refine pi_w (pi_tup hl) fun σ H R h => ?_
  refine bE h fun φ1 H1 x v ρ μ1 e r rv p => ?_
  cases rv with
  | tup h1 r1 => exact ⟨_, rfl, ⟨_, h1.t⟩, Post.pure p r (itt_tie h1 r1)⟩
  | _ => exact p.elim
end
end SE

/-! SE5: defs as computations, their calls, the law's own end. -/
namespace SE
open PySem PySem.Spec PyProof.Rows L2
/-- a def's body run on its arguments -/
def callM (N : Nat) (b : MS) (ds : List D) : M D := fun μ => match b (ds.map some ++ List.replicate (N - ds.length) none) μ with
  | .ok (.rt d) μ' => .ok d μ'
  | .ok (.nx _) μ' => .ok .non μ'
  | .exc e _ μ' => .exc e μ'
  | _ => .bad
/-- called with these trees the def does what m does -/
structure FnG (Γ : Gs) (P : Program) (w : World) (K : PySem.W.Frag) (mg : Str → Option Value) (base : Heap) (k : Nat) (f : Addr) (fd : FuncData) (ps : List Str) (m : List D → M D) : Prop where
  run : ∀ (A : Around) (outer : List PySem.Env) (s : Shared) (H : Hp) (args : Args) (us : List Value) (vs : List V) (Q : VK) (E : XK) (ds : List D) (φ : Lab) (μ : Mem),
    Room k A → A.guards = some [] → Env0 P w K mg base A outer s H → BindsTo s fd args (ps.zip us) → Vals vs us → vs.length = ps.length → RpL ⟨K, mg, Γ⟩ φ H ds vs → MemR ⟨K, mg, Γ⟩ φ μ H →
    Post ⟨K, mg, Γ⟩ (tieD ⟨K, mg, Γ⟩) φ H (m ds μ) Q E → codeAny (model P w) A (.call (.ref f) args) (CR (L2N.CX P w) outer P w H s Q E) s
theorem FnG.mono {Γ : Gs} {P : Program} {w : World} {K : PySem.W.Frag} {mg : Str → Option Value} {base : Heap} {j k : Nat} {f : Addr} {fd : FuncData} {ps : List Str} {m : List D → M D} (F : FnG Γ P w K mg base j f fd ps m) (h : j ≤ k) : FnG Γ P w K mg base k f fd ps m :=
  ⟨fun A outer s H args us vs Q E ds φ μ hr => F.run A outer s H args us vs Q E ds φ μ (hr.mono h)⟩
theorem start_rp {G : Gx} {φ : Lab} {H : Hp} {ds : List D} {vs : List V} (N : List Str) (r : RpL G φ H ds vs) : EvR G φ H (ds.map some ++ List.replicate (N.length - ds.length) none) (L2.start N vs) := by
  have hl := r.length
  unfold L2.start
  refine ⟨by simp [hl], fun i d e => ?_⟩
  by_cases hi : i < ds.length
  · rw [List.getElem?_append_left (by simpa using hi), List.getElem?_map] at e
    cases q : ds[i]? with
    | none => rw [q] at e; cases e
    | some d' =>
      rw [q] at e
      cases e
      obtain ⟨v, h1, h2⟩ := r.get q
      refine ⟨v, ?_, h2⟩
      rw [List.getElem?_append_left (by simpa [← hl] using hi), List.getElem?_map, h1]
      rfl
  · rw [List.getElem?_append_right (by simpa using hi), List.getElem?_replicate] at e
    split at e <;> cases e
/-! ### code objects -/
def codeAt (K : PySem.W.Frag) (f : Addr) : Addr := match K.lookup f with
  | some ⟨_, _, .func fd, _⟩ => (match fd.code with
    | .ref c => c
    | _ => 0)
  | _ => 0
theorem codeAt_of {K : PySem.W.Frag} {x qual : Str} {params : Arguments} {body : List Stmt} {scope : Scope} {f : Addr} {oc dV kV doc pm cd ct : Value} {od an : Option Addr} {sl : Array (Option Value)}
    (lk : K.lookup f = some ⟨oc, od, .func (PySem.W.fnOf x qual params body scope dV kV doc pm an cd ct), sl⟩) (h : PySem.W.codeIn K cd qual = true) : cd = .ref (codeAt K f) := by
  obtain ⟨c, rfl⟩ := He.codeIn_ref h
  unfold codeAt
  rw [lk]
/-- the context of a def's body -/
abbrev bodyX (P : Program) (w : World) (K : PySem.W.Frag) (mg : Str → Option Value) (base : Heap) (N : List Str) (qual : Str) (sc : Scope) (f : Addr) (cd : Value) (A : Around) (outer : List PySem.Env) (s : Shared) (H : Hp) (E : XK) : Cx :=
  cxOf (L2N.CX P w) P w K mg base N qual sc f cd A outer s H E
abbrev bodyW (E : XK) : WX := fun cls d _ H => E cls d H
section
variable {P : Program} {w : World} {K : PySem.W.Frag} {mg : Str → Option Value} {base : Heap} {x qual : Str} {params : Arguments} {body : List Stmt} {scope : Scope} {dvs : List V} {kws : List (Str × V)} {f : Addr} {fd : FuncData}
theorem FnG.of {N ps : List Str} {k : Nat} {b : MS} (F : FunD K x qual params body scope dvs kws f fd) (S : FnScope N ps scope)
    (hb : ∀ (cd : Value) (A : Around) (outer : List PySem.Env) (s : Shared) (H : Hp) (E : XK), cd = .ref (codeAt K f) → Room k (A.deeper (envOfC qual scope s.heap.objs.size f cd)) → (A.deeper (envOfC qual scope s.heap.objs.size f cd)).guards = some [] →
      L2N.Takes (bodyX P w K mg base N qual scope f cd A outer s H E) (bodyW E) → PassesOwn (model P w) (bodyX P w K mg base N qual scope f cd A outer s H E).A (bodyX P w K mg base N qual scope f cd A outer s H E).env (bodyX P w K mg base N qual scope f cd A outer s H E).xe →
      JSs (bodyX P w K mg base N qual scope f cd A outer s H E) Γ (bodyW E) body b) : FnG Γ P w K mg base (k + 1) f fd ps (callM N.length b) := by
  obtain ⟨oc0, od0, dV0, kV0, doc0, pm0, an0, cdv0, ct0, osl0, e0, lk0, hcd0, _, _⟩ := F.ex
  subst e0
  constructor
  intro A outer s H args us vs Q E ds φ μ room gd en hbind rv hlen rl rm post
  have kin : K.In s.heap := en.mod.kin.keeps fun c o e => (en.bs c o e).1
  have lim : s.heap.NoLimit := en.mod.nolimit.keeps fun c o e => (en.bs c o e).1
  have kinds : ∀ y ∈ ps.zip us, scope.names.lookup y.1 = some .local ∨ (scope.names.lookup y.1 = some .cell ∧ ((cellsFrom (s.heap.objs.size + 1) scope.names []).lookup y.1).isSome = true) := by
    rintro ⟨n, v⟩ hy
    have hn : n ∈ ps := (List.of_mem_zip hy).1
    cases S.par n hn with
    | inl q => exact .inl q
    | inr q => exact .inr ⟨q, PySem.W.cellsFrom_some _ _ _ (.inl q)⟩
  refine codeAny_call_function room.depth (kin _ _ lk0) rfl S.co S.gen rfl (PySem.W.codeRec_of kin hcd0) (hbind _ _ _ _ ?_)
  refine wpAny_newFunctionEnv_cells S.kind kinds fun env he s1 ic => ?_
  subst he
  refine ⟨lim.keeps ic.toInCall.keep, codeAny_func ?_⟩
  have I : Inv (bodyX P w K mg base N qual scope f cdv0 A outer s H E) [] (L2.start N vs) H s1 := inv_start S room.hd en hlen rv ic
  have tk : L2N.Takes (bodyX P w K mg base N qual scope f cdv0 A outer s H E) (bodyW E) := L2N.takes_of (X := bodyX P w K mg base N qual scope f cdv0 A outer s H E) rfl rfl rfl rfl
  have po : PassesOwn (model P w) (bodyX P w K mg base N qual scope f cdv0 A outer s H E).A (bodyX P w K mg base N qual scope f cdv0 A outer s H E).env (bodyX P w K mg base N qual scope f cdv0 A outer s H E).xe := passes_of (X := bodyX P w K mg base N qual scope f cdv0 A outer s H E) rfl
  have J := hb cdv0 A outer s H E (codeAt_of lk0 hcd0) (room.deeper _) gd tk po
  have fin : ∀ {σ' : L2.St} {H' : Hp} {v : V} {u : Value} {s' : Shared}, Inv (bodyX P w K mg base N qual scope f cdv0 A outer s H E) [] σ' H' s' → RelV v u → Q v H' → CE outer P w H s Q u s' := fun {σ' H' v u s'} I' r' q' => ⟨v, H', I'.os, I'.bare, I'.base, I'.hok, r', q'⟩
  refine wpAny_mono (J.run [] s1 (L2.start N vs) H { nx := fun _ H' => Q .non H', rt := Q } I ⟨φ, _, μ, start_rp N rl, rm, ?_⟩) (fun fl s' hs => ?_) fun e s' hs => hs
  · unfold callM at post
    cases q : b (ds.map some ++ List.replicate (N.length - ds.length) none) μ with
    | exc e ρ' μ' =>
      rw [q] at post
      exact fun φ' H' σ' cls dd g r' _ ex => post φ' H' cls dd g r' ex
    | bad => rw [q] at post; exact post
    | ok fl μ' =>
      rw [q] at post
      cases fl with
      | rt d => exact post
      | nx ρ' => exact fun φ' H' σ' g r' _ => post φ' H' .non g r' .non
      | bk ρ' => exact post.elim
      | ct ρ' => exact post.elim
  · cases fl with
    | ret u =>
      obtain ⟨v, σ', H', I', r', q'⟩ := hs
      exact fin I' r' q'
    | next =>
      obtain ⟨σ', H', I', q'⟩ := hs
      exact fin (v := V.non) (u := Value.none) I' rfl q'
    | brk =>
      obtain ⟨_, _, _, q'⟩ := hs
      exact q'.elim
    | cont =>
      obtain ⟨_, _, _, q'⟩ := hs
      exact q'.elim
end
/-! ### calls -/
section
variable {X : Cx} {W : WX} {k : Nat} {f : Addr} {fd : FuncData} {ps ks : List Str} {m : List D → M D} {x : Str} {p0 pos : Pos} {e : Expr} {es : List Expr} {ml mk : Ev → M (List D)} {kws : List Keyword}
/-- a callee with keywords: the positional values us, the keywords' values ws, in the parameters' order -/
structure KBg (K : PySem.W.Frag) (fd : FuncData) (ps ks : List Str) (n : Nat) (g : List Value → List Value → List Value) (gV : List V → List V → List V) (gD : List D → List D → List D) : Prop where
  to : ∀ (s : Shared) (us ws : List Value), K.In s.heap → us.length = n → ws.length = ks.length → BindsTo s fd ⟨us, ks.zip ws⟩ (ps.zip (g us ws))
  rel : ∀ {vs : List V} {us : List Value} {zs : List V} {ws : List Value}, Vals vs us → Vals zs ws → Vals (gV vs zs) (g us ws)
  len : ∀ vs zs : List V, vs.length = n → zs.length = ks.length → (gV vs zs).length = ps.length
  rp : ∀ {Γ : Gs} {mg : Str → Option Value} {φ : Lab} {H : Hp} {ds : List D} {vs : List V} {cs : List D} {zs : List V}, RpL ⟨K, mg, Γ⟩ φ H ds vs → RpL ⟨K, mg, Γ⟩ φ H cs zs → RpL ⟨K, mg, Γ⟩ φ H (gD ds cs) (gV vs zs)
theorem run_g {pins : List (Addr × Obj)} {σ : L2.St} {H : Hp} {s : Shared} {Q : VK} {us ws : List Value} {vs zs : List V} {ds cs : List D} {φ : Lab} {μ : Mem} {n : Nat} {g : List Value → List Value → List Value} {gV : List V → List V → List V} {gD : List D → List D → List D}
    (F : FnG Γ X.prog X.w X.K X.mg X.base k f fd ps m) (hr : Room k X.A) (hg : X.A.guards = some []) (hb : KBg X.K fd ps ks n g gV gD) (tk : L2N.Takes X W) (I : Inv X pins σ H s) (r : Vals vs us) (rz : Vals zs ws) (hn : vs.length = n) (hz : zs.length = ks.length)
    (rd : RpL (X.G Γ) φ H ds vs) (rc : RpL (X.G Γ) φ H cs zs) (rm : MemR (X.G Γ) φ μ H) (p : Post (X.G Γ) (tieD (X.G Γ)) φ H (m (gD ds cs) μ) Q fun cls dd H' => W cls dd σ H') : wpAny (model X.prog X.w) X.A (call (.ref f) us (ks.zip ws)) (EP X pins σ Q) X.xe s := by
  refine wpAny_call (codeAny_mono (F.run X.A X.stack s H ⟨us, ks.zip ws⟩ (g us ws) (gV vs zs) Q (fun cls dd H' => W cls dd σ H') (gD ds cs) φ μ hr hg I.env0 (hb.to s us ws I.kIn (by rw [← r.length]; exact hn) (by rw [← rz.length]; exact hz)) (hb.rel r rz) (hb.len vs zs hn hz) (hb.rp rd rc) rm p) fun res s' hq => ?_)
  cases res with
  | error ex => exact tk _ _ (L2N.XE.of_call I (fun _ _ _ h => h) hq)
  | ok fl =>
    cases fl with
    | ret u => exact I.after hq
    | next => exact False.elim hq
    | brk => exact False.elim hq
    | cont => exact False.elim hq
/-- all written, none by name: the plain way -/
theorem KBg.plain {K : PySem.W.Frag} {fd : FuncData} {ps : List Str} {n : Nat} (hn : ps.length = n) (h : ∀ (s : Shared) (us : List Value), K.In s.heap → us.length = n → BindsTo s fd ⟨us, []⟩ (ps.zip us)) : KBg K fd ps [] n (fun us _ => us) (fun vs _ => vs) (fun ds _ => ds) where
  to := fun s us ws hk hl _ => h s us hk hl
  rel := fun r _ => r
  len := fun vs zs h1 _ => by rw [h1, hn]
  rp := fun r _ => r
theorem binds_n {K : PySem.W.Frag} {x qual : Str} {params : Arguments} {body : List Stmt} {scope : Scope} {kws : List (Str × V)} {f : Addr} {fd : FuncData} {ps : List Str} {n : Nat} (F : FunD K x qual params body scope [] kws f fd) (hn : ps.length = n)
    (h : ∀ (kV doc pm : Value) (an : Option Addr) (cdv ct : Value) (us : List Value), us.length = n → bindArgs (PySem.W.fnOf x qual params body scope .none kV doc pm an cdv ct) ⟨us, []⟩ = pure (ps.zip us)) : KBg K fd ps [] n (fun us _ => us) (fun vs _ => vs) (fun ds _ => ds) := by
  refine KBg.plain hn fun s us hk hl => ?_
  subst hn
  exact FunD.bindsA F h s us hl
/-- f(e, ..) -/
def eCall (m : List D → M D) (ml : Ev → M (List D)) : Ev → M D := fun ρ => do let x ← ml ρ; m x
theorem j_call {g : List Value → List Value → List Value} {gV : List V → List V → List V} {gD : List D → List D → List D} (F : FnG Γ X.prog X.w X.K X.mg X.base k f fd ps m) (hr : Room k X.A) (hgd : X.A.guards = some []) (tk : L2N.Takes X W) (hg : Gl X x) (hm : X.mg x = some (.ref f)) (hk : PySem.W.keepIn X.K (.ref f) = true) (hb : KBg X.K fd ps [] (e :: es).length g gV gD)
    (ha : JL X Γ W (e :: es) ml) (hl : ∀ ρ μ ds μ', ml ρ μ = .ok ds μ' → ds.length = (e :: es).length) (hdb : (x == ("__debug__" : Str)) = false := by decide) (he : starEach (e :: es) X.env = (false, eval e X.env) :: starEach es X.env := by rfl) (hpl : (backTo pos (starEach es X.env)).any (·.1) = false := by rfl) :
    JE X Γ W (.Call (.Name x p0) (e :: es) [] pos) (eCall (fun ds => m (gD ds [])) ml) := by
  refine ⟨fun pins s σ H Q I h => ?_⟩
  refine wpAny_Call_Name_kw (ld_glob I hg hm ?_ hdb)
  obtain ⟨φ, ρ, μ, ev, r, p⟩ := h
  have key : tG (X.G Γ) (tieL (X.G Γ)) W ml σ H (fun vs H1 => ∃ φ1 ds μ1, vs.length = (e :: es).length ∧ RpL (X.G Γ) φ1 H1 ds vs ∧ MemR (X.G Γ) φ1 μ1 H1 ∧ Post (X.G Γ) (tieD (X.G Γ)) φ1 H1 (m (gD ds []) μ1) Q (fun cls dd H' => W cls dd σ H')) := by
    refine ⟨φ, ρ, μ, ev, r, ?_⟩
    change Post (X.G Γ) (tieD (X.G Γ)) φ H (M.bind (ml ρ) (fun ds => m (gD ds [])) μ) Q _ at p
    unfold M.bind at p
    cases q : ml ρ μ with
    | ok ds μ1 =>
      rw [q] at p
      exact fun φ1 H1 vs g r1 rv => ⟨φ1, ds, μ1, by rw [← rv.length]; exact hl ρ μ ds μ1 q, rv, r1, Post.grow g p⟩
    | exc x μ1 => rw [q] at p; exact p
    | bad => rw [q] at p; exact p
  refine PySem.W.callWith_K (h₀ := X.base) I.ok.mod.kin hk (thn (ha.run pos pins s σ H _ I key) fun us s1 ⟨vs, H1, I1, rv, φ1, ds, μ1, hvl, rd, r1, p1⟩ => ⟨I1.kIn, ?_⟩) he hpl
  exact run_g (ws := []) (zs := []) (cs := []) F hr hgd hb tk I1 rv .nil hvl rfl rd .nil r1 p1
/-- keywords' values -/
theorem jk_nil : PK X [] (tG (X.G Γ) (tieL (X.G Γ)) W lNil) := by
  refine ⟨fun p pins s σ H Q I h => ?_⟩
  obtain ⟨φ, ρ, μ, e, r, q⟩ := h
  exact pk_nil.run p pins s σ H Q I (Post.pure q r .nil)
theorem jk_cons {nm : Option Str} {kpos : Pos} {ma : Ev → M D} (ha : JE X Γ W e ma) (hr : PK X kws (tG (X.G Γ) (tieL (X.G Γ)) W ml)) : PK X (⟨nm, e, kpos⟩ :: kws) (tG (X.G Γ) (tieL (X.G Γ)) W (lCons ma ml)) := by
  refine ⟨fun p pins s σ H Q I h => ?_⟩
  refine (pk_cons ha hr).run p pins s σ H Q I ?_
  refine bE h fun φ1 H1 x v ρ μ1 e r rv p => ?_
  refine bG e r p fun φ2 H2 y u μ2 g e2 r2 ru p2 => ?_
  exact Post.pure p2 r2 (.cons (rv.grow g) ru)
/-- the length of a written row of arguments -/
theorem lNil_len {ρ : Ev} {μ μ' : Mem} {ds : List D} (h : lNil ρ μ = .ok ds μ') : ds.length = 0 := by
  cases h
  rfl
theorem lCons_len {a : Ev → M D} {r : Ev → M (List D)} {n : Nat} (hr : ∀ ρ μ ds μ', r ρ μ = .ok ds μ' → ds.length = n) {ρ : Ev} {μ μ' : Mem} {ds : List D} (h : lCons a r ρ μ = .ok ds μ') : ds.length = n + 1 := by
  change M.bind (a ρ) (fun x => M.bind (r ρ) fun xs => M.pure (x :: xs)) μ = _ at h
  unfold M.bind M.pure at h
  cases q : a ρ μ with
  | ok d μ1 =>
    rw [q] at h
    dsimp only at h
    cases q2 : r ρ μ1 with
    | ok xs μ2 =>
      rw [q2] at h
      cases h
      simp [hr _ _ _ _ q2]
    | exc x μ2 => rw [q2] at h; cases h
    | bad => rw [q2] at h; cases h
  | exc x μ1 => rw [q] at h; cases h
  | bad => rw [q] at h; cases h
end
/-! ### binding by places -/
/-- the items at these places -/
def pick {α : Type} (l : List Nat) (xs : List α) : List α := l.filterMap fun i => xs[i]?
theorem pick_vals {xs : List V} {us : List Value} (r : Vals xs us) : ∀ l : List Nat, Vals (pick l xs) (pick l us)
  | [] => .nil
  | i :: l => by
    unfold pick
    rw [List.filterMap_cons, List.filterMap_cons]
    cases q : xs[i]? with
    | none =>
      rw [r.none_of q]
      exact pick_vals r l
    | some x =>
      obtain ⟨u, h1, h2⟩ := r.get q
      rw [h1]
      exact .cons h2 (pick_vals r l)
theorem RpL.none_of {G : Gx} {φ : Lab} {H : Hp} {ds : List D} {vs : List V} {i : Nat} (r : RpL G φ H ds vs) (h : ds[i]? = none) : vs[i]? = none := by
  have := List.getElem?_eq_none_iff.mp h
  exact List.getElem?_eq_none_iff.mpr (by rw [← r.length]; exact this)
theorem pick_rp {G : Gx} {φ : Lab} {H : Hp} {ds : List D} {vs : List V} (r : RpL G φ H ds vs) : ∀ l : List Nat, RpL G φ H (pick l ds) (pick l vs)
  | [] => .nil
  | i :: l => by
    unfold pick
    rw [List.filterMap_cons, List.filterMap_cons]
    cases q : ds[i]? with
    | none =>
      rw [r.none_of q]
      exact pick_rp r l
    | some x =>
      obtain ⟨u, h1, h2⟩ := r.get q
      rw [h1]
      exact .cons h2 (pick_rp r l)
theorem pick_len {α : Type} {xs : List α} : ∀ {l : List Nat}, (∀ i ∈ l, i < xs.length) → (pick l xs).length = l.length
  | [], _ => rfl
  | i :: l, h => by
    unfold pick
    rw [List.filterMap_cons, List.getElem?_eq_getElem (h i (List.mem_cons_self ..))]
    show (pick l xs).length + 1 = l.length + 1
    rw [pick_len fun j hj => h j (List.mem_cons_of_mem _ hj)]
section
variable {K : PySem.W.Frag} {x qual : Str} {params : Arguments} {body : List Stmt} {scope : Scope} {dvs : List V} {kws : List (Str × V)} {f : Addr} {fd : FuncData} {ps ks : List Str}
/-- no defaults are used: each parameter from its place among the positional values and the keywords' -/
theorem kb_n (F : FunD K x qual params body scope [] kws f fd) (n : Nat) (l : List Nat) (hl : l.length = ps.length) (hi : ∀ i ∈ l, i < n + ks.length)
    (h : ∀ (kV doc pm : Value) (an : Option Addr) (cdv ct : Value) (us ws : List Value), us.length = n → ws.length = ks.length → bindArgs (PySem.W.fnOf x qual params body scope .none kV doc pm an cdv ct) ⟨us, ks.zip ws⟩ = pure (ps.zip (pick l (us ++ ws)))) :
    KBg K fd ps ks n (fun us ws => pick l (us ++ ws)) (fun vs zs => pick l (vs ++ zs)) (fun ds cs => pick l (ds ++ cs)) := by
  obtain ⟨oc0, od0, dV0, kV0, doc0, pm0, an0, cdv0, ct0, osl0, e0, lk0, hcd0, hD, _⟩ := F.ex
  subst e0
  rcases hD with ⟨_, e⟩ | ⟨e, _⟩
  · subst e
    exact ⟨fun s us ws _ h1 h2 => .of_eq (h kV0 doc0 pm0 an0 cdv0 ct0 us ws h1 h2), fun r1 r2 => pick_vals (r1.append r2) l, fun vs zs h1 h2 => by rw [pick_len (by intro i z; rw [List.length_append, h1, h2]; exact hi i z), hl], fun r1 r2 => pick_rp (r1.append r2) l⟩
  · exact absurd rfl e
/-- defaults fill up -/
theorem kb_d (F : FunD K x qual params body scope dvs kws f fd) (hd : dvs ≠ []) (dds : List D) (hdd : ∀ Γ mg φ H, RpL ⟨K, mg, Γ⟩ φ H dds dvs) (n : Nat) (l : List Nat) (hl : l.length = ps.length) (hi : ∀ i ∈ l, i < n + ks.length + dvs.length)
    (h : ∀ (T : Addr) (kV doc pm : Value) (an : Option Addr) (cdv ct : Value) (us ws its : List Value), us.length = n → ws.length = ks.length → its.length = dvs.length →
      ∃ k, bindArgs (PySem.W.fnOf x qual params body scope (.ref T) kV doc pm an cdv ct) ⟨us, ks.zip ws⟩ = seqItems? (.ref T) >>= k ∧ k (some its.toArray) = pure (ps.zip (pick l (us ++ ws ++ its)))) :
    ∃ its : List Value, KBg K fd ps ks n (fun us ws => pick l (us ++ ws ++ its)) (fun vs zs => pick l (vs ++ zs ++ dvs)) (fun ds cs => pick l (ds ++ cs ++ dds)) := by
  obtain ⟨oc0, od0, dV0, kV0, doc0, pm0, an0, cdv0, ct0, osl0, e0, lk0, hcd0, hD, _⟩ := F.ex
  subst e0
  rcases hD with ⟨e, _⟩ | ⟨_, T, o, its, m, e, lT, oT, rT⟩
  · exact absurd e hd
  · subst e
    refine ⟨its, ⟨fun s us ws X h1 h2 => ?_, fun r1 r2 => pick_vals ((r1.append r2).append rT) l, fun vs zs h1 h2 => by rw [pick_len (by intro i z; rw [List.length_append, List.length_append, h1, h2]; exact hi i z), hl], fun {Γ mg φ H ds vs cs zs} r1 r2 => pick_rp ((r1.append r2).append (hdd Γ mg φ H)) l⟩⟩
    obtain ⟨k, e1, e2⟩ := h T kV0 doc0 pm0 an0 cdv0 ct0 us ws its h1 h2 rT.length.symm
    refine BindsTo.of_looks fun M => ?_
    rw [e1]
    exact looks_items X lT oT (.of_pure e2)
end
section
variable {X : Cx} {W : WX} {k : Nat} {f : Addr} {fd : FuncData} {ps ks : List Str} {m : List D → M D} {x : Str} {p0 pos : Pos} {e : Expr} {es : List Expr} {ml mk : Ev → M (List D)} {kws : List Keyword}
  {g : List Value → List Value → List Value} {gV : List V → List V → List V} {gD : List D → List D → List D}
/-- f(e, .., k = v, ..) -/
def eCallK (m : List D → M D) (gD : List D → List D → List D) (ml mk : Ev → M (List D)) : Ev → M D := fun ρ => do let x ← ml ρ; let y ← mk ρ; m (gD x y)
theorem key_k {n j : Nat} {σ : L2.St} {H : Hp} {Q : VK} (hl : ∀ ρ μ ds μ', ml ρ μ = .ok ds μ' → ds.length = n) (hz : ∀ ρ μ ds μ', mk ρ μ = .ok ds μ' → ds.length = j) (h : tG (X.G Γ) (tieD (X.G Γ)) W (eCallK m gD ml mk) σ H Q) :
    tG (X.G Γ) (tieL (X.G Γ)) W ml σ H fun vs H1 => tG (X.G Γ) (tieL (X.G Γ)) W mk σ H1 fun zs H2 => ∃ φ ds cs μ, vs.length = n ∧ zs.length = j ∧ RpL (X.G Γ) φ H2 ds vs ∧ RpL (X.G Γ) φ H2 cs zs ∧ MemR (X.G Γ) φ μ H2 ∧ Post (X.G Γ) (tieD (X.G Γ)) φ H2 (m (gD ds cs) μ) Q (fun cls dd H' => W cls dd σ H') := by
  obtain ⟨φ, ρ, μ, ev, r, p⟩ := h
  refine ⟨φ, ρ, μ, ev, r, ?_⟩
  change Post (X.G Γ) (tieD (X.G Γ)) φ H (M.bind (ml ρ) (fun x => M.bind (mk ρ) fun y => m (gD x y)) μ) Q _ at p
  unfold M.bind at p
  cases q : ml ρ μ with
  | exc x μ1 => rw [q] at p; exact p
  | bad => rw [q] at p; exact p
  | ok ds μ1 =>
    rw [q] at p
    intro φ1 H1 vs g1 r1 rv
    refine ⟨φ1, ρ, μ1, ev.grow g1, r1, ?_⟩
    dsimp only at p
    cases q2 : mk ρ μ1 with
    | exc x μ2 => rw [q2] at p; exact Post.grow (r := .exc x μ2) (T := tieL (X.G Γ)) g1 (by exact p)
    | bad => rw [q2] at p; exact p
    | ok cs μ2 =>
      rw [q2] at p
      exact fun φ2 H2 zs g2 r2 rz => ⟨φ2, ds, cs, μ2, by rw [← rv.length]; exact hl _ _ _ _ q, by rw [← rz.length]; exact hz _ _ _ _ q2, rv.grow g2, rz, r2, Post.grow (g1.trans g2) p⟩
theorem j_callK (F : FnG Γ X.prog X.w X.K X.mg X.base k f fd ps m) (hr : Room k X.A) (hgd : X.A.guards = some []) (tk : L2N.Takes X W) (hg : Gl X x) (hm : X.mg x = some (.ref f)) (hk : PySem.W.keepIn X.K (.ref f) = true) (hb : KBg X.K fd ps ks (e :: es).length g gV gD)
    (ha : JL X Γ W (e :: es) ml) (hkw : PK X kws (tG (X.G Γ) (tieL (X.G Γ)) W mk)) (hl : ∀ ρ μ ds μ', ml ρ μ = .ok ds μ' → ds.length = (e :: es).length) (hz : ∀ ρ μ ds μ', mk ρ μ = .ok ds μ' → ds.length = ks.length) (hall : (backToKw pos (keywordEach kws X.env)).all (·.1.isSome) = true := by rfl) (hks : (backToKw pos (keywordEach kws X.env)).filterMap (·.1) = ks := by rfl)
    (hdb : (x == ("__debug__" : Str)) = false := by decide) (he : starEach (e :: es) X.env = (false, eval e X.env) :: starEach es X.env := by rfl) (hpl : ((backTo pos (starEach (e :: es) X.env)).any (·.1) || (backToKw pos (keywordEach kws X.env)).any (·.1.isNone)) = false := by rfl) :
    JE X Γ W (.Call (.Name x p0) (e :: es) kws pos) (eCallK m gD ml mk) := by
  refine ⟨fun pins s σ H Q I h => ?_⟩
  refine wpAny_Call_Name_kw (ld_glob I hg hm ?_ hdb)
  refine PySem.W.callWith_KW (h₀ := X.base) I.ok.mod.kin hk hall (thn (ha.run pos pins s σ H _ I (key_k hl hz h)) fun us s1 ⟨vs, H1, I1, r, q⟩ => ?_) hpl he
  refine thn (hkw.run pos pins s1 σ H1 _ I1 q) fun ws s2 ⟨zs, H2, I2, rz, φ2, ds, cs, μ2, hvl, hzl, rd, rc, r2, p2⟩ => ⟨I2.kIn, ?_⟩
  rw [hks]
  exact run_g F hr hgd hb tk I2 r rz hvl hzl rd rc r2 p2
/-- f(k = v, ..) -/
theorem j_callK0 (F : FnG Γ X.prog X.w X.K X.mg X.base k f fd ps m) (hr : Room k X.A) (hgd : X.A.guards = some []) (tk : L2N.Takes X W) (hg : Gl X x) (hm : X.mg x = some (.ref f)) (hk : PySem.W.keepIn X.K (.ref f) = true) (hb : KBg X.K fd ps ks 0 g gV gD)
    (hkw : PK X kws (tG (X.G Γ) (tieL (X.G Γ)) W mk)) (hz : ∀ ρ μ ds μ', mk ρ μ = .ok ds μ' → ds.length = ks.length) (hall : (backToKw pos (keywordEach kws X.env)).all (·.1.isSome) = true := by rfl) (hks : (backToKw pos (keywordEach kws X.env)).filterMap (·.1) = ks := by rfl)
    (hdb : (x == ("__debug__" : Str)) = false := by decide) (hpl : ((backTo pos (starEach [] X.env)).any (·.1) || (backToKw pos (keywordEach kws X.env)).any (·.1.isNone)) = false := by rfl) :
    JE X Γ W (.Call (.Name x p0) [] kws pos) (eCallK m gD lNil mk) := by
  refine ⟨fun pins s σ H Q I h => ?_⟩
  refine wpAny_Call_Name_kw (ld_glob I hg hm ?_ hdb)
  have h2 := key_k (n := 0) (fun ρ μ ds μ' q => lNil_len q) hz h
  obtain ⟨φ, ρ, μ, ev, r, p⟩ := h2
  have h3 := Post.pure (v := []) p r .nil
  refine PySem.W.callWith_KW0 (h₀ := X.base) I.ok.mod.kin hk hall (thn (hkw.run pos pins s σ H _ I h3) fun ws s2 ⟨zs, H2, I2, rz, φ2, ds, cs, μ2, hvl, hzl, rd, rc, r2, p2⟩ => ⟨I2.kIn, ?_⟩) hpl
  rw [hks]
  exact run_g (us := []) (vs := []) F hr hgd hb tk I2 .nil rz rfl hzl rd rc r2 p2
/-- f() -/
theorem j_call0 (F : FnG Γ X.prog X.w X.K X.mg X.base k f fd ps m) (hr : Room k X.A) (hgd : X.A.guards = some []) (tk : L2N.Takes X W) (hg : Gl X x) (hm : X.mg x = some (.ref f)) (hk : PySem.W.keepIn X.K (.ref f) = true) (hb : KBg X.K fd ps [] 0 g gV gD) (hdb : (x == ("__debug__" : Str)) = false := by decide) :
    JE X Γ W (.Call (.Name x p0) [] [] pos) (fun _ => m (gD [] [])) := by
  refine ⟨fun pins s σ H Q I h => ?_⟩
  refine wpAny_Call_Name_kw (ld_glob I hg hm ?_ hdb)
  obtain ⟨φ, ρ, μ, ev, r, p⟩ := h
  exact PySem.W.callWith_K0 I.kIn hk (run_g (us := []) (ws := []) (vs := []) (zs := []) (ds := []) (cs := []) F hr hgd hb tk I .nil .nil rfl rfl .nil .nil r p)
end
/-- f(e, ..), every parameter written by place -/
theorem j_callP {X : Cx} {W : WX} {k : Nat} {f : Addr} {fd : FuncData} {ps : List Str} {m : List D → M D} {x : Str} {p0 pos : Pos} {e : Expr} {es : List Expr} {ml : Ev → M (List D)} (F : FnG Γ X.prog X.w X.K X.mg X.base k f fd ps m) (hr : Room k X.A) (hgd : X.A.guards = some []) (tk : L2N.Takes X W) (hg : Gl X x) (hm : X.mg x = some (.ref f)) (hk : PySem.W.keepIn X.K (.ref f) = true)
    (hb : KBg X.K fd ps [] (e :: es).length (fun us _ => us) (fun vs _ => vs) (fun ds _ => ds)) (ha : JL X Γ W (e :: es) ml) (hl : ∀ ρ μ ds μ', ml ρ μ = .ok ds μ' → ds.length = (e :: es).length) (hdb : (x == ("__debug__" : Str)) = false := by decide) (he : starEach (e :: es) X.env = (false, eval e X.env) :: starEach es X.env := by rfl) (hpl : (backTo pos (starEach es X.env)).any (·.1) = false := by rfl) :
    JE X Γ W (.Call (.Name x p0) (e :: es) [] pos) (eCall m ml) := j_call F hr hgd tk hg hm hk hb ha hl hdb he hpl
/-! ### the law's own end -/
theorem ints_rp {G : Gx} {φ : Lab} {H : Hp} : ∀ ns : List Int, RpL G φ H (ns.map .int) (ns.map V.int)
  | [] => .nil
  | n :: ns => .cons (.int n) (ints_rp ns)
end SE

/-! SE6: the text's defs by name; small further rules. -/
namespace SE
open PySem PySem.Spec PyProof.Rows L2
def noFd : FuncData := PySem.W.fnOf "" "" { posonlyargs := [], args := [], vararg := none, kwonlyargs := [], kw_defaults := [], kwarg := none, defaults := [] } [] { kind := .function, names := [], isGenerator := false, isCoroutine := false } .none .none .none .none none .none .none
def fdAt (K : PySem.W.Frag) (a : Addr) : FuncData := match K.lookup a with
  | some ⟨_, _, .func fd, _⟩ => fd
  | _ => noFd
/-- the def x stands behind the top as its text says -/
structure DefG (K : PySem.W.Frag) (mg : Str → Option Value) (x name : Str) (st : Stmt) (dvs : List V) : Prop where
  F : FunD K name name (defArgs st) (defBody st) (defScope st) dvs [] (He.ga K x) (fdAt K (He.ga K x))
  g : mg x = some (.ref (He.ga K x))
theorem fdAt_of {K : PySem.W.Frag} {x qual : Str} {params : Arguments} {body : List Stmt} {scope : Scope} {dvs : List V} {kws : List (Str × V)} {f : Addr} {fd : FuncData} (F : FunD K x qual params body scope dvs kws f fd) : FunD K x qual params body scope dvs kws f (fdAt K f) := by
  have F2 := F
  obtain ⟨oc, od, dV, kV, doc, pm, an, cdv, ct, osl, e, lk, hcd, hD, hK⟩ := F.ex
  have : fdAt K f = fd := by
    unfold fdAt
    rw [lk]
  rw [this]
  exact F2
section
variable {X : Cx} {W : WX} {pos : Pos}
/-- a built-in type as a value -/
theorem j_ty {x : Str} {T : String} (hg : Gl X x) (hm : X.mg x = none) (hv : bootBuiltins x = some (.type T)) (hn : x ≠ "__name__" := by decide) (hd : (x == ("__debug__" : Str)) = false := by decide) : JE X Γ W (.Name x pos) (eC (.ty T)) :=
  j_const (pe_bltn hg hm hv (v := .ty T) rfl hn hd) fun _ _ => .ty T
theorem j_dct0 : JE X Γ W (.Dict [] [] pos) (eC (.dct [])) := by
  refine pe_w pe_dnewK fun σ H Q h => ?_
  obtain ⟨φ, ρ, μ, e, r, p⟩ := h
  intro d hd
  exact p φ _ _ (Grow.laid hd) (r.laid hd) (.dct upd_same (r.out hd) .nil)
variable {a b c : Expr} {ma mb mc : Ev → M D}
theorem chain_t {G : Gx} {W : WX} {r r' : R2} {f g : D → D → M D} (hi : OpI G f r) (hi' : OpI G g r') {σ : L2.St} {H : Hp} {Q' : VK} (h : tG G (tieD G) W (e3c f g ma mb mc) σ H Q') : tChain r r' (tG G (tieD G) W ma) (tG G (tieD G) W mb) (tG G (tieD G) W mc) σ H Q' := by
  refine bE h fun φ1 H1 x v ρ μ1 e r rv p => ?_
  refine bG e r p fun φ2 H2 y u μ2 g2 e2 r2 ru p2 => ?_
  refine hi φ2 μ2 H2 x y v u _ (fun cls dd H' => W cls dd σ H') r2 (rv.grow g2) ru ?_
  change Post G (tieD G) φ2 H2 (M.bind (f x y) _ μ2) _ _ at p2
  unfold M.bind at p2
  cases q : f x y μ2 with
  | ok d μ3 =>
    rw [q] at p2
    intro φ3 H3 z g3 r3 rz
    dsimp only at p2
    obtain ⟨k, rfl, p3⟩ := isBl_i rz (Post.grow g3 p2)
    refine ⟨k, rfl, ?_⟩
    cases k with
    | false => exact Post.pure p3 r3 (.bl false)
    | true =>
      refine bG (e2.grow g3) r3 p3 fun φ4 H4 w t μ4 g4 e4 r4 rt p4 => ?_
      exact hi' φ4 μ4 H4 y w u t Q' _ r4 ((ru.grow g3).grow g4) rt p4
  | exc x μ3 => rw [q] at p2; exact p2
  | bad => rw [q] at p2; exact p2
/-- a op b op' c as a test -/
theorem jt_chain {op op' : CmpOp} {r r' : R2} {f g : D → D → M D} (ho : OpR X (compareOp op) r) (hi : OpI (X.G Γ) f r) (ho' : OpR X (compareOp op') r') (hi' : OpI (X.G Γ) g r') (ha : JE X Γ W a ma) (hb : JE X Γ W b mb) (hc : JE X Γ W c mc)
    (hm : lastMarks [op, op'] [b, c] = false := by with_unfolding_all rfl) : JT X Γ W (.Compare a [op, op'] [b, c] pos) (bOf (e3c f g ma mb mc)) := by
  refine pt_w (pt_chain ho ho' ha hb hc hm) fun σ H Q h => ?_
  obtain ⟨φ, ρ, μ, e, r, p⟩ := h
  have p' : tG (X.G Γ) (tieD (X.G Γ)) W (e3c f g ma mb mc) σ H (fun x H' => ∃ k, x = .bl k ∧ Q k H') := by
    refine ⟨φ, ρ, μ, e, r, ?_⟩
    change Post (X.G Γ) tieB φ H (M.bind (e3c f g ma mb mc ρ) (fun x => isBl x) μ) _ _ at p
    unfold M.bind at p
    cases q : e3c f g ma mb mc ρ μ with
    | ok d μ1 =>
      rw [q] at p
      intro φ1 H1 v g1 r1 rv
      dsimp only at p
      cases rv with
      | bl k => exact ⟨k, rfl, Post.pure (Post.grow g1 p) r1 rfl⟩
      | _ => exact p.elim
    | exc x μ1 => rw [q] at p; exact p
    | bad => rw [q] at p; exact p
  exact chain_t hi hi' p'
end
/-- how many arguments a row has -/
theorem len0 : ∀ (ρ : Ev) (μ : Mem) (ds : List D) (μ' : Mem), lNil ρ μ = .ok ds μ' → ds.length = 0 := fun _ _ _ _ q => lNil_len q
theorem lenS {a : Ev → M D} {r : Ev → M (List D)} {n : Nat} (h : ∀ (ρ : Ev) (μ : Mem) (ds : List D) (μ' : Mem), r ρ μ = .ok ds μ' → ds.length = n) : ∀ (ρ : Ev) (μ : Mem) (ds : List D) (μ' : Mem), lCons a r ρ μ = .ok ds μ' → ds.length = n + 1 := fun _ _ _ _ q => lCons_len h q
end SE

/-! SEa: exceptions of the text: made, raised, read, asked for their class. -/
namespace SE
open PySem PySem.Spec PyProof.Rows L2
theorem oexB_ok {K : PySem.W.Frag} {C : Addr} (h : oexB K C = true) : OexC K C := by
  obtain ⟨h0, h⟩ := andB h
  obtain ⟨h1, h⟩ := andB h
  obtain ⟨h2, h⟩ := andB h
  obtain ⟨h3, h4⟩ := andB h
  refine ⟨?_, of_decide_eq_true h1, of_decide_eq_true h2, of_decide_eq_true h3, h4⟩
  cases q : K.lookup C with
  | none => rw [q] at h0; cases h0
  | some o =>
    rw [q] at h0
    obtain ⟨oc, od, dt, sl⟩ := o
    cases oc with
    | type t =>
      cases dt with
      | cls cd =>
        dsimp only at h0
        obtain ⟨e0, h0⟩ := andB h0
        have e0 := of_decide_eq_true e0
        subst e0
        obtain ⟨nm, bs, mro, ns, qn, hd, sn, sub, ab, col, dl⟩ := cd
        dsimp only at h0
        split at h0
        · rename_i C' bm k0 k1 k2 k3 n k5 e1 e2
          obtain ⟨_, h0⟩ := andB h0
          obtain ⟨g1, h0⟩ := andB h0
          obtain ⟨g2, h0⟩ := andB h0
          obtain ⟨g3, h0⟩ := andB h0
          obtain ⟨g4, g5⟩ := andB h0
          have g1 := of_decide_eq_true g1
          have g2 := of_decide_eq_true g2
          have g3' : dl = false := by simpa using g3
          have g5 : hd = true := g5
          subst g1 g2 g3' g5
          have e3 : sl = #[k0, k1, k2, k3, some (.builtin "ValueError.__new__"), k5] := by
            obtain ⟨l⟩ := sl
            have e1 : l = [k0, k1, k2, k3, some (.builtin "ValueError.__new__"), k5] := e1
            rw [e1]
          subst e3
          exact ⟨nm, qn, ns, bs, bm, sn, sub, ab, col, od, k0, k1, k2, k3, k5, rfl, g4⟩
        · cases h0
      | _ => cases h0
    | _ => cases h0
/-- a class with an __init__ of its own that keeps one field -/
structure ErrF (K : PySem.W.Frag) (C fI : Addr) (fld : Str) : Prop where
  T : OexC K C
  iC : PySem.W.findIn K (.ref C) "__init__" = some (some (.ref fI))
  tI : PySem.W.typeIn K (.ref fI) = some (.type "function")
  no : PySem.W.findIn K (.ref C) fld = some none
theorem errB_ok {K : PySem.W.Frag} {c fld : Str} (h : errB K c fld = true) : ErrF K (He.ga K c) (He.ma K (He.ga K c) "__init__") fld := by
  obtain ⟨h0, h⟩ := andB h
  obtain ⟨h1, h⟩ := andB h
  obtain ⟨h2, h3⟩ := andB h
  exact ⟨oexB_ok h0, of_decide_eq_true h1, of_decide_eq_true h2, of_decide_eq_true h3⟩
/-- what its own __init__ does -/
def spI (C : Addr) (fld : Str) : Sp := fun vs H Q _ => ∃ (a : Addr) (y : V), vs = [.ref a, y] ∧ H a = some (exo a C none) ∧ ∀ dx, H dx = none → dx ≠ a → Q .non (upd (upd H dx (exd dx [(fld, y)])) a (exo a C (some dx)))
theorem init1 {P : Program} {w : World} {K : PySem.W.Frag} {mg : Str → Option Value} {base : Heap} {CX : CXT} {x qual u v fld : Str} {params : Arguments} {scope : Scope} {C f : Addr} {fd : FuncData} {q1 q2 q3 q4 : Pos}
    (F : FunD K x qual params [.Assign [.Attribute (.Name u q1) fld q2] (.Name v q3) q4] scope [] [] f fd) (S : FnScope [u, v] [u, v] scope) (T : OexC K C) (no : PySem.W.findIn K (.ref C) fld = some none)
    (h1 : Vis scope u) (h2 : Vis scope v) (d1 : (u == ("__debug__" : Str)) = false := by decide) (d2 : (u == ("__classdict__" : Str)) = false := by decide) (d3 : (v == ("__debug__" : Str)) = false := by decide) (d4 : (v == ("__classdict__" : Str)) = false := by decide)
    (hs : ∀ env : PySem.Env, swapsWith (.Name v q3) (some (.Attribute (.Name u q1) fld q2)) q4.line env = pure false := by intro _; rfl) :
    FnOk P w K mg base CX 1 f fd [u, v] (spI C fld) := by
  refine F.ok (k := 0) S (fun vs H Q E h => ?_) fun cdv A outer s H vs Q E hr h => ?_
  · obtain ⟨a, y, rfl, _⟩ := h
    rfl
  · obtain ⟨a, y, rfl, e, hq⟩ := h
    exact ⟨_, pss_one (ps_ost (pe_var (i := 0) rfl h1 d1 d2) (pe_var (i := 1) rfl h2 d3 d4) (hs _)), y, rfl, .ref a, rfl, a, C, rfl, T, no, .inl ⟨e, hq⟩⟩
/-! ### raise C(e) -/
theorem pmkN_oex {X : Cx} {CX : CXT} {x : Str} {e : Expr} {es : List Expr} {ta : TA} {p pos : Pos} {C fI : Addr} {k : Nat} {fd : FuncData} {ps : List Str} {sp : Sp} (T : OexC X.K C) (iC : PySem.W.findIn X.K (.ref C) "__init__" = some (some (.ref fI))) (tI : PySem.W.typeIn X.K (.ref fI) = some (.type "function"))
    (F : FnOk X.prog X.w X.K X.mg X.base CX k fI fd ps sp) (room : Room (k + 1) X.A) (bn : Binds X.K fd ps []) (px : Passes CX X (fun _ _ _ => False)) (hg : Gl X x) (hm : X.mg x = some (.ref C)) (ha : PA X (e :: es) ta)
    (hdb : (x == ("__debug__" : Str)) = false := by decide) (he : starEach (e :: es) X.env = (false, eval e X.env) :: starEach es X.env := by rfl) (hpl : (backTo pos (starEach es X.env)).any (·.1) = false := by rfl) :
    L2N.PMk X (.Call (.Name x p) (e :: es) [] pos) (tMkO C sp [] ta) := by
  intro pins s σ H Q I wish
  obtain ⟨nm, q, N, bs, bm, sn, sub, ab, col, dd, k0, k1, k2, k3, k5, lkC, ve⟩ := T.cls
  refine wpAny_Call_Name_kw (ld_glob I hg hm (PySem.W.callWith_K (h₀ := X.base) I.ok.mod.kin T.kC (thn (ha.run pos pins s σ H _ I wish) fun us s1 got => ?_) he hpl) hdb)
  obtain ⟨vs, H1, I1, rv, nz, q1⟩ := got
  refine ⟨I1.kIn, ?_⟩ <;> show wpAny _ _ (call (.ref C) us) _ _ _
  obtain ⟨hh, gs, dr, tk, ow⟩ := s1
  have free : H1 (hh.objs.size + 1) = none := I1.hok.fresh (Nat.le_succ _)
  have wish2 := q1 _ free
  rw [List.append_nil] at wish2
  have keep : ∀ b o, hh.get? b = some o → ((hh.push (PySem.W.kdv_tup us)).push (PySem.HandSPX.excO C hh.objs.size)).get? b = some o := fun b o z => Heap.get?_push_of_some _ (Heap.get?_push_of_some _ z)
  have there : ((hh.push (PySem.W.kdv_tup us)).push (PySem.HandSPX.excO C hh.objs.size)).get? (hh.objs.size + 1) = some (PySem.HandSPX.excO C hh.objs.size) := by heap_get
  have J : Inv X pins σ (upd H1 (hh.objs.size + 1) (exo (hh.objs.size + 1) C none)) ⟨(hh.push (PySem.W.kdv_tup us)).push (PySem.HandSPX.excO C hh.objs.size), gs, dr, tk, ow⟩ := I1.laid (t' := tk) keep (Nat.le_succ _) (exo_ok there)
  have rv2 : Vals (V.ref (hh.objs.size + 1) :: vs) (Value.ref (hh.objs.size + 1) :: us) := .cons rfl rv
  have many : us.length ≤ sizeLine := Nat.le_trans (Nat.le_of_eq (Paired.length rv).symm) (Nat.le_trans nz (by rw [sizeLine_eq]; omega))
  have len2 : (Value.ref (hh.objs.size + 1) :: us ++ []).length = ps.length := by
    rw [List.append_nil, ← rv2.length]
    exact F.len _ _ _ _ wish2
  have bind2 := bn _ (Value.ref (hh.objs.size + 1) :: us) J.kIn len2
  rw [List.append_nil] at bind2
  refine wpAny_call (PySem.HandSPX.call_own PySem.F.excBase_ValueError (fun Y => PySem.HandSPX.refsVE_contains Y bm ve) (I1.kIn _ _ lkC) (PySem.W.looks_findIn I1.kIn iC) (fun self => PySem.W.bind_fn I1.kIn self tI) many
    (codeAny_mono (F.run _ X.stack _ _ ⟨Value.ref (hh.objs.size + 1) :: us, []⟩ (Value.ref (hh.objs.size + 1) :: us) _ _ (fun _ _ _ => False) (room.make C us []) (J.env0.make C us []) bind2 rv2 wish2) fun r s' back => ?_))
  cases r with
  | error er => exact px pins σ _ _ er s' J back
  | ok fl =>
    cases fl with
    | ret u =>
      obtain ⟨v, H2, ow2, bare2, un2, hok2, rl, ev, d, fs, ea, ed, hd1, q2⟩ := back
      subst ev
      obtain ⟨h2, g2, d2, t2, ow'⟩ := s'
      obtain ⟨t0, G, JG, kG, ge, hoe, na⟩ := mk_end0 (d2 := d2) (t2 := t2) I1 (Nat.le_succ _) keep un2 hok2 ow2 bare2 ea ed hd1
      refine ⟨rl, hh.objs.size + 1, _, _, ⟨G, g2, d2, t2, ow'⟩, _, .ref C, some d, rfl, JG, kG, ge, hoe, ⟨rfl, rfl, fun vs hv => ?_⟩, rfl, rfl, na, rfl, bare2, raises_own T.exC T.tyC, q2⟩
      cases hv
      rfl
    | next => exact back.elim
    | brk => exact back.elim
    | cont => exact back.elim
def sRaise (c fld : Str) (ml : Ev → M (List D)) : MS := fun ρ μ => bindS (ml ρ μ) ρ fun ds μ' => match ds with
  | [d] => .exc ⟨c, [(fld, d)]⟩ ρ μ'
  | _ => .bad
section
variable {X : Cx} {W : WX} {Γ : Gs} {c fld : Str} {C fI : Addr} {fd : FuncData} {ps : List Str} {e : Expr} {ml : Ev → M (List D)} {p p' pos : Pos}
theorem s_raise1 (hc : X.calm = true) (tk : L2N.Takes X W) (T : ErrF X.K C fI fld) (F : FnOk X.prog X.w X.K X.mg X.base (L2N.CX X.prog X.w) 1 fI fd ps (spI C fld)) (hr : Room 2 X.A) (hb : Binds X.K fd ps []) (hg : Gl X c) (hm : X.mg c = some (.ref C)) (ha : JL X Γ W [e] ml) (h0 : Γ.off = Γ)
    (hdb : (c == ("__debug__" : Str)) = false := by decide) (he : starEach [e] X.env = (false, eval e X.env) :: starEach [] X.env := by rfl) : JS X Γ W (.Raise (some (.Call (.Name c p) [e] [] p')) none pos) (sRaise c fld ml) := by
  have hx : Passes (L2N.CX X.prog X.w) X (fun _ _ _ => False) := L2N.passes_call tk fun _ _ _ _ z => z.elim
  refine ps_w (L2N.ps_raise hc tk (pmkN_oex T.T T.iC T.tI F hr hb hx hg hm ha hdb he rfl)) fun Z σ H h => ?_
  obtain ⟨φ, ρ, μ, ev, r, q⟩ := h
  refine bS ev r q fun φ1 H1 ds vs μ1 g1 e1 r1 rv p1 => ?_
  match ds, vs, rv, p1 with
  | [], _, _, p1 => exact p1.elim
  | _ :: _ :: _, _, _, p1 => exact p1.elim
  | [d], [y], .cons rd .nil, p1 =>
    refine ⟨by simp, fun a na => ⟨a, y, rfl, upd_same, fun dx hdx ne => ⟨rfl, dx, [(fld, y)], upd_same, ?_, ?_, ?_⟩⟩⟩
    · rw [upd_ne ne, upd_same]
    · rw [upd_ne ne] at hdx
      exact hdx
    · rw [upd_ne ne] at hdx
      have same : upd (del (upd (upd (upd H1 a (exo a C none)) dx (exd dx [(fld, y)])) a (exo a C (some dx))) a) dx (.xd [(fld, y)]) = upd H1 dx (.xd [(fld, y)]) := by
        funext b
        by_cases hb : b = dx
        · rw [hb, upd_same, upd_same]
        · rw [upd_ne hb, upd_ne hb]
          by_cases hba : b = a
          · rw [hba, del_same, na]
          · rw [del_ne hba, upd_ne hba, upd_ne hb, upd_ne hba]
      rw [same]
      have G1 : Grow φ1 H1 φ1 (upd H1 dx (.xd [(fld, y)])) := Grow.laid hdx
      refine p1 φ1 _ σ (.ref C) (some dx) G1 (r1.laid hdx) (e1.grow G1) ⟨⟨C, rfl, hm⟩, .inr ⟨dx, [(fld, y)], rfl, upd_same, r1.out hdx, .cons ?_ .nil⟩⟩
      rw [Gx.off_eq (G := X.G Γ) h0]
      exact rd.grow G1
end
/-! ### what stands at an exception's address -/
theorem err_at {X : Cx} {Γ : Gs} {pins : List (Addr × Obj)} {σ : L2.St} {H : Hp} {s : Shared} {φ : Lab} {a : Addr} {oe : Obj} (I : Inv X pins σ H s) (hc : ∀ p, Γ.cur = some p → p ∈ X.pn) (h : ErrAt (X.G Γ) φ H a oe) : s.heap.get? a = some oe := by
  rcases h with h | ⟨u, h, _⟩
  · exact (I.pin _ (List.mem_append_left _ (hc _ h))).1
  · exact (I.hok a _ h).1
/-! ### e.f of an exception -/
def atM (cs : List Str) (f : Str) (d : D) : M D := fun μ => match d with
  | .err c fs => if cs.contains c = true then (match fs.lookup f with
    | some v => .ok v μ
    | none => .bad) else .bad
  | _ => .bad
def AtOk (K : PySem.W.Frag) (mg : Str → Option Value) (cs : List Str) (f : Str) : Prop := ∀ c ∈ cs, ∀ C, mg c = some (.ref C) → XfC K C ∧ PySem.W.findIn K (.ref C) f = some none
theorem RpF.look {G : Gx} {φ : Lab} {H : Hp} {f : Str} {d : D} : ∀ {fs : List (Str × D)} {vs : List (Str × V)}, RpF G φ H fs vs → fs.lookup f = some d → ∃ v, vs.lookup f = some v ∧ Rp G φ H d v
  | _, _, .nil, h => by cases h
  | (k, e) :: fs, (_, u) :: vs, .cons r t, h => by
    by_cases q : f == k
    · simp only [List.lookup, q] at h ⊢
      cases h
      exact ⟨u, rfl, r⟩
    · simp only [List.lookup, Bool.eq_false_iff.mpr q] at h ⊢
      exact RpF.look t h
section
variable {X : Cx} {W : WX} {Γ : Gs} {cs : List Str} {e : Expr} {m : Ev → M D} {f : Str} {pos : Pos}
theorem j_at (hc : ∀ p, Γ.cur = some p → p ∈ X.pn) (hA : AtOk X.K X.mg cs f) (he : JE X Γ W e m) (hb : attributeBase e f X.env (eval e X.env) = eval e X.env := by rfl) : JE X Γ W (.Attribute e f pos) (e1 (atM cs f) m) := by
  refine ⟨fun pins s σ H Q I h => ?_⟩
  have h' : tG (X.G Γ) (tieD (X.G Γ)) W m σ H fun v H1 => ∃ φ d μ, MemR (X.G Γ) φ μ H1 ∧ Rp (X.G Γ) φ H1 d v ∧ Post (X.G Γ) (tieD (X.G Γ)) φ H1 (atM cs f d μ) Q fun cls dd H' => W cls dd σ H' :=
    bE h fun φ1 H1 x v ρ μ1 _ r rv p => ⟨φ1, x, μ1, r, rv, p⟩
  refine attr_of hb (thn (he.run pins s σ H _ I h') fun u s1 hu => ?_)
  obtain ⟨v, H1, I1, rl, φ, d, μ, rm, rd, po⟩ := hu
  cases rd with
  | @err c C a dd oe fs vs ha hk hd hx hn rf =>
    obtain rfl : u = Value.ref a := rl
    unfold atM at po
    by_cases q : cs.contains c = true
    · simp only [if_pos q] at po
      obtain ⟨T, no⟩ := hA c (List.contains_iff_mem.mp q) C hk.mg
      cases q2 : fs.lookup f with
      | none =>
        simp only [q2] at po
        exact po.elim
      | some d2 =>
        simp only [q2] at po
        obtain ⟨y, l, ry⟩ := rf.look q2
        have get := err_at I1 hc ha
        obtain ⟨mA, hns, hr⟩ := (I1.hok dd _ hx : ObjOk X.prog X.w H1 s1.heap dd (.xd vs))
        obtain ⟨od, ho, hl⟩ := lookIn_ns hns
        obtain ⟨t, ht, rt⟩ := RelO.some_of (v := y) (o := mA f) (by rw [← l]; exact hr f)
        obtain ⟨us, hus⟩ := hk.fields
        have J : PySem.W.InstAt s1.heap a oe C (some od) := by
          refine ⟨get, hk.cls, ?_, by rw [hd]; exact ho⟩
          unfold PySem.W.notCls
          rw [hus]
        have fo := PySem.W.findObj_own T.hdC no rfl ((hl f).trans (congrArg some ht))
        exact HandSPX.exc_get I1.kIn J T.ga T.gg T.exC fo (handed_of rt) ⟨y, H1, I1.tok _, rt, Post.pure po rm ry⟩
    · simp only [if_neg q] at po
      exact po.elim
  | @err0 c _ _ _ _ _ _ =>
    unfold atM at po
    by_cases q : cs.contains c = true
    · simp only [if_pos q] at po
      exact po.elim
    · simp only [if_neg q] at po
      exact po.elim
  | _ => exact po.elim
end
end SE

/-! SEb: isinstance of an exception, its own dict allowed. -/
namespace SE
open PySem PySem.Spec PyProof.Rows L2
section
open PySem.W
variable {P : Program} {wd : World} {A : Around} {Er : Value → Shared → Prop} {K : Frag} {D : Addr}
theorem find_klass {od : Option Obj} (c : ExcC K D) : findObj K D od "__class__" = some (.bind (.builtin "getset_descriptor.__get__") (.builtin "object.__class__")) := by
  obtain ⟨cd, hc, _⟩ := any_some c.hd
  show ((clsIn K D).bind _) = _
  rw [hc, Option.bind_some, c.ha, Option.bind_some]
  have h1 := c.hn
  have h2 := c.ht
  simp only [h1, h2, Option.bind_some]
/-- e.__class__ is the class -/
theorem klass_of {a : Addr} {oa : Obj} {od : Option Obj} {sh : Shared} {Qo : Option Value → Shared → Prop} (c : ExcC K D) (kin : K.In sh.heap) (at_ : InstAt sh.heap a oa D od) (hq : Qo (some (.ref D)) { sh with toks := sh.toks + 1 }) :
    wpAny (model P wd) A (getAttr? (.ref a) "__class__") Qo Er sh := by
  obtain ⟨hh, gs, dr, tk, ow⟩ := sh
  have ty := at_.type (M := model P wd); have f1 := looks_findIn (M := model P wd) kin c.hg; have f2 := looks_findIn (M := model P wd) kin c.hk
  have fd := looks_find (M := model P wd) kin at_ (find_klass c); have ba : Looks (model P wd) hh (isInstance (.ref a) (.type "BaseException")) true := ty.andThen (looks_subIn kin c.hs)
  have no1 : (Value.builtin "BaseException.__getattribute__" == Value.builtin "object.__getattribute__") = false := by decide +kernel
  have no2 : (onTheHeap (Value.ref D) && Value.builtin "BaseException.__getattribute__" == Value.builtin "object.__getattribute__") = false := by rw [no1, Bool.and_false]
  have no3 : (false && onTheHeap (Value.builtin "BaseException.__getattribute__")) = false := Bool.false_and _
  unfold getAttr? getAttrBy?; unfold getAttrBy
  refine wpAny_bind (wpAny_mkText (wpAny_bind (wpAny_attempt (wpAny_holding (wpAny_bind (ty.at (wpAny_bind (f1.at ?_)))))))) <;> show wpAny _ _ (ite ((onTheHeap (Value.ref D) && Value.builtin "BaseException.__getattribute__" == Value.builtin "object.__getattribute__") = true) _ _) _ _ _
  rw [no2, if_neg Bool.false_ne_true]; unfold getAttrByItsOwn; unfold hookBefore
  have on : onTheHeap (Value.ref D) = true := rfl
  refine wpAny_bind ?_; rw [if_pos on]
  refine f2.at (wpAny_bind (wpAny_attempt (wpAny_holding ?_))); unfold callGetattribute; rw [no3, if_neg Bool.false_ne_true]
  unfold boundAndCalled; rw [PySem.F.excAttr_ValueError.ga.bind (.ref a)]
  refine wpAny_bind (wpAny_pure ?_) <;> show wpAny _ _ (call (.builtin "BaseException.__getattribute__") [.ref a, .str "__class__" tk]) _ _ _
  refine wpAny_call (codeAny_call_builtin PySem.F.excAttr_ValueError.ga.plain PySem.F.entry_bexc_ga (@check_slot (model P wd) _ _ ⟨hh, gs, dr, tk + 1, ow⟩ "BaseException.__getattribute__" "BaseException" "__getattribute__" (.ref a) [.str "__class__" tk] [] _ (by decide +kernel) (by decide +kernel) ba (PySem.F.args_bexc_ga (.ref a) (.str "__class__" tk)) ?_))
  unfold Builtin.«object.__getattribute__»; refine wpAny_bind (wpAny_of_eq (a := ((Value.ref a : Value), [Value.str "__class__" tk])) (by first | rfl | (simp only [slotArgs]; rfl)) (wpAny_bind (wpAny_pure (wpAny_bind (ty.at (wpAny_bind (fd.at ?_)))))))
  show wpAny _ _ (holding [Value.builtin "object.__class__"] (call (.builtin "getset_descriptor.__get__") [.builtin "object.__class__", .ref a, .ref D]) >>= ret) _ _ _ <;> refine wpAny_bind (wpAny_holding (wpAny_call (class_get (s := ⟨hh, gs, dr, tk + 1, ow⟩) (ox := oa) (od := od) kin at_ c.hm ?_)))
  refine wpAny_pure ?_ <;> show wpAny _ _ (handedOut (.ref D)) _ _ _
  rw [handedOut_of (v := .ref D) rfl]
  first
    | exact wpAny_pure (wpAny_pure hq)
    | exact wpAny_pure hq
    | exact wpAny_pure (wpAny_bind (wpAny_pure (wpAny_pure hq)))
theorem kit_err {a : Addr} {oa : Obj} {od : Option Obj} (c : ExcC K D) : KitX K (.ref a) (.ref D) (fun h => InstAt h a oa D od) := by
  obtain ⟨cd, hc, _⟩ := any_some c.hd
  have cls : ∃ oc dd sl, K.lookup D = some ⟨oc, dd, .cls cd, sl⟩ := by
    unfold clsIn at hc
    split at hc
    · rename_i ho
      cases hc
      exact ⟨_, _, _, ho⟩
    · cases hc
  obtain ⟨oc, dd, sl, lk⟩ := cls
  refine ⟨fun _ _ _ I => I.type, fun _ _ kin _ => ?_, fun h tp td its n sl' kin htp => ?_, fun kin I q => klass_of c kin I q⟩
  · intro A' Q' E' s' k q
    unfold isType; unfold loadHead
    exact wpAny_bind (wpAny_loadPart (k _ _ (kin _ _ lk)) (wpAny_pure q))
  · cases e : (Value.ref D == Value.ref tp) with
    | false => rfl
    | true =>
      have e1 : D = tp := Value.ref.inj (beq_iff_eq.mp e)
      rw [← e1, kin _ _ lk] at htp
      cases htp
end
/-! ### isinstance(e, C) -/
def CT.get (ct : CT) (c : Str) : Option ClsE := ct.es.find? fun e => decide (e.c = c)
/-- isinstance, of exceptions too -/
def isiE (ct : CT) : List D → M D
  | [.err c _, .gl T], μ => (match ct.get c with
    | some e => if ct.ns.contains T = true then .ok (.bl (e.ups.contains T)) μ else .bad
    | none => .bad)
  | [.err c _, .ty T], μ => (match ct.get c with
    | some e => if ct.ts.contains T = true then .ok (.bl (e.bs.contains T)) μ else .bad
    | none => .bad)
  | ds, μ => isiM ds μ
structure CtOk (K : PySem.W.Frag) (mg : Str → Option Value) (ct : CT) : Prop where
  ex : ∀ e ∈ ct.es, ∀ C, mg e.c = some (.ref C) → ExcC K C
  own : ∀ e ∈ ct.es, ∀ C, mg e.c = some (.ref C) → ∀ T ∈ ct.ns, ∀ a, mg T = some (.ref a) → PySem.W.kitOne K (.ref C) (.ref a) = some (e.ups.contains T)
  blt : ∀ e ∈ ct.es, ∀ C, mg e.c = some (.ref C) → ∀ T ∈ ct.ts, PySem.W.kitOne K (.ref C) (.type T) = some (e.bs.contains T)
theorem CT.get_mem {ct : CT} {c : Str} {e : ClsE} (h : ct.get c = some e) : e ∈ ct.es ∧ e.c = c :=
  ⟨List.mem_of_find?_eq_some h, by
    have := List.find?_some h
    simpa using this⟩
def rIsiE (X : Cx) (Γ : Gs) : List V → Hp → VK → Prop := fun xs H Q => rIsi (X.G Γ) xs H Q ∨
  ∃ φ a oe C t cv b, xs = [.ref a, t] ∧ (∀ u, RelV t u → u = cv) ∧ ErrAt (X.G Γ) φ H a oe ∧ oe.cls = .ref C ∧ (∃ us, oe.data = .fields us) ∧ (oe.dict = none ∨ ∃ d vs, oe.dict = some d ∧ H d = some (.xd vs)) ∧ ExcC X.K C ∧ PySem.W.kitOne X.K (.ref C) cv = some b ∧ Q (.bl b) H
theorem call_isiE {X : Cx} {Γ : Gs} (hc : ∀ p, Γ.cur = some p → p ∈ X.pn) : CallR X (.builtin "isinstance") (rIsiE X Γ) := by
  intro pins s σ H xs us Q I r h
  rcases h with h | ⟨φ, a, oe, C, t, cv, b, rfl, hcv, he, hk, ⟨fs, hf⟩, hd, c, k, q⟩
  · exact call_isiD (Γ := Γ) pins s σ H xs us Q I r h
  · cases r with
    | cons r1 rr =>
      cases rr with
      | cons r2 rr =>
        cases rr
        cases r1
        have e2 := hcv _ r2
        subst e2
        have get := err_at I hc he
        have nc : PySem.W.notCls oe = true := by
          unfold PySem.W.notCls
          rw [hf]
        have fin : ∀ tk, EP X pins σ Q (.bool b) { s with toks := tk } := fun tk => ⟨.bl b, H, I.kept (t' := tk) fun _ _ z => z, rfl, q⟩
        rcases hd with hd | ⟨d, vs, hd, hx⟩
        · exact PySem.W.kia_one (kit_err (od := none) c) I.kIn ⟨get, hk, nc, by rw [hd]; trivial⟩ k (fun z => nomatch z) fin
        · obtain ⟨mA, hns, _⟩ := (I.hok d _ hx : ObjOk X.prog X.w H s.heap d (.xd vs))
          obtain ⟨od, ho, _⟩ := lookIn_ns hns
          exact PySem.W.kia_one (kit_err (od := some od) c) I.kIn ⟨get, hk, nc, by rw [hd]; exact ho⟩ k (fun z => nomatch z) fin
theorem isiE_i {X : Cx} {Γ : Gs} {ct : CT} (hct : CtOk X.K X.mg ct) : CallI (X.G Γ) (isiE ct) (rIsiE X Γ) := by
  intro φ μ H a x Q E R r p
  unfold isiE at p
  split at p
  · rename_i c fs T
    obtain ⟨v, w, rfl, r1, r2⟩ := r.two
    cases q : ct.get c with
    | none => simp only [q] at p; exact p.elim
    | some e =>
      obtain ⟨hm, rfl⟩ := CT.get_mem q
      simp only [q] at p
      by_cases hT : ct.ns.contains T = true
      · simp only [if_pos hT] at p
        have hT' := List.contains_iff_mem.mp hT
        cases r2 with
        | @gl _ b hb =>
          cases r1 with
          | err ha hk hd hx hn rf => exact .inr ⟨φ, _, _, _, _, .ref b, _, rfl, fun u z => z, ha, hk.cls, hk.fields, .inr ⟨_, _, hd, hx⟩, hct.ex e hm _ hk.mg, hct.own e hm _ hk.mg T hT' b hb, Post.pure p R (.bl _)⟩
          | err0 ha hk hd => exact .inr ⟨φ, _, _, _, _, .ref b, _, rfl, fun u z => z, ha, hk.cls, hk.fields, .inl hd, hct.ex e hm _ hk.mg, hct.own e hm _ hk.mg T hT' b hb, Post.pure p R (.bl _)⟩
      · simp only [if_neg hT] at p
        exact p.elim
  · rename_i c fs T
    obtain ⟨v, w, rfl, r1, r2⟩ := r.two
    cases q : ct.get c with
    | none => simp only [q] at p; exact p.elim
    | some e =>
      obtain ⟨hm, rfl⟩ := CT.get_mem q
      simp only [q] at p
      by_cases hT : ct.ts.contains T = true
      · simp only [if_pos hT] at p
        have hT' := List.contains_iff_mem.mp hT
        cases r2
        cases r1 with
        | err ha hk hd hx hn rf => exact .inr ⟨φ, _, _, _, _, .type T, _, rfl, fun u z => z, ha, hk.cls, hk.fields, .inr ⟨_, _, hd, hx⟩, hct.ex e hm _ hk.mg, hct.blt e hm _ hk.mg T hT', Post.pure p R (.bl _)⟩
        | err0 ha hk hd => exact .inr ⟨φ, _, _, _, _, .type T, _, rfl, fun u z => z, ha, hk.cls, hk.fields, .inl hd, hct.ex e hm _ hk.mg, hct.blt e hm _ hk.mg T hT', Post.pure p R (.bl _)⟩
      · simp only [if_neg hT] at p
        exact p.elim
  · exact .inl (isi_i φ μ H _ x Q E R r p)
end SE

/-! SEc: try with several clauses, each with a name or not, a class or a tuple of three. -/
namespace SE
open PySem PySem.Spec PyProof.Rows L2
/-! ### a clause's test -/
/-- what is known in the clause: the exception at a stands in the heap -/
def Tests (X : Cx) (te : Expr) (f : Value → Option Bool) : Prop :=
  ∀ (a : Addr) (oe : Obj) (pn : List (Addr × Obj)) (σ : L2.St) (H : Hp) (s : Shared) (cls : Value) (b : Bool) (Qb : Bool → Shared → Prop) (Er : Value → Shared → Prop),
    Inv (X.suite a ((a, oe) :: pn)) [] σ H s → s.heap.get? a = some oe → oe.cls = cls → f cls = some b →
    (∀ s' : Shared, (∀ c o, s.heap.get? c = some o → s'.heap.get? c = some o) → Inv (X.suite a ((a, oe) :: pn)) [] σ H s' → Qb b s') →
    wpAny (model X.prog X.w) (X.A.mark (some (.ref a))) (eval te X.env) (fun c s1 => wpAny (model X.prog X.w) (X.A.mark (some (.ref a))) (excMatches (.ref a) c) Qb Er s1) Er s
theorem look_name {X : Cx} {a : Addr} {oe : Obj} {pn : List (Addr × Obj)} {σ : L2.St} {H : Hp} {s : Shared} {x : Str} {c : Value} {np : Pos} {Q : Value → Shared → Prop} {E : Value → Shared → Prop} (I : Inv (X.suite a ((a, oe) :: pn)) [] σ H s) (hc : Names X x c) (q : Q c s) :
    wpAny (model X.prog X.w) (X.A.mark (some (.ref a))) (eval (.Name x np) X.env) Q E s := by
  obtain ⟨g, d, m | ⟨m, v, n⟩⟩ := hc
  · exact ld_glob (X := X.suite a ((a, oe) :: pn)) I g m q d
  · exact ld_blt (X := X.suite a ((a, oe) :: pn)) I g m v q n d
theorem tests_one {X : Cx} {x : Str} {c : Value} {np : Pos} (hc : Names X x c) : Tests X (.Name x np) (fun cls => PySem.W.exmOne X.K cls c) := by
  intro a oe pn σ H s cls b Qb Er I ha hk hf hq
  refine look_name I hc ?_
  have ty : PySem.W.Looks (model X.prog X.w) s.heap (typeOf (.ref a)) cls := fun A Q E s' k q => wpAny_typeOf_ref (k _ _ ha) (by rw [hk]; exact q)
  exact (PySem.W.exm_one I.kIn ty hf).here (hq s (fun _ _ z => z) I)
theorem tests_three {X : Cx} {x y z : Str} {c1 c2 c3 : Value} {p1 p2 p3 p4 : Pos} {k : Nat} (h1 : Names X x c1) (h2 : Names X y c2) (h3 : Names X z c3) (hs : starEach [.Name x p1, .Name y p2, .Name z p3] X.env = [(false, eval (.Name x p1) X.env), (false, eval (.Name y p2) X.env), (false, eval (.Name z p3) X.env)] := by rfl) :
    Tests X (.Tuple [.Name x p1, .Name y p2, .Name z p3] k p4) (fun cls => PySem.W.exmAny X.K cls [c1, c2, c3]) := by
  intro a oe pn σ H s cls b Qb Er I ha hk hf hq
  refine wpAny_Tuple_spliced ?_
  rw [hs]
  refine Calls.spliced_cons (look_name I h1 (Calls.spliced_cons (look_name I h2 (Calls.spliced_cons (look_name I h3 (Calls.spliced_nil ⟨by show 3 ≤ sizeLine; rw [sizeLine_eq]; omega, ?_⟩))))))
  have keep : ∀ d o, s.heap.get? d = some o → (s.heap.push { cls := .type "tuple", data := .seq [c1, c2, c3].toArray }).get? d = some o := fun d o e => Heap.get?_push_of_some _ e
  have I2 : Inv (X.suite a ((a, oe) :: pn)) [] σ H { s with heap := s.heap.push { cls := .type "tuple", data := .seq [c1, c2, c3].toArray } } := I.kept (t' := s.toks) keep
  have ty : PySem.W.Looks (model X.prog X.w) (s.heap.push { cls := .type "tuple", data := .seq [c1, c2, c3].toArray }) (typeOf (.ref a)) cls := fun A Q E s' k q => wpAny_typeOf_ref (k _ _ (keep _ _ ha)) (by rw [hk]; exact q)
  exact (PySem.W.exm_tup3 I2.kIn ty (Heap.get?_push_size _ rfl) hf).here (hq _ keep I2)
/-! ### the clauses -/
/-- its context is None -/
def HotO (oe : Obj) : Prop := ∃ vs : Array Value, oe.data = .fields vs ∧ vs[2]? = some .none
/-- a clause: its test, the name's slot, its suite's reading -/
structure HdT where
  f : Value → Option Bool
  i : Option Nat
  ts : Addr → Obj → TS
def dropI (i : Option Nat) (σ : L2.St) : L2.St := match i with
  | some i => σ.set i none
  | none => σ
def putI (i : Option Nat) (a : Addr) (σ : L2.St) : L2.St := match i with
  | some i => σ.set i (some (.ref a))
  | none => σ
def endI (i : Option Nat) (D : Ends) : Ends := { nx := fun σ H => D.nx (dropI i σ) H, rt := D.rt, bk := fun σ H => D.bk (dropI i σ) H, ct := fun σ H => D.ct (dropI i σ) H }
def wTry (Wout : WX) (D : Ends) : List HdT → WX
  | [] => Wout
  | h :: r => fun cls d σ H => ∃ b, h.f cls = some b ∧ (b = true → ∀ a oe, H a = none → L2N.Zn cls d oe → (∃ vs, oe.data = .fields vs) → h.ts a oe (endI h.i D) (putI h.i a σ) H) ∧ (b = false → wTry Wout D r cls d σ H)
def nameOk (X : Cx) (n : Option Str) (i : Option Nat) : Prop := match n, i with
  | some n, some i => X.N[i]? = some n ∧ X.env.kindOf n = some .local
  | none, none => True
  | _, _ => False
inductive Clauses (X : Cx) : List ExceptHandler → List HdT → Prop
  | nil : Clauses X [] []
  | cons {te : Expr} {n : Option Str} {h : HdT} {b₀ : Stmt} {suite : List Stmt} {p : Pos} {hds : List ExceptHandler} {l : List HdT} (ht : Tests X te h.f) (hn : nameOk X n h.i)
      (hsu : ∀ (a : Addr) (oe : Obj) (pn : List (Addr × Obj)), HotO oe → PSs (X.suite a ((a, oe) :: pn)) (b₀ :: suite) (h.ts a oe)) (r : Clauses X hds l) : Clauses X (.ExceptHandler (some te) n (b₀ :: suite) p :: hds) (h :: l)
theorem fly_keep {B : Heap} {l : List PySem.Env} {e : Addr} {Z : Obj → Prop} {h h' : Heap} (f : HandSPX.FlyingZ B l e Z h) (k : ∀ b o, h.get? b = some o → h'.get? b = some o) : HandSPX.FlyingZ B l e Z h' := by
  obtain ⟨f1, f2, f3, oe, vs, T, oT, ts, g1, g2, g3, g4, g5, g6, g7, g8, g9⟩ := f
  exact ⟨fun b o q => k b o (f1 b o q), f2, f3.of_keeps fun b o q _ => ⟨o, k b o q, rfl⟩, oe, vs, T, oT, ts, k _ _ g1, g2, g3, g4, g5, g6, k _ _ g7, g8, g9⟩
section
variable {X : Cx} {body : List Stmt} {h₀ : ExceptHandler} {hds : List ExceptHandler} {l : List HdT} {pos : Pos} {tb : WX → TS} {Wout : WX}
theorem ps_try_all (hs : X.stack = X.env :: X.outer) (hf : X.env.frame = some X.env.locals) (hN : X.N.Nodup) (tk : L2N.Takes X Wout)
    (hb : ∀ (W : WX) (pn : List (Addr × Obj)) (xe : Value → Shared → Prop), L2N.Takes (X.tr pn xe) W → PassesOwn (model X.prog X.w) X.A X.env xe → PSs (X.tr pn xe) body (tb W)) (hh : Clauses X (h₀ :: hds) l) :
    PS X (.Try body (h₀ :: hds) [] [] pos) (fun D σ H => tb (wTry Wout D l) D σ H) := by
  refine ⟨fun pins s σ H D I h => ?_⟩
  have ok := I.ok; have fr : X.A.frames = some (X.env :: X.outer) := ok.frames.trans (congrArg some hs)
  refine wpAny_Try_except (wpAny_mono ((hb (wTry Wout D l) (X.pn ++ pins) (fun e s₁ => wpAny (model X.prog X.w) X.A (noteFrame e X.env) (fun _ s₂ => wpAny (model X.prog X.w) X.A (setFlight e none) (fun _ s₃ =>
    wpAny (model X.prog X.w) X.A (handleBy e X.env (h₀ :: hds)) (SP X pins D) X.xe s₃) X.xe s₂) X.xe s₁) (fun u s' xx => ?_) PassesOwn.looking).run [] s σ H D (I.toTry _) h) (fun f s1 out => ?_) (fun e s1 he => he))
  · obtain ⟨a, B, sI, pins', σ', H', cls, d, rfl, J0, nb, up, sky, na, os, ag, w⟩ := xx
    have J : Inv X pins σ' H' sI := J0.ofTry ok
    rw [hs] at sky
    refine L2N.Sky.land (Z := L2N.Zn cls d) (M := model X.prog X.w) (A := X.A) L2N.Zn.steady fr hf sky fun g3 fl up3 => ?_
    have apart : ∀ {g : Heap} {o : Obj} {vs : Array Value}, g.FunFrames B (X.env :: X.outer) → g.get? a = some o → o.data = .fields vs → a ∉ frs (X.env :: X.outer) := by
      intro g o vs ff e dd hm
      obtain ⟨_, o2, e2, nf⟩ := ff.mem hm
      rw [e] at e2
      cases e2
      exact nf _ dd
    have clear : ∀ {g : Heap}, HandSPX.FlyingZ B (X.env :: X.outer) a (L2N.Zn cls d) g → a ∉ frs (X.env :: X.outer) := by
      intro g f
      obtain ⟨o, vs, e, _, dd⟩ := f.there
      exact apart f.2.2.1 e dd
    have c3 := clear fl
    have cL : a ≠ X.env.locals := fun z => c3 (List.mem_filterMap.mpr ⟨X.env, List.mem_cons_self, hf.trans (congrArg some z.symm)⟩)
    have cF : a ∉ X.fs := fun hm => c3 (by
      obtain ⟨v, hv, q⟩ := List.mem_filterMap.mp hm
      exact List.mem_filterMap.mpr ⟨v, List.mem_cons_of_mem _ hv, q⟩)
    -- from any state in which it flies
    have go : ∀ {hds' : List ExceptHandler} {l' : List HdT}, Clauses X hds' l' → wTry Wout D l' cls d σ' H' → ∀ (sx : Shared), Inv X pins σ' H' sx → HandSPX.FlyingZ B (X.env :: X.outer) a (L2N.Zn cls d) sx.heap → sI.heap.UpToSlots sx.heap → sx.os = sI.os → AllBare sx.gens →
        wpAny (model X.prog X.w) X.A (handleBy (.ref a) X.env hds') (SP X pins D) X.xe sx := by
      intro hds' l' hk
      induction hk with
      | nil =>
        intro w sx Jx fx ux ox gx
        refine wpAny_handleBy_nil ?_
        obtain ⟨k1, k2, k3, oe, vs, T, oT, ts', he, hz, hd, h1, hr⟩ := id fx
        unfold PySem.passOn; refine wpAny_bind (wpAny_field he hd h1 ?_)
        rw [if_neg (by simp : ¬ ((Value.ref T == Value.none) = true))]
        have last : wpAny (model X.prog X.w) X.A (setFlight (.ref a) X.env.frame) (fun _ s4 => wpAny (model X.prog X.w) X.A (throw (.ref a) : Sem Flow) (SP X pins D) X.xe s4) X.xe sx := by
          rw [hf]
          exact HandSPX.setFlight_upZ fx fun g4 held up4 => wpAny_throw (tk _ _ ⟨a, B, sI, pins, σ', H', cls, d, rfl, J, nb, ux.trans up4, .inr (.inr (by rw [hs]; exact held)), na, ox, gx, w⟩)
        first
          | exact wpAny_bind (wpAny_pure (wpAny_bind last))
          | exact wpAny_bind last
      | @cons te n h b₀ suite p hds2 l2 ht hn hsu r ih =>
        intro w sx Jx fx ux ox gx
        obtain ⟨b, hb1, yes, no⟩ := w
        obtain ⟨oe, vs, he, hz, hd⟩ := fx.there
        have Sx := Jx.suite he hd na cL cF
        refine wpAny_handleBy_cons (codeAny_handlers_test (ht a oe _ σ' H' sx cls b _ _ Sx he hz.1 hb1 fun sy ky Sy => ?_)) (by intro q; cases q)
        have fy := fly_keep fx ky
        have Jy : Inv X pins σ' H' sy := Sy.unsuite ok
        have uy : sI.heap.UpToSlots sy.heap := fun c o e nf => by
          obtain ⟨sl, q⟩ := ux c o e nf
          exact ⟨sl, ky _ _ q⟩
        have oy : sy.os = sI.os := Jy.os.trans J.os.symm
        cases b with
        | false => exact ih (no rfl) sy Jy fy uy oy Jy.bare
        | true =>
          have go2 : ∀ {Qf : Flow → Shared → Prop}, (∀ f s6, SP (X.suite a ((a, oe) :: (X.pn ++ pins))) [] (endI h.i D) f s6 → Qf f s6) → True := fun _ => trivial
          cases n with
          | none =>
            cases qi : h.i with
            | some i =>
              unfold nameOk at hn
              rw [qi] at hn
              exact hn.elim
            | none =>
              refine codeAny_handlers_suite (HandSPX.lands_againZ fy fun g4 fl4 up4 => ?_)
              have J4 : Inv X pins σ' H' { sy with heap := g4 } := J.landed nb fl4.1 (uy.trans up4) oy Jy.bare
              obtain ⟨o4, vs4, e4, z4, d4⟩ := fl4.there
              have S4 := J4.suite e4 d4 na cL cF
              have wish := yes rfl a o4 na z4 ⟨_, d4⟩
              rw [qi] at wish
              refine wpAny_mono ((hsu a o4 _ ⟨_, d4, z4.2.2 _ d4⟩).run [] _ _ H' _ S4 wish) (fun f s6 q => ?_) (fun _ _ z => z.elim)
              cases f with
              | next => obtain ⟨σ6, H6, S6, q6⟩ := q; exact ⟨_, _, S6.unsuite ok, q6⟩
              | brk => obtain ⟨σ6, H6, S6, q6⟩ := q; exact ⟨_, _, S6.unsuite ok, q6⟩
              | cont => obtain ⟨σ6, H6, S6, q6⟩ := q; exact ⟨_, _, S6.unsuite ok, q6⟩
              | ret u => obtain ⟨v6, σ6, H6, S6, r6, q6⟩ := q; exact ⟨_, _, _, S6.unsuite ok, r6, q6⟩
          | some n =>
            cases qi : h.i with
            | none =>
              unfold nameOk at hn
              rw [qi] at hn
              exact hn.elim
            | some i =>
              unfold nameOk at hn
              rw [qi] at hn
              obtain ⟨hi, hln⟩ := hn
              refine codeAny_handlers_suite_as (HandSPX.lands_againZ fy fun g4 fl4 up4 => ?_)
              have J4 : Inv X pins σ' H' { sy with heap := g4 } := J.landed nb fl4.1 (uy.trans up4) oy Jy.bare
              obtain ⟨o4, vs4, e4, z4, d4⟩ := fl4.there
              have S4 := J4.suite e4 d4 na cL cF
              have wish := yes rfl a o4 na z4 ⟨_, d4⟩
              rw [qi] at wish
              refine store_ok (X := X.suite a ((a, o4) :: (X.pn ++ pins))) (v := .ref a) S4 hN hi (.inl hln) rfl (fun s5 S5 => ?_) (.inr hln)
              refine wpAny_mono ((hsu a o4 _ ⟨_, d4, z4.2.2 _ d4⟩).run [] s5 _ H' _ S5 wish) (fun f s6 q => ?_) (fun _ _ z => z.elim)
              have gone : ∀ {σ6 : L2.St} {H6 : Hp} {Qs : Shared → Prop}, Inv (X.suite a ((a, o4) :: (X.pn ++ pins))) [] σ6 H6 s6 → (∀ s7, Inv X pins (σ6.set i none) H6 s7 → Qs s7) →
                  wpAny (model X.prog X.w) X.A (do bindName X.env n .none; unbindBehindTheSuite X.env n p) (fun _ s7 => Qs s7) X.xe s6 := fun S6 hq => gone_ok (S6.unsuite ok) hN hi hln hq
              cases f with
              | next => obtain ⟨σ6, H6, S6, q6⟩ := q; exact gone S6 fun s7 J7 => ⟨_, _, J7, q6⟩
              | brk => obtain ⟨σ6, H6, S6, q6⟩ := q; exact gone S6 fun s7 J7 => ⟨_, _, J7, q6⟩
              | cont => obtain ⟨σ6, H6, S6, q6⟩ := q; exact gone S6 fun s7 J7 => ⟨_, _, J7, q6⟩
              | ret u => obtain ⟨v6, σ6, H6, S6, r6, q6⟩ := q; exact gone S6 fun s7 J7 => ⟨_, _, _, J7, r6, q6⟩
    exact go hh w _ (J.landed nb fl.1 (up.trans up3) os ag) fl (up.trans up3) os ag
  · cases f with
    | next => obtain ⟨σ', H', J', q⟩ := out; exact wpAny_execs_nil ⟨σ', H', J'.ofTry ok, q⟩
    | brk => obtain ⟨σ', H', J', q⟩ := out; exact ⟨σ', H', J'.ofTry ok, q⟩
    | cont => obtain ⟨σ', H', J', q⟩ := out; exact ⟨σ', H', J'.ofTry ok, q⟩
    | ret u => obtain ⟨v, σ', H', J', r, q⟩ := out; exact ⟨v, σ', H', J'.ofTry ok, r, q⟩
end
end SE

/-! SEd: try as a computation; defs called where an exception is handled. -/
namespace SE
open PySem PySem.Spec PyProof.Rows L2
theorem EvR.up {K : PySem.W.Frag} {mg : Str → Option Value} {s t : Gs} {φ : Lab} {H : Hp} {ρ : Ev} {σ : L2.St} (l : s.Le t) (h : EvR ⟨K, mg, s⟩ φ H ρ σ) : EvR ⟨K, mg, t⟩ φ H ρ σ := ⟨h.1, fun i d e => by
  obtain ⟨v, h1, h2⟩ := h.2 i d e
  exact ⟨v, h1, Rp.up l h2⟩⟩
theorem MemR.sw {K : PySem.W.Frag} {mg : Str → Option Value} {s t : Gs} {φ : Lab} {μ : Mem} {H : Hp} (e : s.off = t.off) (h : MemR ⟨K, mg, s⟩ φ μ H) : MemR ⟨K, mg, t⟩ φ μ H := by
  have eT : s.T = t.T := by
    have e2 : s.off.T = t.off.T := congrArg Gs.T e
    exact e2
  refine ⟨by have := h.tb; rw [show (Gx.mk K mg s).s.T = t.T from eT] at this; exact this, h.sm, h.len, h.nd, fun l o q => ?_, h.hd⟩
  obtain ⟨a, h1, h2⟩ := h.at_ l o q
  refine ⟨a, h1, ?_⟩
  cases o with
  | lst xs =>
    obtain ⟨vs, h3, h4⟩ := h2
    refine ⟨vs, h3, ?_⟩
    show RpL ⟨K, mg, t.off⟩ φ H xs vs
    rw [← e]
    exact h4
/-! ### try -/
structure HM where
  mt : Str → Option Bool
  i : Option Nat
  b : MS
def putE (i : Option Nat) (d : D) (ρ : Ev) : Ev := match i with
  | some i => ρ.set i (some d)
  | none => ρ
def keepE (o : Option D) : Option D := match o with
  | some d => if noErr d = true then some d else none
  | none => none
def dropE (i : Option Nat) (ρ : Ev) : Ev := match i with
  | some i => (ρ.map keepE).set i none
  | none => ρ.map keepE
def suiteEnd (i : Option Nat) (r : RS) : RS := match r with
  | .ok (.rt d) μ => if noErr d = true then .ok (.rt d) μ else .bad
  | .ok (.nx ρ) μ => .ok (.nx (dropE i ρ)) μ
  | .ok (.bk ρ) μ => .ok (.bk (dropE i ρ)) μ
  | .ok (.ct ρ) μ => .ok (.ct (dropE i ρ)) μ
  | _ => .bad
def handleM : List HM → Ex → Ev → Mem → RS
  | [], e, ρ, μ => .exc e ρ μ
  | h :: r, e, ρ, μ => match h.mt e.cls with
    | some true => suiteEnd h.i (h.b (putE h.i (.err e.cls e.fs) ρ) μ)
    | some false => handleM r e ρ μ
    | none => .bad
def sTry (b : MS) (hs : List HM) : MS := fun ρ μ => match b ρ μ with
  | .exc e ρ' μ' => handleM hs e ρ' μ'
  | r => r
/-- the clause's test by the class's name -/
def MtOk (mg : Str → Option Value) (mt : Str → Option Bool) (f : Value → Option Bool) : Prop := ∀ c b C, mt c = some b → mg c = some (.ref C) → f (.ref C) = some b
inductive HOks (X : Cx) (L : Option (Addr × Addr × Str × L2.St)) (T : List (Addr × Str)) : List ExceptHandler → List HM → List HdT → Prop
  | nil : HOks X L T [] [] []
  | cons {te : Expr} {n : Option Str} {f : Value → Option Bool} {m : HM} {b₀ : Stmt} {suite : List Stmt} {p : Pos} {hds : List ExceptHandler} {ms : List HM} {l : List HdT}
      (ht : Tests X te f) (hm : MtOk X.mg m.mt f) (hn : nameOk X n m.i)
      (hsu : ∀ (a : Addr) (oe : Obj) (pn : List (Addr × Obj)), HotO oe → JSs (X.suite a ((a, oe) :: pn)) ⟨some (a, oe), L, T⟩ (fun _ _ _ _ => False) (b₀ :: suite) m.b) (r : HOks X L T hds ms l) :
      HOks X L T (.ExceptHandler (some te) n (b₀ :: suite) p :: hds) (m :: ms) (⟨f, m.i, fun a oe => tS ⟨X.K, X.mg, ⟨some (a, oe), L, T⟩⟩ (fun _ _ _ _ => False) m.b⟩ :: l)
theorem HOks.clauses {X : Cx} {L : Option (Addr × Addr × Str × L2.St)} {T : List (Addr × Str)} {hds : List ExceptHandler} {ms : List HM} {l : List HdT} (h : HOks X L T hds ms l) : Clauses X hds l := by
  induction h with
  | nil => exact .nil
  | cons ht hm hn hsu r ih => exact .cons ht hn hsu ih
section
variable {K : PySem.W.Frag} {mg : Str → Option Value} {L : Option (Addr × Addr × Str × L2.St)} {T : List (Addr × Str)}
theorem dropE_ev {φ : Lab} {H : Hp} {ρ : Ev} {σ : L2.St} {c : Option (Addr × Obj)} (i : Option Nat) (h : EvR ⟨K, mg, ⟨c, L, T⟩⟩ φ H ρ σ) : EvR ⟨K, mg, ⟨none, L, T⟩⟩ φ H (dropE i ρ) (dropI i σ) := by
  have base : EvR ⟨K, mg, ⟨none, L, T⟩⟩ φ H (ρ.map keepE) σ := by
    refine ⟨by rw [List.length_map]; exact h.1, fun j d e => ?_⟩
    rw [List.getElem?_map] at e
    cases q : ρ[j]? with
    | none => rw [q] at e; cases e
    | some o =>
      rw [q] at e
      cases o with
      | none => cases e
      | some d' =>
        have e' : keepE (some d') = some d := Option.some.inj e
        unfold keepE at e'
        by_cases n : noErr d' = true
        · simp only [if_pos n] at e'
          cases e'
          obtain ⟨v, h1, h2⟩ := h.2 j _ q
          exact ⟨v, h1, Rp.on (G := ⟨K, mg, ⟨none, L, T⟩⟩) (Rp.out (G := ⟨K, mg, ⟨c, L, T⟩⟩) h2 n)⟩
        · simp only [if_neg n] at e'
          cases e'
  cases i with
  | none => exact base
  | some i => exact base.forget i none
theorem try_wish {X : Cx} {Z : Ends} {W : WX} {hds : List ExceptHandler} {ms : List HM} {l : List HdT} (hh : HOks X L T hds ms l) : ∀ {φ : Lab} {H : Hp} {ρ : Ev} {μ : Mem} {σ : L2.St} {e : Ex} {cls : Value} {dd : Option Addr},
    EvR (X.G ⟨none, L, T⟩) φ H ρ σ → MemR (X.G ⟨none, L, T⟩) φ μ H → ExR (X.G ⟨none, L, T⟩) φ H e cls dd → PostS (X.G ⟨none, L, T⟩) φ H (handleM ms e ρ μ) Z W → wTry W Z l cls dd σ H := by
  induction hh with
  | nil =>
    intro φ H ρ μ σ e cls dd ev rm ex p
    exact p φ H σ cls dd (Grow.refl _ _) rm ev ex
  | @cons te n f m b₀ suite pp hds ms l ht hm hn hsu r ih =>
    intro φ H ρ μ σ e cls dd ev rm ex p
    obtain ⟨⟨C, hC, hmg⟩, hfs⟩ := id ex
    subst hC
    unfold handleM at p
    cases q : m.mt e.cls with
    | none =>
      rw [q] at p
      exact p.elim
    | some b =>
      rw [q] at p
      refine ⟨b, hm _ b C q hmg, fun hb a oe na hz hf => ?_, fun hb => ?_⟩
      · subst hb
        dsimp only at p
        have rp : Rp ⟨X.K, X.mg, ⟨some (a, oe), L, T⟩⟩ φ H (.err e.cls e.fs) (.ref a) := by
          have ek : ErrC ⟨X.K, X.mg, ⟨some (a, oe), L, T⟩⟩ e.cls C oe := ⟨hz.1, hmg, hf⟩
          rcases hfs with ⟨e1, e2⟩ | ⟨d, vs, e1, e2, e3, e4⟩
          · rw [e1]
            exact .err0 (.inl rfl) ek (hz.2.1.trans e2)
          · exact .err (.inl rfl) ek (hz.2.1.trans e1) e2 e3 (RpF.on (G := ⟨X.K, X.mg, ⟨some (a, oe), L, T⟩⟩) e4)
        have ev1 : EvR ⟨X.K, X.mg, ⟨some (a, oe), L, T⟩⟩ φ H (putE m.i (.err e.cls e.fs) ρ) (putI m.i a σ) := by
          have b0 : EvR ⟨X.K, X.mg, ⟨some (a, oe), L, T⟩⟩ φ H ρ σ := EvR.up (s := ⟨none, L, T⟩) (t := ⟨some (a, oe), L, T⟩) ⟨fun _ z => (by cases z), fun _ z => z⟩ ev
          cases m.i with
          | none => exact b0
          | some i => exact b0.set i rp
        have rm1 : MemR ⟨X.K, X.mg, ⟨some (a, oe), L, T⟩⟩ φ μ H := MemR.sw (s := ⟨none, L, T⟩) (t := ⟨some (a, oe), L, T⟩) rfl rm
        refine ⟨φ, _, μ, ev1, rm1, ?_⟩
        have off : ∀ {φ' : Lab} {μ' : Mem} {H' : Hp}, MemR ⟨X.K, X.mg, ⟨some (a, oe), L, T⟩⟩ φ' μ' H' → MemR (X.G ⟨none, L, T⟩) φ' μ' H' := fun x => MemR.sw (s := ⟨some (a, oe), L, T⟩) (t := ⟨none, L, T⟩) rfl x
        cases q2 : m.b (putE m.i (.err e.cls e.fs) ρ) μ with
        | bad => rw [q2] at p; exact p
        | exc x ρ' μ' => rw [q2] at p; exact p.elim
        | ok fl μ' =>
          rw [q2] at p
          cases fl with
          | rt d =>
            unfold suiteEnd at p
            by_cases nd : noErr d = true
            · simp only [if_pos nd] at p
              exact fun φ' H' v g r' rv => p φ' H' v g (off r') (Rp.on (G := X.G ⟨none, L, T⟩) (Rp.out (G := ⟨X.K, X.mg, ⟨some (a, oe), L, T⟩⟩) rv nd))
            · simp only [if_neg nd] at p
              exact p.elim
          | nx ρ' => exact fun φ' H' σ' g r' e' => p φ' H' _ g (off r') (dropE_ev m.i e')
          | bk ρ' => exact fun φ' H' σ' g r' e' => p φ' H' _ g (off r') (dropE_ev m.i e')
          | ct ρ' => exact fun φ' H' σ' g r' e' => p φ' H' _ g (off r') (dropE_ev m.i e')
      · subst hb
        exact ih ev rm ex p
end
section
variable {X : Cx} {W : WX} {L : Option (Addr × Addr × Str × L2.St)} {T : List (Addr × Str)} {body : List Stmt} {h₀ : ExceptHandler} {hds : List ExceptHandler} {ms : List HM} {l : List HdT} {pos : Pos} {mb : MS}
theorem s_try (hs : X.stack = X.env :: X.outer) (hf : X.env.frame = some X.env.locals) (hN : X.N.Nodup) (tk : L2N.Takes X W)
    (hb : ∀ (W' : WX) (pn : List (Addr × Obj)) (xe : Value → Shared → Prop), L2N.Takes (X.tr pn xe) W' → PassesOwn (model X.prog X.w) X.A X.env xe → JSs (X.tr pn xe) ⟨none, L, T⟩ W' body mb) (hh : HOks X L T (h₀ :: hds) ms l) :
    JS X ⟨none, L, T⟩ W (.Try body (h₀ :: hds) [] [] pos) (sTry mb ms) := by
  refine ps_w (ps_try_all (tb := fun W' => tS (X.G ⟨none, L, T⟩) W' mb) hs hf hN tk hb hh.clauses) fun Z σ H h => ?_
  obtain ⟨φ, ρ, μ, ev, r, p⟩ := h
  refine ⟨φ, ρ, μ, ev, r, ?_⟩
  unfold sTry at p
  cases q : mb ρ μ with
  | bad => rw [q] at p; exact p
  | ok fl μ1 =>
    rw [q] at p
    cases fl <;> exact p
  | exc e ρ1 μ1 =>
    rw [q] at p
    exact fun φ' H' σ' cls dd g r' ev' ex => try_wish hh ev' r' ex (PostS.grow g p)
end
end SE

/-! SEe: defs called where an exception is handled. -/
namespace SE
open PySem PySem.Spec PyProof.Rows L2
/-- the def does what m does, where the exception p is handled -/
structure FnGH (T : List (Addr × Str)) (P : Program) (w : World) (K : PySem.W.Frag) (mg : Str → Option Value) (base : Heap) (k : Nat) (f : Addr) (fd : FuncData) (ps : List Str) (m : List D → M D) : Prop where
  run : ∀ (A : Around) (outer : List PySem.Env) (s : Shared) (H : Hp) (args : Args) (us : List Value) (vs : List V) (Q : VK) (E : XK) (ds : List D) (φ : Lab) (μ : Mem) (p : Addr × Obj) (lam : Option (Addr × Addr × Str × L2.St)),
    L2H.RoomH k A → A.guards = some [] → L2H.Hot1 A p → L2H.PinOk outer H s p → Env0 P w K mg base A outer s H → BindsTo s fd args (ps.zip us) → Vals vs us → vs.length = ps.length → RpL ⟨K, mg, ⟨some p, lam, T⟩⟩ φ H ds vs → MemR ⟨K, mg, ⟨some p, lam, T⟩⟩ φ μ H →
    Post ⟨K, mg, ⟨some p, lam, T⟩⟩ (tieD ⟨K, mg, ⟨some p, lam, T⟩⟩) φ H (m ds μ) Q E → codeAny (model P w) A (.call (.ref f) args) (CR (L2N.CX P w) outer P w H s Q E) s
abbrev hotX (P : Program) (w : World) (K : PySem.W.Frag) (mg : Str → Option Value) (base : Heap) (N : List Str) (qual : Str) (sc : Scope) (f : Addr) (cd : Value) (A : Around) (outer : List PySem.Env) (s : Shared) (H : Hp) (E : XK) (p : Addr × Obj) : Cx :=
  L2H.cxH (L2N.CX P w) P w K mg base N qual sc f cd A outer s H E p
section
variable {T : List (Addr × Str)} {P : Program} {w : World} {K : PySem.W.Frag} {mg : Str → Option Value} {base : Heap} {x qual : Str} {params : Arguments} {body : List Stmt} {scope : Scope} {dvs : List V} {kws : List (Str × V)} {f : Addr} {fd : FuncData}
theorem FnGH.of {N ps : List Str} {k : Nat} {b : MS} (F : FunD K x qual params body scope dvs kws f fd) (S : FnScope N ps scope)
    (hb : ∀ (lam : Option (Addr × Addr × Str × L2.St)) (cd : Value) (A : Around) (outer : List PySem.Env) (s : Shared) (H : Hp) (E : XK) (p : Addr × Obj), L2H.Hot1 A p → L2H.RoomH k (A.deeper (envOfC qual scope s.heap.objs.size f cd)) → (A.deeper (envOfC qual scope s.heap.objs.size f cd)).guards = some [] →
      L2N.Takes (hotX P w K mg base N qual scope f cd A outer s H E p) (bodyW E) → JSs (hotX P w K mg base N qual scope f cd A outer s H E p) ⟨some p, lam, T⟩ (bodyW E) body b) : FnGH T P w K mg base (k + 1) f fd ps (callM N.length b) := by
  obtain ⟨oc0, od0, dV0, kV0, doc0, pm0, an0, cdv0, ct0, osl0, e0, lk0, hcd0, _, _⟩ := F.ex
  subst e0
  constructor
  intro A outer s H args us vs Q E ds φ μ p lam room gd hot pin en hbind rv hlen rl rm post
  have kin : K.In s.heap := en.mod.kin.keeps fun c o e => (en.bs c o e).1
  have lim : s.heap.NoLimit := en.mod.nolimit.keeps fun c o e => (en.bs c o e).1
  have kinds : ∀ y ∈ ps.zip us, scope.names.lookup y.1 = some .local ∨ (scope.names.lookup y.1 = some .cell ∧ ((cellsFrom (s.heap.objs.size + 1) scope.names []).lookup y.1).isSome = true) := by
    rintro ⟨n, v⟩ hy
    have hn : n ∈ ps := (List.of_mem_zip hy).1
    cases S.par n hn with
    | inl q => exact .inl q
    | inr q => exact .inr ⟨q, PySem.W.cellsFrom_some _ _ _ (.inl q)⟩
  refine codeAny_call_function room.depth (kin _ _ lk0) rfl S.co S.gen rfl (PySem.W.codeRec_of kin hcd0) (hbind _ _ _ _ ?_)
  refine wpAny_newFunctionEnv_cells S.kind kinds fun env he s1 ic => ?_
  subst he
  refine ⟨lim.keeps ic.toInCall.keep, codeAny_func ?_⟩
  have I : Inv (hotX P w K mg base N qual scope f cdv0 A outer s H E p) [] (L2.start N vs) H s1 := L2H.inv_startH S pin en hlen rv ic
  have tk : L2N.Takes (hotX P w K mg base N qual scope f cdv0 A outer s H E p) (bodyW E) := L2N.takes_of (X := hotX P w K mg base N qual scope f cdv0 A outer s H E p) rfl rfl rfl rfl
  have J := hb lam cdv0 A outer s H E p hot (room.deeper _) gd tk
  have fin : ∀ {σ' : L2.St} {H' : Hp} {v : V} {u : Value} {s' : Shared}, Inv (hotX P w K mg base N qual scope f cdv0 A outer s H E p) [] σ' H' s' → RelV v u → Q v H' → CE outer P w H s Q u s' := fun {σ' H' v u s'} I' r' q' => ⟨v, H', I'.os, I'.bare, I'.base, I'.hok, r', q'⟩
  refine wpAny_mono (J.run [] s1 (L2.start N vs) H { nx := fun _ H' => Q .non H', rt := Q } I ⟨φ, _, μ, start_rp N rl, rm, ?_⟩) (fun fl s' hs => ?_) fun e s' hs => hs
  · unfold callM at post
    cases q : b (ds.map some ++ List.replicate (N.length - ds.length) none) μ with
    | exc e ρ' μ' =>
      rw [q] at post
      exact fun φ' H' σ' cls dd g r' _ ex => post φ' H' cls dd g r' ex
    | bad => rw [q] at post; exact post
    | ok fl μ' =>
      rw [q] at post
      cases fl with
      | rt d => exact post
      | nx ρ' => exact fun φ' H' σ' g r' _ => post φ' H' .non g r' .non
      | bk ρ' => exact post.elim
      | ct ρ' => exact post.elim
  · cases fl with
    | ret u =>
      obtain ⟨v, σ', H', I', r', q'⟩ := hs
      exact fin I' r' q'
    | next =>
      obtain ⟨σ', H', I', q'⟩ := hs
      exact fin (v := V.non) (u := Value.none) I' rfl q'
    | brk =>
      obtain ⟨_, _, _, q'⟩ := hs
      exact q'.elim
    | cont =>
      obtain ⟨_, _, _, q'⟩ := hs
      exact q'.elim
end
/-- in a context in which p is handled -/
structure HotIn (X : Cx) (p : Addr × Obj) : Prop where
  hot : L2H.Hot1 X.A p
  mem : p ∈ X.pn
theorem hot_suite {X : Cx} {a : Addr} {oe : Obj} {pn : List (Addr × Obj)} (h : HotO oe) : HotIn (X.suite a ((a, oe) :: pn)) (a, oe) := ⟨⟨rfl, h⟩, List.mem_cons_self⟩
theorem hot_cur {X : Cx} {p : Addr × Obj} {lam : Option (Addr × Addr × Str × L2.St)} {T : List (Addr × Str)} (h : HotIn X p) : ∀ q, (⟨some p, lam, T⟩ : Gs).cur = some q → q ∈ X.pn := fun q e => by
  cases e
  exact h.mem
section
variable {lam : Option (Addr × Addr × Str × L2.St)} {T : List (Addr × Str)} {X : Cx} {W : WX} {k : Nat} {f : Addr} {fd : FuncData} {ps : List Str} {m : List D → M D} {x : Str} {p0 pos : Pos} {e : Expr} {es : List Expr} {ml : Ev → M (List D)} {p : Addr × Obj}
/-- the exceptions of such a call are never let out here -/
def noExc (m : List D → M D) (ds : List D) : M D := fun μ => match m ds μ with
  | .exc _ _ => .bad
  | r => r
theorem run_gH {pins : List (Addr × Obj)} {σ : L2.St} {H : Hp} {s : Shared} {Q : VK} {us : List Value} {vs : List V} {ds : List D} {φ : Lab} {μ : Mem}
    (F : FnGH T X.prog X.w X.K X.mg X.base k f fd ps m) (hr : L2H.RoomH k X.A) (hg : X.A.guards = some []) (hh : HotIn X p) (hb : ∀ (s : Shared) (us : List Value), X.K.In s.heap → us.length = ps.length → BindsTo s fd ⟨us, []⟩ (ps.zip us)) (I : Inv X pins σ H s) (r : Vals vs us) (hn : vs.length = ps.length)
    (rd : RpL (X.G ⟨some p, lam, T⟩) φ H ds vs) (rm : MemR (X.G ⟨some p, lam, T⟩) φ μ H) (q : Post (X.G ⟨some p, lam, T⟩) (tieD (X.G ⟨some p, lam, T⟩)) φ H (noExc m ds μ) Q fun cls dd H' => W cls dd σ H') : wpAny (model X.prog X.w) X.A (call (.ref f) us) (EP X pins σ Q) X.xe s := by
  have at_ := I.pin p (List.mem_append_left _ hh.mem)
  have pin : L2H.PinOk X.stack H s p := ⟨at_.1, at_.2.1, fun z => (List.mem_cons.mp (I.stkSub p.1 z)).elim at_.2.2.1 at_.2.2.2.1, at_.2.2.2.2⟩
  have q' : Post (X.G ⟨some p, lam, T⟩) (tieD (X.G ⟨some p, lam, T⟩)) φ H (m ds μ) Q fun _ _ _ => False := by
    unfold noExc at q
    cases z : m ds μ with
    | ok d μ1 => rw [z] at q; exact q
    | exc e μ1 => rw [z] at q; exact q.elim
    | bad => rw [z] at q; exact q
  refine wpAny_call (codeAny_mono (F.run X.A X.stack s H ⟨us, []⟩ us vs Q (fun _ _ _ => False) ds φ μ p lam hr hg hh.hot pin I.env0 (hb s us I.kIn (by rw [← r.length]; exact hn)) r hn rd rm q') fun res s' out => ?_)
  cases res with
  | error ex =>
    obtain ⟨_, _, _, _, _, _, _, _, _, _, _, _, z⟩ := out
    exact z.elim
  | ok fl =>
    cases fl with
    | ret u => exact I.after out
    | next => exact False.elim out
    | brk => exact False.elim out
    | cont => exact False.elim out
theorem j_callH (F : FnGH T X.prog X.w X.K X.mg X.base k f fd ps m) (hr : L2H.RoomH k X.A) (hg : X.A.guards = some []) (hh : HotIn X p) (hgl : Gl X x) (hm : X.mg x = some (.ref f)) (hk : PySem.W.keepIn X.K (.ref f) = true)
    (hb : KBg X.K fd ps [] (e :: es).length (fun us _ => us) (fun vs _ => vs) (fun ds _ => ds)) (hps : ps.length = (e :: es).length) (ha : JL X ⟨some p, lam, T⟩ W (e :: es) ml) (hl : ∀ ρ μ ds μ', ml ρ μ = .ok ds μ' → ds.length = (e :: es).length)
    (hdb : (x == ("__debug__" : Str)) = false := by decide) (he : starEach (e :: es) X.env = (false, eval e X.env) :: starEach es X.env := by rfl) (hpl : (backTo pos (starEach es X.env)).any (·.1) = false := by rfl) :
    JE X ⟨some p, lam, T⟩ W (.Call (.Name x p0) (e :: es) [] pos) (eCall (noExc m) ml) := by
  refine ⟨fun pins s σ H Q I h => ?_⟩
  have h' : tG (X.G ⟨some p, lam, T⟩) (tieL (X.G ⟨some p, lam, T⟩)) W ml σ H fun vs H1 => ∃ φ ds μ, vs.length = (e :: es).length ∧ RpL (X.G ⟨some p, lam, T⟩) φ H1 ds vs ∧ MemR (X.G ⟨some p, lam, T⟩) φ μ H1 ∧ Post (X.G ⟨some p, lam, T⟩) (tieD (X.G ⟨some p, lam, T⟩)) φ H1 (noExc m ds μ) Q fun cls dd H' => W cls dd σ H' := by
    obtain ⟨φ, ρ, μ, ev, r, q⟩ := h
    refine ⟨φ, ρ, μ, ev, r, ?_⟩
    change Post (X.G ⟨some p, lam, T⟩) (tieD (X.G ⟨some p, lam, T⟩)) φ H (M.bind (ml ρ) (fun ds => noExc m ds) μ) Q _ at q
    unfold M.bind at q
    cases z : ml ρ μ with
    | ok ds μ1 =>
      rw [z] at q
      exact fun φ1 H1 vs g r1 rv => ⟨φ1, ds, μ1, by rw [← rv.length]; exact hl ρ μ ds μ1 z, rv, r1, Post.grow g q⟩
    | exc ex μ1 => rw [z] at q; exact q
    | bad => rw [z] at q; exact q
  refine wpAny_Call_Name_kw (ld_glob I hgl hm (PySem.W.callWith_K (h₀ := X.base) I.ok.mod.kin hk (thn (ha.run pos pins s σ H _ I h') fun us s1 got => ?_) he hpl) hdb)
  obtain ⟨vs, H1, I1, rv, φ, ds, μ, n, rd, rm, q⟩ := got
  exact ⟨I1.kIn, run_gH F hr hg hh (fun s us hk hn => hb.to s us [] hk (hn.trans hps) rfl) I1 rv (n.trans hps.symm) rd rm q⟩
end
end SE

/-! SEf: a lambda without parameters handed to a def. -/
namespace SE
open PySem PySem.Spec PyProof.Rows L2
theorem Post.up {K : PySem.W.Frag} {mg : Str → Option Value} {s t : Gs} {φ : Lab} {H : Hp} {r : Res D} {Q : VK} {E : XK} (l : s.Le t) (e : s.off = t.off) (p : Post ⟨K, mg, t⟩ (tieD ⟨K, mg, t⟩) φ H r Q E) : Post ⟨K, mg, s⟩ (tieD ⟨K, mg, s⟩) φ H r Q E := by
  cases r with
  | ok d μ => exact fun φ' H' v g rm rv => p φ' H' v g (rm.sw e) (Rp.up l rv)
  | exc x μ =>
    intro φ' H' cls dd g rm ex
    refine p φ' H' cls dd g (rm.sw e) ?_
    obtain ⟨h1, h2⟩ := ex
    refine ⟨h1, ?_⟩
    rcases h2 with h2 | ⟨d, vs, a, b, c, f⟩
    · exact .inl h2
    · refine .inr ⟨d, vs, a, b, c, ?_⟩
      show RpF ⟨K, mg, t.off⟩ φ' H' x.fs vs
      rw [← e]
      exact f
  | bad => exact p
theorem noErrE_keep : ∀ ρ : List (Option D), noErrE (ρ.map keepE) = true
  | [] => rfl
  | none :: r => noErrE_keep r
  | some d :: r => by
    show noErrE (keepE (some d) :: r.map keepE) = true
    unfold keepE
    by_cases h : noErr d = true
    · simp only [if_pos h]
      show (noErr d && noErrE (r.map keepE)) = true
      rw [h, noErrE_keep r]
      rfl
    · simp only [if_neg h]
      exact noErrE_keep r
/-- the lambda's body in its maker's slots -/
def callThk (mb : Ev → M D) (d : D) : M D := fun μ => match d with
  | .clo ρ => mb ρ μ
  | _ => .bad
theorem e1_run {G : Gx} {φ : Lab} {H : Hp} {ρ : Ev} {μ : Mem} {g : D → M D} {Q : VK} {E : XK} : Post G (tieD G) φ H (e1 g (eVar 0) ρ μ) Q E = ∃ d, ρ[0]? = some (some d) ∧ Post G (tieD G) φ H (g d μ) Q E := by
  have e : e1 g (eVar 0) ρ μ = (match ρ[0]? with
    | some (some d) => g d μ
    | _ => .bad) := by
    show M.bind (eVar 0 ρ) (fun x => g x) μ = _
    unfold M.bind eVar M.pure M.bad
    cases ρ[0]? with
    | none => rfl
    | some o => cases o <;> rfl
  rw [e]
  cases q : ρ[0]? with
  | none => exact propext ⟨fun z => z.elim, fun ⟨d, z, _⟩ => by cases z⟩
  | some o =>
    cases o with
    | none => exact propext ⟨fun z => z.elim, fun ⟨d, z, _⟩ => by cases z⟩
    | some d => exact propext ⟨fun z => ⟨d, rfl, z⟩, fun ⟨d', z, w⟩ => by cases z; exact w⟩
/-- what comes out holds nothing of the inside -/
def outM (m : M D) : M D := fun μ => match m μ with
  | .ok d μ' => if noErr d = true then .ok d μ' else .bad
  | r => r
/-- the context of the lambda's body -/
abbrev lamX (X : Cx) (A : Around) (outer : List PySem.Env) (s : Shared) (H : Hp) (E : XK) (sc : Scope) (f c' : Addr) : Cx :=
  (LamX.lamCx X A outer s H E sc f c').tr [] (fun e s' => wpAny (model X.prog X.w) (A.deeper (LamX.lamEnv X sc s.heap.objs.size f c')) (leaving (LamX.lamEnv X sc s.heap.objs.size f c') e) (fun _ s'' => L2N.CX X.prog X.w outer H s E e s'') (fun e' s'' => L2N.CX X.prog X.w outer H s E e' s'') s')
section
variable {T : List (Addr × Str)} {X : Cx} {mb : Ev → M D} {k : Nat} {sc : Scope} {bd : Expr}
/-- what is asked of the body -/
def LamOk (T : List (Addr × Str)) (X : Cx) (k : Nat) (sc : Scope) (bd : Expr) (mb : Ev → M D) : Prop :=
  ∀ (A : Around) (outer : List PySem.Env) (s : Shared) (H : Hp) (E : XK) (f c' : Addr), Room k (A.deeper (LamX.lamEnv X sc s.heap.objs.size f c')) → (A.deeper (LamX.lamEnv X sc s.heap.objs.size f c')).guards = some [] →
    L2N.Takes (lamX X A outer s H E sc f c') (bodyW E) → JE (lamX X A outer s H E sc f c') ⟨none, none, T⟩ (bodyW E) bd mb
/-- a() in the def that got the lambda -/
theorem j_act {pins : List (Addr × Obj)} {σ : L2.St} {H : Hp} {s : Shared} {CXg : CXT} {Eg : XK} {Ng : List Str} {qg : Str} {sg : Scope} {g f c' : Addr} {cdg pm ctv : Value} {params : Arguments} {a : Str} {pn : List (Addr × Obj)} {xe : Value → Shared → Prop} {W : WX} {p1 p2 : Pos}
    (I : Inv X pins σ H s) (L : LamX.LamS X.env.scope sc) (hf : s.heap.get? f = some (PySem.W.kla_obj "<lambda>" (X.env.qual ++ "<lambda>") params bd sc (cloFrom X.env.cells sc.names []) pm c' ctv)) (hfn : H f = none) (hfr : f ∉ frs X.stack)
    (hbind : bindArgs (PySem.W.kla_fn "<lambda>" (X.env.qual ++ "<lambda>") params bd sc (cloFrom X.env.cells sc.names []) pm (.ref c') ctv) ⟨[], []⟩ = pure [])
    (tk : L2N.Takes ((cxOf CXg X.prog X.w X.K X.mg X.base Ng qg sg g cdg X.A X.stack s H Eg).tr pn xe) W) (hr : Room (k + 1) (X.A.deeper (envOfC qg sg s.heap.objs.size g cdg))) (hgd : (X.A.deeper (envOfC qg sg s.heap.objs.size g cdg)).guards = some [])
    (hb : LamOk T X k sc bd mb) (hN : Ng[0]? = some a) (hv : Vis sg a) (hd : (a == ("__debug__" : Str)) = false := by decide) (hcd : (a == ("__classdict__" : Str)) = false := by decide) :
    JE ((cxOf CXg X.prog X.w X.K X.mg X.base Ng qg sg g cdg X.A X.stack s H Eg).tr pn xe) ⟨none, some (f, c', X.env.qual ++ "<lambda>", σ), T⟩ W (.Call (.Name a p1) [] [] p2) (e1 (callThk mb) (eVar 0)) := by
  refine ⟨fun pinsZ sZ σZ HZ Q IZ h => ?_⟩
  obtain ⟨φ, ρZ, μ, ev, rm, p⟩ := h
  rw [e1_run] at p
  obtain ⟨d, hd0, p⟩ := p
  obtain ⟨v0, hs0, rv0⟩ := ev.2 0 d hd0
  cases rv0 with
  | @clo f' c2 q2 σ2 ρ hl hc no hn re =>
    cases hl
    refine wpAny_Call_Name_kw (thn ((pe_var (pos := p1) (i := 0) hN hv hd hcd).run pinsZ sZ σZ HZ (fun v H1 => v = .ref f ∧ H1 = HZ) IZ ⟨.ref f, hs0, rfl, rfl⟩) fun u s1 got => ?_)
    obtain ⟨v, H1, I1, rv1, rfl, rfl⟩ := got
    obtain rfl : u = Value.ref f := rv1
    have hf1 := I1.base.keep f _ hf hfn hfr (fun z => nomatch (show f ∈ ([] : List Addr) from z))
    refine PySem.W.callWith_F0 ⟨_, _, _, _, hf1⟩ ?_
    have un : Un (frs X.stack) [] H H1 s.heap s1.heap := I1.base
    obtain ⟨⟨oc, vs, t, hoc, hdc, hvc⟩, _, _⟩ := I1.hok c' _ hc
    have run : codeAny (model X.prog X.w) (X.A.deeper (envOfC qg sg s.heap.objs.size g cdg)) (.call (.ref f) ⟨[], []⟩) (CR (L2N.CX X.prog X.w) (envOfC qg sg s.heap.objs.size g cdg :: X.stack) X.prog X.w H1 s1 Q (fun cls dd H' => W cls dd σZ H')) s1 := by
      refine PySem.W.kla_callFunE hr.depth hf1 rfl L.co L.gen rfl ⟨c', oc, vs, t, rfl, hoc, hdc, hvc⟩ ?_
      rw [hbind]
      refine wpAny_pure (wpAny_newFunctionEnv (fun y hy => (L.own y hy).2) (fun y hy => absurd hy (by simp)) (fun h₁ hns hsb => ⟨I1.nolimit.fresh _ hsb, ?_⟩) L.kind)
      show codeAny _ _ (.expr bd (LamX.lamEnv X sc s1.heap.objs.size f c')) _ _
      have kp : ∀ b o, s1.heap.get? b = some o → h₁.get? b = some o := fun b o e => hsb.extBut b o (Nat.ne_of_lt (Heap.lt_size e)) (Heap.get?_push_of_some _ e)
      have J0 : Inv (LamX.lamCx X (X.A.deeper (envOfC qg sg s.heap.objs.size g cdg)) (envOfC qg sg s.heap.objs.size g cdg :: X.stack) s1 H1 (fun cls dd H' => W cls dd σZ H') sc f c') [] σ H1 { s1 with heap := h₁, toks := s1.toks + ([] : List (Str × Value)).length } :=
        LamX.lam_start2 I L I1.env0 hr.hd un hns kp
      have J : Inv (lamX X (X.A.deeper (envOfC qg sg s.heap.objs.size g cdg)) (envOfC qg sg s.heap.objs.size g cdg :: X.stack) s1 H1 (fun cls dd H' => W cls dd σZ H') sc f c') [] σ H1 { s1 with heap := h₁, toks := s1.toks + ([] : List (Str × Value)).length } := J0.toTry _
      have tk2 : L2N.Takes (lamX X (X.A.deeper (envOfC qg sg s.heap.objs.size g cdg)) (envOfC qg sg s.heap.objs.size g cdg :: X.stack) s1 H1 (fun cls dd H' => W cls dd σZ H') sc f c') (bodyW fun cls dd H' => W cls dd σZ H') := L2N.takes_of rfl rfl rfl rfl
      have p2 : Post (X.G ⟨none, none, T⟩) (tieD (X.G ⟨none, none, T⟩)) φ H1 (mb ρ μ) Q fun cls dd H' => W cls dd σZ H' := Post.up (s := ⟨none, none, T⟩) (t := ⟨none, some (f, c', X.env.qual ++ "<lambda>", σ), T⟩) ⟨fun _ z => (by cases z), fun _ z => (by cases z)⟩ rfl p
      have re2 : EvR (X.G ⟨none, none, T⟩) φ H1 ρ σ := (RpE.out re hn).ev
      refine PySem.W.kla_codeExpr (wpAny_mono ((hb _ _ s1 H1 _ f c' (hr.deeper _) hgd tk2).run [] _ σ H1 Q J ⟨φ, ρ, μ, re2, MemR.sw (s := ⟨none, some (f, c', X.env.qual ++ "<lambda>", σ), T⟩) (t := ⟨none, none, T⟩) rfl rm, p2⟩) (fun v s' hq => ?_) fun e s' hq => hq)
      obtain ⟨w', H', J', rv, q⟩ := hq
      exact ⟨w', H', J'.os, J'.bare, J'.base, J'.hok, rv, q⟩
    refine wpAny_call (codeAny_mono run fun r s' out => ?_)
    cases r with
    | error e => exact tk _ _ (L2N.XE.of_call I1 (fun _ _ _ z => z) out)
    | ok fl =>
      cases fl with
      | ret u => exact I1.after out
      | next => exact False.elim out
      | brk => exact False.elim out
      | cont => exact False.elim out
  | _ => exact p.elim
/-- a def that is handed a lambda -/
structure FnLam (T : List (Addr × Str)) (P : Program) (w : World) (K : PySem.W.Frag) (mg : Str → Option Value) (base : Heap) (k : Nat) (x : Str) (g : Addr) (fd : FuncData) (a : Str) (N : List Str) (params : Arguments) (body : List Stmt) (scope : Scope) (b : (Ev → M D) → MS) : Prop where
  F : FunD K x x params body scope [] [] g fd
  S : FnScope N [a] scope
  hN : N[0]? = some a
  hv : Vis scope a
  run : ∀ (mb : Ev → M D) (lam : Option (Addr × Addr × Str × L2.St)) (cd : Value) (A : Around) (outer : List PySem.Env) (s : Shared) (H : Hp) (E : XK), Room k (A.deeper (envOfC x scope s.heap.objs.size g cd)) → (A.deeper (envOfC x scope s.heap.objs.size g cd)).guards = some [] →
    L2N.Takes (bodyX P w K mg base N x scope g cd A outer s H E) (bodyW E) → PassesOwn (model P w) (bodyX P w K mg base N x scope g cd A outer s H E).A (bodyX P w K mg base N x scope g cd A outer s H E).env (bodyX P w K mg base N x scope g cd A outer s H E).xe →
    (∀ (pn : List (Addr × Obj)) (xe : Value → Shared → Prop) (W : WX) (p1 p2 : Pos), L2N.Takes ((bodyX P w K mg base N x scope g cd A outer s H E).tr pn xe) W → JE ((bodyX P w K mg base N x scope g cd A outer s H E).tr pn xe) ⟨none, lam, T⟩ W (.Call (.Name a p1) [] [] p2) (e1 (callThk mb) (eVar 0))) →
    JSs (bodyX P w K mg base N x scope g cd A outer s H E) ⟨none, lam, T⟩ (bodyW E) body (b mb)
theorem Grow.tab {φ : Lab} {H H1 : Hp} (e : LamX.ExtN H H1) : Grow φ H φ H1 := ⟨⟨[], by simp, fun _ z => nomatch z⟩, fun _ z n => absurd z n, fun _ z => z, fun b u h _ t => e b u h t, fun b u h t => ⟨u, e b u h t, t⟩⟩
theorem MemR.tab {G : Gx} {φ : Lab} {μ : Mem} {H H1 : Hp} (R : MemR G φ μ H) (e : LamX.ExtN H H1) (t : LamX.Tabs G.s.T H1) : MemR G φ μ H1 := ⟨t, let ⟨o, q⟩ := R.sm; ⟨o, e _ _ q fun _ z => nomatch z⟩, R.len, R.nd, fun l o q => by
  obtain ⟨a, h1, h2⟩ := R.at_ l o q
  refine ⟨a, h1, ?_⟩
  cases o with
  | lst xs =>
    obtain ⟨vs, h3, h4⟩ := h2
    exact ⟨vs, e _ _ h3 (fun _ z => nomatch z), h4.grow (Grow.tab e)⟩, fun a ha => let ⟨u, q⟩ := R.hd a ha; ⟨u, e _ _ q (fun _ z => nomatch z)⟩⟩
theorem EvR.keep {G : Gx} {φ : Lab} {H : Hp} {ρ : Ev} {σ : L2.St} (h : EvR G φ H ρ σ) : EvR G φ H (ρ.map keepE) σ := by
  refine ⟨by rw [List.length_map]; exact h.1, fun j d e => ?_⟩
  rw [List.getElem?_map] at e
  cases q : ρ[j]? with
  | none => rw [q] at e; cases e
  | some o =>
    rw [q] at e
    cases o with
    | none => cases e
    | some d' =>
      have e' : keepE (some d') = some d := Option.some.inj e
      unfold keepE at e'
      by_cases n : noErr d' = true
      · simp only [if_pos n] at e'
        cases e'
        exact h.2 j _ q
      · simp only [if_neg n] at e'
        cases e'
/-- x(lambda: bd) -/
def eLam (m : (Ev → M D) → List D → M D) (mb : Ev → M D) : Ev → M D := fun ρ => outM (m mb [.clo (ρ.map keepE)])
theorem j_lam {W : WX} {x a : Str} {g c P : Addr} {fd : FuncData} {Ng : List Str} {pg : Arguments} {bg : List Stmt} {sg : Scope} {b : (Ev → M D) → MS} {params : Arguments} {p lpos pos : Pos}
    (G : FnLam T X.prog X.w X.K X.mg X.base (k + 1) x g fd a Ng pg bg sg b) (tk : L2N.Takes X W) (hg : Gl X x) (hm : X.mg x = some (.ref g)) (hgd : X.A.guards = some []) (hr : Room (k + 2) X.A)
    (hbg : ∀ (s : Shared) (us : List Value), X.K.In s.heap → us.length = 1 → BindsTo s fd ⟨us, []⟩ ([a].zip us))
    (TB : LamX.TabB X.base X.mg c P) (hcode : X.env.code = .ref c) (hmT : (P, X.env.qual ++ "<lambda>") ∈ T) (hu : ∀ p ∈ T, p.1 = P → p.2 = X.env.qual ++ "<lambda>") (L : LamX.LamS X.env.scope sc) (hdef : defaultsOf params X.env = ([], []))
    (hbind : ∀ (q : Str) (cl : List (Str × Addr)) (pm cv ctv : Value), bindArgs (PySem.W.kla_fn "<lambda>" q params bd sc cl pm cv ctv) ⟨[], []⟩ = pure [])
    (hb : LamOk T X k sc bd mb) (hdb : (x == ("__debug__" : Str)) = false := by decide) (hd : (a == ("__debug__" : Str)) = false := by decide) (hcd : (a == ("__classdict__" : Str)) = false := by decide) :
    JE X ⟨none, none, T⟩ W (.Call (.Name x p) [.Lambda params bd sc lpos] [] pos) (eLam (fun mb => callM Ng.length (b mb)) mb) := by
  refine ⟨fun pins s σ H Q I h => ?_⟩
  obtain ⟨φ, ρ, μ, ev, rm, po⟩ := h
  refine wpAny_Call_Name_kw (ld_glob I hg hm (PySem.W.callWith_K (h₀ := X.base) I.ok.mod.kin G.F.kp ?_ (by rfl) (by rfl)) hdb)
  show wpAny _ _ (spliced ((false, eval (.Lambda params bd sc lpos) X.env) :: backTo pos (starEach [] X.env))) _ _ s
  refine Calls.spliced_cons (LamX.lam_make2 I TB hcode hmT hu rm.tb hdef (L.has I.ok) fun f c' pm' ctv H1 s' I1 eN T1 hf hfn hfr hco => Calls.spliced_nil ⟨I1.kIn, ?_⟩)
  obtain ⟨oc0, od0, dV0, kV0, doc0, pm0, an0, cdv0, ct0, osl0, e0, lk0, hcd0, _, _⟩ := G.F.ex
  subst e0
  have g1 : Grow φ H φ H1 := Grow.tab eN
  have rm1 : MemR (X.G ⟨none, none, T⟩) φ μ H1 := rm.tab eN T1
  have nco : c' ∉ φ := fun z => by
    rcases z with z | z
    · obtain ⟨l, hl, e⟩ := List.getElem_of_mem z
      have e2 : φ.l[l]? = some c' := by rw [List.getElem?_eq_getElem hl, e]
      have hl2 : l < μ.length := by rw [← rm1.len]; exact hl
      obtain ⟨d, h1, h2⟩ := rm1.at_ l μ[l] (List.getElem?_eq_getElem hl2)
      rw [e2] at h1
      cases h1
      cases q : μ[l] with
      | lst xs =>
        rw [q] at h2
        obtain ⟨vs, h3, _⟩ := h2
        rw [hco] at h3
        have z2 := Option.some.inj h3
        cases (show HO.ext _ = HO.lst vs from z2)
    · obtain ⟨vs, h3⟩ := rm1.hd c' z
      rw [hco] at h3
      have z2 := Option.some.inj h3
      cases (show HO.ext _ = HO.lst vs from z2)
  have ev1 : EvR (X.G ⟨none, some (f, c', X.env.qual ++ "<lambda>", σ), T⟩) φ H1 (ρ.map keepE) σ := ((ev.grow g1).keep).up (s := ⟨none, none, T⟩) (t := ⟨none, some (f, c', X.env.qual ++ "<lambda>", σ), T⟩) ⟨fun _ z => z, fun _ z => (by cases z)⟩
  have rc : Rp (X.G ⟨none, some (f, c', X.env.qual ++ "<lambda>", σ), T⟩) φ H1 (.clo (ρ.map keepE)) (.ref f) := .clo rfl hco nco (noErrE_keep ρ) ev1.e
  have rm2 : MemR (X.G ⟨none, some (f, c', X.env.qual ++ "<lambda>", σ), T⟩) φ μ H1 := MemR.sw (s := ⟨none, none, T⟩) (t := ⟨none, some (f, c', X.env.qual ++ "<lambda>", σ), T⟩) rfl rm1
  have run : codeAny (model X.prog X.w) X.A (.call (.ref g) ⟨[.ref f], []⟩) (CR (L2N.CX X.prog X.w) X.stack X.prog X.w H1 s' Q (fun cls dd H' => W cls dd σ H')) s' := by
    refine LamX.run_ofS (N := Ng) (ps := [a]) (us := [.ref f]) (vs := [.ref f]) lk0 hcd0 G.S hr I1.env0 (hbg s' [.ref f] I1.kIn rfl) (.cons rfl .nil) rfl fun hr' => ?_
    have tkz : L2N.Takes (bodyX X.prog X.w X.K X.mg X.base Ng x sg g cdv0 X.A X.stack s' H1 fun cls dd H' => W cls dd σ H') (bodyW fun cls dd H' => W cls dd σ H') := L2N.takes_of rfl rfl rfl rfl
    have po' : PassesOwn (model X.prog X.w) (bodyX X.prog X.w X.K X.mg X.base Ng x sg g cdv0 X.A X.stack s' H1 fun cls dd H' => W cls dd σ H').A (bodyX X.prog X.w X.K X.mg X.base Ng x sg g cdv0 X.A X.stack s' H1 fun cls dd H' => W cls dd σ H').env (bodyX X.prog X.w X.K X.mg X.base Ng x sg g cdv0 X.A X.stack s' H1 fun cls dd H' => W cls dd σ H').xe :=
      passes_of (X := bodyX X.prog X.w X.K X.mg X.base Ng x sg g cdv0 X.A X.stack s' H1 fun cls dd H' => W cls dd σ H') rfl
    have J := G.run mb (some (f, c', X.env.qual ++ "<lambda>", σ)) cdv0 X.A X.stack s' H1 (fun cls dd H' => W cls dd σ H') hr' hgd tkz po' fun pn xe W' p1 p2 tk' => j_act I1 L hf hfn hfr (hbind _ _ _ _ _) tk' hr' hgd hb G.hN G.hv hd hcd
    refine ⟨_, J, φ, _, μ, start_rp (ds := [.clo (ρ.map keepE)]) Ng (.cons rc .nil), rm2, ?_⟩
    show PostS _ φ H1 (b mb ([D.clo (ρ.map keepE)].map some ++ List.replicate (Ng.length - 1) none) μ) _ _
    unfold eLam outM callM at po
    have po1 := Post.grow g1 po
    have off : ∀ {φ' : Lab} {μ' : Mem} {H' : Hp}, MemR (X.G ⟨none, some (f, c', X.env.qual ++ "<lambda>", σ), T⟩) φ' μ' H' → MemR (X.G ⟨none, none, T⟩) φ' μ' H' := fun z => MemR.sw (s := ⟨none, some (f, c', X.env.qual ++ "<lambda>", σ), T⟩) (t := ⟨none, none, T⟩) rfl z
    cases q : b mb ([D.clo (ρ.map keepE)].map some ++ List.replicate (Ng.length - 1) none) μ with
    | bad =>
      simp only [List.length_cons, List.length_nil, Nat.zero_add, q] at po1
      exact po1
    | exc e ρ' μ' =>
      simp only [List.length_cons, List.length_nil, Nat.zero_add, q] at po1
      exact fun φ' H' σ' cls dd g' r' _ ex => po1 φ' H' cls dd g' (off r') ex
    | ok fl μ' =>
      simp only [List.length_cons, List.length_nil, Nat.zero_add, q] at po1
      cases fl with
      | rt d =>
        by_cases n : noErr d = true
        · simp only [if_pos n] at po1
          exact fun φ' H' v g' r' rv => po1 φ' H' v g' (off r') (Rp.out (G := X.G ⟨none, some (f, c', X.env.qual ++ "<lambda>", σ), T⟩) rv n)
        · simp only [if_neg n] at po1
          exact po1.elim
      | nx ρ' => exact fun φ' H' σ' g' r' _ => po1 φ' H' .non g' (off r') .non
      | bk ρ' => exact po1.elim
      | ct ρ' => exact po1.elim
  refine wpAny_call (codeAny_mono run fun r s2 out => ?_)
  cases r with
  | error e => exact tk _ _ (L2N.XE.of_call I1 (fun _ _ _ z => z) out)
  | ok fl =>
    cases fl with
    | ret u => exact I1.after out
    | next => exact False.elim out
    | brk => exact False.elim out
    | cont => exact False.elim out
end
end SE

/-! SEg: the law's end where tables of code objects grow. -/
namespace SE
open PySem PySem.Spec PyProof.Rows L2
/-- what is known of the law at the heap behind the top, with tables -/
def LawGT (l : PySem.W.OpenLaw) (w : World) (K : PySem.W.Frag) (k n : Nat) (x : Str) (mg : Str → Option Value) (fa : Addr) (h : Heap) : Prop :=
  ∃ (fd : FuncData) (m : List D → M D) (T : List (Addr × Str)) (cs : List (Addr × Addr)), (∀ p ∈ cs, h.get? p.2 = some { cls := .none, data := .fields #[] }) ∧ (∀ p ∈ cs, K.lookup p.2 = none) ∧ (∀ p ∈ cs, PySem.W.CodeHd h p.1 p.2) ∧ (∀ q ∈ T, ∃ p ∈ cs, p.2 = q.1) ∧ (∃ oS esS epS, h.get? sysModules = some oS ∧ oS.data = .dict esS epS) ∧ K.lookup sysModules = none ∧
    (∀ (s : Shared) (u : Value), BindsTo s fd ⟨[u], []⟩ [(x, u)]) ∧ (∀ ns : List Int, ns.length ≤ n → (∀ z ∈ ns, Builtin.Int.intBits z ≤ 1048576) → ∃ μ', m [.ro (ns.map .int)] [] = .ok (.bl true) μ') ∧
    ∀ base : Heap, K.In base → base.Ns mainGlobals mg → (∀ p ∈ cs, LamX.TabB base mg p.1 p.2) → FnG ⟨none, none, T⟩ l.prog w K mg base k fa fd [x] m
theorem law_gT {T : List (Addr × Str)} {cs : List (Addr × Addr)} {P : Program} {w : World} {K : PySem.W.Frag} {mg mb : Str → Option Value} {k : Nat} {fa a : Addr} {fd : FuncData} {x : Str} {m : List D → M D} {s₁ : Shared} {vs : List Value} {ns : List Int} {μ' : Mem}
    (kin : K.In s₁.heap) (hns : s₁.heap.Ns mainGlobals mg) (hb : s₁.heap.Ns builtinsNs mb) (hbb : ∀ x : Str, x ≠ "__name__" → mb x = bootBuiltins x) (hlim : s₁.heap.NoLimit) (hg : s₁.gens = #[])
    (ha : s₁.heap.get? a = some { cls := .type "list", data := .seq vs.toArray }) (hi : IntsAre vs ns) (hl : ns.length ≤ sizeLine) (hr : Room k callerA)
    (hT : ∀ p ∈ cs, s₁.heap.get? p.2 = some { cls := .none, data := .fields #[] }) (nT : ∀ p ∈ cs, K.lookup p.2 = none) (C : ∀ p ∈ cs, PySem.W.CodeHd s₁.heap p.1 p.2) (eT : ∀ q ∈ T, ∃ p ∈ cs, p.2 = q.1) {oS : Obj} {esS : Array DictEntry} {epS : Nat} (hS1 : s₁.heap.get? sysModules = some oS) (dS : oS.data = .dict esS epS) (kS : K.lookup sysModules = none)
    (hbm : ∃ (bm : Addr) (ob : Obj), mg "__builtins__" = some (.ref bm) ∧ bm ≠ builtinsNs ∧ s₁.heap.get? bm = some ob ∧ ob.cls = .type "module" ∧ ob.dict = some builtinsNs ∧ ob.data = .plain)
    (F : ∀ base : Heap, K.In base → base.Ns mainGlobals mg → (∀ p ∈ cs, LamX.TabB base mg p.1 p.2) → FnG ⟨none, none, T⟩ P w K mg base k fa fd [x] m) (hbind : ∀ (s : Shared) (u : Value), BindsTo s fd ⟨[u], []⟩ [(x, u)]) (hm : m [.ro (ns.map .int)] [] = .ok (.bl true) μ') :
    codeAny (model P w) callerA (.call (.ref fa) ⟨[.ref a], []⟩) (fun r s' => r = .ok (.ret (.bool true)) ∧ OldK s₁.heap s'.heap ∧ s'.os = s₁.os ∧ AllBare s'.gens) s₁ := by
  -- the script as the one object that is known, or as one of the top's own
  have isT : ∀ b ∈ cs.map (·.2), s₁.heap.get? b = some { cls := .none, data := .fields #[] } := fun b z => by
    obtain ⟨p, hp, e⟩ := List.mem_map.mp z
    rw [← e]
    exact hT p hp
  have inT : ∀ p ∈ cs, p.2 ∈ cs.map (·.2) := fun p hp => List.mem_map_of_mem hp
  have aT : a ∉ cs.map (·.2) := fun z => by
    have e := isT a z
    rw [ha] at e
    cases (show Data.seq vs.toArray _ = Data.fields #[] from congrArg Obj.data (Option.some.inj e))
  have main : ∀ H : Hp, (∀ b ∈ cs.map (·.2), H b = some (.tbl #[])) → H sysModules = some (.frz oS (.own 0)) → (∀ b u, H b = some u → (b = a ∧ u = .frz { cls := .type "list", data := .seq vs.toArray } (.lst (ns.map V.int))) ∨ (b ∈ cs.map (·.2) ∧ u = .tbl #[]) ∨ (b = sysModules ∧ u = .frz oS (.own 0))) → SqLz K ⟨[], []⟩ H a (ns.map V.int) → (H a ≠ none → K.lookup a = none) →
      codeAny (model P w) callerA (.call (.ref fa) ⟨[.ref a], []⟩) (fun r s' => r = .ok (.ret (.bool true)) ∧ OldK s₁.heap s'.heap ∧ s'.os = s₁.os ∧ AllBare s'.gens) s₁ := by
    intro H tabs sysT only hS hK
    have rv := vals_ints hi
    have hlen := hi.length
    have hok : HOk P w H s₁.heap := fun b u e => by
      rcases only b u e with ⟨rfl, rfl⟩ | ⟨hb, rfl⟩ | ⟨rfl, rfl⟩
      · exact ⟨ha, by rw [List.length_map]; exact hl, vs, _, rv, ha⟩
      · exact isT b hb
      · exact ⟨hS1, ⟨_, hS1⟩⟩
    have free : ∀ {b : Addr} {o : Obj}, s₁.heap.get? b = some o → (∀ xs n, o.data ≠ .seq xs n) → o.data ≠ .fields #[] → b ≠ sysModules → H b = none := fun {b o} e d d2 d3 => by
      cases q : H b with
      | none => rfl
      | some u =>
        rcases only b u q with ⟨rfl, _⟩ | ⟨hb, _⟩ | ⟨hb, _⟩
        · rw [ha] at e
          cases e
          exact absurd rfl (d _ _)
        · rw [isT b hb] at e
          cases e
          exact absurd rfl d2
        · exact absurd hb d3
    have dic : ∀ {b : Addr} {m0 : Str → Option Value}, b ≠ sysModules → s₁.heap.Ns b m0 → (hidT s₁.heap H).Ns b m0 := fun {b m0} ns q => by
      obtain ⟨o, es, ep, e, d, rest⟩ := q
      exact ⟨o, es, ep, hidT_get e (free e (fun xs n z => by rw [d] at z; cases z) (fun z => by rw [d] at z; cases z) ns), d, rest⟩
    have kb : K.In (hidT s₁.heap H) := fun b o e => hidT_get (kin b o e) (by
      cases q : H b with
      | none => rfl
      | some u =>
        rcases only b u q with ⟨rfl, _⟩ | ⟨hb, _⟩ | ⟨hb, _⟩
        · rw [hK (by rw [q]; simp)] at e
          cases e
        · obtain ⟨p, hp, ep⟩ := List.mem_map.mp hb
          rw [← ep, nT p hp] at e
          cases e
        · rw [hb, kS] at e
          cases e)
    obtain ⟨mc, l1, l2⟩ := hlim
    have md : L2.Mod K mg (hidT s₁.heap H) := ⟨kb, dic (by decide) hns, ⟨mb, dic (by decide) hb, hbb⟩, ⟨mc, dic (by decide) l1, l2⟩⟩
    have nomem : ∀ {b : Addr}, b ∉ frs ([] : List PySem.Env) := fun {b} z => nomatch z
    have en : Env0 P w K mg (hidT s₁.heap H) callerA [] s₁ H := ⟨rfl, md, fun b o e => of_hidT e, Nat.le_of_eq (hidT_size _ _), trivial, fun b z => absurd z nomem, hok, .of_eq hg⟩
    have rm : MemR ⟨K, mg, ⟨none, none, T⟩⟩ ⟨[], []⟩ [] H := ⟨(fun q hq => by
      obtain ⟨p, hp, e⟩ := eT q hq
      exact LamX.TabS.nil (by rw [← e]; exact tabs _ (inT p hp))), ⟨oS, sysT⟩, rfl, .nil, (fun l o e => by simp at e), (fun _ z => nomatch z)⟩
    have rl : RpL ⟨K, mg, ⟨none, none, T⟩⟩ ⟨[], []⟩ H [.ro (ns.map .int)] [V.ref a] := .cons (.ro hS (ints_rp ns)) .nil
    have TB : ∀ p ∈ cs, LamX.TabB (hidT s₁.heap H) mg p.1 p.2 := fun p hp => by
      refine ⟨?_, ?_, fun z => ?_⟩
      · obtain ⟨co, us, fl, x1, x2, x3, x4, x5, x6, at_, y1, y2, y3, y4, y5, y6, y7, y8, y9⟩ := C p hp
        refine ⟨co, us, fl, x1, x2, x3, x4, x5, x6, hidT_get at_ (free at_ (fun xs n z => ?_) (fun z => ?_) fun z => ?_), y1, y2, y3, y4, y5, y6, y7, y8, y9⟩
        · rw [y2] at z; cases z
        · rw [y2] at z; cases z; simp at y3
        · rw [z, hS1] at at_; cases at_; rw [dS] at y2; cases y2
      · obtain ⟨bm, ob, b1, b2, b3, b4, b5, b6⟩ := hbm
        refine ⟨bm, ob, b1, b2, fun q => ?_, fun q => ?_, hidT_get b3 (free b3 (fun xs n z => ?_) (fun z => ?_) fun z => ?_), b4, b5, b6⟩
        · obtain ⟨o, es, ep, e, dd, _⟩ := hns
          rw [q, e] at b3
          cases b3
          rw [dd] at b6
          cases b6
        · rw [q, hT p hp] at b3
          cases b3
          cases b6
        · rw [b6] at z; cases z
        · rw [b6] at z; cases z
        · rw [z, hS1] at b3; cases b3; rw [dS] at b6; cases b6
      · obtain ⟨o, es, ep, e, dd, _⟩ := hns
        rw [z, hT p hp] at e
        cases e
        cases dd
    refine codeAny_mono ((F _ kb (dic (by decide) hns) TB).run callerA [] s₁ H ⟨[.ref a], []⟩ [.ref a] [.ref a] (fun v _ => v = .bl true) (fun _ _ _ => False) _ ⟨[], []⟩ [] hr rfl en (hbind s₁ (.ref a)) (.cons rfl .nil) rfl rl rm ?_) fun r s' h => ?_
    · rw [hm]
      intro φ' H' v g r' rv'
      cases rv'
      rfl
    · cases r with
      | error e =>
        obtain ⟨_, _, _, _, _, _, _, _, _, _, _, _, z⟩ := h
        exact z.elim
      | ok fl =>
        cases fl with
        | next => exact False.elim h
        | brk => exact False.elim h
        | cont => exact False.elim h
        | ret u =>
          obtain ⟨v, H', os, bare, un, hok', r', q⟩ := h
          subst q
          obtain rfl : u = Value.bool true := r'
          have old : ∀ b o, b ∉ cs.map (·.2) → s₁.heap.get? b = some o → s'.heap.get? b = some o := fun b o nb e => by
            cases q : H b with
            | none => exact un.keep b o e q nomem (by simp)
            | some u =>
              rcases only b u q with ⟨rfl, rfl⟩ | ⟨hb, _⟩ | ⟨rfl, rfl⟩
              · obtain ⟨e2, _⟩ := hok' b _ (un.frzs b _ _ q)
                rw [ha] at e
                cases e
                exact e2
              · exact absurd hb nb
              · obtain ⟨e2, _⟩ := hok' _ _ (un.frzs _ _ _ q)
                rw [hS1] at e
                cases e
                exact e2
          have grown : ∀ p ∈ cs, ∃ ext : Array Value, s'.heap.get? p.2 = some { cls := .none, data := .fields ext } := fun p hp => by
            obtain ⟨ext, z⟩ := un.tbls p.2 #[] (tabs _ (inT p hp))
            exact ⟨_, hok' p.2 _ z⟩
          refine ⟨rfl, ⟨fun b o e => ?_, fun b o e => ?_⟩, os, bare⟩
          · by_cases hb : b ∈ cs.map (·.2)
            · obtain ⟨p, hp, ep⟩ := List.mem_map.mp hb
              obtain ⟨ext, z⟩ := grown p hp
              rw [← ep] at e ⊢
              rw [hT p hp] at e
              cases e
              exact .inr (.inl ⟨((C p hp).tab (hT p hp)).isCodeTable, rfl, #[], ext, rfl, by rw [Array.empty_append]; exact z⟩)
            · exact .inl (old b o hb e)
          · by_cases hb : b ∈ cs.map (·.2)
            · obtain ⟨p, hp, ep⟩ := List.mem_map.mp hb
              obtain ⟨ext, z⟩ := grown p hp
              exact ⟨_, by rw [← ep]; exact z⟩
            · exact ⟨o, old b o hb e⟩
  have split : ∀ (b : Addr) (u v : HO), (if b ∈ cs.map (·.2) then some (HO.tbl #[]) else if b = a then some v else none) = some u → (b = a ∧ u = v) ∨ (b ∈ cs.map (·.2) ∧ u = .tbl #[]) := fun b u v e => by
    by_cases hb : b ∈ cs.map (·.2)
    · rw [if_pos hb] at e
      exact .inr ⟨hb, (Option.some.inj e).symm⟩
    · rw [if_neg hb] at e
      by_cases h2 : b = a
      · rw [if_pos h2] at e
        exact .inl ⟨h2, (Option.some.inj e).symm⟩
      · rw [if_neg h2] at e
        cases e
  have nsA : a ≠ sysModules := fun z => by
    rw [z, hS1] at ha
    cases ha
    cases dS
  have nsT : ∀ b ∈ cs.map (·.2), b ≠ sysModules := fun b hb z => by
    have e := isT b hb
    rw [z, hS1] at e
    cases e
    cases dS
  cases hk : K.lookup a with
  | none =>
    refine main (fun b => if b = sysModules then some (.frz oS (.own 0)) else if b ∈ cs.map (·.2) then some (.tbl #[]) else if b = a then some (.frz { cls := .type "list", data := .seq vs.toArray } (.lst (ns.map V.int))) else none)
      (fun b hb => (if_neg (nsT b hb)).trans (if_pos hb)) (if_pos rfl) (fun b u e => ?_) (.inl ⟨.inr ⟨_, (if_neg nsA).trans ((if_neg aT).trans (if_pos rfl))⟩, (fun z => by rcases z with z | z <;> cases z)⟩) fun _ => hk
    by_cases hb : b = sysModules
    · exact .inr (.inr ⟨hb, (Option.some.inj ((if_pos hb).symm.trans e)).symm⟩)
    · rcases split b u _ ((if_neg hb).symm.trans e) with q | q
      · exact .inl q
      · exact .inr (.inl q)
  | some o =>
    have e := kin a o hk
    rw [ha] at e
    cases e
    have rv := vals_ints hi
    refine main (fun b => if b = sysModules then some (.frz oS (.own 0)) else if b ∈ cs.map (·.2) then some (.tbl #[]) else none) (fun b hb => (if_neg (nsT b hb)).trans (if_pos hb)) (if_pos rfl) (fun b u z => ?_)
      (.inr (.inr ⟨_, vs.toArray, _, hk, rfl, rfl, rfl, by rw [List.size_toArray, hi.length]; exact hl, by simpa using rv⟩)) fun z => absurd ((if_neg nsA).trans (if_neg aT)) z
    by_cases hs : b = sysModules
    · exact .inr (.inr ⟨hs, (Option.some.inj ((if_pos hs).symm.trans z)).symm⟩)
    · have z1 := (if_neg hs).symm.trans z
      by_cases hb : b ∈ cs.map (·.2)
      · exact .inr (.inl ⟨hb, (Option.some.inj ((if_pos hb).symm.trans z1)).symm⟩)
      · have z' := (if_neg hb).symm.trans z1
        cases z'
theorem walk_gT {l : PySem.W.OpenLaw} {n k : Nat} {q : Program} {loose : List Str} {XP : (Str → Option Value) → Heap → Prop} {YP : World → Heap → Prop} {d : DefRec} {x : Str}
    (hn : l.most = some n) (hn2 : n ≤ sizeLine) (hdf : d.params.defaults = []) (hr : Room k callerA)
    (F : ∀ (w : World) (mg : Str → Option Value) (fa : Addr) (h : Heap), YP w h → h.Ns mainGlobals mg → mg d.name = some (.ref fa) → ∃ K : PySem.W.Frag, K.In h ∧ LawGT l w K k n x mg fa h) :
    PySem.W.WalkO q loose XP YP l.row.toRowW d [] (fun f vs => PySem.call f vs) := by
  refine Att.attach_callB hn hdf fun w s₀ s₁ mg mb fa o pm cd doc a vs ns G Y ho hd hcd hmg hobj hints hlen hbits hg => ?_
  obtain ⟨K, kin, fd, m, T, cs, hT, nT, C, eT, ⟨oS, esS, epS, hS1, dS⟩, kS, hb, hm, hF⟩ := F w mg fa _ Y G.T.g hmg
  obtain ⟨μ', e⟩ := hm ns hlen hbits
  exact law_gT kin G.T.g G.T.b G.T.builtins G.T.nolimit hg hobj hints (Nat.le_trans hlen hn2) hr hT nT C eT hS1 dS kS G.T.bmain hF hb e
end SE

/-! SEh: list.count; classes as values; small helps for printed texts. -/
namespace SE
open PySem PySem.Spec PyProof.Rows L2
/-! ### xs.count(y) -/
def cntM (d y : D) : M D := fun μ => match d with
  | .lst xs => if (isPL xs && isP y && decide ((dP y).depth ≤ 50)) = true then .ok (.int ((dPL xs).countP fun z => PyData.eqv z (dP y) : Nat)) μ else .bad
  | _ => .bad
/-- o.m(e), o's kind looked at first -/
def eM1 (chk : D → Bool) (f : D → D → M D) (a b : Ev → M D) : Ev → M D := fun ρ => do let x ← a ρ; if chk x = true then (do let y ← b ρ; f x y) else M.bad
def isLs : D → Bool
  | .lst _ => true
  | _ => false
section
variable {X : Cx} {W : WX} {Γ : Gs} {o e : Expr} {mo me : Ev → M D} {apos cpos pos : Pos}
def rCntD (X : Cx) : V → List V → Hp → VK → Prop := fun x xs H Q => ∃ (a : Addr) (vs : List V) (y : V) (ds : List PyData) (d : PyData), x = .ref a ∧ xs = [y] ∧ SqL X.K H a vs ∧ DpAll X.K H vs ds ∧ Dp X.K H y d ∧ PyData.plainAll ds = true ∧ d.plain = true ∧ d.depth ≤ 50 ∧ Q (.int (ds.countP fun z => PyData.eqv z d : Nat)) H
theorem mt_cntD (hu : X.A.units + 64 < cLine) : MtR X "list.count" (rCntD X) := by
  intro pins s σ H x xs v us Q I rx rxs h
  obtain ⟨a, vs, y, ds, d, rfl, rfl, hs, hd, hy, h1, h2, h3, q⟩ := h
  cases rx
  obtain ⟨u, rfl, ru⟩ := rxs.one
  obtain ⟨its, rv, pl, hlen⟩ := I.list hs
  obtain ⟨as, ra⟩ := Dp.readsAll I ds vs its hd rv
  obtain ⟨bs, rb⟩ := Dp.reads I d y u hy ru
  have ra' : ReadsAll s.heap its.toArray.toList ds as := ra
  exact SeqAt.count_list_data pl.isList ra' rb h1 h2 (by have := Nat.min_le_right (PyData.depthAll ds) d.depth; omega) ⟨.int (ds.countP fun z => PyData.eqv z d : Nat), H, I.tok _, ⟨_, rfl⟩, q⟩
theorem j_count (hu : X.A.units + 64 < cLine) (ho : JE X Γ W o mo) (he : JE X Γ W e me)
    (h : ∀ to te, PE X o to → PE X e te → PE X (.Call (.Attribute o "count" apos) [e] [] cpos) (tBM X.K "list" (rCntD X) to (tCons te tNil))) : JE X Γ W (.Call (.Attribute o "count" apos) [e] [] cpos) (eM1 isLs cntM mo me) := by
  refine pe_w (h _ _ ho he) fun σ H Q q => ?_
  obtain ⟨φ, ρ, μ, ev, r, p⟩ := q
  refine bG ev r p fun φ1 H1 d v μ1 g1 e1 r1 rv p1 => ?_
  have fin : ∀ {xs : List D} {a : Addr} {vs : List V}, d = .lst xs → v = .ref a → H1 a = some (.lst vs) → a ∉ φ1 → RpL (X.G Γ) φ1 H1 xs vs → tyV X.K "list" v H1 ∧ tCons (tG (X.G Γ) (tieD (X.G Γ)) W me) tNil σ H1 fun zs H2 => rCntD X v zs H2 Q := by
    intro xs a vs ed ea ha na rl
    subst ed ea
    have p1 : Post (X.G Γ) (tieD (X.G Γ)) φ1 H1 (M.bind (me ρ) (fun y => cntM (.lst xs) y) μ1) Q fun cls dd H' => W cls dd σ H' := p1
    refine ⟨.inl ⟨rfl, _, SqL.of ha⟩, ?_⟩
    refine bG e1 r1 p1 fun φ2 H2 y u μ2 g2 e2' r2 ry p2 => ?_
    unfold cntM at p2
    by_cases c : (isPL xs && isP y && decide ((dP y).depth ≤ 50)) = true
    · simp only [if_pos c] at p2
      obtain ⟨c1, c3⟩ := andB c
      obtain ⟨c1, c2⟩ := andB c1
      have ha2 := g2.st _ _ ha na (fun _ z => nomatch z)
      exact ⟨a, vs, u, dPL xs, dP y, rfl, rfl, SqL.of ha2, (rl.grow g2).dp c1, ry.dp c2, isPL_plain xs c1, isP_plain y c2, of_decide_eq_true c3, Post.pure p2 r2 (.int _)⟩
    · simp only [if_neg c] at p2
      exact p2.elim
  cases rv with
  | lst ha na rl => exact fin rfl rfl ha na rl
  | _ => exact p1.elim
end
/-! ### classes of the text as values -/
theorem j_gl {X : Cx} {W : WX} {Γ : Gs} {x : Str} {a : Addr} {pos : Pos} (hg : Gl X x) (hm : X.mg x = some (.ref a)) (hdb : (x == ("__debug__" : Str)) = false := by decide) : JE X Γ W (.Name x pos) (eC (.gl x)) := by
  refine ⟨fun pins s σ H Q I h => ld_glob I hg hm ?_ hdb⟩
  obtain ⟨φ, ρ, μ, ev, r, p⟩ := h
  exact ⟨.ref a, H, I, rfl, Post.pure p r (.gl hm)⟩
theorem RoomH_units {k : Nat} {A : Around} (h : L2H.RoomH k A) : A.units + 64 < cLine := by have := h.un; omega
/-- one table's name -/
theorem tab_hu {T : List (Addr × Str)} (nd : (T.map (·.1)).Nodup) {P : Addr} {q : Str} (h : (P, q) ∈ T) : ∀ p ∈ T, p.1 = P → p.2 = q := by
  induction T with
  | nil => cases h
  | cons z r ih =>
    rw [List.map_cons, List.nodup_cons] at nd
    intro p hp e
    rcases List.mem_cons.mp h with h1 | h1
    · rcases List.mem_cons.mp hp with h2 | h2
      · rw [h2, ← h1]
      · exact absurd (by rw [← h1]; show P ∈ _; rw [← e]; exact List.mem_map_of_mem (f := (·.1)) h2) nd.1
    · rcases List.mem_cons.mp hp with h2 | h2
      · refine absurd ?_ nd.1
        rw [← h2, e]
        exact List.mem_map_of_mem (f := (·.1)) h1
      · exact ih nd.2 h1 p h2 e
end SE

/-! SEi: what the head tells of classes, as Booleans. -/
namespace SE
open PySem PySem.Spec PyProof.Rows L2
section
variable {K : PySem.W.Frag} {mg : Str → Option Value}
def Names (K : PySem.W.Frag) (mg : Str → Option Value) (cs : List Str) : Prop := ∀ c ∈ cs, mg c = some (.ref (He.ga K c))
theorem at_of {cs : List Str} {f : Str} (g : Names K mg cs) (h : atB K cs f = true) : AtOk K mg cs f := by
  intro c hc C e
  have e2 := g c hc
  rw [e] at e2
  cases e2
  obtain ⟨h1, h2⟩ := andB (List.all_eq_true.mp h c hc)
  exact ⟨xfB_ok h1, of_decide_eq_true h2⟩
theorem excB_ok {D : Addr} (h : excB K D = true) : ExcC K D := by
  obtain ⟨h1, h⟩ := andB h
  obtain ⟨h2, h⟩ := andB h
  obtain ⟨h3, h⟩ := andB h
  obtain ⟨h4, h⟩ := andB h
  obtain ⟨h5, h⟩ := andB h
  obtain ⟨h6, h⟩ := andB h
  obtain ⟨h7, h8⟩ := andB h
  exact ⟨of_decide_eq_true h1, of_decide_eq_true h2, of_decide_eq_true h3, h4, of_decide_eq_true h5, of_decide_eq_true h6, of_decide_eq_true h7, of_decide_eq_true h8⟩
theorem ct_of {ct : CT} (g1 : Names K mg (ct.es.map (·.c))) (g2 : Names K mg ct.ns) (h : ctB K ct = true) : CtOk K mg ct := by
  have key : ∀ e ∈ ct.es, ∀ C, mg e.c = some (.ref C) → C = He.ga K e.c := fun e he C q => by
    have := g1 e.c (List.mem_map_of_mem he)
    rw [q] at this
    cases this
    rfl
  refine ⟨fun e he C q => ?_, fun e he C q T hT a qa => ?_, fun e he C q T hT => ?_⟩
  · rw [key e he C q]
    exact excB_ok (andB (List.all_eq_true.mp h e he)).1
  · rw [key e he C q]
    have := g2 T hT
    rw [qa] at this
    cases this
    exact of_decide_eq_true (List.all_eq_true.mp (andB (andB (List.all_eq_true.mp h e he)).2).1 T hT)
  · rw [key e he C q]
    exact of_decide_eq_true (List.all_eq_true.mp (andB (andB (List.all_eq_true.mp h e he)).2).2 T hT)
theorem lookup_in {c : Str} {b : Bool} : ∀ {l : List (Str × Bool)}, l.lookup c = some b → (c, b) ∈ l
  | [], h => by cases h
  | (d, e) :: l, h => by
    by_cases q : c == d
    · simp only [List.lookup, q] at h
      cases h
      rw [beq_iff_eq.mp q]
      exact List.mem_cons_self
    · simp only [List.lookup, Bool.eq_false_iff.mpr q] at h
      exact List.mem_cons_of_mem _ (lookup_in h)
theorem mt_of1 {l : List (Str × Bool)} {a : Str} (g : Names K mg (l.map (·.1))) (h : mtB K l [a] = true) : MtOk mg (mtL l) (fun cls => PySem.W.exmOne K cls (.ref (He.ga K a))) := by
  intro c b C hb hC
  have m := lookup_in hb
  have e := g c (List.mem_map_of_mem (f := (·.1)) m)
  rw [hC] at e
  cases e
  exact of_decide_eq_true (List.all_eq_true.mp h _ m)
theorem mt_of3 {l : List (Str × Bool)} {a a2 a3 : Str} (g : Names K mg (l.map (·.1))) (h : mtB K l [a, a2, a3] = true) : MtOk mg (mtL l) (fun cls => PySem.W.exmAny K cls [.ref (He.ga K a), .ref (He.ga K a2), .ref (He.ga K a3)]) := by
  intro c b C hb hC
  have m := lookup_in hb
  have e := g c (List.mem_map_of_mem (f := (·.1)) m)
  rw [hC] at e
  cases e
  exact of_decide_eq_true (List.all_eq_true.mp h _ m)
theorem Names.nil : Names K mg [] := fun _ h => nomatch h
theorem Names.cons {c : Str} {cs : List Str} (h : mg c = some (.ref (He.ga K c))) (t : Names K mg cs) : Names K mg (c :: cs) := fun x hx => by
  rcases List.mem_cons.mp hx with e | e
  · rw [e]; exact h
  · exact t x e
end
section
variable {K : PySem.W.Frag} {x qual : Str} {params : Arguments} {body : List Stmt} {scope : Scope} {dvs : List V} {kws : List (Str × V)} {f : Addr} {fd : FuncData} {ps ks : List Str}
/-- every parameter written, some by name, where there are defaults too -/
theorem kb_nd (F : FunD K x qual params body scope dvs kws f fd) (hd : dvs ≠ []) (n : Nat) (l : List Nat) (hl : l.length = ps.length) (hi : ∀ i ∈ l, i < n + ks.length)
    (h : ∀ (T : Addr) (kV doc pm : Value) (an : Option Addr) (cdv ct : Value) (us ws its : List Value), us.length = n → ws.length = ks.length → its.length = dvs.length →
      ∃ k, bindArgs (PySem.W.fnOf x qual params body scope (.ref T) kV doc pm an cdv ct) ⟨us, ks.zip ws⟩ = seqItems? (.ref T) >>= k ∧ k (some its.toArray) = pure (ps.zip (pick l (us ++ ws)))) :
    KBg K fd ps ks n (fun us ws => pick l (us ++ ws)) (fun vs zs => pick l (vs ++ zs)) (fun ds cs => pick l (ds ++ cs)) := by
  obtain ⟨oc0, od0, dV0, kV0, doc0, pm0, an0, cdv0, ct0, osl0, e0, lk0, hcd0, hD, _⟩ := F.ex
  subst e0
  rcases hD with ⟨e, _⟩ | ⟨_, T, o, its, m, e, lT, oT, rT⟩
  · exact absurd e hd
  · subst e
    refine ⟨fun s us ws X h1 h2 => ?_, fun r1 r2 => pick_vals (r1.append r2) l, fun vs zs h1 h2 => by rw [pick_len (by intro i z; rw [List.length_append, h1, h2]; exact hi i z), hl], fun {Γ mg φ H ds vs cs zs} r1 r2 => pick_rp (r1.append r2) l⟩
    obtain ⟨k, e1, e2⟩ := h T kV0 doc0 pm0 an0 cdv0 ct0 us ws its h1 h2 rT.length.symm
    refine BindsTo.of_looks fun M => ?_
    rw [e1]
    exact looks_items X lT oT (.of_pure e2)
theorem plain_d {n : Nat} (F : FunD K x qual params body scope dvs kws f fd) (hd : dvs ≠ []) (hn : ps.length = n)
    (h : ∀ (T : Addr) (kV doc pm : Value) (an : Option Addr) (cdv ct : Value) (us its : List Value), us.length = n → its.length = dvs.length →
      ∃ k, bindArgs (PySem.W.fnOf x qual params body scope (.ref T) kV doc pm an cdv ct) ⟨us, []⟩ = seqItems? (.ref T) >>= k ∧ k (some its.toArray) = pure (ps.zip us)) :
    KBg K fd ps [] n (fun us _ => us) (fun vs _ => vs) (fun ds _ => ds) := by
  obtain ⟨oc0, od0, dV0, kV0, doc0, pm0, an0, cdv0, ct0, osl0, e0, lk0, hcd0, hD, _⟩ := F.ex
  subst e0
  rcases hD with ⟨e, _⟩ | ⟨_, T, o, its, m, e, lT, oT, rT⟩
  · exact absurd e hd
  · subst e
    refine KBg.plain hn fun s us X h1 => ?_
    obtain ⟨k, e1, e2⟩ := h T kV0 doc0 pm0 an0 cdv0 ct0 us its h1 rT.length.symm
    refine BindsTo.of_looks fun M => ?_
    rw [e1]
    exact looks_items X lT oT (.of_pure e2)
end
end SE

/-! SE7: reckoning with computations. -/
namespace SE
open PySem PySem.Spec PyProof.Rows L2
section
variable {α β : Type}
theorem M.bind_ok {m : M α} {k : α → M β} {μ μ' : Mem} {a : α} (h : m μ = .ok a μ') : (m >>= k) μ = k a μ' := by
  show M.bind m k μ = _
  unfold M.bind
  rw [h]
theorem M.bind_ap (m : M α) (k : α → M β) (μ : Mem) : (m >>= k) μ = (match m μ with
  | .ok a μ' => k a μ'
  | .exc e μ' => .exc e μ'
  | .bad => .bad) := rfl
theorem M.pure_ap (a : α) (μ : Mem) : (M.pure a : M α) μ = .ok a μ := rfl
end
section
variable {ρ : Ev} {μ : Mem} {f : D → D → M D} {g : D → M D} {h : List D → M D} {a b c : Ev → M D} {l : Ev → M (List D)} {t u : Ev → M Bool} {s s' : MS} {d : D} {i : Nat}
theorem eVar_ap : eVar i ρ μ = (match ρ[i]? with
  | some (some d) => .ok d μ
  | _ => .bad) := by
  unfold eVar M.pure M.bad
  cases ρ[i]? with
  | none => rfl
  | some o => cases o <;> rfl
theorem eC_ap : eC d ρ μ = .ok d μ := rfl
theorem e2_ap : e2 f a b ρ μ = (match a ρ μ with
  | .ok x μ1 => (match b ρ μ1 with
    | .ok y μ2 => f x y μ2
    | .exc e m => .exc e m
    | .bad => .bad)
  | .exc e m => .exc e m
  | .bad => .bad) := by
  show M.bind (a ρ) (fun x => M.bind (b ρ) fun y => f x y) μ = _
  unfold M.bind
  cases a ρ μ with
  | ok x μ1 =>
    dsimp only
    cases b ρ μ1 <;> rfl
  | exc e m => rfl
  | bad => rfl
theorem e1_ap : e1 g a ρ μ = (match a ρ μ with
  | .ok x μ1 => g x μ1
  | .exc e m => .exc e m
  | .bad => .bad) := by
  show M.bind (a ρ) (fun x => g x) μ = _
  unfold M.bind
  cases a ρ μ <;> rfl
theorem eL_ap : eL h l ρ μ = (match l ρ μ with
  | .ok x μ1 => h x μ1
  | .exc e m => .exc e m
  | .bad => .bad) := by
  show M.bind (l ρ) (fun x => h x) μ = _
  unfold M.bind
  cases l ρ μ <;> rfl
theorem eCall_ap : eCall h l ρ μ = (match l ρ μ with
  | .ok x μ1 => h x μ1
  | .exc e m => .exc e m
  | .bad => .bad) := by
  show M.bind (l ρ) (fun x => h x) μ = _
  unfold M.bind
  cases l ρ μ <;> rfl
theorem eCallK_ap {gD : List D → List D → List D} {k : Ev → M (List D)} : eCallK h gD l k ρ μ = (match l ρ μ with
  | .ok x μ1 => (match k ρ μ1 with
    | .ok y μ2 => h (gD x y) μ2
    | .exc e m => .exc e m
    | .bad => .bad)
  | .exc e m => .exc e m
  | .bad => .bad) := by
  show M.bind (l ρ) (fun x => M.bind (k ρ) fun y => h (gD x y)) μ = _
  unfold M.bind
  cases l ρ μ with
  | ok x μ1 =>
    dsimp only
    cases k ρ μ1 <;> rfl
  | exc e m => rfl
  | bad => rfl
theorem eLL_ap {h : List D → M (List D)} : eLL h l ρ μ = (match l ρ μ with
  | .ok x μ1 => h x μ1
  | .exc e m => .exc e m
  | .bad => .bad) := by
  show M.bind (l ρ) (fun x => h x) μ = _
  unfold M.bind
  cases l ρ μ <;> rfl
theorem eSeq_ap {g : D → M (List D)} : eSeq g a ρ μ = (match a ρ μ with
  | .ok x μ1 => g x μ1
  | .exc e m => .exc e m
  | .bad => .bad) := by
  show M.bind (a ρ) (fun x => g x) μ = _
  unfold M.bind
  cases a ρ μ <;> rfl
theorem lNil_ap : lNil ρ μ = .ok [] μ := rfl
theorem lCons_ap : lCons a l ρ μ = (match a ρ μ with
  | .ok x μ1 => (match l ρ μ1 with
    | .ok xs μ2 => .ok (x :: xs) μ2
    | .exc e m => .exc e m
    | .bad => .bad)
  | .exc e m => .exc e m
  | .bad => .bad) := by
  show M.bind (a ρ) (fun x => M.bind (l ρ) fun y => M.pure (x :: y)) μ = _
  unfold M.bind
  cases a ρ μ with
  | ok x μ1 =>
    dsimp only
    cases l ρ μ1 <;> rfl
  | exc e m => rfl
  | bad => rfl
theorem bTru_ap : bTru a ρ μ = (match a ρ μ with
  | .ok x μ1 => truB x μ1
  | .exc e m => .exc e m
  | .bad => .bad) := by
  show M.bind (a ρ) (fun x => truB x) μ = _
  unfold M.bind
  cases a ρ μ <;> rfl
theorem bOf_ap : bOf a ρ μ = (match a ρ μ with
  | .ok x μ1 => isBl x μ1
  | .exc e m => .exc e m
  | .bad => .bad) := by
  show M.bind (a ρ) (fun x => isBl x) μ = _
  unfold M.bind
  cases a ρ μ <;> rfl
theorem bNot_ap : bNot t ρ μ = (match t ρ μ with
  | .ok x μ1 => .ok (!x) μ1
  | .exc e m => .exc e m
  | .bad => .bad) := by
  show M.bind (t ρ) (fun x => M.pure (!x)) μ = _
  unfold M.bind
  cases t ρ μ <;> rfl
theorem bAnd_ap : bAnd t u ρ μ = (match t ρ μ with
  | .ok x μ1 => if x = true then u ρ μ1 else .ok false μ1
  | .exc e m => .exc e m
  | .bad => .bad) := by
  show M.bind (t ρ) (fun x => if x = true then u ρ else M.pure false) μ = _
  unfold M.bind
  cases t ρ μ with
  | ok x μ1 => cases x <;> rfl
  | exc e m => rfl
  | bad => rfl
theorem bOr_ap : bOr t u ρ μ = (match t ρ μ with
  | .ok x μ1 => if x = true then .ok true μ1 else u ρ μ1
  | .exc e m => .exc e m
  | .bad => .bad) := by
  show M.bind (t ρ) (fun x => if x = true then M.pure true else u ρ) μ = _
  unfold M.bind
  cases t ρ μ with
  | ok x μ1 => cases x <;> rfl
  | exc e m => rfl
  | bad => rfl
theorem eAnd_ap : eAnd a b ρ μ = (match a ρ μ with
  | .ok (.bl true) μ1 => b ρ μ1
  | .ok (.bl false) μ1 => .ok (.bl false) μ1
  | .ok _ _ => .bad
  | .exc e m => .exc e m
  | .bad => .bad) := by
  show M.bind (a ρ) (fun x => M.bind (isBl x) fun c => if c = true then b ρ else M.pure (D.bl false)) μ = _
  unfold M.bind isBl
  cases a ρ μ with
  | ok x μ1 =>
    cases x with
    | bl k => cases k <;> rfl
    | _ => rfl
  | exc e m => rfl
  | bad => rfl
theorem eOr_ap : eOr a b ρ μ = (match a ρ μ with
  | .ok (.bl true) μ1 => .ok (.bl true) μ1
  | .ok (.bl false) μ1 => b ρ μ1
  | .ok _ _ => .bad
  | .exc e m => .exc e m
  | .bad => .bad) := by
  show M.bind (a ρ) (fun x => M.bind (isBl x) fun c => if c = true then M.pure (D.bl true) else b ρ) μ = _
  unfold M.bind isBl
  cases a ρ μ with
  | ok x μ1 =>
    cases x with
    | bl k => cases k <;> rfl
    | _ => rfl
  | exc e m => rfl
  | bad => rfl
theorem eNot_ap : eNot a ρ μ = (match a ρ μ with
  | .ok (.bl k) μ1 => .ok (.bl (!k)) μ1
  | .ok _ _ => .bad
  | .exc e m => .exc e m
  | .bad => .bad) := by
  show M.bind (a ρ) (fun x => M.bind (isBl x) fun c => M.pure (D.bl (!c))) μ = _
  unfold M.bind isBl
  cases a ρ μ with
  | ok x μ1 => cases x <;> rfl
  | exc e m => rfl
  | bad => rfl
theorem eIf_ap : eIf t a b ρ μ = (match t ρ μ with
  | .ok x μ1 => if x = true then a ρ μ1 else b ρ μ1
  | .exc e m => .exc e m
  | .bad => .bad) := by
  show M.bind (t ρ) (fun x => if x = true then a ρ else b ρ) μ = _
  unfold M.bind
  cases t ρ μ with
  | ok x μ1 => cases x <;> rfl
  | exc e m => rfl
  | bad => rfl
theorem e3c_ap {f g : D → D → M D} : e3c f g a b c ρ μ = (match a ρ μ with
  | .ok x μ1 => (match b ρ μ1 with
    | .ok y μ2 => (match f x y μ2 with
      | .ok (.bl true) μ3 => (match c ρ μ3 with
        | .ok z μ4 => g y z μ4
        | .exc e m => .exc e m
        | .bad => .bad)
      | .ok (.bl false) μ3 => .ok (.bl false) μ3
      | .ok _ _ => .bad
      | .exc e m => .exc e m
      | .bad => .bad)
    | .exc e m => .exc e m
    | .bad => .bad)
  | .exc e m => .exc e m
  | .bad => .bad) := by
  show M.bind (a ρ) (fun x => M.bind (b ρ) fun y => M.bind (f x y) fun z => M.bind (isBl z) fun k => if k = true then M.bind (c ρ) (fun w => g y w) else M.pure (D.bl false)) μ = _
  unfold M.bind isBl
  cases a ρ μ with
  | ok x μ1 =>
    dsimp only
    cases b ρ μ1 with
    | ok y μ2 =>
      dsimp only
      cases f x y μ2 with
      | ok z μ3 =>
        cases z with
        | bl k =>
          cases k with
          | false => rfl
          | true =>
            dsimp only
            rw [if_pos rfl]
            cases c ρ μ3 <;> rfl
        | _ => rfl
      | exc e m => rfl
      | bad => rfl
    | exc e m => rfl
    | bad => rfl
  | exc e m => rfl
  | bad => rfl
theorem sNext_ap : sNext ρ μ = .ok (.nx ρ) μ := rfl
theorem sSeq_ap : sSeq s s' ρ μ = (match s ρ μ with
  | .ok (.nx ρ') μ' => s' ρ' μ'
  | r => r) := rfl
theorem sSet_ap : sSet i a ρ μ = bindS (a ρ μ) ρ fun d μ' => .ok (.nx (ρ.set i (some d))) μ' := rfl
theorem sDrop_ap : sDrop a ρ μ = bindS (a ρ μ) ρ fun _ μ' => .ok (.nx ρ) μ' := rfl
theorem sRet_ap : sRet a ρ μ = bindS (a ρ μ) ρ fun d μ' => .ok (.rt d) μ' := rfl
theorem sIf_ap : sIf t s s' ρ μ = bindS (t ρ μ) ρ fun c μ' => if c = true then s ρ μ' else s' ρ μ' := rfl
theorem sAsg_ap {f : GT} : sAsg f a ρ μ = bindS (a ρ μ) ρ fun d μ' => (match f d ρ with
  | some ρ' => .ok (.nx ρ') μ'
  | none => .bad) := rfl
theorem sPar_ap {j : Nat} : sPar i j l ρ μ = bindS (l ρ μ) ρ fun ds μ' => (match ds with
  | [x, y] => .ok (.nx ((ρ.set i (some x)).set j (some y))) μ'
  | _ => .bad) := rfl
theorem bindS_ok {α : Type} {x : α} {k : α → Mem → RS} : bindS (.ok x μ) ρ k = k x μ := rfl
theorem bindS_exc {α : Type} {e : Ex} {k : α → Mem → RS} : bindS (.exc e μ) ρ k = .exc e ρ μ := rfl
end
/-! ### what is wanted behind a computation -/
def wr {α : Type} (r : Res α) (Q : α → Mem → Prop) (E : Ex → Mem → Prop) : Prop := match r with
  | .ok a μ => Q a μ
  | .exc e μ => E e μ
  | .bad => False
/-- .. behind a statement: N on, R returned, B break, C continue, E raised -/
def ws (r : RS) (N : Ev → Mem → Prop) (R : D → Mem → Prop) (B C : Ev → Mem → Prop) (E : Ex → Mem → Prop) : Prop := match r with
  | .ok (.nx ρ) μ => N ρ μ
  | .ok (.rt d) μ => R d μ
  | .ok (.bk ρ) μ => B ρ μ
  | .ok (.ct ρ) μ => C ρ μ
  | .exc e _ μ => E e μ
  | .bad => False
section
variable {α β : Type} {ρ : Ev} {μ : Mem} {Q : α → Mem → Prop} {P : D → Mem → Prop} {L : List D → Mem → Prop} {T : Bool → Mem → Prop} {E : Ex → Mem → Prop} {f : D → D → M D} {g : D → M D} {h : List D → M D} {a b c : Ev → M D} {l k : Ev → M (List D)} {t u : Ev → M Bool} {s s' : MS} {d : D} {i j : Nat}
  {N B C : Ev → Mem → Prop} {R : D → Mem → Prop}
theorem wr_ok {x : α} : wr (.ok x μ) Q E = Q x μ := rfl
theorem wr_exc {e : Ex} : wr (.exc e μ) Q E = E e μ := rfl
theorem wr_bad : wr (.bad : Res α) Q E = False := rfl
theorem wr_ite {p : Prop} [Decidable p] {x y : Res α} : wr (if p then x else y) Q E = if p then wr x Q E else wr y Q E := by split <;> rfl
theorem wr_bind {m : M β} {k : β → M α} : wr ((m >>= k) μ) Q E = wr (m μ) (fun x μ1 => wr (k x μ1) Q E) E := by
  show wr (M.bind m k μ) Q E = _
  unfold M.bind wr
  cases m μ <;> rfl
theorem wr_mono {r : Res α} {Q' : α → Mem → Prop} {E' : Ex → Mem → Prop} (h : wr r Q E) (hq : ∀ x μ, Q x μ → Q' x μ) (he : ∀ e μ, E e μ → E' e μ) : wr r Q' E' := by
  cases r with
  | ok x μ => exact hq _ _ h
  | exc e μ => exact he _ _ h
  | bad => exact h
theorem wr_eVar : wr (eVar i ρ μ) P E = (match ρ[i]? with
  | some (some d) => P d μ
  | _ => False) := by
  rw [eVar_ap]
  cases ρ[i]? with
  | none => rfl
  | some o => cases o <;> rfl
theorem wr_eC : wr (eC d ρ μ) P E = P d μ := rfl
theorem wr_e2 : wr (e2 f a b ρ μ) P E = wr (a ρ μ) (fun x μ1 => wr (b ρ μ1) (fun y μ2 => wr (f x y μ2) P E) E) E := by
  rw [e2_ap]
  unfold wr
  cases a ρ μ with
  | ok x μ1 =>
    dsimp only
    cases b ρ μ1 <;> rfl
  | _ => rfl
theorem wr_e1 : wr (e1 g a ρ μ) P E = wr (a ρ μ) (fun x μ1 => wr (g x μ1) P E) E := by
  rw [e1_ap]
  unfold wr
  cases a ρ μ <;> rfl
theorem wr_eL : wr (eL h l ρ μ) P E = wr (l ρ μ) (fun x μ1 => wr (h x μ1) P E) E := by
  rw [eL_ap]
  unfold wr
  cases l ρ μ <;> rfl
theorem wr_eCall : wr (eCall h l ρ μ) P E = wr (l ρ μ) (fun x μ1 => wr (h x μ1) P E) E := by
  rw [eCall_ap]
  unfold wr
  cases l ρ μ <;> rfl
theorem wr_eLL {h : List D → M (List D)} : wr (eLL h l ρ μ) L E = wr (l ρ μ) (fun x μ1 => wr (h x μ1) L E) E := by
  rw [eLL_ap]
  unfold wr
  cases l ρ μ <;> rfl
theorem wr_eSeq {g : D → M (List D)} : wr (eSeq g a ρ μ) L E = wr (a ρ μ) (fun x μ1 => wr (g x μ1) L E) E := by
  rw [eSeq_ap]
  unfold wr
  cases a ρ μ <;> rfl
theorem wr_eCallK {gD : List D → List D → List D} : wr (eCallK h gD l k ρ μ) P E = wr (l ρ μ) (fun x μ1 => wr (k ρ μ1) (fun y μ2 => wr (h (gD x y) μ2) P E) E) E := by
  rw [eCallK_ap]
  unfold wr
  cases l ρ μ with
  | ok x μ1 =>
    dsimp only
    cases k ρ μ1 <;> rfl
  | _ => rfl
theorem wr_lNil : wr (lNil ρ μ) L E = L [] μ := rfl
theorem wr_lCons : wr (lCons a l ρ μ) L E = wr (a ρ μ) (fun x μ1 => wr (l ρ μ1) (fun xs μ2 => L (x :: xs) μ2) E) E := by
  rw [lCons_ap]
  unfold wr
  cases a ρ μ with
  | ok x μ1 =>
    dsimp only
    cases l ρ μ1 <;> rfl
  | _ => rfl
theorem wr_bTru : wr (bTru a ρ μ) T E = wr (a ρ μ) (fun x μ1 => wr (truB x μ1) T E) E := by
  rw [bTru_ap]
  unfold wr
  cases a ρ μ <;> rfl
theorem wr_bOf : wr (bOf a ρ μ) T E = wr (a ρ μ) (fun x μ1 => wr (isBl x μ1) T E) E := by
  rw [bOf_ap]
  unfold wr
  cases a ρ μ <;> rfl
theorem wr_bNot : wr (bNot t ρ μ) T E = wr (t ρ μ) (fun x μ1 => T (!x) μ1) E := by
  rw [bNot_ap]
  unfold wr
  cases t ρ μ <;> rfl
theorem wr_bAnd : wr (bAnd t u ρ μ) T E = wr (t ρ μ) (fun x μ1 => if x = true then wr (u ρ μ1) T E else T false μ1) E := by
  rw [bAnd_ap]
  unfold wr
  cases t ρ μ with
  | ok x μ1 => cases x <;> rfl
  | _ => rfl
theorem wr_bOr : wr (bOr t u ρ μ) T E = wr (t ρ μ) (fun x μ1 => if x = true then T true μ1 else wr (u ρ μ1) T E) E := by
  rw [bOr_ap]
  unfold wr
  cases t ρ μ with
  | ok x μ1 => cases x <;> rfl
  | _ => rfl
theorem wr_isBl {b : Bool} : wr (isBl (.bl b) μ) T E = T b μ := rfl
theorem wr_eAnd : wr (eAnd a b ρ μ) P E = wr (a ρ μ) (fun x μ1 => wr (isBl x μ1) (fun c μ2 => if c = true then wr (b ρ μ2) P E else P (.bl false) μ2) E) E := by
  rw [eAnd_ap]
  unfold wr isBl
  cases a ρ μ with
  | ok x μ1 =>
    cases x with
    | bl k => cases k <;> rfl
    | _ => rfl
  | _ => rfl
theorem wr_eOr : wr (eOr a b ρ μ) P E = wr (a ρ μ) (fun x μ1 => wr (isBl x μ1) (fun c μ2 => if c = true then P (.bl true) μ2 else wr (b ρ μ2) P E) E) E := by
  rw [eOr_ap]
  unfold wr isBl
  cases a ρ μ with
  | ok x μ1 =>
    cases x with
    | bl k => cases k <;> rfl
    | _ => rfl
  | _ => rfl
theorem wr_eNot : wr (eNot a ρ μ) P E = wr (a ρ μ) (fun x μ1 => wr (isBl x μ1) (fun c μ2 => P (.bl (!c)) μ2) E) E := by
  rw [eNot_ap]
  unfold wr isBl
  cases a ρ μ with
  | ok x μ1 => cases x <;> rfl
  | _ => rfl
theorem wr_eIf : wr (eIf t a b ρ μ) P E = wr (t ρ μ) (fun x μ1 => if x = true then wr (a ρ μ1) P E else wr (b ρ μ1) P E) E := by
  rw [eIf_ap]
  unfold wr
  cases t ρ μ with
  | ok x μ1 => cases x <;> rfl
  | _ => rfl
theorem wr_e3c {f g : D → D → M D} : wr (e3c f g a b c ρ μ) P E = wr (a ρ μ) (fun x μ1 => wr (b ρ μ1) (fun y μ2 => wr (f x y μ2) (fun z μ3 => wr (isBl z μ3) (fun k μ4 => if k = true then wr (c ρ μ4) (fun w μ5 => wr (g y w μ5) P E) E else P (.bl false) μ4) E) E) E) E := by
  rw [e3c_ap]
  unfold wr isBl
  cases a ρ μ with
  | ok x μ1 =>
    dsimp only
    cases b ρ μ1 with
    | ok y μ2 =>
      dsimp only
      cases f x y μ2 with
      | ok z μ3 =>
        cases z with
        | bl k =>
          cases k with
          | false => rfl
          | true =>
            dsimp only
            rw [if_pos rfl]
            cases c ρ μ3 <;> rfl
        | _ => rfl
      | _ => rfl
    | _ => rfl
  | _ => rfl
/-! statements -/
theorem ws_bindS {r : Res β} {k : β → Mem → RS} : ws (bindS r ρ k) N R B C E = wr r (fun x μ1 => ws (k x μ1) N R B C E) E := by
  unfold bindS wr
  cases r <;> rfl
theorem ws_nx : ws (.ok (.nx ρ) μ) N R B C E = N ρ μ := rfl
theorem ws_sNext : ws (sNext ρ μ) N R B C E = N ρ μ := rfl
theorem ws_sSeq : ws (sSeq s s' ρ μ) N R B C E = ws (s ρ μ) (fun ρ' μ' => ws (s' ρ' μ') N R B C E) R B C E := by
  rw [sSeq_ap]
  unfold ws
  cases s ρ μ with
  | ok f μ1 => cases f <;> rfl
  | _ => rfl
theorem ws_sSet : ws (sSet i a ρ μ) N R B C E = wr (a ρ μ) (fun d μ1 => N (ρ.set i (some d)) μ1) E := by
  rw [sSet_ap, ws_bindS]
  rfl
theorem ws_sDrop : ws (sDrop a ρ μ) N R B C E = wr (a ρ μ) (fun d μ1 => N ρ μ1) E := by
  rw [sDrop_ap, ws_bindS]
  rfl
theorem ws_sRet : ws (sRet a ρ μ) N R B C E = wr (a ρ μ) R E := by
  rw [sRet_ap, ws_bindS]
  rfl
theorem ws_sRetN : ws (sRetN ρ μ) N R B C E = R .non μ := rfl
theorem ws_sBrk : ws (sBrk ρ μ) N R B C E = B ρ μ := rfl
theorem ws_sCnt : ws (sCnt ρ μ) N R B C E = C ρ μ := rfl
theorem ws_sIf : ws (sIf t s s' ρ μ) N R B C E = wr (t ρ μ) (fun c μ1 => if c = true then ws (s ρ μ1) N R B C E else ws (s' ρ μ1) N R B C E) E := by
  rw [sIf_ap, ws_bindS]
  unfold wr
  cases t ρ μ with
  | ok x μ1 => cases x <;> rfl
  | _ => rfl
theorem ws_sAsg {f : GT} : ws (sAsg f a ρ μ) N R B C E = wr (a ρ μ) (fun d μ1 => match f d ρ with
  | some ρ' => N ρ' μ1
  | none => False) E := by
  rw [sAsg_ap, ws_bindS]
  unfold wr
  cases a ρ μ with
  | ok x μ1 =>
    dsimp only
    cases f x ρ <;> rfl
  | _ => rfl
theorem ws_sPar : ws (sPar i j l ρ μ) N R B C E = wr (l ρ μ) (fun ds μ1 => match ds with
  | [x, y] => N ((ρ.set i (some x)).set j (some y)) μ1
  | _ => False) E := by
  rw [sPar_ap, ws_bindS]
  unfold wr
  cases l ρ μ with
  | ok x μ1 =>
    match x with
    | [] => rfl
    | [_] => rfl
    | [_, _] => rfl
    | _ :: _ :: _ :: _ => rfl
  | _ => rfl
theorem ws_sSub {mo mi : Ev → M D} : ws (sSub mo mi a ρ μ) N R B C E = wr (a ρ μ) (fun d μ1 => wr (mo ρ μ1) (fun o μ2 => wr (mi ρ μ2) (fun i μ3 => ws (subR o i d ρ μ3) N R B C E) E) E) E := by
  unfold sSub
  simp only [ws_bindS]
theorem ws_subR {l : Nat} {k : Int} {xs : List D} {j : Nat} (h : μ[l]? = some (.lst xs)) (hj : ixN xs.length k = some j) : ws (subR (.loc l) (.int k) d ρ μ) N R B C E = N ρ (μ.set l (.lst (xs.set j d))) := by
  unfold subR
  simp only [h, hj]
  rfl
theorem wr_callM {n : Nat} {ds : List D} : wr (callM n s ds μ) P E = ws (s (ds.map some ++ List.replicate (n - ds.length) none) μ) (fun _ μ1 => P .non μ1) P (fun _ _ => False) (fun _ _ => False) E := by
  unfold callM ws wr
  cases s (ds.map some ++ List.replicate (n - ds.length) none) μ with
  | ok f μ1 => cases f <;> rfl
  | _ => rfl
theorem ws_sForE {m : Ev → M (List D)} {f : GT} : ws (sForE m f s ρ μ) N R B C E = wr (m ρ μ) (fun ds μ1 => ws (sFor f s ds ρ μ1) N R B C E) E := by
  unfold sForE
  rw [ws_bindS]
theorem ws_sFor_nil {f : GT} : ws (sFor f s [] ρ μ) N R B C E = N ρ μ := rfl
theorem ws_sTurn {r : RS} {next : MS} : ws (sTurn r next) N R B C E = ws r (fun ρ μ => ws (next ρ μ) N R B C E) R N (fun ρ μ => ws (next ρ μ) N R B C E) E := by
  unfold sTurn ws
  cases r with
  | ok f μ1 => cases f <;> rfl
  | _ => rfl
theorem ws_sFor_cons {f : GT} {ds : List D} : ws (sFor f s (d :: ds) ρ μ) N R B C E = (match f d ρ with
  | some ρ1 => ws (s ρ1 μ) (fun ρ' μ' => ws (sFor f s ds ρ' μ') N R B C E) R N (fun ρ' μ' => ws (sFor f s ds ρ' μ') N R B C E) E
  | none => False) := by
  rw [show sFor f s (d :: ds) ρ μ = (match f d ρ with
    | some ρ1 => sTurn (s ρ1 μ) (sFor f s ds)
    | none => .bad) from rfl]
  cases f d ρ with
  | none => rfl
  | some ρ1 => exact ws_sTurn
/-- a for by what holds between two turns -/
theorem ws_for {f : GT} (I : Nat → Ev → Mem → Prop) {ds : List D} (h0 : I 0 ρ μ)
    (hs : ∀ j d ρ μ, ds[j]? = some d → I j ρ μ → (match f d ρ with
      | some ρ1 => ws (s ρ1 μ) (fun ρ' μ' => I (j + 1) ρ' μ') R N (fun ρ' μ' => I (j + 1) ρ' μ') E
      | none => False)) (hd : ∀ ρ μ, I ds.length ρ μ → N ρ μ) : ws (sFor f s ds ρ μ) N R B C E := by
  have key : ∀ (rest : List D) (i : Nat) (ρ : Ev) (μ : Mem), i + rest.length = ds.length → ds.drop i = rest → I i ρ μ → ws (sFor f s rest ρ μ) N R B C E := by
    intro rest
    induction rest with
    | nil =>
      intro i ρ μ hl e h
      rw [ws_sFor_nil]
      have : i = ds.length := by simpa using hl
      subst this
      exact hd ρ μ h
    | cons d rest ih =>
      intro i ρ μ hl e h
      rw [ws_sFor_cons]
      have hi : i < ds.length := by
        simp at hl
        omega
      have e1 : ds[i]? = some d := by
        have e2 : (ds.drop i)[0]? = some d := by rw [e]; rfl
        rw [List.getElem?_drop] at e2
        simpa using e2
      have e3 : ds.drop (i + 1) = rest := by
        rw [← List.tail_drop, e]
        rfl
      have st := hs i d ρ μ e1 h
      cases q : f d ρ with
      | none => rw [q] at st; exact st
      | some ρ1 =>
        rw [q] at st
        dsimp only at st ⊢
        have hl' : i + 1 + rest.length = ds.length := by
          simp at hl
          omega
        unfold ws at st ⊢
        cases q2 : s ρ1 μ with
        | exc e μ1 => rw [q2] at st; exact st
        | bad => rw [q2] at st; exact st
        | ok fl μ1 =>
          rw [q2] at st
          cases fl with
          | nx ρ' => exact ih (i + 1) ρ' μ1 hl' e3 st
          | ct ρ' => exact ih (i + 1) ρ' μ1 hl' e3 st
          | bk ρ' => exact st
          | rt d => exact st
  exact key ds 0 ρ μ (by simp) rfl h0
/-- a while by what holds between two turns and a measure -/
theorem ws_while (I : Ev → Mem → Prop) (V : Ev → Mem → Nat) (h0 : I ρ μ)
    (hs : ∀ ρ μ, I ρ μ → wr (t ρ μ) (fun k μ1 => if k = true then ws (s ρ μ1) (fun ρ' μ' => I ρ' μ' ∧ V ρ' μ' < V ρ μ) R N (fun ρ' μ' => I ρ' μ' ∧ V ρ' μ' < V ρ μ) E else N ρ μ1) E) : ws (sWhile t s ρ μ) N R B C E := by
  have key : ∀ (v : Nat) (ρ : Ev) (μ : Mem), V ρ μ ≤ v → I ρ μ → ∃ r, WhileTo t s ρ μ r ∧ ws r N R B C E := by
    intro v
    induction v with
    | zero =>
      intro ρ μ hv h
      have st := hs ρ μ h
      unfold wr at st
      cases q : t ρ μ with
      | exc e μ1 =>
        rw [q] at st
        exact ⟨.exc e ρ μ1, ⟨1, by unfold whileF bindS; rw [q]⟩, st⟩
      | bad => rw [q] at st; exact st.elim
      | ok k μ1 =>
        rw [q] at st
        dsimp only at st
        cases k with
        | false => exact ⟨_, WhileTo.stop q, st⟩
        | true =>
          rw [if_pos rfl] at st
          unfold ws at st
          cases q2 : s ρ μ1 with
          | exc e ρ' μ2 => rw [q2] at st; exact ⟨.exc e ρ' μ2, ⟨1, by unfold whileF bindS; rw [q]; dsimp only; rw [if_pos rfl, q2]; rfl⟩, st⟩
          | bad => rw [q2] at st; exact st.elim
          | ok f μ2 =>
            rw [q2] at st
            cases f with
            | nx ρ' => have := st.2; omega
            | ct ρ' => have := st.2; omega
            | bk ρ' => exact ⟨.ok (.nx ρ') μ2, ⟨1, by unfold whileF bindS; rw [q]; dsimp only; rw [if_pos rfl, q2]; rfl⟩, st⟩
            | rt d => exact ⟨.ok (.rt d) μ2, ⟨1, by unfold whileF bindS; rw [q]; dsimp only; rw [if_pos rfl, q2]; rfl⟩, st⟩
    | succ v ih =>
      intro ρ μ hv h
      have st := hs ρ μ h
      unfold wr at st
      cases q : t ρ μ with
      | exc e μ1 =>
        rw [q] at st
        exact ⟨.exc e ρ μ1, ⟨1, by unfold whileF bindS; rw [q]⟩, st⟩
      | bad => rw [q] at st; exact st.elim
      | ok k μ1 =>
        rw [q] at st
        dsimp only at st
        cases k with
        | false => exact ⟨_, WhileTo.stop q, st⟩
        | true =>
          rw [if_pos rfl] at st
          unfold ws at st
          have tail : ∀ ρ' μ2, I ρ' μ2 ∧ V ρ' μ2 < V ρ μ → sTurn (s ρ μ1) (fun a b => .bad) = .bad → (∀ n, sTurn (s ρ μ1) (whileF t s n) = whileF t s n ρ' μ2) → ∃ r, WhileTo t s ρ μ r ∧ ws r N R B C E := fun ρ' μ2 hi _ he => by
            obtain ⟨r, ⟨n, e⟩, hr⟩ := ih ρ' μ2 (by have := hi.2; omega) hi.1
            exact ⟨r, ⟨n + 1, by unfold whileF bindS; rw [q]; dsimp only; rw [if_pos rfl, he, e]⟩, hr⟩
          cases q2 : s ρ μ1 with
          | exc e ρ' μ2 => rw [q2] at st; exact ⟨.exc e ρ' μ2, ⟨1, by unfold whileF bindS; rw [q]; dsimp only; rw [if_pos rfl, q2]; rfl⟩, st⟩
          | bad => rw [q2] at st; exact st.elim
          | ok f μ2 =>
            rw [q2] at st
            cases f with
            | nx ρ' => exact tail ρ' μ2 st (by rw [q2]; rfl) fun n => by rw [q2]; rfl
            | ct ρ' => exact tail ρ' μ2 st (by rw [q2]; rfl) fun n => by rw [q2]; rfl
            | bk ρ' => exact ⟨.ok (.nx ρ') μ2, ⟨1, by unfold whileF bindS; rw [q]; dsimp only; rw [if_pos rfl, q2]; rfl⟩, st⟩
            | rt d => exact ⟨.ok (.rt d) μ2, ⟨1, by unfold whileF bindS; rw [q]; dsimp only; rw [if_pos rfl, q2]; rfl⟩, st⟩
  obtain ⟨r, h1, h2⟩ := key _ ρ μ (Nat.le_refl _) h0
  have hne : r ≠ .bad := fun z => by rw [z] at h2; exact h2
  rw [h1.eq hne]
  exact h2
end
end SE

/-! SE8: the reckoning's tactic, the values of the operations, the drawing of numbers. -/
namespace SE
open PySem PySem.Spec PyProof.Rows L2
section
variable {μ : Mem} {i j : Int} {x y : Str} {a b d e : D} {xs ys ds : List D} {k c : Bool} {p : Int → Int → Bool}
theorem addM_i : addM (.int i) (.int j) μ = .ok (.int (i + j)) μ := rfl
theorem addM_s (h : x.length + y.length ≤ 1000000) : addM (.str x) (.str y) μ = .ok (.str (x ++ y)) μ := if_pos h
theorem addM_l (h : xs.length + ys.length ≤ 100000) : addM (.lst xs) (.lst ys) μ = .ok (.lst (xs ++ ys)) μ := if_pos h
theorem addM_t (h : xs.length + ys.length ≤ 100000) : addM (.tup xs) (.tup ys) μ = .ok (.tup (xs ++ ys)) μ := if_pos h
theorem subM_i : subM (.int i) (.int j) μ = .ok (.int (i - j)) μ := rfl
theorem mulOk_gen {N M : Nat} (hi : i.natAbs < N) (hj : j.natAbs < M) : (decide (i.natAbs < N) && decide (j.natAbs < M)) = true := by
  rw [decide_eq_true hi, decide_eq_true hj]
  rfl
theorem mulOk_pw {n m : Nat} (hi : i.natAbs < 2 ^ n) (hj : j.natAbs < 2 ^ m) (hn : n ≤ 400000) (hm : m ≤ 400000) : mulOk i j = true :=
  mulOk_gen (Nat.lt_of_lt_of_le hi (Nat.pow_le_pow_right (by omega) hn)) (Nat.lt_of_lt_of_le hj (Nat.pow_le_pow_right (by omega) hm))
theorem mulOk_le {B : Nat} (hi : i.natAbs ≤ B) (hj : j.natAbs ≤ B) (hB : B < 2 ^ 250) : mulOk i j = true :=
  mulOk_pw (Nat.lt_of_le_of_lt hi hB) (Nat.lt_of_le_of_lt hj hB) (by omega) (by omega)
theorem mulM_i (h : mulOk i j = true) : mulM (.int i) (.int j) μ = .ok (.int (i * j)) μ := by
  unfold mulM
  simp only [h, if_true]
theorem fdivM_i (h0 : 0 < j) (h1 : j.natAbs < 2 ^ 8000) : fdivM (.int i) (.int j) μ = .ok (.int (i / j)) μ := by
  have h : fdivOk j = true := by
    unfold fdivOk
    exact Bool.and_eq_true_iff.mpr ⟨decide_eq_true h0, decide_eq_true h1⟩
  unfold fdivM
  simp only [h, if_true]
theorem modM_i (h : 0 < j) : modM (.int i) (.int j) μ = .ok (.int (i % j)) μ := if_pos h
theorem powM_i (h : 0 ≤ j ∧ j ≤ 1000 ∧ i.natAbs < 2 ^ 64) : powM (.int i) (.int j) μ = .ok (.int (i ^ j.toNat)) μ := if_pos h
theorem negM_i : negM (.int i) μ = .ok (.int (-i)) μ := rfl
theorem cmpM_i : cmpM p (.int i) (.int j) μ = .ok (.bl (p i j)) μ := rfl
theorem eqM_i : eqM (.int i) (.int j) μ = .ok (.bl (decide (i = j))) μ := rfl
theorem eqM_s : eqM (.str x) (.str y) μ = .ok (.bl (decide (x = y))) μ := rfl
theorem neM_i : neM (.int i) (.int j) μ = .ok (.bl (!decide (i = j))) μ := rfl
theorem neM_s : neM (.str x) (.str y) μ = .ok (.bl (!decide (x = y))) μ := rfl
theorem absM_i : absM [.int i] μ = .ok (.int (if i < 0 then -i else i)) μ := rfl
theorem intM_i : intM [.int i] μ = .ok (.int i) μ := rfl
theorem intM_b : intM [.bl k] μ = .ok (.int (if k then 1 else 0)) μ := rfl
theorem max2M_i : max2M [.int i, .int j] μ = .ok (.int (if j > i then j else i)) μ := rfl
theorem min2M_i : min2M [.int i, .int j] μ = .ok (.int (if j < i then j else i)) μ := rfl
theorem lenM_t : lenM [.tup xs] μ = .ok (.int xs.length) μ := rfl
theorem lenM_l : lenM [.lst xs] μ = .ok (.int xs.length) μ := rfl
theorem lenM_r : lenM [.ro xs] μ = .ok (.int xs.length) μ := rfl
theorem tupM_ap : tupM ds μ = if ds.length ≤ 100000 then .ok (.tup ds) μ else .bad := rfl
theorem lstM_ap : lstM ds μ = if ds.length ≤ 100000 then .ok (.lst ds) μ else .bad := rfl
theorem strM_s : strM [.str x] μ = .ok (.str x) μ := rfl
theorem strM_i (h : i.natAbs.log2 < 1920) : strM [.int i] μ = .ok (.str (toString i)) μ := if_pos h
theorem reprM_ap (h : shOk d = true) : reprM [d] μ = .ok (.str (dP d).shown) μ := if_pos h
theorem truB_b : truB (.bl k) μ = .ok k μ := rfl
theorem isBl_b : isBl (.bl k) μ = .ok k μ := rfl
theorem seqL_l : seqL (.lst xs) μ = .ok xs μ := rfl
theorem seqT_t : seqT (.tup xs) μ = .ok xs μ := rfl
theorem isNM_n : isNM .non .non μ = .ok (.bl true) μ := rfl
theorem isNM_i : isNM (.int i) .non μ = .ok (.bl false) μ := rfl
theorem atI_0 : atI (a :: ds) 0 = some a := by
  unfold atI ixN
  simp
theorem atI_nat {n : Nat} (h : n < ds.length) : atI ds (n : Int) = some ds[n] := by
  unfold atI ixN
  rw [if_pos (by omega : (0 : Int) ≤ (n : Int)), if_pos (by omega)]
  simp [h]
theorem atI_of {n : Nat} (hi : i = n) (h : ds[n]? = some a) : atI ds i = some a := by
  subst hi
  obtain ⟨h1, h2⟩ := List.getElem?_eq_some_iff.mp h
  rw [atI_nat h1, h2]
theorem ixM_t (h : atI xs i = some d) : ixM (.tup xs) (.int i) μ = .ok d μ := by
  show (match atI xs i with | some d => Res.ok d μ | none => .bad) = _
  rw [h]
theorem ixM_l (h : atI xs i = some d) : ixM (.lst xs) (.int i) μ = .ok d μ := by
  show (match atI xs i with | some d => Res.ok d μ | none => .bad) = _
  rw [h]
theorem ixM_r (h : atI xs i = some d) : ixM (.ro xs) (.int i) μ = .ok d μ := by
  show (match atI xs i with | some d => Res.ok d μ | none => .bad) = _
  rw [h]
theorem ixM_o {l : Nat} (hl : μ[l]? = some (.lst xs)) (h : atI xs i = some d) : ixM (.loc l) (.int i) μ = .ok d μ := by
  show (match μ[l]? with
    | some (.lst xs) => (match atI xs i with | some d => Res.ok d μ | none => .bad)
    | none => .bad) = _
  rw [hl]
  dsimp only
  rw [h]
theorem newM_ap : newM ds μ = if ds.length ≤ 100000 then .ok (.loc μ.length) (μ ++ [.lst ds]) else .bad := rfl
theorem rng1M_i (h : j ≤ 100000 ∧ -100000 ≤ j) : rng1M [.int j] μ = .ok (rngL 0 j.toNat) μ := if_pos h
theorem isiM_of {T t : String} {k : Bool} (h1 : tyD μ d = some t) (h2 : kitB t T = some k) : isiM [d, .ty T] μ = .ok (.bl k) μ := by
  show (match tyD μ d with
    | some t => (match kitB t T with
      | some b => Res.ok (D.bl b) μ
      | none => .bad)
    | none => .bad) = _
  rw [h1]
  dsimp only
  rw [h2]
end
theorem wr_eq {α : Type} {r : Res α} {x : α} {μ : Mem} : wr r (fun d μ' => d = x ∧ μ' = μ) (fun _ _ => False) ↔ r = .ok x μ := by
  constructor
  · intro h
    cases r with
    | ok a m => obtain ⟨h1, h2⟩ := h; subst h1 h2; rfl
    | exc e m => exact h.elim
    | bad => exact h.elim
  · intro h
    subst h
    exact ⟨rfl, rfl⟩
theorem wr_ex {r : Res D} {x : D} (h : wr r (fun d _ => d = x) (fun _ _ => False)) : ∃ μ', r = .ok x μ' := by
  cases r with
  | ok a m => exact ⟨m, by rw [show a = x from h]⟩
  | exc e m => exact h.elim
  | bad => exact h.elim
theorem wr_rw {α : Type} {r : Res α} {x : α} {μ : Mem} {Q : α → Mem → Prop} {E : Ex → Mem → Prop} (h : r = .ok x μ) (q : Q x μ) : wr r Q E := by
  rw [h]
  exact q
/-! ### the drawing of numbers -/
/-- but for that label the memory stands -/
def Fr (l : Nat) (μ μ' : Mem) : Prop := μ'.length = μ.length ∧ ∀ m, m ≠ l → μ'[m]? = μ[m]?
theorem Fr.refl {l : Nat} {μ : Mem} : Fr l μ μ := ⟨rfl, fun _ _ => rfl⟩
theorem Fr.trans {l : Nat} {μ μ1 μ2 : Mem} (h : Fr l μ μ1) (h' : Fr l μ1 μ2) : Fr l μ μ2 := ⟨h'.1.trans h.1, fun m n => (h'.2 m n).trans (h.2 m n)⟩
theorem Fr.set {l : Nat} {μ : Mem} {o : MO} : Fr l μ (μ.set l o) := ⟨List.length_set, fun m n => by rw [List.getElem?_set]; rw [if_neg (fun h => n h.symm)]⟩
/-- a seed that was drawn from at most n times -/
def Sd (l : Nat) (n : Int) (μ : Mem) : Prop := ∃ a b c : Int, μ[l]? = some (.lst [.int a, .int b, .int c]) ∧ 0 ≤ a ∧ 0 ≤ b ∧ b < 2147483579 ∧ 0 ≤ c ∧ c ≤ n
theorem Sd.mono {l : Nat} {n m : Int} {μ : Mem} (h : Sd l n μ) (w : n ≤ m) : Sd l m μ := by
  obtain ⟨a, b, c, h1, h2, h3, h4, h5, h6⟩ := h
  exact ⟨a, b, c, h1, h2, h3, h4, h5, by omega⟩
theorem Sd.lt {l : Nat} {n : Int} {μ : Mem} (h : Sd l n μ) : l < μ.length := by
  obtain ⟨a, b, c, h1, _⟩ := h
  exact (List.getElem?_eq_some_iff.mp h1).1
def drawB : MS := (sSeq (sIf (bOf (e2 gtM (e2 ixM (eVar 0) (eC (.int 0))) (eC (.int 0)))) (sSeq (sSet 2 (e2 modM (eL intM (lCons (e2 ixM (eVar 0) (eC (.int 0))) lNil)) (eVar 1))) (sSeq (sSub (eVar 0) (eC (.int 0)) (e2 fdivM (e2 ixM (eVar 0) (eC (.int 0))) (eVar 1))) (sRet (eVar 2)))) sNext) (sSeq (sSub (eVar 0) (eC (.int 2)) (e2 addM (e2 ixM (eVar 0) (eC (.int 2))) (eC (.int 1)))) (sSeq (sSet 3 (e2 ixM (eVar 0) (eC (.int 2)))) (sSeq (sSet 4 (e2 modM (e2 powM (eL intM (lCons (e2 addM (e2 addM (e2 ixM (eVar 0) (eC (.int 1))) (e2 mulM (eC (.int 60013)) (eVar 3))) (eC (.int 5))) lNil)) (eC (.int 3))) (eC (.int 2147483543)))) (sRet (e2 modM (e2 fdivM (e2 modM (eL intM (lCons (e2 mulM (eVar 4) (e2 addM (e2 addM (e2 fdivM (eVar 4) (eC (.int 4093))) (e2 mulM (eC (.int 2)) (eVar 3))) (eC (.int 1)))) lNil)) (eC (.int 2147483497))) (eC (.int 16))) (eVar 1)))))))
def seedB : MS := (sSeq (sSet 2 (eC (.int 0))) (sSeq (sIf (bOf (e2 ltM (eVar 1) (eL lenM (lCons (eVar 0) lNil)))) (sSet 2 (e2 ixM (eVar 0) (eVar 1))) sNext) (sSeq (sSet 3 (eL absM (lCons (eVar 2) lNil))) (sSeq (sIf (bOf (e2 ltM (eVar 3) (e2 powM (eC (.int 10)) (eC (.int 18))))) (sSet 3 (eC (.int 0))) sNext) (sRet (eL newM (lCons (eVar 3) (lCons (e2 modM (eL intM (lCons (e2 addM (e2 addM (e2 addM (eVar 2) (e2 mulM (e2 mulM (eC (.int 7307)) (eVar 1)) (eVar 1))) (e2 mulM (eC (.int 911)) (eVar 1))) (eC (.int 23))) lNil)) (eC (.int 2147483579))) (lCons (eC (.int 0)) lNil)))))))))
theorem draw_ok {l : Nat} {n many : Int} {μ : Mem} (hs : Sd l n μ) (hn : n < 1000000000) (h0 : 0 < many) (h1 : many.natAbs < 2 ^ 8000) :
    wr (callM 5 drawB [.loc l, .int many] μ) (fun d μ' => ∃ k, d = .int k ∧ 0 ≤ k ∧ k < many ∧ Sd l (n + 1) μ' ∧ Fr l μ μ') (fun _ _ => False) := by
  obtain ⟨a, b, c, hl, ha, hb, hb2, hc, hc2⟩ := hs
  have hll := (List.getElem?_eq_some_iff.mp hl).1
  unfold drawB
  have i0 : ixM (.loc l) (.int 0) μ = .ok (.int a) μ := ixM_o hl atI_0
  try simp only [wr_eVar, wr_eC, wr_e2, wr_e1, wr_eL, wr_eCall, wr_eCallK, wr_eLL, wr_eSeq, wr_lNil, wr_lCons, wr_bTru, wr_bOf, wr_bNot, wr_bAnd, wr_bOr, wr_isBl, wr_eAnd, wr_eOr, wr_eNot, wr_eIf, wr_e3c, wr_ok, wr_exc, ws_sNext, ws_sSeq, ws_sSet, ws_sDrop, ws_sRet, ws_sRetN, ws_sBrk, ws_sCnt, ws_sIf, ws_sAsg, ws_sPar, ws_sSub, ws_sForE, wr_callM, List.getElem?_cons_zero, List.getElem?_cons_succ, List.set_cons_zero, List.set_cons_succ, List.map_cons, List.map_nil, List.length_cons, List.length_nil, List.cons_append, List.nil_append, List.replicate, List.append_nil, addM_i, subM_i, negM_i, cmpM_i, eqM_i, eqM_s, neM_i, neM_s, absM_i, intM_i, intM_b, max2M_i, min2M_i, lenM_t, lenM_l, lenM_r, tupM_ap, lstM_ap, strM_s, truB_b, isBl_b, newM_ap, Nat.reduceLeDiff, seqL_l, seqT_t, isNM_n, isNM_i, if_true, if_false, Bool.false_eq_true, Bool.not_true, Bool.not_false, Nat.reduceSub, Nat.reduceAdd, Nat.zero_add, eq_self, and_self, and_true, true_and, gN]
  simp only [i0, wr_ok, cmpM_i, wr_isBl]
  try simp only [wr_eVar, wr_eC, wr_e2, wr_e1, wr_eL, wr_eCall, wr_eCallK, wr_eLL, wr_eSeq, wr_lNil, wr_lCons, wr_bTru, wr_bOf, wr_bNot, wr_bAnd, wr_bOr, wr_isBl, wr_eAnd, wr_eOr, wr_eNot, wr_eIf, wr_e3c, wr_ok, wr_exc, ws_sNext, ws_sSeq, ws_sSet, ws_sDrop, ws_sRet, ws_sRetN, ws_sBrk, ws_sCnt, ws_sIf, ws_sAsg, ws_sPar, ws_sSub, ws_sForE, wr_callM, List.getElem?_cons_zero, List.getElem?_cons_succ, List.set_cons_zero, List.set_cons_succ, List.map_cons, List.map_nil, List.length_cons, List.length_nil, List.cons_append, List.nil_append, List.replicate, List.append_nil, addM_i, subM_i, negM_i, cmpM_i, eqM_i, eqM_s, neM_i, neM_s, absM_i, intM_i, intM_b, max2M_i, min2M_i, lenM_t, lenM_l, lenM_r, tupM_ap, lstM_ap, strM_s, truB_b, isBl_b, newM_ap, Nat.reduceLeDiff, seqL_l, seqT_t, isNM_n, isNM_i, if_true, if_false, Bool.false_eq_true, Bool.not_true, Bool.not_false, Nat.reduceSub, Nat.reduceAdd, Nat.zero_add, eq_self, and_self, and_true, true_and, gN]
  by_cases h : 0 < a
  · simp only [decide_eq_true h, if_true]
    try simp only [wr_eVar, wr_eC, wr_e2, wr_e1, wr_eL, wr_eCall, wr_eCallK, wr_eLL, wr_eSeq, wr_lNil, wr_lCons, wr_bTru, wr_bOf, wr_bNot, wr_bAnd, wr_bOr, wr_isBl, wr_eAnd, wr_eOr, wr_eNot, wr_eIf, wr_e3c, wr_ok, wr_exc, ws_sNext, ws_sSeq, ws_sSet, ws_sDrop, ws_sRet, ws_sRetN, ws_sBrk, ws_sCnt, ws_sIf, ws_sAsg, ws_sPar, ws_sSub, ws_sForE, wr_callM, List.getElem?_cons_zero, List.getElem?_cons_succ, List.set_cons_zero, List.set_cons_succ, List.map_cons, List.map_nil, List.length_cons, List.length_nil, List.cons_append, List.nil_append, List.replicate, List.append_nil, addM_i, subM_i, negM_i, cmpM_i, eqM_i, eqM_s, neM_i, neM_s, absM_i, intM_i, intM_b, max2M_i, min2M_i, lenM_t, lenM_l, lenM_r, tupM_ap, lstM_ap, strM_s, truB_b, isBl_b, newM_ap, Nat.reduceLeDiff, seqL_l, seqT_t, isNM_n, isNM_i, if_true, if_false, Bool.false_eq_true, Bool.not_true, Bool.not_false, Nat.reduceSub, Nat.reduceAdd, Nat.zero_add, eq_self, and_self, and_true, true_and, gN]
    simp only [i0, wr_ok, modM_i h0, fdivM_i h0 h1]
    try simp only [wr_eVar, wr_eC, wr_e2, wr_e1, wr_eL, wr_eCall, wr_eCallK, wr_eLL, wr_eSeq, wr_lNil, wr_lCons, wr_bTru, wr_bOf, wr_bNot, wr_bAnd, wr_bOr, wr_isBl, wr_eAnd, wr_eOr, wr_eNot, wr_eIf, wr_e3c, wr_ok, wr_exc, ws_sNext, ws_sSeq, ws_sSet, ws_sDrop, ws_sRet, ws_sRetN, ws_sBrk, ws_sCnt, ws_sIf, ws_sAsg, ws_sPar, ws_sSub, ws_sForE, wr_callM, List.getElem?_cons_zero, List.getElem?_cons_succ, List.set_cons_zero, List.set_cons_succ, List.map_cons, List.map_nil, List.length_cons, List.length_nil, List.cons_append, List.nil_append, List.replicate, List.append_nil, addM_i, subM_i, negM_i, cmpM_i, eqM_i, eqM_s, neM_i, neM_s, absM_i, intM_i, intM_b, max2M_i, min2M_i, lenM_t, lenM_l, lenM_r, tupM_ap, lstM_ap, strM_s, truB_b, isBl_b, newM_ap, Nat.reduceLeDiff, seqL_l, seqT_t, isNM_n, isNM_i, if_true, if_false, Bool.false_eq_true, Bool.not_true, Bool.not_false, Nat.reduceSub, Nat.reduceAdd, Nat.zero_add, eq_self, and_self, and_true, true_and, gN]
    rw [ws_subR hl (show ixN 3 0 = some 0 by rfl)]
    try simp only [wr_eVar, wr_eC, wr_e2, wr_e1, wr_eL, wr_eCall, wr_eCallK, wr_eLL, wr_eSeq, wr_lNil, wr_lCons, wr_bTru, wr_bOf, wr_bNot, wr_bAnd, wr_bOr, wr_isBl, wr_eAnd, wr_eOr, wr_eNot, wr_eIf, wr_e3c, wr_ok, wr_exc, ws_sNext, ws_sSeq, ws_sSet, ws_sDrop, ws_sRet, ws_sRetN, ws_sBrk, ws_sCnt, ws_sIf, ws_sAsg, ws_sPar, ws_sSub, ws_sForE, wr_callM, List.getElem?_cons_zero, List.getElem?_cons_succ, List.set_cons_zero, List.set_cons_succ, List.map_cons, List.map_nil, List.length_cons, List.length_nil, List.cons_append, List.nil_append, List.replicate, List.append_nil, addM_i, subM_i, negM_i, cmpM_i, eqM_i, eqM_s, neM_i, neM_s, absM_i, intM_i, intM_b, max2M_i, min2M_i, lenM_t, lenM_l, lenM_r, tupM_ap, lstM_ap, strM_s, truB_b, isBl_b, newM_ap, Nat.reduceLeDiff, seqL_l, seqT_t, isNM_n, isNM_i, if_true, if_false, Bool.false_eq_true, Bool.not_true, Bool.not_false, Nat.reduceSub, Nat.reduceAdd, Nat.zero_add, eq_self, and_self, and_true, true_and, gN]
    exact ⟨_, rfl, Int.emod_nonneg _ (by omega), Int.emod_lt_of_pos _ h0, ⟨a / many, b, c, by rw [List.getElem?_set]; simp [hll], Int.ediv_nonneg ha (by omega), hb, hb2, hc, by omega⟩, Fr.set⟩
  · simp only [decide_eq_false h, Bool.false_eq_true, if_false]
    have i2 : ixM (.loc l) (.int 2) μ = .ok (.int c) μ := ixM_o hl (atI_of (n := 2) rfl rfl)
    try simp only [wr_eVar, wr_eC, wr_e2, wr_e1, wr_eL, wr_eCall, wr_eCallK, wr_eLL, wr_eSeq, wr_lNil, wr_lCons, wr_bTru, wr_bOf, wr_bNot, wr_bAnd, wr_bOr, wr_isBl, wr_eAnd, wr_eOr, wr_eNot, wr_eIf, wr_e3c, wr_ok, wr_exc, ws_sNext, ws_sSeq, ws_sSet, ws_sDrop, ws_sRet, ws_sRetN, ws_sBrk, ws_sCnt, ws_sIf, ws_sAsg, ws_sPar, ws_sSub, ws_sForE, wr_callM, List.getElem?_cons_zero, List.getElem?_cons_succ, List.set_cons_zero, List.set_cons_succ, List.map_cons, List.map_nil, List.length_cons, List.length_nil, List.cons_append, List.nil_append, List.replicate, List.append_nil, addM_i, subM_i, negM_i, cmpM_i, eqM_i, eqM_s, neM_i, neM_s, absM_i, intM_i, intM_b, max2M_i, min2M_i, lenM_t, lenM_l, lenM_r, tupM_ap, lstM_ap, strM_s, truB_b, isBl_b, newM_ap, Nat.reduceLeDiff, seqL_l, seqT_t, isNM_n, isNM_i, if_true, if_false, Bool.false_eq_true, Bool.not_true, Bool.not_false, Nat.reduceSub, Nat.reduceAdd, Nat.zero_add, eq_self, and_self, and_true, true_and, gN]
    simp only [i2, wr_ok, addM_i]
    rw [ws_subR hl (show ixN 3 2 = some 2 by rfl)]
    have hl' : (μ.set l (.lst [.int a, .int b, .int (c + 1)]))[l]? = some (.lst [.int a, .int b, .int (c + 1)]) := by rw [List.getElem?_set]; simp [hll]
    have i2' : ixM (.loc l) (.int 2) (μ.set l (.lst [.int a, .int b, .int (c + 1)])) = .ok (.int (c + 1)) (μ.set l (.lst [.int a, .int b, .int (c + 1)])) := ixM_o hl' (atI_of (n := 2) rfl rfl)
    have i1' : ixM (.loc l) (.int 1) (μ.set l (.lst [.int a, .int b, .int (c + 1)])) = .ok (.int b) (μ.set l (.lst [.int a, .int b, .int (c + 1)])) := ixM_o hl' (atI_of (n := 1) rfl rfl)
    try simp only [wr_eVar, wr_eC, wr_e2, wr_e1, wr_eL, wr_eCall, wr_eCallK, wr_eLL, wr_eSeq, wr_lNil, wr_lCons, wr_bTru, wr_bOf, wr_bNot, wr_bAnd, wr_bOr, wr_isBl, wr_eAnd, wr_eOr, wr_eNot, wr_eIf, wr_e3c, wr_ok, wr_exc, ws_sNext, ws_sSeq, ws_sSet, ws_sDrop, ws_sRet, ws_sRetN, ws_sBrk, ws_sCnt, ws_sIf, ws_sAsg, ws_sPar, ws_sSub, ws_sForE, wr_callM, List.getElem?_cons_zero, List.getElem?_cons_succ, List.set_cons_zero, List.set_cons_succ, List.map_cons, List.map_nil, List.length_cons, List.length_nil, List.cons_append, List.nil_append, List.replicate, List.append_nil, addM_i, subM_i, negM_i, cmpM_i, eqM_i, eqM_s, neM_i, neM_s, absM_i, intM_i, intM_b, max2M_i, min2M_i, lenM_t, lenM_l, lenM_r, tupM_ap, lstM_ap, strM_s, truB_b, isBl_b, newM_ap, Nat.reduceLeDiff, seqL_l, seqT_t, isNM_n, isNM_i, if_true, if_false, Bool.false_eq_true, Bool.not_true, Bool.not_false, Nat.reduceSub, Nat.reduceAdd, Nat.zero_add, eq_self, and_self, and_true, true_and, gN]
    simp only [i2', i1', wr_ok]
    rw [mulM_i (i := 60013) (j := c + 1) (mulOk_le (B := 2000000000) (by omega) (by omega) (by decide +kernel))]
    try simp only [wr_eVar, wr_eC, wr_e2, wr_e1, wr_eL, wr_eCall, wr_eCallK, wr_eLL, wr_eSeq, wr_lNil, wr_lCons, wr_bTru, wr_bOf, wr_bNot, wr_bAnd, wr_bOr, wr_isBl, wr_eAnd, wr_eOr, wr_eNot, wr_eIf, wr_e3c, wr_ok, wr_exc, ws_sNext, ws_sSeq, ws_sSet, ws_sDrop, ws_sRet, ws_sRetN, ws_sBrk, ws_sCnt, ws_sIf, ws_sAsg, ws_sPar, ws_sSub, ws_sForE, wr_callM, List.getElem?_cons_zero, List.getElem?_cons_succ, List.set_cons_zero, List.set_cons_succ, List.map_cons, List.map_nil, List.length_cons, List.length_nil, List.cons_append, List.nil_append, List.replicate, List.append_nil, addM_i, subM_i, negM_i, cmpM_i, eqM_i, eqM_s, neM_i, neM_s, absM_i, intM_i, intM_b, max2M_i, min2M_i, lenM_t, lenM_l, lenM_r, tupM_ap, lstM_ap, strM_s, truB_b, isBl_b, newM_ap, Nat.reduceLeDiff, seqL_l, seqT_t, isNM_n, isNM_i, if_true, if_false, Bool.false_eq_true, Bool.not_true, Bool.not_false, Nat.reduceSub, Nat.reduceAdd, Nat.zero_add, eq_self, and_self, and_true, true_and, gN]
    rw [powM_i ⟨by omega, by omega, by
      have : (b + 60013 * (c + 1) + 5).natAbs < 2000000000000000 := by omega
      exact Nat.lt_of_lt_of_le this (by decide +kernel)⟩]
    try simp only [wr_eVar, wr_eC, wr_e2, wr_e1, wr_eL, wr_eCall, wr_eCallK, wr_eLL, wr_eSeq, wr_lNil, wr_lCons, wr_bTru, wr_bOf, wr_bNot, wr_bAnd, wr_bOr, wr_isBl, wr_eAnd, wr_eOr, wr_eNot, wr_eIf, wr_e3c, wr_ok, wr_exc, ws_sNext, ws_sSeq, ws_sSet, ws_sDrop, ws_sRet, ws_sRetN, ws_sBrk, ws_sCnt, ws_sIf, ws_sAsg, ws_sPar, ws_sSub, ws_sForE, wr_callM, List.getElem?_cons_zero, List.getElem?_cons_succ, List.set_cons_zero, List.set_cons_succ, List.map_cons, List.map_nil, List.length_cons, List.length_nil, List.cons_append, List.nil_append, List.replicate, List.append_nil, addM_i, subM_i, negM_i, cmpM_i, eqM_i, eqM_s, neM_i, neM_s, absM_i, intM_i, intM_b, max2M_i, min2M_i, lenM_t, lenM_l, lenM_r, tupM_ap, lstM_ap, strM_s, truB_b, isBl_b, newM_ap, Nat.reduceLeDiff, seqL_l, seqT_t, isNM_n, isNM_i, if_true, if_false, Bool.false_eq_true, Bool.not_true, Bool.not_false, Nat.reduceSub, Nat.reduceAdd, Nat.zero_add, eq_self, and_self, and_true, true_and, gN]
    rw [modM_i (j := 2147483543) (by omega)]
    have p0 := Int.emod_nonneg ((b + 60013 * (c + 1) + 5) ^ (Int.toNat 3)) (show (2147483543 : Int) ≠ 0 by omega)
    have p1 := Int.emod_lt_of_pos ((b + 60013 * (c + 1) + 5) ^ (Int.toNat 3)) (show (0 : Int) < 2147483543 by omega)
    generalize ((b + 60013 * (c + 1) + 5) ^ (Int.toNat 3)) % 2147483543 = t at p0 p1 ⊢
    try simp only [wr_eVar, wr_eC, wr_e2, wr_e1, wr_eL, wr_eCall, wr_eCallK, wr_eLL, wr_eSeq, wr_lNil, wr_lCons, wr_bTru, wr_bOf, wr_bNot, wr_bAnd, wr_bOr, wr_isBl, wr_eAnd, wr_eOr, wr_eNot, wr_eIf, wr_e3c, wr_ok, wr_exc, ws_sNext, ws_sSeq, ws_sSet, ws_sDrop, ws_sRet, ws_sRetN, ws_sBrk, ws_sCnt, ws_sIf, ws_sAsg, ws_sPar, ws_sSub, ws_sForE, wr_callM, List.getElem?_cons_zero, List.getElem?_cons_succ, List.set_cons_zero, List.set_cons_succ, List.map_cons, List.map_nil, List.length_cons, List.length_nil, List.cons_append, List.nil_append, List.replicate, List.append_nil, addM_i, subM_i, negM_i, cmpM_i, eqM_i, eqM_s, neM_i, neM_s, absM_i, intM_i, intM_b, max2M_i, min2M_i, lenM_t, lenM_l, lenM_r, tupM_ap, lstM_ap, strM_s, truB_b, isBl_b, newM_ap, Nat.reduceLeDiff, seqL_l, seqT_t, isNM_n, isNM_i, if_true, if_false, Bool.false_eq_true, Bool.not_true, Bool.not_false, Nat.reduceSub, Nat.reduceAdd, Nat.zero_add, eq_self, and_self, and_true, true_and, gN]
    have q0 : 0 ≤ t / 4093 := by omega
    have q1 : t / 4093 ≤ t := by omega
    rw [fdivM_i (i := t) (j := 4093) (by omega) (Nat.lt_of_lt_of_le (show (4093 : Int).natAbs < 2 ^ 13 by decide) (Nat.pow_le_pow_right (by omega) (by omega)))]
    try simp only [wr_eVar, wr_eC, wr_e2, wr_e1, wr_eL, wr_eCall, wr_eCallK, wr_eLL, wr_eSeq, wr_lNil, wr_lCons, wr_bTru, wr_bOf, wr_bNot, wr_bAnd, wr_bOr, wr_isBl, wr_eAnd, wr_eOr, wr_eNot, wr_eIf, wr_e3c, wr_ok, wr_exc, ws_sNext, ws_sSeq, ws_sSet, ws_sDrop, ws_sRet, ws_sRetN, ws_sBrk, ws_sCnt, ws_sIf, ws_sAsg, ws_sPar, ws_sSub, ws_sForE, wr_callM, List.getElem?_cons_zero, List.getElem?_cons_succ, List.set_cons_zero, List.set_cons_succ, List.map_cons, List.map_nil, List.length_cons, List.length_nil, List.cons_append, List.nil_append, List.replicate, List.append_nil, addM_i, subM_i, negM_i, cmpM_i, eqM_i, eqM_s, neM_i, neM_s, absM_i, intM_i, intM_b, max2M_i, min2M_i, lenM_t, lenM_l, lenM_r, tupM_ap, lstM_ap, strM_s, truB_b, isBl_b, newM_ap, Nat.reduceLeDiff, seqL_l, seqT_t, isNM_n, isNM_i, if_true, if_false, Bool.false_eq_true, Bool.not_true, Bool.not_false, Nat.reduceSub, Nat.reduceAdd, Nat.zero_add, eq_self, and_self, and_true, true_and, gN]
    rw [mulM_i (i := 2) (j := c + 1) (mulOk_le (B := 2000000000) (by omega) (by omega) (by decide +kernel))]
    try simp only [wr_eVar, wr_eC, wr_e2, wr_e1, wr_eL, wr_eCall, wr_eCallK, wr_eLL, wr_eSeq, wr_lNil, wr_lCons, wr_bTru, wr_bOf, wr_bNot, wr_bAnd, wr_bOr, wr_isBl, wr_eAnd, wr_eOr, wr_eNot, wr_eIf, wr_e3c, wr_ok, wr_exc, ws_sNext, ws_sSeq, ws_sSet, ws_sDrop, ws_sRet, ws_sRetN, ws_sBrk, ws_sCnt, ws_sIf, ws_sAsg, ws_sPar, ws_sSub, ws_sForE, wr_callM, List.getElem?_cons_zero, List.getElem?_cons_succ, List.set_cons_zero, List.set_cons_succ, List.map_cons, List.map_nil, List.length_cons, List.length_nil, List.cons_append, List.nil_append, List.replicate, List.append_nil, addM_i, subM_i, negM_i, cmpM_i, eqM_i, eqM_s, neM_i, neM_s, absM_i, intM_i, intM_b, max2M_i, min2M_i, lenM_t, lenM_l, lenM_r, tupM_ap, lstM_ap, strM_s, truB_b, isBl_b, newM_ap, Nat.reduceLeDiff, seqL_l, seqT_t, isNM_n, isNM_i, if_true, if_false, Bool.false_eq_true, Bool.not_true, Bool.not_false, Nat.reduceSub, Nat.reduceAdd, Nat.zero_add, eq_self, and_self, and_true, true_and, gN]
    rw [mulM_i (i := t) (mulOk_le (B := 20000000000) (by omega) (by omega) (by decide +kernel))]
    try simp only [wr_eVar, wr_eC, wr_e2, wr_e1, wr_eL, wr_eCall, wr_eCallK, wr_eLL, wr_eSeq, wr_lNil, wr_lCons, wr_bTru, wr_bOf, wr_bNot, wr_bAnd, wr_bOr, wr_isBl, wr_eAnd, wr_eOr, wr_eNot, wr_eIf, wr_e3c, wr_ok, wr_exc, ws_sNext, ws_sSeq, ws_sSet, ws_sDrop, ws_sRet, ws_sRetN, ws_sBrk, ws_sCnt, ws_sIf, ws_sAsg, ws_sPar, ws_sSub, ws_sForE, wr_callM, List.getElem?_cons_zero, List.getElem?_cons_succ, List.set_cons_zero, List.set_cons_succ, List.map_cons, List.map_nil, List.length_cons, List.length_nil, List.cons_append, List.nil_append, List.replicate, List.append_nil, addM_i, subM_i, negM_i, cmpM_i, eqM_i, eqM_s, neM_i, neM_s, absM_i, intM_i, intM_b, max2M_i, min2M_i, lenM_t, lenM_l, lenM_r, tupM_ap, lstM_ap, strM_s, truB_b, isBl_b, newM_ap, Nat.reduceLeDiff, seqL_l, seqT_t, isNM_n, isNM_i, if_true, if_false, Bool.false_eq_true, Bool.not_true, Bool.not_false, Nat.reduceSub, Nat.reduceAdd, Nat.zero_add, eq_self, and_self, and_true, true_and, gN]
    rw [modM_i (j := 2147483497) (by omega)]
    try simp only [wr_eVar, wr_eC, wr_e2, wr_e1, wr_eL, wr_eCall, wr_eCallK, wr_eLL, wr_eSeq, wr_lNil, wr_lCons, wr_bTru, wr_bOf, wr_bNot, wr_bAnd, wr_bOr, wr_isBl, wr_eAnd, wr_eOr, wr_eNot, wr_eIf, wr_e3c, wr_ok, wr_exc, ws_sNext, ws_sSeq, ws_sSet, ws_sDrop, ws_sRet, ws_sRetN, ws_sBrk, ws_sCnt, ws_sIf, ws_sAsg, ws_sPar, ws_sSub, ws_sForE, wr_callM, List.getElem?_cons_zero, List.getElem?_cons_succ, List.set_cons_zero, List.set_cons_succ, List.map_cons, List.map_nil, List.length_cons, List.length_nil, List.cons_append, List.nil_append, List.replicate, List.append_nil, addM_i, subM_i, negM_i, cmpM_i, eqM_i, eqM_s, neM_i, neM_s, absM_i, intM_i, intM_b, max2M_i, min2M_i, lenM_t, lenM_l, lenM_r, tupM_ap, lstM_ap, strM_s, truB_b, isBl_b, newM_ap, Nat.reduceLeDiff, seqL_l, seqT_t, isNM_n, isNM_i, if_true, if_false, Bool.false_eq_true, Bool.not_true, Bool.not_false, Nat.reduceSub, Nat.reduceAdd, Nat.zero_add, eq_self, and_self, and_true, true_and, gN]
    rw [fdivM_i (j := 16) (by omega) (Nat.lt_of_lt_of_le (show (16 : Int).natAbs < 2 ^ 13 by decide) (Nat.pow_le_pow_right (by omega) (by omega)))]
    try simp only [wr_eVar, wr_eC, wr_e2, wr_e1, wr_eL, wr_eCall, wr_eCallK, wr_eLL, wr_eSeq, wr_lNil, wr_lCons, wr_bTru, wr_bOf, wr_bNot, wr_bAnd, wr_bOr, wr_isBl, wr_eAnd, wr_eOr, wr_eNot, wr_eIf, wr_e3c, wr_ok, wr_exc, ws_sNext, ws_sSeq, ws_sSet, ws_sDrop, ws_sRet, ws_sRetN, ws_sBrk, ws_sCnt, ws_sIf, ws_sAsg, ws_sPar, ws_sSub, ws_sForE, wr_callM, List.getElem?_cons_zero, List.getElem?_cons_succ, List.set_cons_zero, List.set_cons_succ, List.map_cons, List.map_nil, List.length_cons, List.length_nil, List.cons_append, List.nil_append, List.replicate, List.append_nil, addM_i, subM_i, negM_i, cmpM_i, eqM_i, eqM_s, neM_i, neM_s, absM_i, intM_i, intM_b, max2M_i, min2M_i, lenM_t, lenM_l, lenM_r, tupM_ap, lstM_ap, strM_s, truB_b, isBl_b, newM_ap, Nat.reduceLeDiff, seqL_l, seqT_t, isNM_n, isNM_i, if_true, if_false, Bool.false_eq_true, Bool.not_true, Bool.not_false, Nat.reduceSub, Nat.reduceAdd, Nat.zero_add, eq_self, and_self, and_true, true_and, gN]
    rw [modM_i h0]
    try simp only [wr_eVar, wr_eC, wr_e2, wr_e1, wr_eL, wr_eCall, wr_eCallK, wr_eLL, wr_eSeq, wr_lNil, wr_lCons, wr_bTru, wr_bOf, wr_bNot, wr_bAnd, wr_bOr, wr_isBl, wr_eAnd, wr_eOr, wr_eNot, wr_eIf, wr_e3c, wr_ok, wr_exc, ws_sNext, ws_sSeq, ws_sSet, ws_sDrop, ws_sRet, ws_sRetN, ws_sBrk, ws_sCnt, ws_sIf, ws_sAsg, ws_sPar, ws_sSub, ws_sForE, wr_callM, List.getElem?_cons_zero, List.getElem?_cons_succ, List.set_cons_zero, List.set_cons_succ, List.map_cons, List.map_nil, List.length_cons, List.length_nil, List.cons_append, List.nil_append, List.replicate, List.append_nil, addM_i, subM_i, negM_i, cmpM_i, eqM_i, eqM_s, neM_i, neM_s, absM_i, intM_i, intM_b, max2M_i, min2M_i, lenM_t, lenM_l, lenM_r, tupM_ap, lstM_ap, strM_s, truB_b, isBl_b, newM_ap, Nat.reduceLeDiff, seqL_l, seqT_t, isNM_n, isNM_i, if_true, if_false, Bool.false_eq_true, Bool.not_true, Bool.not_false, Nat.reduceSub, Nat.reduceAdd, Nat.zero_add, eq_self, and_self, and_true, true_and, gN]
    exact ⟨_, rfl, Int.emod_nonneg _ (by omega), Int.emod_lt_of_pos _ h0, ⟨a, b, c + 1, hl', ha, hb, hb2, by omega, by omega⟩, Fr.set⟩
theorem seed_ok {ns : List Int} {k : Int} {μ : Mem} (h0 : 0 ≤ k) (h1 : k ≤ 1000) :
    wr (callM 4 seedB [.ro (ns.map .int), .int k] μ) (fun d μ' => d = .loc μ.length ∧ Sd μ.length 0 μ' ∧ μ'.length = μ.length + 1 ∧ ∀ m, m < μ.length → μ'[m]? = μ[m]?) (fun _ _ => False) := by
  have hk : k = (k.toNat : Int) := by omega
  have fin : ∀ (z far : Int), 0 ≤ far → wr (Res.ok (D.loc μ.length) (μ ++ [.lst [.int far, .int ((z + 7307 * k * k + 911 * k + 23) % 2147483579), .int 0]])) (fun d μ' => d = .loc μ.length ∧ Sd μ.length 0 μ' ∧ μ'.length = μ.length + 1 ∧ ∀ m, m < μ.length → μ'[m]? = μ[m]?) (fun _ _ => False) := fun z far hf =>
    ⟨rfl, ⟨far, (z + 7307 * k * k + 911 * k + 23) % 2147483579, 0, by simp, hf, Int.emod_nonneg _ (by omega), Int.emod_lt_of_pos _ (by omega), by omega, by omega⟩, by simp, fun m hm => by rw [List.getElem?_append_left hm]⟩
  have m1 : ∀ μ, mulM (.int 7307) (.int k) μ = .ok (.int (7307 * k)) μ := fun μ => mulM_i (mulOk_le (B := 20000000) (by omega) (by omega) (by decide +kernel))
  have m2 : ∀ μ, mulM (.int (7307 * k)) (.int k) μ = .ok (.int (7307 * k * k)) μ := fun μ => mulM_i (mulOk_le (B := 20000000) (by omega) (by omega) (by decide +kernel))
  have m3 : ∀ μ, mulM (.int 911) (.int k) μ = .ok (.int (911 * k)) μ := fun μ => mulM_i (mulOk_le (B := 20000000) (by omega) (by omega) (by decide +kernel))
  have pw : ∀ μ, powM (.int 10) (.int 18) μ = .ok (.int 1000000000000000000) μ := fun μ => by
    rw [powM_i ⟨by omega, by omega, by decide +kernel⟩]
    rfl
  have md : ∀ μ z, modM (.int z) (.int 2147483579) μ = .ok (.int (z % 2147483579)) μ := fun μ z => modM_i (by omega)
  unfold seedB
  rw [wr_callM]
  try simp only [wr_eVar, wr_eC, wr_e2, wr_e1, wr_eL, wr_eCall, wr_eCallK, wr_eLL, wr_eSeq, wr_lNil, wr_lCons, wr_bTru, wr_bOf, wr_bNot, wr_bAnd, wr_bOr, wr_isBl, wr_eAnd, wr_eOr, wr_eNot, wr_eIf, wr_e3c, wr_ok, wr_exc, ws_sNext, ws_sSeq, ws_sSet, ws_sDrop, ws_sRet, ws_sRetN, ws_sBrk, ws_sCnt, ws_sIf, ws_sAsg, ws_sPar, ws_sSub, ws_sForE, wr_callM, List.getElem?_cons_zero, List.getElem?_cons_succ, List.set_cons_zero, List.set_cons_succ, List.map_cons, List.map_nil, List.length_cons, List.length_nil, List.cons_append, List.nil_append, List.replicate, List.append_nil, addM_i, subM_i, negM_i, cmpM_i, eqM_i, eqM_s, neM_i, neM_s, absM_i, intM_i, intM_b, max2M_i, min2M_i, lenM_t, lenM_l, lenM_r, tupM_ap, lstM_ap, strM_s, truB_b, isBl_b, newM_ap, Nat.reduceLeDiff, seqL_l, seqT_t, isNM_n, isNM_i, if_true, if_false, Bool.false_eq_true, Bool.not_true, Bool.not_false, Nat.reduceSub, Nat.reduceAdd, Nat.zero_add, eq_self, and_self, and_true, true_and, gN]
  by_cases h : k < ((ns.map D.int).length : Int)
  · simp only [decide_eq_true h, if_true]
    have hn : k.toNat < (ns.map D.int).length := by omega
    have hz : (ns.map D.int)[k.toNat]? = some (.int (ns[k.toNat]'(by simpa using hn))) := by simp at hn ⊢
    rw [ixM_r (atI_of hk hz)]
    generalize ns[k.toNat]'(by simpa using hn) = z
    try simp only [wr_eVar, wr_eC, wr_e2, wr_e1, wr_eL, wr_eCall, wr_eCallK, wr_eLL, wr_eSeq, wr_lNil, wr_lCons, wr_bTru, wr_bOf, wr_bNot, wr_bAnd, wr_bOr, wr_isBl, wr_eAnd, wr_eOr, wr_eNot, wr_eIf, wr_e3c, wr_ok, wr_exc, ws_sNext, ws_sSeq, ws_sSet, ws_sDrop, ws_sRet, ws_sRetN, ws_sBrk, ws_sCnt, ws_sIf, ws_sAsg, ws_sPar, ws_sSub, ws_sForE, wr_callM, List.getElem?_cons_zero, List.getElem?_cons_succ, List.set_cons_zero, List.set_cons_succ, List.map_cons, List.map_nil, List.length_cons, List.length_nil, List.cons_append, List.nil_append, List.replicate, List.append_nil, addM_i, subM_i, negM_i, cmpM_i, eqM_i, eqM_s, neM_i, neM_s, absM_i, intM_i, intM_b, max2M_i, min2M_i, lenM_t, lenM_l, lenM_r, tupM_ap, lstM_ap, strM_s, truB_b, isBl_b, newM_ap, Nat.reduceLeDiff, seqL_l, seqT_t, isNM_n, isNM_i, if_true, if_false, Bool.false_eq_true, Bool.not_true, Bool.not_false, Nat.reduceSub, Nat.reduceAdd, Nat.zero_add, eq_self, and_self, and_true, true_and, gN]
    simp only [pw, wr_ok]
    try simp only [wr_eVar, wr_eC, wr_e2, wr_e1, wr_eL, wr_eCall, wr_eCallK, wr_eLL, wr_eSeq, wr_lNil, wr_lCons, wr_bTru, wr_bOf, wr_bNot, wr_bAnd, wr_bOr, wr_isBl, wr_eAnd, wr_eOr, wr_eNot, wr_eIf, wr_e3c, wr_ok, wr_exc, ws_sNext, ws_sSeq, ws_sSet, ws_sDrop, ws_sRet, ws_sRetN, ws_sBrk, ws_sCnt, ws_sIf, ws_sAsg, ws_sPar, ws_sSub, ws_sForE, wr_callM, List.getElem?_cons_zero, List.getElem?_cons_succ, List.set_cons_zero, List.set_cons_succ, List.map_cons, List.map_nil, List.length_cons, List.length_nil, List.cons_append, List.nil_append, List.replicate, List.append_nil, addM_i, subM_i, negM_i, cmpM_i, eqM_i, eqM_s, neM_i, neM_s, absM_i, intM_i, intM_b, max2M_i, min2M_i, lenM_t, lenM_l, lenM_r, tupM_ap, lstM_ap, strM_s, truB_b, isBl_b, newM_ap, Nat.reduceLeDiff, seqL_l, seqT_t, isNM_n, isNM_i, if_true, if_false, Bool.false_eq_true, Bool.not_true, Bool.not_false, Nat.reduceSub, Nat.reduceAdd, Nat.zero_add, eq_self, and_self, and_true, true_and, gN]
    by_cases h : (if z < 0 then -z else z) < 1000000000000000000
    · simp only [decide_eq_true h, if_true]
      simp only [m1, m2, m3, md, wr_ok, addM_i, intM_i]
      exact ⟨trivial, (fin z 0 (by omega)).2⟩
    · simp only [decide_eq_false h, Bool.false_eq_true, if_false]
      simp only [m1, m2, m3, md, wr_ok, addM_i, intM_i]
      exact ⟨trivial, (fin z (if z < 0 then -z else z) (by split <;> omega)).2⟩
  · simp only [decide_eq_false h, Bool.false_eq_true, if_false, pw, wr_ok]
    try simp only [wr_eVar, wr_eC, wr_e2, wr_e1, wr_eL, wr_eCall, wr_eCallK, wr_eLL, wr_eSeq, wr_lNil, wr_lCons, wr_bTru, wr_bOf, wr_bNot, wr_bAnd, wr_bOr, wr_isBl, wr_eAnd, wr_eOr, wr_eNot, wr_eIf, wr_e3c, wr_ok, wr_exc, ws_sNext, ws_sSeq, ws_sSet, ws_sDrop, ws_sRet, ws_sRetN, ws_sBrk, ws_sCnt, ws_sIf, ws_sAsg, ws_sPar, ws_sSub, ws_sForE, wr_callM, List.getElem?_cons_zero, List.getElem?_cons_succ, List.set_cons_zero, List.set_cons_succ, List.map_cons, List.map_nil, List.length_cons, List.length_nil, List.cons_append, List.nil_append, List.replicate, List.append_nil, addM_i, subM_i, negM_i, cmpM_i, eqM_i, eqM_s, neM_i, neM_s, absM_i, intM_i, intM_b, max2M_i, min2M_i, lenM_t, lenM_l, lenM_r, tupM_ap, lstM_ap, strM_s, truB_b, isBl_b, newM_ap, Nat.reduceLeDiff, seqL_l, seqT_t, isNM_n, isNM_i, if_true, if_false, Bool.false_eq_true, Bool.not_true, Bool.not_false, Nat.reduceSub, Nat.reduceAdd, Nat.zero_add, eq_self, and_self, and_true, true_and, gN]
    simp only [m1, m2, m3, md, wr_ok, addM_i, intM_i]
    rw [if_pos (by decide)]
    exact ⟨trivial, (fin 0 0 (by omega)).2⟩
end SE

/-! SE9: types, gcd, what may be shown. -/
namespace SE
open PySem PySem.Spec PyProof.Rows L2
/-! ### plain values, the types of values -/
def plD : D → Bool
  | .non | .bl _ | .int _ | .str _ | .tup _ | .lst _ | .ro _ | .dct _ => true
  | _ => false
def isI : D → Bool
  | .int _ => true
  | _ => false
def isB : D → Bool
  | .bl _ => true
  | _ => false
def isT : D → Bool
  | .tup _ => true
  | _ => false
theorem isi_int {d : D} {μ : Mem} (h : plD d = true) : isiM [d, .ty "int"] μ = .ok (.bl (isI d || isB d)) μ := by
  cases d <;> first | exact isiM_of (k := true) rfl (by decide +kernel) | exact isiM_of (k := false) rfl (by decide +kernel) | cases h
theorem isi_bool {d : D} {μ : Mem} (h : plD d = true) : isiM [d, .ty "bool"] μ = .ok (.bl (isB d)) μ := by
  cases d <;> first | exact isiM_of (k := true) rfl (by decide +kernel) | exact isiM_of (k := false) rfl (by decide +kernel) | cases h
theorem isi_tuple {d : D} {μ : Mem} (h : plD d = true) : isiM [d, .ty "tuple"] μ = .ok (.bl (isT d)) μ := by
  cases d <;> first | exact isiM_of (k := true) rfl (by decide +kernel) | exact isiM_of (k := false) rfl (by decide +kernel) | cases h
theorem eqM_2 {a b c d : Int} {μ : Mem} : eqM (.tup [.int a, .int b]) (.tup [.int c, .int d]) μ = .ok (.bl (decide (a = c) && decide (b = d))) μ := by
  unfold eqM eqB
  have h : ∀ x y : Int, eqOk (lookD μ (.tup [.int x, .int y])) = true := fun x y => rfl
  simp only [scD, h, and_self, if_true, lookD, dP, dPL, PyData.eqv, PyData.eqvAll, Bool.and_true]
  congr 2
theorem neM_2 {a b c d : Int} {μ : Mem} : neM (.tup [.int a, .int b]) (.tup [.int c, .int d]) μ = .ok (.bl (!(decide (a = c) && decide (b = d)))) μ := by
  have := eqM_2 (a := a) (b := b) (c := c) (d := d) (μ := μ)
  unfold eqM at this
  unfold neM
  cases q : eqB μ (.tup [.int a, .int b]) (.tup [.int c, .int d]) with
  | none => rw [q] at this; cases this
  | some k => rw [q] at this; cases this; rfl
/-! ### the great common divisor, by turns -/
theorem gcd_step {x y : Int} (h : 0 < y) : Int.gcd y (x % y) = Int.gcd x y := by
  rw [Int.gcd_comm x y]
  have e : x % y = x - y * (x / y) := by
    have := Int.emod_add_mul_ediv x y
    omega
  rw [e]
  rw [show x - y * (x / y) = x + y * (-(x / y)) by rw [Int.mul_neg]; omega]
  rw [Int.gcd_add_mul_left_right]
theorem abs_gcd {a b : Int} : Int.gcd (if a < 0 then -a else a) b = Int.gcd a b := by
  split
  · exact Int.neg_gcd
  · rfl
theorem gcd_end {x : Int} (h : 0 ≤ x) : ((Int.gcd x 0 : Nat) : Int) = x := by
  rw [Int.gcd_zero_right]
  omega
theorem gcd_one {a b : Int} (hb : 1 ≤ b) : (a / (Int.gcd a b : Int) = a ∧ b / (Int.gcd a b : Int) = b) ↔ Int.gcd a b = 1 := by
  constructor
  · intro h
    have hg : (0 : Int) < Int.gcd a b := by
      have := Int.gcd_pos_of_ne_zero_right a (show b ≠ 0 by omega)
      omega
    have h1 : (Int.gcd a b : Int) * (b / (Int.gcd a b : Int)) = b := Int.mul_ediv_cancel' (Int.gcd_dvd_right _ _)
    rw [h.2] at h1
    have h2 : ((Int.gcd a b : Int) - 1) * b = 0 := by
      rw [Int.sub_mul]
      omega
    rcases Int.mul_eq_zero.mp h2 with z | z <;> omega
  · intro h
    rw [h]
    simp
theorem gcd_le {a b : Int} (hb : 1 ≤ b) : (0 : Int) < Int.gcd a b ∧ (Int.gcd a b : Int) ≤ b := by
  have h1 := Int.gcd_pos_of_ne_zero_right a (show b ≠ 0 by omega)
  have h2 : (Int.gcd a b : Int) ∣ b := Int.gcd_dvd_right _ _
  exact ⟨by omega, Int.le_of_dvd (by omega) h2⟩
/-! ### what may be shown -/
theorem lt_pw {i : Nat} {n m : Nat} (h : i < 2 ^ n) (w : n ≤ m) : i < 2 ^ m := Nat.lt_of_lt_of_le h (Nat.pow_le_pow_right (by omega) w)
theorem log_lt {i : Nat} {n : Nat} (h : i < 2 ^ n) (h0 : 0 < n) : i.log2 < n := by
  by_cases z : i = 0
  · subst z
    rw [Nat.log2_zero]
    exact h0
  · exact (Nat.log2_lt z).mpr h
theorem lt_log {i : Nat} {n : Nat} (h : i.log2 < n) : i < 2 ^ n := by
  by_cases z : i = 0
  · subst z
    exact Nat.pow_pos (by omega)
  · exact (Nat.log2_lt z).mp h
theorem show_i {i : Int} (h : i.natAbs < 2 ^ 250) : i.natAbs.log2 < 1920 := log_lt (lt_pw h (by omega)) (by omega)
theorem wr_to {α : Type} {r : Res α} {Q Q' : α → Mem → Prop} (h : wr r Q fun _ _ => False) (hq : ∀ x μ, Q x μ → Q' x μ) : wr r Q' fun _ _ => False := wr_mono h hq fun _ _ z => z
theorem lt_big {i : Int} {B : Nat} (h : i.natAbs ≤ B) (hB : B < 2 ^ 250) : i.natAbs < 2 ^ 8000 := lt_pw (Nat.lt_of_le_of_lt h hB) (by omega)
section
variable {μ : Mem}
/-! what may be shown, of pieces -/
def Pw (c : Nat) (d : D) : Prop := isP d = true ∧ (dP d).showable = true ∧ (dP d).depth ≤ c ∧ cost d ≤ 10000 * c
def Qw (c : Nat) (d : D) : Prop := isQ d = true ∧ (dP d).showable = true ∧ (dP d).depth ≤ c ∧ cost d ≤ 10000 * c
theorem Pw.sh {c : Nat} {d : D} (h : Pw c d) (hc : c ≤ 60) : shOk d = true := by
  obtain ⟨h1, h2, h3, h4⟩ := h
  unfold shOk
  rw [h1, h2, decide_eq_true (show (dP d).depth ≤ 60 by omega), decide_eq_true (show cost d ≤ 1000000 by omega)]
  rfl
theorem Qw.sh {c : Nat} {d : D} (h : Qw c d) (hc : c ≤ 60) : shOk d = true := by
  obtain ⟨h1, h2, h3, h4⟩ := h
  unfold shOk
  rw [h1, h2, decide_eq_true (show (dP d).depth ≤ 60 by omega), decide_eq_true (show cost d ≤ 1000000 by omega)]
  simp
theorem Pw.i {i : Int} (h : i.natAbs < 2 ^ 250) : Pw 1 (.int i) := ⟨rfl, decide_eq_true (show_i h), by simp [dP, PyData.depth], by simp [cost]⟩
theorem Qw.i {i : Int} (h : i.natAbs < 2 ^ 250) : Qw 1 (.int i) := ⟨rfl, decide_eq_true (show_i h), by simp [dP, PyData.depth], by simp [cost]⟩
theorem Pw.t0 : Pw 1 (.tup []) := ⟨rfl, rfl, by decide, by decide⟩
theorem Pw.t1 {c : Nat} {x : D} (hx : Pw c x) : Pw (c + 1) (.tup [x]) := by
  obtain ⟨h1, h2, h3, h4⟩ := hx
  refine ⟨by simp [isP, isPL, h1], by simp [dP, dPL, PyData.showable, PyData.showableAll, h2], ?_, ?_⟩
  · simp [dP, dPL, PyData.depth, PyData.depthAll]; omega
  · simp [cost, costL]; omega
theorem Pw.t2 {c : Nat} {x y : D} (hx : Pw c x) (hy : Pw c y) : Pw (2 * c + 1) (.tup [x, y]) := by
  obtain ⟨h1, h2, h3, h4⟩ := hx
  obtain ⟨k1, k2, k3, k4⟩ := hy
  refine ⟨by simp [isP, isPL, h1, k1], by simp [dP, dPL, PyData.showable, PyData.showableAll, h2, k2], ?_, ?_⟩
  · simp [dP, dPL, PyData.depth, PyData.depthAll]; omega
  · simp [cost, costL]; omega
theorem Pw.l2 {c : Nat} {x y : D} (hx : Pw c x) (hy : Pw c y) : Pw (2 * c + 1) (.lst [x, y]) := by
  obtain ⟨h1, h2, h3, h4⟩ := hx
  obtain ⟨k1, k2, k3, k4⟩ := hy
  refine ⟨by simp [isP, isPL, h1, k1], by simp [dP, dPL, PyData.showable, PyData.showableAll, h2, k2], ?_, ?_⟩
  · simp [dP, dPL, PyData.depth, PyData.depthAll]; omega
  · simp [cost, costL]; omega
theorem Pw.t3 {c : Nat} {x y z : D} (hx : Pw c x) (hy : Pw c y) (hz : Pw c z) : Pw (3 * c + 1) (.tup [x, y, z]) := by
  obtain ⟨h1, h2, h3, h4⟩ := hx
  obtain ⟨k1, k2, k3, k4⟩ := hy
  obtain ⟨j1, j2, j3, j4⟩ := hz
  refine ⟨by simp [isP, isPL, h1, k1, j1], by simp [dP, dPL, PyData.showable, PyData.showableAll, h2, k2, j2], ?_, ?_⟩
  · simp [dP, dPL, PyData.depth, PyData.depthAll]; omega
  · simp [cost, costL]; omega
theorem Qw.t2 {c : Nat} {x y : D} (hx : Qw c x) (hy : Qw c y) : Qw (2 * c + 1) (.tup [x, y]) := by
  obtain ⟨h1, h2, h3, h4⟩ := hx
  obtain ⟨k1, k2, k3, k4⟩ := hy
  refine ⟨by simp [SE.isQ, SE.isQL, h1, k1], by simp [dP, dPL, PyData.showable, PyData.showableAll, h2, k2], ?_, ?_⟩
  · simp [dP, dPL, PyData.depth, PyData.depthAll]; omega
  · simp [cost, costL]; omega
theorem Pw.mono {c e : Nat} {d : D} (h : Pw c d) (w : c ≤ e) : Pw e d := ⟨h.1, h.2.1, Nat.le_trans h.2.2.1 w, Nat.le_trans h.2.2.2 (Nat.mul_le_mul_left _ w)⟩
theorem Qw.mono {c e : Nat} {d : D} (h : Qw c d) (w : c ≤ e) : Qw e d := ⟨h.1, h.2.1, Nat.le_trans h.2.2.1 w, Nat.le_trans h.2.2.2 (Nat.mul_le_mul_left _ w)⟩
theorem strM_p {i : Int} (h : i.natAbs ≤ 10 ^ 40) : strM [.int i] μ = .ok (.str (toString i)) μ := strM_i (show_i (Nat.lt_of_le_of_lt h (by decide +kernel)))
/-! texts -/
def okS (x : Str) : Prop := ∀ c ∈ x.cps.toList, c < 16 ^ 8
theorem okS.of (s : String) : okS (PySem.Str.ofString s) := by
  intro c h
  rw [PySem.Str.ofString_eq_toList] at h
  simp only [List.mem_map] at h
  obtain ⟨k, _, rfl⟩ := h
  have := k.valid
  rcases this with z | z
  · exact Nat.lt_of_lt_of_le z (by decide)
  · exact Nat.lt_of_lt_of_le z.2 (by decide)
theorem okS.app {x y : Str} (hx : okS x) (hy : okS y) : okS (x ++ y) := by
  intro c h
  have e : (x ++ y).cps.toList = x.cps.toList ++ y.cps.toList := by
    show (x.cps ++ y.cps).toList = _
    rw [Array.toList_append]
  rw [e] at h
  rcases List.mem_append.mp h with z | z
  · exact hx c z
  · exact hy c z
theorem app_len (x y : Str) : (x ++ y).length = x.length + y.length := by
  show (x.cps ++ y.cps).size = _
  rw [Array.size_append]
  rfl
theorem Pw.s {c : Nat} {x : Str} (h : okS x) (hl : 10 * x.length + 2 ≤ 10000 * c) : Pw c (.str x) := ⟨rfl, rfl, Nat.zero_le _, Nat.le_trans (PySem.StrLaws.reprText_len x h) hl⟩
theorem ixM_mem {xs : List D} {k : Int} (h0 : 0 ≤ k) (h1 : k < xs.length) : ∃ o ∈ xs, ∀ μ, ixM (.lst xs) (.int k) μ = .ok o μ := by
  have h : k.toNat < xs.length := by omega
  exact ⟨xs[k.toNat], List.getElem_mem h, fun μ => ixM_l (atI_of (n := k.toNat) (by omega) (List.getElem?_eq_getElem h))⟩
theorem wr_ix {xs : List D} {k : Int} {P : D → Mem → Prop} {E : Ex → Mem → Prop} (h0 : 0 ≤ k) (h1 : k < xs.length) (h : ∀ e ∈ xs, P e μ) : wr (ixM (.lst xs) (.int k) μ) P E := by
  obtain ⟨o, ho, hx⟩ := ixM_mem h0 h1
  rw [hx]
  exact h o ho
end
end SE

/-! SEj: reckoning with exceptions, lambdas. -/
namespace SE
open PySem PySem.Spec PyProof.Rows L2
section
variable {ρ : Ev} {μ μ1 : Mem} {P : D → Mem → Prop} {T : Bool → Mem → Prop} {E : Ex → Mem → Prop} {N B C : Ev → Mem → Prop} {R : D → Mem → Prop} {a b : Ev → M D} {l : Ev → M (List D)} {m : List D → M D} {ds : List D} {d : D} {c fld : Str} {fs : List (Str × D)}
theorem wr_eM1 {chk : D → Bool} {f : D → D → M D} : wr (eM1 chk f a b ρ μ) P E = wr (a ρ μ) (fun x μ1 => if chk x = true then wr (b ρ μ1) (fun y μ2 => wr (f x y μ2) P E) E else False) E := by
  show wr (M.bind (a ρ) (fun x => if chk x = true then M.bind (b ρ) (fun y => f x y) else M.bad) μ) P E = _
  unfold M.bind wr
  cases a ρ μ with
  | ok x μ1 =>
    dsimp only
    by_cases h : chk x = true
    · simp only [if_pos h]
      cases b ρ μ1 <;> rfl
    · simp only [if_neg h]
      rfl
  | _ => rfl
theorem wr_noExc {d : D} (h : m ds μ = .ok d μ1) : wr (noExc m ds μ) P E = P d μ1 := by
  unfold noExc
  rw [h]
  rfl
theorem ws_sRaise : ws (sRaise c fld l ρ μ) N R B C E = wr (l ρ μ) (fun ds μ1 => match ds with
  | [d] => E ⟨c, [(fld, d)]⟩ μ1
  | _ => False) E := by
  unfold sRaise
  rw [ws_bindS]
  unfold wr
  cases l ρ μ with
  | ok x μ1 =>
    match x with
    | [] => rfl
    | [_] => rfl
    | _ :: _ :: _ => rfl
  | _ => rfl
theorem eLam_ap {m : (Ev → M D) → List D → M D} {mb : Ev → M D} (h : m mb [.clo (ρ.map keepE)] μ = .ok d μ1) (n : noErr d = true) : eLam m mb ρ μ = .ok d μ1 := by
  show outM (m mb [.clo (ρ.map keepE)]) μ = _
  unfold outM
  rw [h]
  dsimp only
  rw [if_pos n]
theorem keep_some (h : noErr d = true) : keepE (some d) = some d := by
  unfold keepE
  dsimp only
  rw [if_pos h]
theorem atM_ap {cs : List Str} {f : Str} (h1 : cs.contains c = true) (h2 : fs.lookup f = some d) : atM cs f (.err c fs) μ = .ok d μ := by
  unfold atM
  simp only [if_pos h1, h2]
end
mutual
/-- plain values hold no exception -/
theorem isP_no : ∀ d : D, isP d = true → noErr d = true
  | .non, _ => rfl
  | .bl _, _ => rfl
  | .int _, _ => rfl
  | .str _, _ => rfl
  | .tup xs, h => isPL_no xs h
  | .lst xs, h => isPL_no xs h
  | .ro xs, h => isPL_no xs h
  | .dct _, h => by cases h
  | .loc _, h => by cases h
  | .ty _, h => by cases h
  | .gl _, h => by cases h
  | .err _ _, h => by cases h
  | .clo _, h => by cases h
theorem isPL_no : ∀ ds : List D, isPL ds = true → noErrL ds = true
  | [], _ => rfl
  | d :: ds, h => Bool.and_eq_true_iff.mpr ⟨isP_no d (andB h).1, isPL_no ds (andB h).2⟩
end
mutual
theorem isQ_no : ∀ d : D, SE.isQ d = true → noErr d = true
  | .non, _ => rfl
  | .bl _, _ => rfl
  | .int _, _ => rfl
  | .str _, _ => rfl
  | .tup xs, h => isQL_no xs h
  | .lst xs, h => isQL_no xs h
  | .ro xs, h => isQL_no xs h
  | .dct kvs, h => isQK_no kvs h
  | .loc _, h => by cases h
  | .ty _, h => by cases h
  | .gl _, h => by cases h
  | .err _ _, h => by cases h
  | .clo _, h => by cases h
theorem isQL_no : ∀ ds : List D, isQL ds = true → noErrL ds = true
  | [], _ => rfl
  | d :: ds, h => Bool.and_eq_true_iff.mpr ⟨isQ_no d (andB h).1, isQL_no ds (andB h).2⟩
theorem isQK_no : ∀ ds : List (Key × D), isQK ds = true → noErrK ds = true
  | [], _ => rfl
  | (_, d) :: ds, h => Bool.and_eq_true_iff.mpr ⟨isQ_no d (andB h).1, isQK_no ds (andB h).2⟩
end
theorem shOk_no {d : D} (h : shOk d = true) : noErr d = true := by
  unfold shOk at h
  obtain ⟨h, _⟩ := andB h
  obtain ⟨h, _⟩ := andB h
  obtain ⟨h, _⟩ := andB h
  rcases Bool.or_eq_true_iff.mp h with h | h
  · exact isP_no d h
  · exact isQ_no d h
section
variable {b : MS} {hs : List HM} {ρ ρ' : Ev} {μ μ' : Mem} {e : Ex} {r : RS} {m : HM} {d : D} {ds : List D} {n : Nat}
theorem try_exc (h : b ρ μ = .exc e ρ' μ') (h2 : handleM hs e ρ' μ' = r) : sTry b hs ρ μ = r := by
  unfold sTry
  rw [h]
  exact h2
theorem try_ok {f : Fl} (h : b ρ μ = .ok f μ') : sTry b hs ρ μ = .ok f μ' := by
  unfold sTry
  rw [h]
theorem handle_in (h : m.mt e.cls = some true) {k : RS} (h2 : suiteEnd m.i (m.b (putE m.i (.err e.cls e.fs) ρ) μ) = k) : handleM (m :: hs) e ρ μ = k := by
  unfold handleM
  rw [h]
  exact h2
theorem handle_out (h : m.mt e.cls = some false) {k : RS} (h2 : handleM hs e ρ μ = k) : handleM (m :: hs) e ρ μ = k := by
  unfold handleM
  rw [h]
  exact h2
theorem suite_rt {i : Option Nat} (h : r = .ok (.rt d) μ) (h2 : noErr d = true) : suiteEnd i r = .ok (.rt d) μ := by
  rw [h]
  show (if noErr d = true then RS.ok (.rt d) μ else .bad) = _
  rw [if_pos h2]
theorem callM_rt (h : b (ds.map some ++ List.replicate (n - ds.length) none) μ = .ok (.rt d) μ') : callM n b ds μ = .ok d μ' := by
  unfold callM
  rw [h]
end
end SE

/-! SEk: x in xs, all, list, slices; what the top keeps in a name; comprehensions; match. -/
namespace SE
open PySem PySem.Spec PyProof.Rows L2
/-! ### x in xs -/
def seqIn (a : D) (xs : List D) : Option Bool := if (isPL xs && (isP a && decide ((dP a).depth ≤ 50))) = true then some ((dPL xs).any fun z => PyData.eqv z (dP a)) else none
def inB (a b : D) : Option Bool := match b with
  | .tup xs => seqIn a xs
  | .lst xs => seqIn a xs
  | .ro xs => seqIn a xs
  | .str y => (match a with
    | .str x => (match x.cps.toList with
      | [c] => some (decide (c ∈ y.cps.toList))
      | _ => none)
    | _ => none)
  | _ => none
def inM (a b : D) : M D := fun μ => match inB a b with
  | some k => .ok (.bl k) μ
  | none => .bad
def niM (a b : D) : M D := fun μ => match inB a b with
  | some k => .ok (.bl (!k)) μ
  | none => .bad
def rInP (K : PySem.W.Frag) (neg : Bool) : R2 := fun x y H Q => (∃ p vs ds d, y = .ref p ∧ (SqL K H p vs ∨ SqT K H p vs) ∧ DpAll K H vs ds ∧ Dp K H x d ∧ PyData.plainAll ds = true ∧ d.plain = true ∧ d.depth ≤ 50 ∧
    Q (.bl (if neg then !(ds.any fun z => PyData.eqv z d) else ds.any fun z => PyData.eqv z d)) H) ∨
  ∃ (c : Nat) (z : Str), x = .str ⟨#[c]⟩ ∧ y = .str z ∧ Q (.bl (if neg then !decide (c ∈ z.cps.toList) else decide (c ∈ z.cps.toList))) H
theorem any_read {h : Heap} {its : List Value} {ds : List PyData} {as : List Addr} {d : PyData} (ra : ReadsAll h its ds as) (hp : PyData.plainAll ds = true) : (its.toArray.any fun z => PyData.eqv (SeqAt.readOf h z) d) = ds.any fun z => PyData.eqv z d := by
  rw [List.any_toArray, ← SeqAt.readsAll_map_plain ds its as hp ra, List.any_map]
  rfl
section
variable {X : Cx} {G : Gx}
theorem op_inP (hu : X.A.units + 64 < cLine) : OpR X (compareOp .In) (rInP X.K false) := by
  intro pins s σ H x y v u Q I rx ry h
  rcases h with ⟨p, vs, ds, d, rfl, hs, hd, hx, h1, h2, h3, q⟩ | h
  · cases ry
    obtain ⟨bs, rb⟩ := Dp.reads I d x v hx rx
    rcases hs with hs | hs
    · obtain ⟨its, rv, pl, hlen⟩ := I.list hs
      obtain ⟨as, ra⟩ := Dp.readsAll I ds vs its hd rv
      have ra' : ReadsAll s.heap its.toArray.toList ds as := ra
      refine SeqAt.in_listAt (fun z => PyData.eqv (SeqAt.readOf s.heap z) d) pl.isList (SeqAt.items_plain ra' rb h1 h2 (by have := Nat.min_le_right (PyData.depthAll ds) d.depth; omega)) ⟨.bl _, H, I, rfl, ?_⟩
      rw [any_read ra h1]
      exact q
    · obtain ⟨its, rv, pl, hlen⟩ := I.tuple hs
      obtain ⟨as, ra⟩ := Dp.readsAll I ds vs its hd rv
      have ra' : ReadsAll s.heap its.toArray.toList ds as := ra
      refine SeqAt.in_tupleAt (fun z => PyData.eqv (SeqAt.readOf s.heap z) d) pl (SeqAt.items_plain ra' rb h1 h2 (by have := Nat.min_le_right (PyData.depthAll ds) d.depth; omega)) ⟨.bl _, H, I, rfl, ?_⟩
      rw [any_read ra h1]
      exact q
  · exact op_in_sign pins s σ H x y v u Q I rx ry h
theorem op_niP (hu : X.A.units + 64 < cLine) : OpR X (compareOp .NotIn) (rInP X.K true) := by
  intro pins s σ H x y v u Q I rx ry h
  rcases h with ⟨p, vs, ds, d, rfl, hs, hd, hx, h1, h2, h3, q⟩ | h
  · cases ry
    obtain ⟨bs, rb⟩ := Dp.reads I d x v hx rx
    rcases hs with hs | hs
    · obtain ⟨its, rv, pl, hlen⟩ := I.list hs
      obtain ⟨as, ra⟩ := Dp.readsAll I ds vs its hd rv
      have ra' : ReadsAll s.heap its.toArray.toList ds as := ra
      refine SeqAt.notIn_listAt (fun z => PyData.eqv (SeqAt.readOf s.heap z) d) pl.isList (SeqAt.items_plain ra' rb h1 h2 (by have := Nat.min_le_right (PyData.depthAll ds) d.depth; omega)) ⟨.bl _, H, I, rfl, ?_⟩
      rw [any_read ra h1]
      exact q
    · obtain ⟨its, rv, pl, hlen⟩ := I.tuple hs
      obtain ⟨as, ra⟩ := Dp.readsAll I ds vs its hd rv
      have ra' : ReadsAll s.heap its.toArray.toList ds as := ra
      refine SeqAt.notIn_tupleAt (fun z => PyData.eqv (SeqAt.readOf s.heap z) d) pl (SeqAt.items_plain ra' rb h1 h2 (by have := Nat.min_le_right (PyData.depthAll ds) d.depth; omega)) ⟨.bl _, H, I, rfl, ?_⟩
      rw [any_read ra h1]
      exact q
  · exact op_notIn_sign pins s σ H x y v u Q I rx ry h
theorem seqIn_i {φ : Lab} {μ : Mem} {H : Hp} {a : D} {x : V} {xs : List D} {vs : List V} {p : Addr} {k neg : Bool} {Q : VK} (h : seqIn a xs = some k) (ra : Rp G φ H a x) (rl : RpL G φ H xs vs) (hs : SqL G.K H p vs ∨ SqT G.K H p vs) (q : Q (.bl (if neg then !k else k)) H) : rInP G.K neg x (.ref p) H Q := by
  unfold seqIn at h
  by_cases c : (isPL xs && (isP a && decide ((dP a).depth ≤ 50))) = true
  · rw [if_pos c] at h
    cases h
    obtain ⟨c1, c2⟩ := andB c
    obtain ⟨c2, c3⟩ := andB c2
    exact .inl ⟨p, vs, dPL xs, dP a, rfl, hs, rl.dp c1, ra.dp c2, isPL_plain xs c1, isP_plain a c2, of_decide_eq_true c3, q⟩
  · rw [if_neg c] at h
    cases h
theorem inB_i {φ : Lab} {μ : Mem} {H : Hp} {a b : D} {x y : V} {k neg : Bool} {Q : VK} (h : inB a b = some k) (ra : Rp G φ H a x) (rb : Rp G φ H b y) (q : Q (.bl (if neg then !k else k)) H) : rInP G.K neg x y H Q := by
  cases rb with
  | tup hs r => exact seqIn_i (μ := μ) h ra r (.inr hs.t) q
  | lst hs _ r => exact seqIn_i (μ := μ) h ra r (.inl (SqL.of hs)) q
  | ro hs r => exact seqIn_i (μ := μ) h ra r (.inl hs.t) q
  | str z =>
    cases ra with
    | str w =>
      unfold inB at h
      dsimp only at h
      split at h
      · rename_i c e
        cases h
        refine .inr ⟨c, z, ?_, rfl, q⟩
        obtain ⟨l⟩ := w
        have e2 : l = #[c] := by
          apply Array.ext'
          rw [e]
        rw [e2]
      · cases h
    | _ => cases h
  | _ => cases h
theorem in_i : OpI G inM (rInP G.K false) := by
  intro φ μ H a b x y Q E R ra rb p
  unfold inM at p
  cases q : inB a b with
  | none => simp only [q] at p; exact p.elim
  | some k =>
    simp only [q] at p
    exact inB_i (μ := μ) (neg := false) q ra rb (Post.pure p R (.bl _))
theorem ni_i : OpI G niM (rInP G.K true) := by
  intro φ μ H a b x y Q E R ra rb p
  unfold niM at p
  cases q : inB a b with
  | none => simp only [q] at p; exact p.elim
  | some k =>
    simp only [q] at p
    exact inB_i (μ := μ) (neg := true) q ra rb (Post.pure p R (.bl _))
/-! ### all, any of a list of truths; list of a tuple, of a list -/
def blsOf : List D → Option (List Bool)
  | [] => some []
  | .bl b :: r => (match blsOf r with
    | some bs => some (b :: bs)
    | none => none)
  | _ :: _ => none
def allM : List D → M D
  | [.lst xs], μ => (match blsOf xs with
    | some bs => .ok (.bl (bs.all id)) μ
    | none => .bad)
  | _, _ => .bad
def anyM : List D → M D
  | [.lst xs], μ => (match blsOf xs with
    | some bs => .ok (.bl (bs.any id)) μ
    | none => .bad)
  | _, _ => .bad
theorem bls_v {φ : Lab} {H : Hp} : ∀ {xs : List D} {vs : List V} {bs : List Bool}, RpL G φ H xs vs → blsOf xs = some bs → vs = bs.map V.bl
  | _, _, _, .nil, h => by cases h; rfl
  | _, _, _, .cons (d := d) (ds := ds) r t, h => by
    cases r with
    | bl b =>
      unfold blsOf at h
      cases q : blsOf ds with
      | none => simp only [q] at h; cases h
      | some cs =>
        simp only [q] at h
        cases h
        rw [bls_v t q]
        rfl
    | _ => cases h
theorem all_i : CallI G allM (rAll G.K) := by
  intro φ μ H a x Q E R r p
  unfold allM at p
  split at p
  · obtain ⟨v, rfl, r1⟩ := r.one
    rename_i xs
    cases r1 with
    | @lst a vs _ hs _ rl =>
      cases q : blsOf xs with
      | none => simp only [q] at p; exact p.elim
      | some bs =>
        simp only [q] at p
        exact ⟨a, bs, rfl, by rw [← bls_v rl q]; exact SqL.of hs, Post.pure p R (.bl _)⟩
  · exact p.elim
theorem any_i : CallI G anyM (rAny G.K) := by
  intro φ μ H a x Q E R r p
  unfold anyM at p
  split at p
  · obtain ⟨v, rfl, r1⟩ := r.one
    rename_i xs
    cases r1 with
    | @lst a vs _ hs _ rl =>
      cases q : blsOf xs with
      | none => simp only [q] at p; exact p.elim
      | some bs =>
        simp only [q] at p
        exact ⟨a, bs, rfl, by rw [← bls_v rl q]; exact SqL.of hs, Post.pure p R (.bl _)⟩
  · exact p.elim
def listM : List D → M D
  | [.tup xs], μ => .ok (.lst xs) μ
  | [.lst xs], μ => .ok (.lst xs) μ
  | [.ro xs], μ => .ok (.lst xs) μ
  | _, _ => .bad
theorem list_i : CallI G listM (fun xs H Q => ∃ p ys, xs = [.ref p] ∧ (SqL G.K H p ys ∨ SqT G.K H p ys) ∧ ∀ l, H l = none → Q (.ref l) (upd H l (.lst ys))) := by
  intro φ μ H a x Q E R r p
  have fin : ∀ {xs : List D} {vs : List V}, Post G (tieD G) φ H (.ok (.lst xs) μ) Q E → RpL G φ H xs vs → ∀ l, H l = none → Q (.ref l) (upd H l (.lst vs)) := fun p rl l hl =>
    p φ _ _ (Grow.laid hl) (R.laid hl) (.lst upd_same (R.out hl) (rl.grow (Grow.laid hl)))
  unfold listM at p
  split at p
  · obtain ⟨v, rfl, r1⟩ := r.one
    cases r1 with
    | tup hs rl => exact ⟨_, _, rfl, .inr hs.t, fin p rl⟩
  · obtain ⟨v, rfl, r1⟩ := r.one
    cases r1 with
    | lst hs _ rl => exact ⟨_, _, rfl, .inl (SqL.of hs), fin p rl⟩
  · obtain ⟨v, rfl, r1⟩ := r.one
    cases r1 with
    | ro hs rl => exact ⟨_, _, rfl, .inl hs.t, fin p rl⟩
  · exact p.elim
end
/-! ### slices -/
def cutD {α : Type} (xs : List α) (lo hi : Option Int) : List α := (xs.drop (HT.sIx xs.length 0 lo)).take (HT.sIx xs.length xs.length hi - HT.sIx xs.length 0 lo)
def slM (d : D) (lo hi : Option Int) : M D := fun μ => match d with
  | .tup xs => .ok (.tup (cutD xs lo hi)) μ
  | .lst xs => .ok (.lst (cutD xs lo hi)) μ
  | .ro xs => .ok (.lst (cutD xs lo hi)) μ
  | .str z => if z.length ≤ 1000000 then .ok (.str (cutS z lo hi)) μ else .bad
  | _ => .bad
def oN : Ev → M (Option Int) := fun _ => M.pure none
def intO (d : D) : M (Option Int) := fun μ => match d with
  | .int i => .ok (some i) μ
  | _ => .bad
def oI (m : Ev → M D) : Ev → M (Option Int) := fun ρ => M.bind (m ρ) intO
def eSl (ma : Ev → M D) (ml mh : Ev → M (Option Int)) : Ev → M D := fun ρ => M.bind (ma ρ) fun x => M.bind (ml ρ) fun l => M.bind (mh ρ) fun h => slM x l h
def tieO : Tie (Option Int) (Option Int) := fun _ _ a b => b = a
abbrev JO (X : Cx) (Γ : Gs) (W : WX) (e : Option Expr) (m : Ev → M (Option Int)) : Prop := PO X e (tG (X.G Γ) tieO W m)
theorem po_w {X : Cx} {e : Option Expr} {t t' : TO} (h : PO X e t) (w : ∀ σ H Q, t' σ H Q → t σ H Q) : PO X e t' := ⟨fun pins s σ H Q I q => h.run pins s σ H Q I (w σ H Q q)⟩
section
variable {X : Cx} {W : WX} {Γ : Gs} {e : Expr} {m : Ev → M D} {pos p2 : Pos}
theorem jo_none : JO X Γ W none oN := po_w po_none fun σ H Q h => by
  obtain ⟨φ, ρ, μ, ev, r, p⟩ := h
  exact Post.pure p r rfl
theorem jo_some (he : JE X Γ W e m) : JO X Γ W (some e) (oI m) := po_w (po_some he) fun σ H Q h => by
  refine bE h fun φ1 H1 x v ρ μ1 ev r rv p => ?_
  cases rv with
  | int i => exact ⟨i, rfl, Post.pure p r rfl⟩
  | _ => exact p.elim
theorem RpL.cut {G : Gx} {φ : Lab} {H : Hp} {ds : List D} {vs : List V} (r : RpL G φ H ds vs) (lo hi : Option Int) : RpL G φ H (cutD ds lo hi) (cutV vs lo hi) := by
  unfold cutD cutV
  rw [r.length]
  exact (r.drop _).take _
theorem j_slice {lo hi : Option Expr} {ml mh : Ev → M (Option Int)} (he : JE X Γ W e m) (hl : JO X Γ W lo ml) (hh : JO X Γ W hi mh) : JE X Γ W (.Subscript e (.Slice lo hi none p2) pos) (eSl m ml mh) := by
  refine pe_w (pe_slice (sl_tupA.or (sl_list.or sl_str)) he hl hh) fun σ H Q h => ?_
  refine bE h fun φ1 H1 d v ρ μ1 e1 r1 rv p1 => ?_
  refine bG e1 r1 p1 fun φ2 H2 l l' μ2 g2 e2 r2 el p2 => ?_
  cases (show l' = l from el)
  refine bG e2 r2 p2 fun φ3 H3 h h' μ3 g3 e3 r3 eh p3 => ?_
  cases (show h' = h from eh)
  have rv := (rv.grow g2).grow g3
  unfold slM at p3
  cases rv with
  | @tup a vs ds hs rl =>
    refine .inl ⟨a, vs, rfl, hs.t, fun w => ?_, fun w p hp => ?_⟩
    · have e : cutD ds l h = ds := by
        unfold cutD
        rw [rl.length, w.1, w.2, List.drop_zero, Nat.sub_zero, ← rl.length, List.take_length]
      dsimp only at p3
      rw [e] at p3
      exact Post.pure p3 r3 (.tup hs rl)
    · exact p3 φ3 _ _ (Grow.laid hp) (r3.laid hp) (.tup (.inl ⟨.inl upd_same, r3.out hp⟩) ((rl.cut l h).grow (Grow.laid hp)))
  | @lst a vs ds hs hn rl => exact .inr (.inl ⟨a, vs, rfl, SqL.of hs, fun p hp => p3 φ3 _ _ (Grow.laid hp) (r3.laid hp) (.lst upd_same (r3.out hp) ((rl.cut l h).grow (Grow.laid hp)))⟩)
  | @ro a vs ds hs rl => exact .inr (.inl ⟨a, vs, rfl, hs.t, fun p hp => p3 φ3 _ _ (Grow.laid hp) (r3.laid hp) (.lst upd_same (r3.out hp) ((rl.cut l h).grow (Grow.laid hp)))⟩)
  | str z =>
    by_cases hz : z.length ≤ 1000000
    · simp only [if_pos hz] at p3
      exact .inr (.inr ⟨z, rfl, by rw [sizeLine_eq]; omega, Post.pure p3 r3 (.str _)⟩)
    · simp only [if_neg hz] at p3
      exact p3.elim
  | _ => exact p3.elim
end
/-! ### what the top keeps in a name -/
mutual
theorem datB_ok {K : PySem.W.Frag} : ∀ {d : D} {u : Value}, datB K d u = true → ∃ v, RelV v u ∧ ∀ (mg : Str → Option Value) (s : Gs) (φ : Lab) (H : Hp), Rp ⟨K, mg, s⟩ φ H d v
  | .non, .none, _ => ⟨.non, rfl, fun _ _ _ _ => .non⟩
  | .bl b, .bool c, h => by
    cases of_decide_eq_true (show decide (b = c) = true from h)
    exact ⟨.bl b, rfl, fun _ _ _ _ => .bl b⟩
  | .int i, .int j t, h => by
    cases of_decide_eq_true (show decide (i = j) = true from h)
    exact ⟨.int i, ⟨t, rfl⟩, fun _ _ _ _ => .int i⟩
  | .str x, .str y t, h => by
    cases of_decide_eq_true (show decide (x = y) = true from h)
    exact ⟨.str x, ⟨t, rfl⟩, fun _ _ _ _ => .str x⟩
  | .tup ds, .ref a, h => by
    unfold datB at h
    cases q : K.lookup a with
    | none => rw [q] at h; cases h
    | some o =>
      rw [q] at h
      obtain ⟨cl, od, dt, sl⟩ := o
      cases dt with
      | seq its n =>
        obtain ⟨h1, h⟩ := andB h
        obtain ⟨h2, h3⟩ := andB h
        obtain ⟨vs, rv, rl⟩ := datLB_ok h3
        refine ⟨.ref a, rfl, fun mg s φ H => .tup (.inr (.inr ⟨_, its, n, q, of_decide_eq_true h1, rfl, of_decide_eq_true h2, rv⟩)) (rl mg s φ H)⟩
      | _ => cases h
theorem datLB_ok {K : PySem.W.Frag} : ∀ {ds : List D} {us : List Value}, datLB K ds us = true → ∃ vs, Vals vs us ∧ ∀ (mg : Str → Option Value) (s : Gs) (φ : Lab) (H : Hp), RpL ⟨K, mg, s⟩ φ H ds vs
  | [], [], _ => ⟨[], .nil, fun _ _ _ _ => .nil⟩
  | d :: ds, u :: us, h => by
    obtain ⟨h1, h2⟩ := andB h
    obtain ⟨v, r, f⟩ := datB_ok h1
    obtain ⟨vs, rs, fs⟩ := datLB_ok h2
    exact ⟨v :: vs, .cons r rs, fun mg s φ H => .cons (f mg s φ H) (fs mg s φ H)⟩
end
/-- a global name keeps d -/
def ConG (K : PySem.W.Frag) (mg : Str → Option Value) (x : Str) (d : D) : Prop := ∃ u, mg x = some u ∧ ∃ v, RelV v u ∧ ∀ (s : Gs) (φ : Lab) (H : Hp), Rp ⟨K, mg, s⟩ φ H d v
theorem conB_ok {K : PySem.W.Frag} {h : Heap} {mg : Str → Option Value} {x : Str} {d : D} (X : K.In h) (G : h.Ns mainGlobals mg) (c : conB K x d = true) : ConG K mg x d := by
  unfold conB at c
  split at c
  · rename_i u e
    obtain ⟨v, r, f⟩ := datB_ok c
    exact ⟨u, PySem.W.mg_of X G e, v, r, f mg⟩
  · cases c
theorem j_con {X : Cx} {W : WX} {Γ : Gs} {x : Str} {d : D} {pos : Pos} (hg : Gl X x) (hm : ConG X.K X.mg x d) (hdb : (x == ("__debug__" : Str)) = false := by decide) : JE X Γ W (.Name x pos) (eC d) := by
  obtain ⟨u, h1, v, r, f⟩ := hm
  refine ⟨fun pins s σ H Q I h => ld_glob I hg h1 ?_ hdb⟩
  obtain ⟨φ, ρ, μ, ev, rm, p⟩ := h
  exact ⟨v, H, I, r, Post.pure p rm (f _ _ _)⟩
/-! ### walked: a list, a tuple, a text's signs -/
def chars (z : Str) : List D := z.cps.toList.map fun c => .str ⟨#[c]⟩
def seqA (d : D) : M (List D) := fun μ => match d with
  | .lst xs => .ok xs μ
  | .ro xs => .ok xs μ
  | .tup xs => .ok xs μ
  | .str z => .ok (chars z) μ
  | _ => .bad
theorem its_tie {G : Gx} {φ : Lab} {H : Hp} (z : Str) : tieI G φ H (chars z) (Its z) := by
  intro φ1 H1 g i
  have hl : (chars z).length = z.cps.size := by simp [chars]
  refine ⟨fun d hd => ?_, fun h => by rw [hl] at h; exact h⟩
  have hi : i < z.cps.size := by
    have := (List.getElem?_eq_some_iff.mp hd).1
    rw [hl] at this
    exact this
  refine ⟨hi, fun x H2 μ R hy => ?_⟩
  obtain ⟨e1, c, e2, e3⟩ := (show H2 = H1 ∧ ∃ c, z.cps[i]? = some c ∧ x = .str ⟨#[c]⟩ from hy)
  subst e1 e3
  have : d = .str ⟨#[c]⟩ := by
    unfold chars at hd
    rw [List.getElem?_map, Array.getElem?_toList, e2] at hd
    exact (Option.some.inj hd).symm
  subst this
  exact ⟨Grow.refl _ _, R, .str _⟩
section
variable {X : Cx} {W : WX} {Γ : Gs} {tg l : Expr} {ml : Ev → M D}
theorem iter_v {pins : List (Addr × Obj)} {σ : L2.St} {H1 : Hp} {s1 : Shared} {φ : Lab} {μ : Mem} {d : D} {x : V} {v : Value} {R : It → Hp → Prop} {E : XK} (I : Inv X pins σ H1 s1) (r : RelV x v) (rm : MemR (X.G Γ) φ μ H1) (rd : Rp (X.G Γ) φ H1 d x) (p : Post (X.G Γ) (tieI (X.G Γ)) φ H1 (seqA d μ) R E) :
    wpAny (model X.prog X.w) X.A (pyIter v) (PIE X pins σ tg R) X.xe s1 := by
  cases rd with
  | lst h1 n1 r1 =>
    cases r
    obtain ⟨its, rv, pl, hz⟩ := I.list (SqL.of h1)
    exact wpAny_pyIter_list pl.isList (pi_one (tk := s1.toks) I _ (turn_list _ _) ⟨_, Heap.get?_push_size _ rfl, rfl, rfl⟩ (Post.pure p rm (itl_tie' (fun φ2 H2 g => SqL.of (g.st _ _ h1 n1 fun _ z => nomatch z)) r1)))
  | ro h1 r1 =>
    cases r
    obtain ⟨its, rv, pl, hz⟩ := I.list h1.t
    exact wpAny_pyIter_list pl.isList (pi_one (tk := s1.toks) I _ (turn_list _ _) ⟨_, Heap.get?_push_size _ rfl, rfl, rfl⟩ (Post.pure p rm (itl_tie' (fun φ2 H2 g => (h1.grow g).t) r1)))
  | tup h1 r1 =>
    cases r
    obtain ⟨its, rv, pl, hz⟩ := I.tuple h1.t
    exact wpAny_pyIter_tuple (items := its.toArray) pl (pi_one (tk := s1.toks) I _ (turn_tuple _ _) ⟨_, Heap.get?_push_size _ rfl, rfl, rfl⟩ (Post.pure p rm (itt_tie h1 r1)))
  | str z =>
    obtain ⟨t, rfl⟩ := r
    have q := Post.pure p rm (its_tie z)
    cases ha : z.cps.all (· < 128)
    · exact wpAny_pyIter_wide ha (pi_one (tk := s1.toks) I _ (turn_str _ z t "str_iterator" (.inr rfl)) ⟨_, Heap.get?_push_size _ rfl, rfl, rfl⟩ q)
    · exact wpAny_pyIter_ascii ha (pi_one (tk := s1.toks) I _ (turn_str _ z t "str_ascii_iterator" (.inl rfl)) ⟨_, Heap.get?_push_size _ rfl, rfl, rfl⟩ q)
  | _ => exact p.elim
theorem i_any (hl : JE X Γ W l ml) : JI X Γ W tg l (eSeq seqA ml) := by
  refine ⟨fun pins s σ H R I h => ?_⟩
  have key : tG (X.G Γ) (tieD (X.G Γ)) W ml σ H fun x H1 => ∃ φ μ d, MemR (X.G Γ) φ μ H1 ∧ Rp (X.G Γ) φ H1 d x ∧ Post (X.G Γ) (tieI (X.G Γ)) φ H1 (seqA d μ) R fun cls dd H' => W cls dd σ H' :=
    bE h fun φ1 H1 d x ρ μ1 e r rd p => ⟨φ1, μ1, d, r, rd, p⟩
  exact thn (hl.run pins s σ H _ I key) fun v s1 ⟨x, H1, I1, r1, φ, μ, d, rm, rd, p⟩ => iter_v I1 r1 rm rd p
end
/-! ### comprehensions -/
/-- nothing may be raised -/
def noE {α : Type} (m : M α) : M α := fun μ => match m μ with
  | .exc _ _ => .bad
  | r => r
def lcF (i : Nat) (mt : Ev → M Bool) (me : Ev → M D) (ρ : Ev) : List D → List D → M D
  | [], acc => fun μ => .ok (.lst acc) μ
  | d :: ds, acc => M.bind (noE (mt ((ρ.set i none).set i (some d)))) fun b => if b = true then (M.bind (noE (me ((ρ.set i none).set i (some d)))) fun y => if acc.length < 100000 then lcF i mt me ρ ds (acc ++ [y]) else M.bad) else lcF i mt me ρ ds acc
def eLc (i : Nat) (mi : Ev → M (List D)) (mt : Ev → M Bool) (me : Ev → M D) : Ev → M D := fun ρ => M.bind (mi ρ) fun ds => lcF i mt me ρ ds []
def bYes : Ev → M Bool := fun _ => M.pure true
abbrev W0 : WX := fun _ _ _ _ => False
abbrev JTs (X : Cx) (Γ : Gs) (es : List Expr) (m : Ev → M Bool) : Prop := PTs X es (tG (X.G Γ) tieB W0 m)
theorem pts_w {X : Cx} {e : List Expr} {t t' : TT} (h : PTs X e t) (w : ∀ σ H Q, t' σ H Q → t σ H Q) : PTs X e t' := ⟨fun pins s σ H Q I q => h.run pins s σ H Q I (w σ H Q q)⟩
theorem jts_nil {X : Cx} {Γ : Gs} : JTs X Γ [] bYes := pts_w pts_nil fun σ H Q h => by
  obtain ⟨φ, ρ, μ, ev, r, p⟩ := h
  exact Post.pure p r rfl
theorem jts_one {X : Cx} {Γ : Gs} {c : Expr} {m : Ev → M Bool} (h : JT X Γ W0 c m) : JTs X Γ [c] m := pts_one h
/-! what is hidden while it is made -/
def Lab.hide (φ : Lab) (D : Addr) : Lab := ⟨φ.l, D :: φ.h⟩
def Lab.bare (φ : Lab) (D : Addr) : Lab := ⟨φ.l, φ.h.filter fun a => decide (a ≠ D)⟩
section
variable {G : Gx} {φ φ' : Lab} {μ : Mem} {H H' : Hp} {D : Addr}
theorem Grow.hide {vs : List V} (h : H D = none) : Grow φ H (φ.hide D) (upd H D (.lst vs)) :=
  ⟨⟨[], by simp [Lab.hide], fun _ z => nomatch z⟩, fun a z n u e => by
    rcases List.mem_cons.mp z with z | z
    · rw [z, h] at e; cases e
    · exact absurd z n, fun _ z => List.mem_cons_of_mem _ z, fun b u e _ _ => by rw [upd_ne (ne_of_none e h)]; exact e, dm_laid h⟩
theorem MemR.hide {vs : List V} (R : MemR G φ μ H) (h : H D = none) : MemR G (φ.hide D) μ (upd H D (.lst vs)) :=
  ⟨R.tb.ext (keep_laid h), let ⟨o, e⟩ := R.sm; ⟨o, keep_laid h _ _ e⟩, R.len, R.nd, fun l o e => by
    obtain ⟨a, h1, h2⟩ := R.at_ l o e
    refine ⟨a, h1, ?_⟩
    cases o with
    | lst xs =>
      obtain ⟨ws, h3, h4⟩ := h2
      exact ⟨ws, keep_laid h _ _ h3, h4.grow (Grow.hide h)⟩, fun a ha => by
    rcases List.mem_cons.mp ha with z | z
    · exact ⟨vs, by rw [z, upd_same]⟩
    · obtain ⟨u, e⟩ := R.hd a z
      exact ⟨u, keep_laid h _ _ e⟩⟩
theorem Gw.wrH {o : HO} (hD : D ∈ φ.h) : Gw φ H φ (upd H D o) := ⟨⟨[], by simp⟩, fun _ _ n => n, fun b u e n _ => by rw [upd_ne (fun z => n (.inr (by rw [z]; exact hD)))]; exact e⟩
theorem MemR.wrH {vs : List V} (R : MemR G φ μ H) (hD : D ∈ φ.h) (nl : D ∉ φ.l) : MemR G φ μ (upd H D (.lst vs)) := by
  obtain ⟨v0, e0⟩ := R.hd D hD
  have tb : LamX.Tabs G.s.T (upd H D (.lst vs)) := tabs_upd R.tb e0 (fun _ z => nomatch z) fun c q z => by
    have z' : HO.lst v0 = HO.ext _ := z
    cases z'
  refine ⟨tb, ?_, R.len, R.nd, fun l o e => ?_, fun a ha => ?_⟩
  · obtain ⟨o, e⟩ := R.sm
    exact ⟨o, by rw [upd_ne (fun z => by rw [z, e0] at e; cases e)]; exact e⟩
  · obtain ⟨a, h1, h2⟩ := R.at_ l o e
    refine ⟨a, h1, ?_⟩
    cases o with
    | lst xs =>
      obtain ⟨ws, h3, h4⟩ := h2
      exact ⟨ws, by rw [upd_ne (fun z => nl (by rw [← z]; exact List.mem_of_getElem? h1))]; exact h3, h4.growW (Gw.wrH hD)⟩
  · by_cases q : a = D
    · exact ⟨vs, by rw [q, upd_same]⟩
    · obtain ⟨u, e⟩ := R.hd a ha
      exact ⟨u, by rw [upd_ne q]; exact e⟩
theorem bare_mem {a : Addr} (h : a ∈ φ.bare D) : a ∈ φ := by
  rcases h with h | h
  · exact .inl h
  · exact .inr (List.mem_filter.mp h).1
theorem Gw.bare : Gw φ H (φ.bare D) H := ⟨⟨[], by simp [Lab.bare]⟩, fun _ _ n z => n (bare_mem z), fun _ _ e _ _ => e⟩
theorem MemR.bare (R : MemR G φ μ H) : MemR G (φ.bare D) μ H :=
  ⟨R.tb, R.sm, R.len, R.nd, fun l o e => by
    obtain ⟨a, h1, h2⟩ := R.at_ l o e
    refine ⟨a, h1, ?_⟩
    cases o with
    | lst xs =>
      obtain ⟨ws, h3, h4⟩ := h2
      exact ⟨ws, h3, h4.growW Gw.bare⟩, fun a ha => R.hd a (List.mem_filter.mp ha).1⟩
theorem bare_out (nl : D ∉ φ.l) : D ∉ φ.bare D := by
  rintro (h | h)
  · exact nl h
  · have := (List.mem_filter.mp h).2
    simp at this
theorem Grow.bare (g : Grow φ H φ' H') (nD : D ∉ φ.h) : Grow φ H (φ'.bare D) H' :=
  ⟨g.ex, fun a z n => g.hx a (List.mem_filter.mp z).1 n, fun a z => List.mem_filter.mpr ⟨g.hs a z, decide_eq_true fun e => nD (by rw [← e]; exact z)⟩, g.kp, g.dm⟩
theorem Grow.wrNew {o : HO} (g : Grow φ H φ' H') (h : H D = none) : Grow φ H φ' (upd H' D o) :=
  ⟨g.ex, g.hx, g.hs, fun b u e n t => by rw [upd_ne (ne_of_none e h)]; exact g.kp b u e n t, fun b u e t => by
    obtain ⟨v, e2, t2⟩ := g.dm b u e t
    exact ⟨v, by rw [upd_ne (ne_of_none e h)]; exact e2, t2⟩⟩
theorem bN {α ν β : Type} {T : Tie α ν} {m : Ev → M α} {k : α → M β} {ρ : Ev} {σ : L2.St} {R : ν → Hp → Prop} (P : Res β → Prop) (nb : ¬ P .bad)
    (e : EvR G φ H ρ σ) (r : MemR G φ μ H) (p : P (M.bind (noE (m ρ)) k μ))
    (hk : ∀ φ1 H1 x v μ1, Grow φ H φ1 H1 → EvR G φ1 H1 ρ σ → MemR G φ1 μ1 H1 → T φ1 H1 x v → P (k x μ1) → R v H1) : tG G T W0 m σ H R := by
  refine ⟨φ, ρ, μ, e, r, ?_⟩
  unfold M.bind noE at p
  cases q : m ρ μ with
  | ok d μ1 =>
    rw [q] at p
    intro φ1 H1 v g r1 rv
    exact hk φ1 H1 d v μ1 g (e.grow g) r1 rv p
  | exc x μ1 =>
    rw [q] at p
    exact (nb p).elim
  | bad =>
    rw [q] at p
    exact (nb p).elim
end
theorem tLc_i {X : Cx} {Γ : Gs} {W : WX} {i : Nat} {mi : Ev → M (List D)} {mt : Ev → M Bool} {me : Ev → M D} {σ : L2.St} {H : Hp} {Q : VK} (h : tG (X.G Γ) (tieD (X.G Γ)) W (eLc i mi mt me) σ H Q) :
    tLc (tG (X.G Γ) (tieI (X.G Γ)) W mi) (gName i) (tG (X.G Γ) tieB W0 mt) (tG (X.G Γ) (tieD (X.G Γ)) W0 me) [i] σ H Q := by
  refine bE h fun φ1 H1 items J ρ μ1 e1 r1 rj p1 => ?_
  intro D hD
  have nD1 : D ∉ φ1.h := fun z => r1.out hD (.inr z)
  have nL1 : D ∉ φ1.l := fun z => r1.out hD (.inl z)
  have gD : Grow φ1 H1 (φ1.hide D) (upd H1 D (.lst [])) := Grow.hide hD
  refine ⟨fun k m H => k + m = items.length ∧ ∃ φ μ acc av, Grow φ1 H1 φ H ∧ H D = some (.lst av) ∧ D ∈ φ.h ∧ D ∉ φ.l ∧ RpL (X.G Γ) φ H acc av ∧ EvR (X.G Γ) φ H ρ σ ∧ MemR (X.G Γ) φ μ H ∧ Post (X.G Γ) (tieD (X.G Γ)) φ1 H1 (lcF i mt me ρ (items.drop k) acc μ) Q fun cls dd H' => W cls dd σ H',
    ⟨items.length, by omega, φ1.hide D, μ1, [], [], gD, upd_same, List.mem_cons_self, nL1, .nil, e1.grow gD, r1.hide hD, p1⟩, ?_⟩
  rintro k m H ⟨hm, φ, μ, acc, av, g, hDl, hDh, nL, ra, ev, r, p⟩
  obtain ⟨jg, js⟩ := rj φ H g k
  by_cases hi : k < items.length
  · have hd : items[k]? = some items[k] := List.getElem?_eq_getElem hi
    obtain ⟨j1, j2⟩ := jg _ hd
    rw [List.drop_eq_getElem_cons hi] at p
    refine .inr ⟨j1, fun H' => k + 1 + (m - 1) = items.length ∧ ∃ φ μ acc av, Grow φ1 H1 φ H' ∧ H' D = some (.lst av) ∧ D ∈ φ.h ∧ D ∉ φ.l ∧ RpL (X.G Γ) φ H' acc av ∧ EvR (X.G Γ) φ H' ρ σ ∧ MemR (X.G Γ) φ μ H' ∧ Post (X.G Γ) (tieD (X.G Γ)) φ1 H1 (lcF i mt me ρ (items.drop (k + 1)) acc μ) Q fun cls dd H' => W cls dd σ H', fun H' w => ⟨m - 1, by omega, w⟩, fun x H2 hy => ?_⟩
    obtain ⟨g2, r2, rx⟩ := j2 x H2 μ r hy
    have ev2 := ev.grow g2
    show wipe ((wipe σ [i]).set i (some x)) [i] = wipe σ [i] ∧ _
    refine ⟨by show ((σ.set i none).set i (some x)).set i none = σ.set i none; rw [List.set_set, List.set_set], ?_⟩
    have evB : EvR (X.G Γ) φ H2 ((ρ.set i none).set i (some items[k])) ((wipe σ [i]).set i (some x)) := (ev2.forget i none).set i rx
    unfold lcF at p
    have nb : ¬ Post (X.G Γ) (tieD (X.G Γ)) φ1 H1 .bad Q fun cls dd H' => W cls dd σ H' := fun z => z
    refine bN (T := tieB) (fun r => Post (X.G Γ) (tieD (X.G Γ)) φ1 H1 r Q fun cls dd H' => W cls dd σ H') nb evB r2 p fun φ3 H3 b b' μ3 g3 e3 r3 eb p3 => ?_
    cases (show b' = b from eb)
    have G3 := (g.trans g2).trans g3
    have tb : ∀ {vs : List V} ps, HO.lst vs ≠ .tbl ps := fun _ z => nomatch z
    have hD2 := g2.kp _ _ hDl nL tb
    have nD2 := g2.outL hDl tb nL
    have hD3 := g3.kp _ _ hD2 nD2 tb
    have nD3 := g3.outL hD2 tb nD2
    have hH3 := g3.hs _ (g2.hs _ hDh)
    cases b with
    | false =>
      show _ ∧ _
      exact ⟨by omega, φ3, μ3, acc, av, G3, hD3, hH3, nD3, (ra.grow g2).grow g3, ev2.grow g3, r3, p3⟩
    | true =>
      rw [if_pos rfl] at p3
      show tG _ _ _ _ _ _ _
      refine bN (T := tieD (X.G Γ)) (fun r => Post (X.G Γ) (tieD (X.G Γ)) φ1 H1 r Q fun cls dd H' => W cls dd σ H') nb e3 r3 p3 fun φ4 H4 y yv μ4 g4 e4 r4 ry p4 => ?_
      have hD4 := g4.kp _ _ hD3 nD3 tb
      have nD4 := g4.outL hD3 tb nD3
      have hH4 := g4.hs _ hH3
      by_cases hl : acc.length < 100000
      · rw [if_pos hl] at p4
        have rav := ((ra.grow g2).grow g3).grow g4
        refine ⟨av, hD4, by rw [← rav.length, sizeLine_eq]; omega, by omega, ?_⟩
        have g5 : Gw φ4 H4 φ4 (upd H4 D (.lst (av ++ [yv]))) := Gw.wrH hH4
        exact ⟨φ4, μ4, acc ++ [y], av ++ [yv], (G3.trans g4).wrNew hD, upd_same, hH4, nD4, (rav.append (.cons ry .nil)).growW g5, ((ev2.grow g3).grow g4).growW g5, r4.wrH hH4 nD4, p4⟩
      · rw [if_neg hl] at p4
        exact p4.elim
  · have : items.drop k = [] := List.drop_of_length_le (by omega)
    rw [this] at p
    exact .inl ⟨js (by omega), p (φ.bare D) H (.ref D) (g.bare nD1) r.bare (.lst hDl (bare_out nL) (ra.growW Gw.bare))⟩
section
variable {X : Cx} {Γ : Gs} {W : WX} {elt iter : Expr} {ifs : List Expr} {x : Str} {i : Nat} {scope : Scope} {p1 pos : Pos} {mi : Ev → M (List D)} {mt : Ev → M Bool} {me : Ev → M D}
/-- [elt for x in iter if ..] -/
theorem j_lc (hc : X.calm = true) (hN : X.N.Nodup) (hi : JI X Γ W (.Name x p1) iter mi) (ok : blkC X.N X.env.scope scope [(x, i)] = true)
    (hg : ∀ (s : Shared) (H : Hp) (C : Addr) (cl : List (Str × Addr)) (fp : List Addr), PG (X.blk s H scope (compEnvC scope cl C X.env) fp) (.Name x p1) (gName i))
    (ht : ∀ (s : Shared) (H : Hp) (C : Addr) (cl : List (Str × Addr)) (fp : List Addr), JTs (X.blk s H scope (compEnvC scope cl C X.env) fp) Γ ifs mt)
    (he : ∀ (s : Shared) (H : Hp) (C : Addr) (cl : List (Str × Addr)) (fp : List Addr), JE (X.blk s H scope (compEnvC scope cl C X.env) fp) Γ W0 elt me) (hs : ∀ x, foldedSetIterable iter X.env x = pure x := by intro _; rfl) :
    JE X Γ W (.ListComp elt [⟨.Name x p1, iter, ifs, 0⟩] scope pos) (eLc i mi mt me) :=
  pe_w (pe_lc (own := [(x, i)]) (g := gName i) hc hN hi (blkOk_by ok) hg ht he hs) fun σ H Q h => tLc_i h
/-- y = [..] on one line -/
theorem s_setLc {j : Nat} {y : Str} {py spos : Pos} (hc : X.calm = true) (hN : X.N.Nodup) (hy : X.N[j]? = some y) (hyl : X.env.scope.names.lookup y = some .local)
    (hsw : swapsWith (.ListComp elt [⟨.Name x p1, iter, ifs, 0⟩] scope pos) (some (.Name y py)) spos.line X.env = pure true) (hi : JI X Γ W (.Name x p1) iter mi) (ok : blkC X.N X.env.scope scope [(x, i)] = true)
    (hg : ∀ (s : Shared) (H : Hp) (C : Addr) (cl : List (Str × Addr)) (fp : List Addr), PG (X.blk s H scope (compEnvC scope cl C X.env) fp) (.Name x p1) (gName i))
    (ht : ∀ (s : Shared) (H : Hp) (C : Addr) (cl : List (Str × Addr)) (fp : List Addr), JTs (X.blk s H scope (compEnvC scope cl C X.env) fp) Γ ifs mt)
    (he : ∀ (s : Shared) (H : Hp) (C : Addr) (cl : List (Str × Addr)) (fp : List Addr), JE (X.blk s H scope (compEnvC scope cl C X.env) fp) Γ W0 elt me) (hs : ∀ x, foldedSetIterable iter X.env x = pure x := by intro _; rfl) :
    JS X Γ W (.Assign [.Name y py] (.ListComp elt [⟨.Name x p1, iter, ifs, 0⟩] scope pos) spos) (sSet j (eLc i mi mt me)) :=
  ps_w (ps_setLc (own := [(x, i)]) (g := gName i) hc hN hy hyl hsw hi (blkOk_by ok) hg ht he hs) fun Z σ H h => by
    obtain ⟨φ, ρ, μ, ev, r, p⟩ := h
    exact tLc_i (bS ev r p fun φ1 H1 d v μ1 g e1 r1 rv p1 => p1 φ1 H1 _ (Grow.refl _ _) r1 (e1.set j rv))
end
theorem takes_W0 {X : Cx} : L2N.Takes X W0 := fun u s' ⟨_, _, _, _, _, _, _, _, _, _, _, _, _, _, _, _, w⟩ => w.elim
/-! ### match -/
def mcNil : D → MS := fun _ => sNext
def mcVal (c : D) (b : MS) (f : D → MS) : D → MS := fun d ρ μ => bindS (M.bind (eqM d c) isBl μ) ρ fun k μ' => if k = true then b ρ μ' else f d ρ μ'
def mcAny (b : MS) : D → MS := fun _ => b
def sMatch (m : Ev → M D) (f : D → MS) : MS := fun ρ μ => bindS (m ρ μ) ρ fun d μ' => f d ρ μ'
structure JMc (X : Cx) (Γ : Gs) (W : WX) (cs : List MatchCase) (f : D → MS) : Prop where
  run : ∀ (pins : List (Addr × Obj)) (s : Shared) (σ : L2.St) (H : Hp) (v : V) (u : Value) (Z : Ends) (first : Bool) (φ : Lab) (d : D) (ρ : Ev) (μ : Mem), Inv X pins σ H s → RelV v u → EvR (X.G Γ) φ H ρ σ → MemR (X.G Γ) φ μ H → Rp (X.G Γ) φ H d v →
    PostS (X.G Γ) φ H (f d ρ μ) Z W → wpAny (model X.prog X.w) X.A (matchCases cs X.env u first) (SP X pins Z) X.xe s
section
variable {X : Cx} {Γ : Gs} {W : WX} {e : Expr} {c : D} {body : List Stmt} {b : MS} {rest : List MatchCase} {f : D → MS} {p pos : Pos}
theorem mc_nil : JMc X Γ W [] mcNil := ⟨fun pins s σ H v u Z first φ d ρ μ I rv ev rm rd q => wpAny_matchCases_nil ⟨σ, H, I, q φ H σ (Grow.refl _ _) rm ev⟩⟩
theorem mc_any (hb : JSs X Γ W body b) : JMc X Γ W (⟨.MatchAs none none p, none, body⟩ :: rest) (mcAny b) := ⟨fun pins s σ H v u Z first φ d ρ μ I rv ev rm rd q =>
  wpAny_matchCases_cons (wpAny_matchPattern_Capture (wpAny_assignInOrder_none (hb.run pins s σ H Z I ⟨φ, ρ, μ, ev, rm, q⟩)))⟩
theorem mc_val {rr : R2} (he : JE X Γ W e (eC c)) (ho : OpR X (compareOp .Eq) rr) (hi : OpI (X.G Γ) eqM rr) (hb : JSs X Γ W body b) (hr : JMc X Γ W rest f) : JMc X Γ W (⟨.MatchValue e p, none, body⟩ :: rest) (mcVal c b f) := by
  refine ⟨fun pins s σ H v u Z first φ d ρ μ I rv ev rm rd q => ?_⟩
  have key : tG (X.G Γ) (tieD (X.G Γ)) W (eC c) σ H fun x H1 => rr v x H1 fun z H2 => ∃ k φ2 μ2, z = .bl k ∧ EvR (X.G Γ) φ2 H2 ρ σ ∧ MemR (X.G Γ) φ2 μ2 H2 ∧ Rp (X.G Γ) φ2 H2 d v ∧ PostS (X.G Γ) φ2 H2 (if k = true then b ρ μ2 else f d ρ μ2) Z W := by
    refine ⟨φ, ρ, μ, ev, rm, ?_⟩
    intro φ1 H1 x g1 r1 rx
    refine hi φ1 μ H1 d c v x _ (fun cls dd H' => W cls dd σ H') r1 (rd.grow g1) rx ?_
    unfold mcVal M.bind at q
    cases e : eqM d c μ with
    | ok z μ2 =>
      rw [e] at q
      intro φ2 H2 zz g2 r2 rz
      have G := g1.trans g2
      cases rz with
      | bl k => exact ⟨k, φ2, μ2, rfl, ev.grow G, r2, rd.grow G, PostS.grow G q⟩
      | _ => exact q.elim
    | exc x μ2 =>
      rw [e] at q
      intro φ2 H2 cls dd g2 r2 ex
      have G := g1.trans g2
      exact q φ2 H2 σ cls dd G r2 (ev.grow G) ex
    | bad =>
      rw [e] at q
      exact q.elim
  refine wpAny_matchCases_cons (wpAny_matchPattern_Value (thn (he.run pins s σ H _ I key) fun x s1 ⟨xv, H1, I1, rx, q1⟩ => thn (ho pins s1 σ H1 v xv u x _ I1 rv rx q1) fun y s2 ⟨z, H2, I2, ry, k, φ2, μ2, ez, ev2, r2, rd2, q2⟩ => ?_))
  subst ez
  cases (show y = Value.bool k from ry)
  refine wpAny_truthy_bool ?_
  cases k with
  | true => exact wpAny_assignInOrder_none (hb.run pins s2 σ H2 Z I2 ⟨φ2, ρ, μ2, ev2, r2, q2⟩)
  | false => exact hr.run pins s2 σ H2 v u Z false φ2 d ρ μ2 I2 rv ev2 r2 rd2 q2
theorem s_match {m : Ev → M D} {cs : List MatchCase} (he : JE X Γ W e m) (hm : JMc X Γ W cs f) : JS X Γ W (.Match e cs pos) (sMatch m f) := by
  refine ⟨fun pins s σ H Z I h => wpAny_Match ?_⟩
  obtain ⟨φ, ρ, μ, ev, r, q⟩ := h
  have key : tG (X.G Γ) (tieD (X.G Γ)) W m σ H fun v H1 => ∃ φ1 d μ1, EvR (X.G Γ) φ1 H1 ρ σ ∧ MemR (X.G Γ) φ1 μ1 H1 ∧ Rp (X.G Γ) φ1 H1 d v ∧ PostS (X.G Γ) φ1 H1 (f d ρ μ1) Z W :=
    bS ev r q fun φ1 H1 d v μ1 g e1 r1 rv p1 => ⟨φ1, d, μ1, e1, r1, rv, p1⟩
  exact thn (he.run pins s σ H _ I key) fun u s1 ⟨v, H1, I1, rv, φ1, d, μ1, e1, r1, rd, p1⟩ => hm.run pins s1 σ H1 v u Z true φ1 d ρ μ1 I1 rv e1 r1 rd p1
end
end SE

/-! SEl: reckoning with comprehensions, slices, match; ratios, shares. -/
namespace SE
open PySem PySem.Spec PyProof.Rows L2
section
variable {α β : Type} {ρ : Ev} {μ : Mem}
theorem wr_bnd {m : M α} {k : α → M β} {P : β → Mem → Prop} {E : Ex → Mem → Prop} : wr (M.bind m k μ) P E = wr (m μ) (fun x μ1 => wr (k x μ1) P E) E := by
  unfold M.bind wr
  cases m μ <;> rfl
variable {P : D → Mem → Prop} {L : List D → Mem → Prop} {B : Bool → Mem → Prop} {O : Option Int → Mem → Prop} {E : Ex → Mem → Prop} {i : Nat} {mi : Ev → M (List D)} {mt : Ev → M Bool} {me ma : Ev → M D} {ml mh : Ev → M (Option Int)}
theorem wr_eLc : wr (eLc i mi mt me ρ μ) P E = wr (mi ρ μ) (fun ds μ1 => wr (lcF i mt me ρ ds [] μ1) P E) E := wr_bnd
theorem wr_eSl : wr (eSl ma ml mh ρ μ) P E = wr (ma ρ μ) (fun x μ1 => wr (ml ρ μ1) (fun l μ2 => wr (mh ρ μ2) (fun h μ3 => wr (slM x l h μ3) P E) E) E) E := by
  unfold eSl
  rw [wr_bnd]
  simp only [wr_bnd]
theorem wr_oN : wr (oN ρ μ) O E = O none μ := rfl
theorem wr_oI : wr (oI ma ρ μ) O E = wr (ma ρ μ) (fun x μ1 => wr (intO x μ1) O E) E := wr_bnd
theorem intO_i {k : Int} : intO (.int k) μ = .ok (some k) μ := rfl
theorem wr_bYes : wr (bYes ρ μ) B E = B true μ := rfl
theorem seqA_l {xs : List D} : seqA (.lst xs) μ = .ok xs μ := rfl
theorem seqA_r {xs : List D} : seqA (.ro xs) μ = .ok xs μ := rfl
theorem seqA_t {xs : List D} : seqA (.tup xs) μ = .ok xs μ := rfl
theorem seqA_s {z : Str} : seqA (.str z) μ = .ok (chars z) μ := rfl
theorem listM_t {xs : List D} : listM [.tup xs] μ = .ok (.lst xs) μ := rfl
theorem listM_l {xs : List D} : listM [.lst xs] μ = .ok (.lst xs) μ := rfl
theorem slM_t {xs : List D} {lo hi : Option Int} : slM (.tup xs) lo hi μ = .ok (.tup (cutD xs lo hi)) μ := rfl
theorem slM_l {xs : List D} {lo hi : Option Int} : slM (.lst xs) lo hi μ = .ok (.lst (cutD xs lo hi)) μ := rfl
variable {N : Ev → Mem → Prop} {R : D → Mem → Prop} {Bk C : Ev → Mem → Prop} {X : Ex → Mem → Prop} {f : D → MS} {b : MS} {d c : D}
theorem ws_sMatch : ws (sMatch ma f ρ μ) N R Bk C X = wr (ma ρ μ) (fun d μ1 => ws (f d ρ μ1) N R Bk C X) X := by
  unfold sMatch
  rw [ws_bindS]
theorem ws_mcNil : ws (mcNil d ρ μ) N R Bk C X = N ρ μ := rfl
theorem ws_mcAny : ws (mcAny b d ρ μ) N R Bk C X = ws (b ρ μ) N R Bk C X := rfl
theorem ws_mcVal : ws (mcVal c b f d ρ μ) N R Bk C X = wr (eqM d c μ) (fun z μ1 => wr (isBl z μ1) (fun k μ2 => if k = true then ws (b ρ μ2) N R Bk C X else ws (f d ρ μ2) N R Bk C X) X) X := by
  unfold mcVal
  rw [ws_bindS, wr_bnd]
  congr 1
  funext z μ1
  congr 1
  funext k μ2
  cases k <;> rfl
/-- a comprehension that maps and keeps all -/
theorem lcF_map {g : D → D} : ∀ {ds acc : List D} {μ : Mem}, (∀ d ∈ ds, ∀ μ, me ((ρ.set i none).set i (some d)) μ = .ok (g d) μ) → acc.length + ds.length ≤ 100000 → lcF i bYes me ρ ds acc μ = .ok (.lst (acc ++ ds.map g)) μ
  | [], acc, μ, _, _ => by
    show Res.ok (D.lst acc) μ = _
    rw [List.map_nil, List.append_nil]
  | d :: ds, acc, μ, h, hl => by
    have e1 := h d List.mem_cons_self μ
    simp only [List.length_cons] at hl
    show M.bind (noE (bYes _)) _ μ = _
    unfold M.bind noE
    dsimp only [bYes, M.pure]
    rw [if_pos rfl]
    rw [e1]
    dsimp only
    rw [if_pos (by omega), lcF_map (g := g) (fun x hx => h x (List.mem_cons_of_mem _ hx)) (by simp; omega)]
    simp
theorem blsOf_map {f : D → Bool} : ∀ ds : List D, blsOf (ds.map fun d => .bl (f d)) = some (ds.map f)
  | [] => rfl
  | d :: ds => by
    show (match blsOf (ds.map fun d => .bl (f d)) with
      | some bs => some (f d :: bs)
      | none => none) = _
    rw [blsOf_map ds]
    rfl
theorem allM_map {f : D → Bool} {ds : List D} : allM [.lst (ds.map fun d => .bl (f d))] μ = .ok (.bl ((ds.map f).all id)) μ := by
  show (match blsOf (ds.map fun d => .bl (f d)) with
    | some bs => Res.ok (D.bl (bs.all id)) μ
    | none => .bad) = _
  rw [blsOf_map]
end
/-! ### ratios, shares, pixels -/
mutual
/-- known by its kind, numbers that are not too large -/
def smD : D → Bool
  | .int i => decide (i.natAbs ≤ 10 ^ 40)
  | .tup xs => smL xs
  | .non | .bl _ | .str _ | .lst _ | .ro _ | .dct _ => true
  | _ => false
def smL : List D → Bool
  | [] => true
  | d :: ds => smD d && smL ds
end
theorem smD_pl {d : D} (h : smD d = true) : plD d = true := by
  cases d <;> first | rfl | cases h
def rat : D → Bool
  | .tup [.int a, .int b] => decide (1 ≤ b) && decide (Int.gcd a b = 1)
  | _ => false
def shr : D → Bool
  | .tup [.int a, .int b] => decide (1 ≤ b) && decide (Int.gcd a b = 1) && (decide (0 ≤ a) && decide (a ≤ b))
  | _ => false
def leP : D → D → Bool
  | .tup [.int a, .int b], .tup [.int c, .int e] => decide (a * e ≤ c * b)
  | _, _ => false
def pix : D → Bool
  | .tup [x, y] => shr x && (shr y && leP x y)
  | _ => false
theorem shr_is {x : D} (h : shr x = true) : ∃ a b : Int, x = .tup [.int a, .int b] ∧ 1 ≤ b ∧ Int.gcd a b = 1 ∧ 0 ≤ a ∧ a ≤ b := by
  unfold shr at h
  split at h
  · rename_i a b
    simp only [Bool.and_eq_true, decide_eq_true_eq] at h
    exact ⟨a, b, rfl, h.1.1, h.1.2, h.2.1, h.2.2⟩
  · cases h
theorem sm_int {i : Int} (h : smD (.int i) = true) : i.natAbs ≤ 10 ^ 40 := of_decide_eq_true h
theorem sm_2 {x y : D} (h : smD (.tup [x, y]) = true) : smD x = true ∧ smD y = true := by
  have h2 : (smD x && (smD y && true)) = true := h
  obtain ⟨a, b⟩ := andB h2
  exact ⟨a, (andB b).1⟩
theorem mulM_l {xs : List D} {k : Int} {μ : Mem} (h : 0 ≤ k ∧ k ≤ 1000 ∧ xs.length ≤ 1000) : mulM (.lst xs) (.int k) μ = .ok (.lst (List.replicate k.toNat xs).flatten) μ := if_pos h
/-! what may be shown, rows of any length -/
theorem QwL {c : Nat} : ∀ {xs : List D}, (∀ x ∈ xs, Qw c x) → SE.isQL xs = true ∧ PyData.showableAll (dPL xs) = true ∧ PyData.depthAll (dPL xs) ≤ c ∧ costL xs ≤ xs.length * (10000 * c + 2)
  | [], _ => ⟨rfl, rfl, Nat.zero_le _, Nat.zero_le _⟩
  | x :: xs, h => by
    obtain ⟨h1, h2, h3, h4⟩ := h x List.mem_cons_self
    obtain ⟨k1, k2, k3, k4⟩ := QwL fun y hy => h y (List.mem_cons_of_mem _ hy)
    refine ⟨by simp [SE.isQL, h1, k1], by simp [dPL, PyData.showableAll, h2, k2], ?_, ?_⟩
    · simp [dPL, PyData.depthAll]; omega
    · simp only [costL, List.length_cons, Nat.add_mul]; omega
theorem Qw.tn {c n : Nat} {xs : List D} (h : ∀ x ∈ xs, Qw c x) (hn : xs.length ≤ n) (h2 : n ≤ 1000) : Qw (n * c + 1) (.tup xs) := by
  obtain ⟨k1, k2, k3, k4⟩ := QwL h
  have e : xs.length * (10000 * c + 2) ≤ n * (10000 * c + 2) := Nat.mul_le_mul_right _ hn
  have e2 : n * (10000 * c + 2) = 10000 * (n * c) + n * 2 := by rw [Nat.mul_add, ← Nat.mul_assoc, Nat.mul_comm n 10000, Nat.mul_assoc]
  by_cases z : xs = []
  · subst z
    exact ⟨rfl, rfl, by simp [dP, dPL, PyData.depth, PyData.depthAll], by simp [cost, costL]; omega⟩
  have n1 : 1 ≤ n := Nat.le_trans (Nat.pos_of_ne_zero fun q => z (List.length_eq_zero_iff.mp q)) hn
  have cn : c ≤ n * c := Nat.le_mul_of_pos_left _ n1
  refine ⟨k1, by simp [dP, PyData.showable, k2], ?_, ?_⟩
  · simp [dP, PyData.depth]; omega
  · simp only [cost]; omega
theorem Qw.ln {c n : Nat} {xs : List D} (h : ∀ x ∈ xs, Qw c x) (hn : xs.length ≤ n) (h2 : n ≤ 1000) : Qw (n * c + 1) (.lst xs) := by
  obtain ⟨k1, k2, k3, k4⟩ := QwL h
  have e : xs.length * (10000 * c + 2) ≤ n * (10000 * c + 2) := Nat.mul_le_mul_right _ hn
  have e2 : n * (10000 * c + 2) = 10000 * (n * c) + n * 2 := by rw [Nat.mul_add, ← Nat.mul_assoc, Nat.mul_comm n 10000, Nat.mul_assoc]
  by_cases z : xs = []
  · subst z
    exact ⟨rfl, rfl, by simp [dP, dPL, PyData.depth, PyData.depthAll], by simp [cost, costL]; omega⟩
  have n1 : 1 ≤ n := Nat.le_trans (Nat.pos_of_ne_zero fun q => z (List.length_eq_zero_iff.mp q)) hn
  have cn : c ≤ n * c := Nat.le_mul_of_pos_left _ n1
  refine ⟨k1, by simp [dP, PyData.showable, k2], ?_, ?_⟩
  · simp [dP, PyData.depth]; omega
  · simp only [cost]; omega
/-- closed data, looked at -/
theorem Qw.by {c : Nat} {d : D} (h : (SE.isQ d && ((dP d).showable && (decide ((dP d).depth ≤ c) && decide (cost d ≤ 10000 * c)))) = true) : Qw c d := by
  obtain ⟨h1, h⟩ := andB h
  obtain ⟨h2, h⟩ := andB h
  obtain ⟨h3, h4⟩ := andB h
  exact ⟨h1, h2, of_decide_eq_true h3, of_decide_eq_true h4⟩
/-! ### a thunk that is called in a try, its answer shown; a clause that shows a field -/
def cauB (mb : Ev → M D) : MS := sRet (eL lstM (lCons (eC (.str "told")) (lCons (eL reprM (lCons (e1 (callThk mb) (eVar 0)) lNil)) lNil)))
def cauC (m1 : List D → M D) (k : Int) (w : Str) (cs : List Str) (f : Str) (o : Ev → M D) : MS := sRet (eIf (bTru (eCall (noExc m1) (lCons (eVar 1) (lCons (eC (.int k)) lNil)))) (eL lstM (lCons (eC (.str w)) (lCons (eL reprM (lCons (e1 (atM cs f) (eVar 1)) lNil)) lNil))) o)
section
variable {μ μ1 : Mem} {mb : Ev → M D} {ρ : Ev} {d : D}
theorem cau_ok {hs : List HM} (h : mb ρ μ = .ok d μ1) (hd : shOk d = true) : callM 2 (sTry (cauB mb) hs) [.clo ρ] μ = .ok (.lst [.str "told", .str (dP d).shown]) μ1 := by
  have e : e1 (callThk mb) (eVar 0) [some (.clo ρ), none] μ = .ok d μ1 := by
    rw [e1_ap, eVar_ap]
    exact h
  have e2 : eL reprM (lCons (e1 (callThk mb) (eVar 0)) lNil) [some (.clo ρ), none] μ = .ok (.str (dP d).shown) μ1 := by
    simp only [eL_ap, lCons_ap, e, lNil_ap]
    exact reprM_ap hd
  have b1 : cauB mb [some (.clo ρ), none] μ = .ok (.rt (.lst [.str "told", .str (dP d).shown])) μ1 := by
    unfold cauB
    rw [sRet_ap, eL_ap, lCons_ap, eC_ap]
    simp only [lCons_ap, e2, lNil_ap]
    rfl
  refine callM_rt ?_
  show sTry _ _ [some (.clo ρ), none] μ = _
  exact try_ok b1
theorem cau_raise {e : Ex} (h : mb ρ μ = .exc e μ1) : cauB mb [some (.clo ρ), none] μ = .exc e [some (.clo ρ), none] μ1 := by
  have e0 : e1 (callThk mb) (eVar 0) [some (.clo ρ), none] μ = .exc e μ1 := by
    rw [e1_ap, eVar_ap]
    exact h
  unfold cauB
  simp only [sRet_ap, eL_ap, lCons_ap, eC_ap, e0]
  rfl
theorem cau_cl {m1 : List D → M D} {k : Int} {w : Str} {cs : List Str} {f c : Str} {fs : List (Str × D)} {o : Ev → M D} (h1 : m1 [.err c fs, .int k] μ = .ok (.bl true) μ) (h2 : cs.contains c = true) (h3 : fs.lookup f = some d) (hd : shOk d = true) :
    cauC m1 k w cs f o (putE (some 1) (.err c fs) [some (.clo ρ), none]) μ = .ok (.rt (.lst [.str w, .str (dP d).shown])) μ := by
  have n1 : noExc m1 [.err c fs, .int k] μ = .ok (.bl true) μ := by
    unfold noExc
    rw [h1]
  have n2 : atM cs f (.err c fs) μ = .ok d μ := atM_ap h2 h3
  have v1 : eVar 1 [some (.clo ρ), some (.err c fs)] μ = .ok (.err c fs) μ := rfl
  have t1 : bTru (eCall (noExc m1) (lCons (eVar 1) (lCons (eC (.int k)) lNil))) [some (.clo ρ), some (.err c fs)] μ = .ok true μ := by
    simp only [bTru_ap, eCall_ap, lCons_ap, v1, eC_ap, lNil_ap, n1]
    rfl
  have t2 : e1 (atM cs f) (eVar 1) [some (.clo ρ), some (.err c fs)] μ = .ok d μ := by
    rw [e1_ap, v1]
    exact n2
  have t3 : eL reprM (lCons (e1 (atM cs f) (eVar 1)) lNil) [some (.clo ρ), some (.err c fs)] μ = .ok (.str (dP d).shown) μ := by
    simp only [eL_ap, lCons_ap, t2, lNil_ap]
    exact reprM_ap hd
  unfold cauC
  rw [show putE (some 1) (.err c fs) [some (.clo ρ), none] = [some (.clo ρ), some (.err c fs)] from rfl, sRet_ap, eIf_ap, t1]
  dsimp only
  rw [if_pos rfl, eL_ap, lCons_ap, eC_ap]
  simp only [lCons_ap, t3, lNil_ap]
  rfl
/-- the whole, where the clause that is met shows its field -/
theorem cau_exc {hs : List HM} {c : Str} {fs : List (Str × D)} {w : Str} (h : mb ρ μ = .exc ⟨c, fs⟩ μ1) (h2 : handleM hs ⟨c, fs⟩ [some (.clo ρ), none] μ1 = .ok (.rt (.lst [.str w, .str (dP d).shown])) μ1) : callM 2 (sTry (cauB mb) hs) [.clo ρ] μ = .ok (.lst [.str w, .str (dP d).shown]) μ1 := by
  refine callM_rt ?_
  show sTry _ _ [some (.clo ρ), none] μ = _
  exact try_exc (cau_raise h) h2
end
end SE

/-! SEm: texts: split, f-texts, a text that is a number. -/
namespace SE
open PySem PySem.Spec PyProof.Rows L2
/-! ### s.split(t) -/
def splM (d y : D) : M D := fun μ => match d, y with
  | .str a, .str b => if b.length ≠ 0 ∧ a.length ≤ 1000000 then .ok (.lst ((Txt.split a b).map .str)) μ else .bad
  | _, _ => .bad
def isSt : D → Bool
  | .str _ => true
  | _ => false
section
variable {X : Cx} {W : WX} {Γ : Gs} {o e : Expr} {mo me : Ev → M D} {apos pos : Pos}
theorem strs_rp {G : Gx} {φ : Lab} {H : Hp} : ∀ ys : List Str, RpL G φ H (ys.map .str) (ys.map V.str)
  | [] => .nil
  | y :: ys => .cons (.str y) (strs_rp ys)
theorem j_split (ho : JE X Γ W o mo) (he : JE X Γ W e me) (hs : starEach [e] X.env = [(false, eval e X.env)] := by rfl) (hbase : attributeBase o "split" X.env (eval o X.env) = eval o X.env := by rfl) (hline : (apos.endLine == pos.line) = true := by rfl) :
    JE X Γ W (.Call (.Attribute o "split" apos) [e] [] pos) (eM1 isSt splM mo me) := by
  refine pe_w (pe_split ho he hs hbase hline) fun σ H Q q => ?_
  obtain ⟨φ, ρ, μ, ev, r, p⟩ := q
  refine bG ev r p fun φ1 H1 d v μ1 g1 e1 r1 rv p1 => ?_
  cases rv with
  | str a =>
    have p1 : Post (X.G Γ) (tieD (X.G Γ)) φ1 H1 (M.bind (me ρ) (fun y => splM (.str a) y) μ1) Q fun cls dd H' => W cls dd σ H' := p1
    refine ⟨⟨a, rfl⟩, ?_⟩
    refine bG e1 r1 p1 fun φ2 H2 y u μ2 g2 e2' r2 ry p2 => ?_
    cases ry with
    | str b =>
      unfold splM at p2
      dsimp only at p2
      by_cases c : b.length ≠ 0 ∧ a.length ≤ 1000000
      · rw [if_pos c] at p2
        refine ⟨a, b, rfl, rfl, by simpa using c.1, by have := c.2; rw [sizeLine_eq]; omega, fun a' hp => ?_⟩
        exact p2 φ2 _ _ (Grow.laid hp) (r2.laid hp) (.lst upd_same (r2.out hp) (strs_rp _))
      · rw [if_neg c] at p2
        exact p2.elim
    | _ => exact p2.elim
  | _ => exact p1.elim
/-! ### f-texts -/
def fmtM (d : D) : M D := fun μ => match d with
  | .str y => if y.length ≤ 1000000 then .ok (.str y) μ else .bad
  | .int i => if i.natAbs.log2 < 1920 then .ok (.str (toString i)) μ else .bad
  | _ => .bad
theorem j_fmt (he : JE X Γ W e me) : JE X Γ W (.FormattedValue e (-1) none pos) (e1 fmtM me) := by
  refine pe_w (pe_fmt he) fun σ H Q h => ?_
  refine bE h fun φ1 H1 x v ρ μ1 e r rv p => ?_
  cases rv with
  | str y =>
    unfold fmtM at p
    by_cases c : y.length ≤ 1000000
    · simp only [if_pos c] at p
      exact .inl ⟨y, rfl, by rw [sizeLine_eq]; omega, Post.pure p r (.str _)⟩
    · simp only [if_neg c] at p
      exact p.elim
  | int i =>
    unfold fmtM at p
    by_cases c : i.natAbs.log2 < 1920
    · simp only [if_pos c] at p
      exact .inr ⟨i, rfl, c, Post.pure p r (.str _)⟩
    · simp only [if_neg c] at p
      exact p.elim
  | _ => exact p.elim
/-- the pieces one behind the other -/
def catM (acc : Str) (d : D) : M Str := fun μ => match d with
  | .str y => if (acc ++ y).length ≤ 1000000 then .ok (acc ++ y) μ else .bad
  | _ => .bad
def fsF (ρ : Ev) : List (Ev → M D) → Str → M D
  | [], acc => M.pure (.str acc)
  | m :: ms, acc => M.bind (m ρ) fun d => M.bind (catM acc d) fun a => fsF ρ ms a
def eFs (ms : List (Ev → M D)) : Ev → M D := fun ρ => fsF ρ ms Str.empty
inductive JJ (X : Cx) (Γ : Gs) (W : WX) : List Expr → List (Ev → M D) → Prop where
  | nil : JJ X Γ W [] []
  | cons {e : Expr} {m : Ev → M D} {es : List Expr} {ms : List (Ev → M D)} : JE X Γ W e m → JJ X Γ W es ms → JJ X Γ W (e :: es) (m :: ms)
theorem JJ.pj {es : List Expr} {ms : List (Ev → M D)} (h : JJ X Γ W es ms) : PJ X es (ms.map fun m => tG (X.G Γ) (tieD (X.G Γ)) W m) := by
  induction h with
  | nil => exact .nil
  | cons h _ ih => exact .cons h ih
theorem tJs_i {Q : VK} {ρ : Ev} {σ : L2.St} : ∀ (ms : List (Ev → M D)) (acc : Str) (φ : Lab) (μ : Mem) (H : Hp), EvR (X.G Γ) φ H ρ σ → MemR (X.G Γ) φ μ H → Post (X.G Γ) (tieD (X.G Γ)) φ H (fsF ρ ms acc μ) Q (fun cls dd H' => W cls dd σ H') →
    tJs (ms.map fun m => tG (X.G Γ) (tieD (X.G Γ)) W m) acc σ H fun out H1 => Q (.str out) H1
  | [], acc, φ, μ, H, ev, r, p => Post.pure p r (.str _)
  | m :: ms, acc, φ, μ, H, ev, r, p => by
    show tG (X.G Γ) (tieD (X.G Γ)) W m σ H _
    refine bG ev r p fun φ1 H1 d v μ1 g1 e1 r1 rv p1 => ?_
    cases rv with
    | str y =>
      unfold M.bind catM at p1
      dsimp only at p1
      by_cases c : (acc ++ y).length ≤ 1000000
      · rw [if_pos c] at p1
        exact ⟨y, rfl, by rw [sizeLine_eq]; omega, tJs_i ms _ φ1 μ1 H1 e1 r1 p1⟩
      · rw [if_neg c] at p1
        exact p1.elim
    | _ => exact p1.elim
theorem j_fs {v1 v2 : Expr} {rest : List Expr} {ms : List (Ev → M D)} (h : JJ X Γ W (v1 :: v2 :: rest) ms) : JE X Γ W (.JoinedStr (v1 :: v2 :: rest) pos) (eFs ms) := by
  refine pe_w (pe_joined h.pj) fun σ H Q q => ?_
  obtain ⟨φ, ρ, μ, ev, r, p⟩ := q
  exact tJs_i ms _ φ μ H ev r p
end
/-! ### int of a text, too -/
def intSM : List D → M D
  | [.int i], μ => .ok (.int i) μ
  | [.bl k], μ => .ok (.int (if k then 1 else 0)) μ
  | [.str a], μ => (match PySem.intText? a with
    | some n => if a.length ≤ 640 then .ok (.int n) μ else .bad
    | none => .bad)
  | _, _ => .bad
def rIntS : List V → Hp → VK → Prop := fun xs H Q => ((∃ i, xs = [.int i] ∧ Q (.int i) H) ∨ ∃ k, xs = [.bl k] ∧ Q (.int (if k then 1 else 0)) H) ∨ ∃ a n, xs = [.str a] ∧ PySem.intText? a = some n ∧ a.length ≤ 640 ∧ Q (.int n) H
theorem call_intS {X : Cx} : CallR X (.type "int") rIntS := by
  intro pins s σ H xs us Q I r h
  rcases h with h | h
  · exact call_int1 pins s σ H xs us Q I r h
  · exact call_int_str pins s σ H xs us Q I r h
theorem intS_i {G : Gx} : CallI G intSM rIntS := by
  intro φ μ H a x Q E R r p
  unfold intSM at p
  split at p
  · obtain ⟨v, rfl, r1⟩ := r.one
    cases r1
    exact .inl (.inl ⟨_, rfl, Post.pure p R (.int _)⟩)
  · obtain ⟨v, rfl, r1⟩ := r.one
    cases r1
    exact .inl (.inr ⟨_, rfl, Post.pure p R (.int _)⟩)
  · obtain ⟨v, rfl, r1⟩ := r.one
    rename_i a
    cases r1
    cases q : PySem.intText? a with
    | none => simp only [q] at p; exact p.elim
    | some n =>
      simp only [q] at p
      by_cases c : a.length ≤ 640
      · rw [if_pos c] at p
        exact .inr ⟨a, n, rfl, q, c, Post.pure p R (.int _)⟩
      · rw [if_neg c] at p
        exact p.elim
  · exact p.elim
end SE

/-! SEn: join, tuple of a list, targets from a list. -/
namespace SE
open PySem PySem.Spec PyProof.Rows L2
def strsOf : List D → Option (List Str)
  | [] => some []
  | .str x :: r => (match strsOf r with
    | some ys => some (x :: ys)
    | none => none)
  | _ :: _ => none
theorem strs_v {G : Gx} {φ : Lab} {H : Hp} : ∀ {xs : List D} {vs : List V} {ys : List Str}, RpL G φ H xs vs → strsOf xs = some ys → vs = ys.map V.str
  | _, _, _, .nil, h => by cases h; rfl
  | _, _, _, .cons (d := d) (ds := ds) r t, h => by
    cases r with
    | str x =>
      unfold strsOf at h
      cases q : strsOf ds with
      | none => simp only [q] at h; cases h
      | some cs =>
        simp only [q] at h
        cases h
        rw [strs_v t q]
        rfl
    | _ => cases h
def joinS (a : Str) (xs : List D) : Option Str := match strsOf xs with
  | some ys => if (ys.map (·.length)).sum + ys.length * a.length ≤ 1000000 then some (Txt.join a ys) else none
  | none => none
def joinM (d y : D) : M D := fun μ => match d, y with
  | .str a, .lst xs => (match joinS a xs with | some z => .ok (.str z) μ | none => .bad)
  | .str a, .tup xs => (match joinS a xs with | some z => .ok (.str z) μ | none => .bad)
  | _, _ => .bad
section
variable {X : Cx} {W : WX} {Γ : Gs} {o e : Expr} {mo me : Ev → M D} {apos pos : Pos}
theorem joinS_is {a z : Str} {xs : List D} (h : joinS a xs = some z) : ∃ ys, strsOf xs = some ys ∧ (ys.map (·.length)).sum + ys.length * a.length ≤ 1000000 ∧ z = Txt.join a ys := by
  unfold joinS at h
  cases q : strsOf xs with
  | none => rw [q] at h; cases h
  | some ys =>
    rw [q] at h
    dsimp only at h
    by_cases c : (ys.map (·.length)).sum + ys.length * a.length ≤ 1000000
    · rw [if_pos c] at h
      cases h
      exact ⟨ys, rfl, c, rfl⟩
    · rw [if_neg c] at h
      cases h
theorem j_join (ho : JE X Γ W o mo) (he : JE X Γ W e me) (h : ∀ to te, PE X o to → PE X e te → PE X (.Call (.Attribute o "join" apos) [e] [] pos) (tM1 (fun x xs H Q => ∃ a p, ∃ ys : List Str, x = .str a ∧ xs = [.ref p] ∧ (SqL X.K H p (ys.map V.str) ∨ SqT X.K H p (ys.map V.str)) ∧ (ys.map (·.length)).sum + ys.length * a.length ≤ 16777216 ∧ Q (.str (Txt.join a ys)) H) to te)) :
    JE X Γ W (.Call (.Attribute o "join" apos) [e] [] pos) (eM1 isSt joinM mo me) := by
  refine pe_w (h _ _ ho he) fun σ H Q q => ?_
  obtain ⟨φ, ρ, μ, ev, r, p⟩ := q
  refine bG ev r p fun φ1 H1 d v μ1 g1 e1 r1 rv p1 => ?_
  cases rv with
  | str a =>
    have p1 : Post (X.G Γ) (tieD (X.G Γ)) φ1 H1 (M.bind (me ρ) (fun y => joinM (.str a) y) μ1) Q fun cls dd H' => W cls dd σ H' := p1
    refine ⟨⟨a, rfl⟩, ?_⟩
    refine bG e1 r1 p1 fun φ2 H2 y u μ2 g2 e2' r2 ry p2 => ?_
    unfold joinM at p2
    cases ry with
    | @lst b vs xs hs hn rl =>
      dsimp only at p2
      cases q : joinS a xs with
      | none => rw [q] at p2; exact p2.elim
      | some z =>
        rw [q] at p2
        obtain ⟨ys, e1, e2, rfl⟩ := joinS_is q
        have ev := strs_v rl e1
        subst ev
        exact ⟨a, b, ys, rfl, rfl, .inl (SqL.of hs), by omega, Post.pure p2 r2 (.str _)⟩
    | @tup b vs xs hs rl =>
      dsimp only at p2
      cases q : joinS a xs with
      | none => rw [q] at p2; exact p2.elim
      | some z =>
        rw [q] at p2
        obtain ⟨ys, e1, e2, rfl⟩ := joinS_is q
        have ev := strs_v rl e1
        subst ev
        exact ⟨a, b, ys, rfl, rfl, .inr hs.t, by omega, Post.pure p2 r2 (.str _)⟩
    | _ => exact p2.elim
  | _ => exact p1.elim
/-! ### tuple(xs) -/
def tupleM : List D → M D
  | [.lst xs], μ => .ok (.tup xs) μ
  | [.ro xs], μ => .ok (.tup xs) μ
  | [.tup xs], μ => .ok (.tup xs) μ
  | _, _ => .bad
theorem tuple_i {G : Gx} : CallI G tupleM (fun xs H Q => ∃ p ys, xs = [.ref p] ∧ ((SqL G.K H p ys ∧ ∀ l, H l = none → Q (.ref l) (upd H l (.tup ys))) ∨ (SqT G.K H p ys ∧ Q (.ref p) H))) := by
  intro φ μ H a x Q E R r p
  have fin : ∀ {xs : List D} {vs : List V}, Post G (tieD G) φ H (.ok (.tup xs) μ) Q E → RpL G φ H xs vs → ∀ l, H l = none → Q (.ref l) (upd H l (.tup vs)) := fun p rl l hl =>
    p φ _ _ (Grow.laid hl) (R.laid hl) (.tup (.inl ⟨.inl upd_same, R.out hl⟩) (rl.grow (Grow.laid hl)))
  unfold tupleM at p
  split at p
  · obtain ⟨v, rfl, r1⟩ := r.one
    cases r1 with
    | lst hs _ rl => exact ⟨_, _, rfl, .inl ⟨SqL.of hs, fin p rl⟩⟩
  · obtain ⟨v, rfl, r1⟩ := r.one
    cases r1 with
    | ro hs rl => exact ⟨_, _, rfl, .inl ⟨hs.t, fin p rl⟩⟩
  · obtain ⟨v, rfl, r1⟩ := r.one
    cases r1 with
    | tup hs rl => exact ⟨_, _, rfl, .inr ⟨hs.t, Post.pure p R (.tup hs rl)⟩⟩
  · exact p.elim
/-- targets from a list of that many -/
def gL (n : Nat) (f : GTs) : GT := fun d ρ => match d with
  | .lst xs => if xs.length = n then f xs ρ else none
  | _ => none
theorem g_lst {ts : List Expr} {f : GTs} {k n : Nat} (h : JGs X Γ ts f) (hp : ∀ t, PGs X ts t → PG X (.Tuple ts k pos) (gLst X.K n t)) : JG X Γ (.Tuple ts k pos) (gL n f) := by
  refine pg_w (hp _ h) fun v σ H Q hh => ?_
  obtain ⟨φ, d, ρ, μ, e, r, rv, q⟩ := hh
  unfold gL at q
  cases rv with
  | lst hs hn rl =>
    rename_i a vs ds
    dsimp only at q
    by_cases hz : ds.length = n
    · rw [if_pos hz] at q
      exact ⟨a, vs, rfl, SqL.of hs, by rw [← rl.length]; exact hz, φ, ds, ρ, μ, e, r, rl, q⟩
    · rw [if_neg hz] at q
      exact q.elim
  | _ => exact q.elim
end
end SE

/-! The text of law_k05_texts_of_pixels, def by def: printed by gen.py. -/
namespace Zk05
open PySem PySem.Spec PyProof.Rows L2 SE
theorem sc_InvalidPixel : FnScope ["self", "value"] ["self", "value"] (defScope s_InvalidPixel) := ⟨rfl, rfl, rfl, by decide +kernel, rfl, by decide +kernel, by decide +kernel⟩
theorem sc_InvalidShare : FnScope ["self", "value"] ["self", "value"] (defScope s_InvalidShare) := ⟨rfl, rfl, rfl, by decide +kernel, rfl, by decide +kernel, by decide +kernel⟩
theorem sc_InvalidText : FnScope ["self", "text"] ["self", "text"] (defScope s_InvalidText) := ⟨rfl, rfl, rfl, by decide +kernel, rfl, by decide +kernel, by decide +kernel⟩
theorem sc_is_integer : FnScope ["value", "low", "high"] ["value", "low", "high"] (defScope s_is_integer) := ⟨rfl, rfl, rfl, by decide +kernel, rfl, by decide +kernel, by decide +kernel⟩
theorem sc_common_divisor : FnScope ["one", "other"] ["one", "other"] (defScope s_common_divisor) := ⟨rfl, rfl, rfl, by decide +kernel, rfl, by decide +kernel, by decide +kernel⟩
theorem sc_is_less : FnScope ["one", "other"] ["one", "other"] (defScope s_is_less) := ⟨rfl, rfl, rfl, by decide +kernel, rfl, by decide +kernel, by decide +kernel⟩
theorem sc_is_ratio : FnScope ["value"] ["value"] (defScope s_is_ratio) := ⟨rfl, rfl, rfl, by decide +kernel, rfl, by decide +kernel, by decide +kernel⟩
theorem sc_is_share : FnScope ["value"] ["value"] (defScope s_is_share) := ⟨rfl, rfl, rfl, by decide +kernel, rfl, by decide +kernel, by decide +kernel⟩
theorem sc_ratio_text : FnScope ["ratio"] ["ratio"] (defScope s_ratio_text) := ⟨rfl, rfl, rfl, by decide +kernel, rfl, by decide +kernel, by decide +kernel⟩
theorem sc_integer_in : FnScope ["word", "sign"] ["word"] (defScope s_integer_in) := ⟨rfl, rfl, rfl, by decide +kernel, rfl, by decide +kernel, by decide +kernel⟩
theorem sc_ratio_in : FnScope ["word", "sign", "numbers", "piece", "found"] ["word"] (defScope s_ratio_in) := ⟨rfl, rfl, rfl, by decide +kernel, rfl, by decide +kernel, by decide +kernel⟩
theorem sc_is_pixel : FnScope ["value"] ["value"] (defScope s_is_pixel) := ⟨rfl, rfl, rfl, by decide +kernel, rfl, by decide +kernel, by decide +kernel⟩
theorem sc_check_pixel : FnScope ["value"] ["value"] (defScope s_check_pixel) := ⟨rfl, rfl, rfl, by decide +kernel, rfl, by decide +kernel, by decide +kernel⟩
theorem sc_pixel_text : FnScope ["pixel"] ["pixel"] (defScope s_pixel_text) := ⟨rfl, rfl, rfl, by decide +kernel, rfl, by decide +kernel, by decide +kernel⟩
theorem sc_pixel_in : FnScope ["word", "found", "piece"] ["word"] (defScope s_pixel_in) := ⟨rfl, rfl, rfl, by decide +kernel, rfl, by decide +kernel, by decide +kernel⟩
theorem sc_read_pixel : FnScope ["text", "found"] ["text"] (defScope s_read_pixel) := ⟨rfl, rfl, rfl, by decide +kernel, rfl, by decide +kernel, by decide +kernel⟩
theorem sc__law_seed : FnScope ["_law_script", "_law_k", "_law_cell", "_law_far"] ["_law_script", "_law_k"] (defScope s__law_seed) := ⟨rfl, rfl, rfl, by decide +kernel, rfl, by decide +kernel, by decide +kernel⟩
theorem sc__law_draw : FnScope ["_law_seed_here", "_law_many", "_law_digit", "_law_turn", "_law_base"] ["_law_seed_here", "_law_many"] (defScope s__law_draw) := ⟨rfl, rfl, rfl, by decide +kernel, rfl, by decide +kernel, by decide +kernel⟩
theorem sc__law_low : FnScope ["_law_top", "_law_bottom", "_law_one", "_law_other"] ["_law_top", "_law_bottom"] (defScope s__law_low) := ⟨rfl, rfl, rfl, by decide +kernel, rfl, by decide +kernel, by decide +kernel⟩
theorem sc__law_mul : FnScope ["_law_one", "_law_other"] ["_law_one", "_law_other"] (defScope s__law_mul) := ⟨rfl, rfl, rfl, by decide +kernel, rfl, by decide +kernel, by decide +kernel⟩
theorem sc__law_part : FnScope ["_law_seed_here", "_law_way", "_law_bottom"] ["_law_seed_here"] (defScope s__law_part) := ⟨rfl, rfl, rfl, by decide +kernel, rfl, by decide +kernel, by decide +kernel⟩
theorem sc__law_dot : FnScope ["_law_seed_here", "_law_way", "_law_cover", "_law_light"] ["_law_seed_here"] (defScope s__law_dot) := ⟨rfl, rfl, rfl, by decide +kernel, rfl, by decide +kernel, by decide +kernel⟩
theorem sc__law_is_one : FnScope ["_law_e", "_law_at", "_law_found", "_law_bases", "_law_own"] ["_law_e", "_law_at"] (defScope s__law_is_one) := ⟨rfl, rfl, rfl, by decide +kernel, rfl, by decide +kernel, by decide +kernel⟩
theorem sc__law_caught : FnScope ["_law_act", "_law_e"] ["_law_act"] (defScope s__law_caught) := ⟨rfl, rfl, rfl, by decide +kernel, rfl, by decide +kernel, by decide +kernel⟩
theorem sc__law_written : FnScope ["_law_dot_here", "_law_words", "_law_one"] ["_law_dot_here"] (defScope s__law_written) := ⟨rfl, rfl, rfl, by decide +kernel, rfl, by decide +kernel, by decide +kernel⟩
theorem sc__law_number : FnScope ["_law_word", "_law_sign"] ["_law_word"] (defScope s__law_number) := ⟨rfl, rfl, rfl, by decide +kernel, rfl, by decide +kernel, by decide +kernel⟩
theorem sc__law_half : FnScope ["_law_word", "_law_numbers", "_law_piece", "_law_found"] ["_law_word"] (defScope s__law_half) := ⟨rfl, rfl, rfl, by decide +kernel, rfl, by decide +kernel, by decide +kernel⟩
theorem sc__law_reading : FnScope ["_law_writing", "_law_halves", "_law_word"] ["_law_writing"] (defScope s__law_reading) := ⟨rfl, rfl, rfl, by decide +kernel, rfl, by decide +kernel, by decide +kernel⟩
theorem sc__law_bent : FnScope ["_law_seed_here", "_law_writing", "_law_signs", "_law_at", "_law_sign", "_law_one", "_law_other", "_law_some"] ["_law_seed_here", "_law_writing"] (defScope s__law_bent) := ⟨rfl, rfl, rfl, by decide +kernel, rfl, by decide +kernel, by decide +kernel⟩
theorem sc__law_text_right : FnScope ["_law_writing", "_law_due", "_law_turn"] ["_law_writing"] (defScope s__law_text_right) := ⟨rfl, rfl, rfl, by decide +kernel, rfl, by decide +kernel, by decide +kernel⟩
theorem sc__law_odd_right : FnScope ["_law_dot_here", "_law_light", "_law_cover", "_law_more", "_law_some", "_law_odd", "_law_due"] ["_law_dot_here"] (defScope s__law_odd_right) := ⟨rfl, rfl, rfl, by decide +kernel, rfl, by decide +kernel, by decide +kernel⟩
theorem sc_law : FnScope ["_law_script", "_law_k", "_law_seed_here", "_law_turn", "_law_dot_here", "_law_writing", "_law_due", "_law_odd", "_law_again"] ["_law_script"] (defScope s_law) := ⟨rfl, rfl, rfl, by decide +kernel, rfl, by decide +kernel, by decide +kernel⟩
theorem fx_at {K : PySem.W.Frag} (h : ex K = true) {b : Bool} (m : b ∈ fx K) : b = true := List.all_eq_true.mp h b m
/-- what stands behind the top -/
structure Txt (K : PySem.W.Frag) (mg : Str → Option Value) : Prop where
  d_is_integer : DefG K mg "is_integer" "is_integer" s_is_integer []
  d_common_divisor : DefG K mg "common_divisor" "common_divisor" s_common_divisor []
  d_is_less : DefG K mg "is_less" "is_less" s_is_less []
  d_is_ratio : DefG K mg "is_ratio" "is_ratio" s_is_ratio []
  d_is_share : DefG K mg "is_share" "is_share" s_is_share []
  d_ratio_text : DefG K mg "ratio_text" "ratio_text" s_ratio_text []
  d_integer_in : DefG K mg "integer_in" "integer_in" s_integer_in []
  d_ratio_in : DefG K mg "ratio_in" "ratio_in" s_ratio_in []
  d_is_pixel : DefG K mg "is_pixel" "is_pixel" s_is_pixel []
  d_check_pixel : DefG K mg "check_pixel" "check_pixel" s_check_pixel []
  d_pixel_text : DefG K mg "pixel_text" "pixel_text" s_pixel_text []
  d_pixel_in : DefG K mg "pixel_in" "pixel_in" s_pixel_in []
  d_read_pixel : DefG K mg "read_pixel" "read_pixel" s_read_pixel []
  d__law_seed : DefG K mg "_law_seed" "_law_seed" s__law_seed []
  d__law_draw : DefG K mg "_law_draw" "_law_draw" s__law_draw []
  d__law_low : DefG K mg "_law_low" "_law_low" s__law_low []
  d__law_mul : DefG K mg "_law_mul" "_law_mul" s__law_mul []
  d__law_part : DefG K mg "_law_part" "_law_part" s__law_part []
  d__law_dot : DefG K mg "_law_dot" "_law_dot" s__law_dot []
  d__law_is_one : DefG K mg "_law_is_one" "_law_is_one" s__law_is_one []
  d__law_caught : DefG K mg "_law_caught" "_law_caught" s__law_caught []
  d__law_written : DefG K mg "_law_written" "_law_written" s__law_written []
  d__law_number : DefG K mg "_law_number" "_law_number" s__law_number []
  d__law_half : DefG K mg "_law_half" "_law_half" s__law_half []
  d__law_reading : DefG K mg "_law_reading" "_law_reading" s__law_reading []
  d__law_bent : DefG K mg "_law_bent" "_law_bent" s__law_bent []
  d__law_text_right : DefG K mg "_law_text_right" "_law_text_right" s__law_text_right []
  d__law_odd_right : DefG K mg "_law_odd_right" "_law_odd_right" s__law_odd_right []
  d_law : DefG K mg "law" "law" s_law []
  z_ArithmeticError : mg "ArithmeticError" = none
  z_LookupError : mg "LookupError" = none
  z_ValueError : mg "ValueError" = none
  z_abs : mg "abs" = none
  z_all : mg "all" = none
  z_bool : mg "bool" = none
  z_int : mg "int" = none
  z_isinstance : mg "isinstance" = none
  z_len : mg "len" = none
  z_list : mg "list" = none
  z_max : mg "max" = none
  z_min : mg "min" = none
  z_range : mg "range" = none
  z_repr : mg "repr" = none
  z_str : mg "str" = none
  z_tuple : mg "tuple" = none
  g_Busy : mg "Busy" = some (.ref (He.ga K "Busy"))
  g_Closed : mg "Closed" = some (.ref (He.ga K "Closed"))
  g_InputError : mg "InputError" = some (.ref (He.ga K "InputError"))
  g_InvalidForm : mg "InvalidForm" = some (.ref (He.ga K "InvalidForm"))
  g_InvalidKind : mg "InvalidKind" = some (.ref (He.ga K "InvalidKind"))
  g_InvalidKinds : mg "InvalidKinds" = some (.ref (He.ga K "InvalidKinds"))
  g_InvalidLayers : mg "InvalidLayers" = some (.ref (He.ga K "InvalidLayers"))
  g_InvalidLine : mg "InvalidLine" = some (.ref (He.ga K "InvalidLine"))
  g_InvalidMode : mg "InvalidMode" = some (.ref (He.ga K "InvalidMode"))
  g_InvalidName : mg "InvalidName" = some (.ref (He.ga K "InvalidName"))
  g_InvalidNumber : mg "InvalidNumber" = some (.ref (He.ga K "InvalidNumber"))
  g_InvalidOption : mg "InvalidOption" = some (.ref (He.ga K "InvalidOption"))
  g_InvalidPath : mg "InvalidPath" = some (.ref (He.ga K "InvalidPath"))
  g_InvalidPixel : mg "InvalidPixel" = some (.ref (He.ga K "InvalidPixel"))
  g_InvalidRows : mg "InvalidRows" = some (.ref (He.ga K "InvalidRows"))
  g_InvalidShare : mg "InvalidShare" = some (.ref (He.ga K "InvalidShare"))
  g_InvalidSpot : mg "InvalidSpot" = some (.ref (He.ga K "InvalidSpot"))
  g_InvalidSpots : mg "InvalidSpots" = some (.ref (He.ga K "InvalidSpots"))
  g_InvalidStrokes : mg "InvalidStrokes" = some (.ref (He.ga K "InvalidStrokes"))
  g_InvalidTable : mg "InvalidTable" = some (.ref (He.ga K "InvalidTable"))
  g_InvalidText : mg "InvalidText" = some (.ref (He.ga K "InvalidText"))
  g_InvalidTree : mg "InvalidTree" = some (.ref (He.ga K "InvalidTree"))
  g_InvalidTrees : mg "InvalidTrees" = some (.ref (He.ga K "InvalidTrees"))
  g_LimitError : mg "LimitError" = some (.ref (He.ga K "LimitError"))
  g_MissingSpot : mg "MissingSpot" = some (.ref (He.ga K "MissingSpot"))
  g_NotALayer : mg "NotALayer" = some (.ref (He.ga K "NotALayer"))
  g_NotAPicture : mg "NotAPicture" = some (.ref (He.ga K "NotAPicture"))
  g_NotAStack : mg "NotAStack" = some (.ref (He.ga K "NotAStack"))
  g_NothingToUndo : mg "NothingToUndo" = some (.ref (He.ga K "NothingToUndo"))
  g_StateError : mg "StateError" = some (.ref (He.ga K "StateError"))
  g_TooMany : mg "TooMany" = some (.ref (He.ga K "TooMany"))
  g_UnknownPicture : mg "UnknownPicture" = some (.ref (He.ga K "UnknownPicture"))
  g_UsedOften : mg "UsedOften" = some (.ref (He.ga K "UsedOften"))
  g_WrongKind : mg "WrongKind" = some (.ref (He.ga K "WrongKind"))
  g_WrongSize : mg "WrongSize" = some (.ref (He.ga K "WrongSize"))
  e_InvalidPixel : ErrF K (He.ga K "InvalidPixel") (He.ma K (He.ga K "InvalidPixel") "__init__") "value"
  i_InvalidPixel : FunD K "__init__" "InvalidPixel.__init__" (defArgs s_InvalidPixel) (defBody s_InvalidPixel) (defScope s_InvalidPixel) [] [] (He.ma K (He.ga K "InvalidPixel") "__init__") (fdAt K (He.ma K (He.ga K "InvalidPixel") "__init__"))
  e_InvalidShare : ErrF K (He.ga K "InvalidShare") (He.ma K (He.ga K "InvalidShare") "__init__") "value"
  i_InvalidShare : FunD K "__init__" "InvalidShare.__init__" (defArgs s_InvalidShare) (defBody s_InvalidShare) (defScope s_InvalidShare) [] [] (He.ma K (He.ga K "InvalidShare") "__init__") (fdAt K (He.ma K (He.ga K "InvalidShare") "__init__"))
  e_InvalidText : ErrF K (He.ga K "InvalidText") (He.ma K (He.ga K "InvalidText") "__init__") "text"
  i_InvalidText : FunD K "__init__" "InvalidText.__init__" (defArgs s_InvalidText) (defBody s_InvalidText) (defScope s_InvalidText) [] [] (He.ma K (He.ga K "InvalidText") "__init__") (fdAt K (He.ma K (He.ga K "InvalidText") "__init__"))
  at_text : AtOk K mg atc "text"
  at_value : AtOk K mg atc "value"
  ct : CtOk K mg ct
  mt_0 : MtOk mg mt_0 (fun cls => PySem.W.exmAny K cls [.ref (He.ga K "InputError"), .ref (He.ga K "StateError"), .ref (He.ga K "LimitError")])
  mt_1 : MtOk mg mt_1 (fun cls => PySem.W.exmOne K cls (.ref (He.ga K "InvalidText")))
  mt_2 : MtOk mg mt_2 (fun cls => PySem.W.exmOne K cls (.ref (He.ga K "InvalidPixel")))
  k_DIGITS : ConG K mg "DIGITS" c_DIGITS
  k_LONGEST_INTEGER : ConG K mg "LONGEST_INTEGER" c_LONGEST_INTEGER
  nd : ((TT K).map (·.1)).Nodup
  ks : K.lookup sysModules = none
/-! ### the computations -/
def gD_pixel_text_0_pixel : List D → List D → List D := fun ds cs => pick [0] (ds ++ cs)
def gD_read_pixel_0_text : List D → List D → List D := fun ds cs => pick [0] (ds ++ cs)
noncomputable def t_is_integer_0 : MS := (sRet (eAnd (eOr (e2 isNM (eVar 1) (eC .non)) (e2 geM (eVar 0) (eVar 1))) (eOr (e2 isNM (eVar 2) (eC .non)) (e2 leM (eVar 0) (eVar 2)))))
noncomputable def b_is_integer : MS := (sSeq (sIf (bOr (bNot (bTru (eL isiM (lCons (eVar 0) (lCons (eC (.ty "int")) lNil))))) (bTru (eL isiM (lCons (eVar 0) (lCons (eC (.ty "bool")) lNil))))) (sRet (eC (.bl false))) sNext) t_is_integer_0)
noncomputable def m_is_integer : List D → M D := callM 3 (b_is_integer)
noncomputable def t_common_divisor_0 : MS := (sRet (eVar 0))
noncomputable def t_common_divisor_1 : MS := (sSeq (sWhile (bOf (e2 gtM (eVar 1) (eC (.int 0)))) (sPar 0 1 (lCons (eVar 1) (lCons (e2 modM (eVar 0) (eVar 1)) lNil)))) t_common_divisor_0)
noncomputable def b_common_divisor : MS := (sSeq (sPar 0 1 (lCons (eL absM (lCons (eVar 0) lNil)) (lCons (eL absM (lCons (eVar 1) lNil)) lNil))) t_common_divisor_1)
noncomputable def m_common_divisor : List D → M D := callM 2 (b_common_divisor)
noncomputable def b_is_less : MS := (sRet (e2 ltM (e2 mulM (e2 ixM (eVar 0) (eC (.int 0))) (e2 ixM (eVar 1) (eC (.int 1)))) (e2 mulM (e2 ixM (eVar 1) (eC (.int 0))) (e2 ixM (eVar 0) (eC (.int 1))))))
noncomputable def m_is_less : List D → M D := callM 2 (b_is_less)
noncomputable def t_is_ratio_0 : MS := (sRet (e2 eqM (eCall m_common_divisor (lCons (e2 ixM (eVar 0) (eC (.int 0))) (lCons (e2 ixM (eVar 0) (eC (.int 1))) lNil))) (eC (.int 1))))
noncomputable def t_is_ratio_1 : MS := (sSeq (sIf (bOr (bNot (bTru (eCall m_is_integer (lCons (e2 ixM (eVar 0) (eC (.int 0))) (lCons (eC .non) (lCons (eC .non) lNil)))))) (bNot (bTru (eCall m_is_integer (lCons (e2 ixM (eVar 0) (eC (.int 1))) (lCons (eC (.int 1)) (lCons (eC .non) lNil))))))) (sRet (eC (.bl false))) sNext) t_is_ratio_0)
noncomputable def b_is_ratio : MS := (sSeq (sIf (bOr (bNot (bTru (eL isiM (lCons (eVar 0) (lCons (eC (.ty "tuple")) lNil))))) (bOf (e2 neM (eL lenM (lCons (eVar 0) lNil)) (eC (.int 2))))) (sRet (eC (.bl false))) sNext) t_is_ratio_1)
noncomputable def m_is_ratio : List D → M D := callM 1 (b_is_ratio)
noncomputable def b_is_share : MS := (sRet (eAnd (eCall m_is_ratio (lCons (eVar 0) lNil)) (e3c leM leM (eC (.int 0)) (e2 ixM (eVar 0) (eC (.int 0))) (e2 ixM (eVar 0) (eC (.int 1))))))
noncomputable def m_is_share : List D → M D := callM 1 (b_is_share)
noncomputable def t_ratio_text_0 : MS := (sRet (eIf (bOf (e2 eqM (e2 ixM (eVar 0) (eC (.int 1))) (eC (.int 1)))) (eL strM (lCons (e2 ixM (eVar 0) (eC (.int 0))) lNil)) (eFs ((e1 fmtM (e2 ixM (eVar 0) (eC (.int 0)))) :: ((eC (.str "/")) :: ((e1 fmtM (e2 ixM (eVar 0) (eC (.int 1)))) :: []))))))
noncomputable def b_ratio_text : MS := (sSeq (sIf (bNot (bTru (eCall m_is_ratio (lCons (eVar 0) lNil)))) (sRaise "InvalidShare" "value" (lCons (eVar 0) lNil)) sNext) t_ratio_text_0)
noncomputable def m_ratio_text : List D → M D := callM 1 (b_ratio_text)
noncomputable def t_integer_in_0 : MS := (sRet (eIf (bOr (bOf (e2 neM (e2 ixM (eVar 0) (eC (.int 0))) (eC (.str "0")))) (bOf (e2 eqM (eVar 0) (eC (.str "0"))))) (eL intSM (lCons (eVar 0) lNil)) (eC .non)))
noncomputable def b_integer_in : MS := (sSeq (sIf (bOr (bNot (bOf (e3c leM leM (eC (.int 1)) (eL lenM (lCons (eVar 0) lNil)) (eC c_LONGEST_INTEGER)))) (bNot (bTru (eL allM (lCons (eLc 1 (eSeq seqA (eVar 0)) bYes (e2 inM (eVar 1) (eC c_DIGITS))) lNil))))) (sRet (eC .non)) sNext) t_integer_in_0)
noncomputable def m_integer_in : List D → M D := callM 2 (b_integer_in)
noncomputable def t_ratio_in_0 : MS := (sRet (eIf (bAnd (bTru (eCall m_is_ratio (lCons (eVar 4) lNil))) (bOf (e2 eqM (eCall m_ratio_text (lCons (eVar 4) lNil)) (eVar 0)))) (eVar 4) (eC .non)))
noncomputable def t_ratio_in_1 : MS := (sSeq (sSet 4 (eL tupM (lCons (e2 mulM (eVar 1) (e2 ixM (eVar 2) (eC (.int 0)))) (lCons (eIf (bOf (e2 eqM (eL lenM (lCons (eVar 2) lNil)) (eC (.int 1)))) (eC (.int 1)) (e2 ixM (eVar 2) (eC (.int 1)))) lNil)))) t_ratio_in_0)
noncomputable def t_ratio_in_2 : MS := (sSeq (sIf (bOr (bOf (e2 gtM (eL lenM (lCons (eVar 2) lNil)) (eC (.int 2)))) (bOf (e2 inM (eC .non) (eVar 2)))) (sRet (eC .non)) sNext) t_ratio_in_1)
noncomputable def t_ratio_in_3 : MS := (sSeq (sSet 2 (eLc 3 (eSeq seqA (eM1 isSt splM (eSl (eVar 0) (oI (eL intM (lCons (e2 ltM (eVar 1) (eC (.int 0))) lNil))) oN) (eC (.str "/")))) bYes (eCall m_integer_in (lCons (eVar 3) lNil)))) t_ratio_in_2)
noncomputable def b_ratio_in : MS := (sSeq (sSet 1 (eIf (bOf (e2 eqM (eSl (eVar 0) oN (oI (eC (.int 1)))) (eC (.str "-")))) (e1 negM (eC (.int 1))) (eC (.int 1)))) t_ratio_in_3)
noncomputable def m_ratio_in : List D → M D := callM 5 (b_ratio_in)
noncomputable def t_is_pixel_0 : MS := (sRet (eNot (eCall m_is_less (lCons (e2 ixM (eVar 0) (eC (.int 1))) (lCons (e2 ixM (eVar 0) (eC (.int 0))) lNil)))))
noncomputable def b_is_pixel : MS := (sSeq (sIf (bOr (bNot (bTru (eL isiM (lCons (eVar 0) (lCons (eC (.ty "tuple")) lNil))))) (bOr (bOf (e2 neM (eL lenM (lCons (eVar 0) lNil)) (eC (.int 2)))) (bOr (bNot (bTru (eCall m_is_share (lCons (e2 ixM (eVar 0) (eC (.int 0))) lNil)))) (bNot (bTru (eCall m_is_share (lCons (e2 ixM (eVar 0) (eC (.int 1))) lNil))))))) (sRet (eC (.bl false))) sNext) t_is_pixel_0)
noncomputable def m_is_pixel : List D → M D := callM 1 (b_is_pixel)
noncomputable def b_check_pixel : MS := (sIf (bNot (bTru (eCall m_is_pixel (lCons (eVar 0) lNil)))) (sRaise "InvalidPixel" "value" (lCons (eVar 0) lNil)) sNext)
noncomputable def m_check_pixel : List D → M D := callM 1 (b_check_pixel)
noncomputable def t_pixel_text_0 : MS := (sRet (e2 addM (e2 addM (eCall m_ratio_text (lCons (e2 ixM (eVar 0) (eC (.int 0))) lNil)) (eC (.str ":"))) (eCall m_ratio_text (lCons (e2 ixM (eVar 0) (eC (.int 1))) lNil))))
noncomputable def b_pixel_text : MS := (sSeq (sDrop (eCall m_check_pixel (lCons (eVar 0) lNil))) t_pixel_text_0)
noncomputable def m_pixel_text : List D → M D := callM 1 (b_pixel_text)
noncomputable def t_pixel_in_0 : MS := (sRet (eIf (bTru (eCall m_is_pixel (lCons (eVar 1) lNil))) (eVar 1) (eC .non)))
noncomputable def b_pixel_in : MS := (sSeq (sSet 1 (eL tupleM (lCons (eLc 2 (eSeq seqA (eM1 isSt splM (eVar 0) (eC (.str ":")))) bYes (eCall m_ratio_in (lCons (eVar 2) lNil))) lNil))) t_pixel_in_0)
noncomputable def m_pixel_in : List D → M D := callM 3 (b_pixel_in)
noncomputable def t_read_pixel_0 : MS := (sRet (eVar 1))
noncomputable def t_read_pixel_1 : MS := (sSeq (sIf (bOf (e2 isNM (eVar 1) (eC .non))) (sRaise "InvalidText" "text" (lCons (eVar 0) lNil)) sNext) t_read_pixel_0)
noncomputable def b_read_pixel : MS := (sSeq (sSet 1 (eIf (bTru (eL isiM (lCons (eVar 0) (lCons (eC (.ty "str")) lNil)))) (eCall m_pixel_in (lCons (eVar 0) lNil)) (eC .non))) t_read_pixel_1)
noncomputable def m_read_pixel : List D → M D := callM 2 (b_read_pixel)
noncomputable def t__law_seed_0 : MS := (sRet (eL newM (lCons (eVar 3) (lCons (e2 modM (eL intM (lCons (e2 addM (e2 addM (e2 addM (eVar 2) (e2 mulM (e2 mulM (eC (.int 7307)) (eVar 1)) (eVar 1))) (e2 mulM (eC (.int 911)) (eVar 1))) (eC (.int 23))) lNil)) (eC (.int 2147483579))) (lCons (eC (.int 0)) lNil)))))
noncomputable def t__law_seed_1 : MS := (sSeq (sIf (bOf (e2 ltM (eVar 3) (e2 powM (eC (.int 10)) (eC (.int 18))))) (sSet 3 (eC (.int 0))) sNext) t__law_seed_0)
noncomputable def t__law_seed_2 : MS := (sSeq (sSet 3 (eL absM (lCons (eVar 2) lNil))) t__law_seed_1)
noncomputable def t__law_seed_3 : MS := (sSeq (sIf (bOf (e2 ltM (eVar 1) (eL lenM (lCons (eVar 0) lNil)))) (sSet 2 (e2 ixM (eVar 0) (eVar 1))) sNext) t__law_seed_2)
noncomputable def b__law_seed : MS := (sSeq (sSet 2 (eC (.int 0))) t__law_seed_3)
noncomputable def m__law_seed : List D → M D := callM 4 (b__law_seed)
noncomputable def t__law_draw_0 : MS := (sRet (eVar 2))
noncomputable def t__law_draw_1 : MS := (sSeq (sSub (eVar 0) (eC (.int 0)) (e2 fdivM (e2 ixM (eVar 0) (eC (.int 0))) (eVar 1))) t__law_draw_0)
noncomputable def t__law_draw_2 : MS := (sRet (e2 modM (e2 fdivM (e2 modM (eL intM (lCons (e2 mulM (eVar 4) (e2 addM (e2 addM (e2 fdivM (eVar 4) (eC (.int 4093))) (e2 mulM (eC (.int 2)) (eVar 3))) (eC (.int 1)))) lNil)) (eC (.int 2147483497))) (eC (.int 16))) (eVar 1)))
noncomputable def t__law_draw_3 : MS := (sSeq (sSet 4 (e2 modM (e2 powM (eL intM (lCons (e2 addM (e2 addM (e2 ixM (eVar 0) (eC (.int 1))) (e2 mulM (eC (.int 60013)) (eVar 3))) (eC (.int 5))) lNil)) (eC (.int 3))) (eC (.int 2147483543)))) t__law_draw_2)
noncomputable def t__law_draw_4 : MS := (sSeq (sSet 3 (e2 ixM (eVar 0) (eC (.int 2)))) t__law_draw_3)
noncomputable def t__law_draw_5 : MS := (sSeq (sSub (eVar 0) (eC (.int 2)) (e2 addM (e2 ixM (eVar 0) (eC (.int 2))) (eC (.int 1)))) t__law_draw_4)
noncomputable def b__law_draw : MS := (sSeq (sIf (bOf (e2 gtM (e2 ixM (eVar 0) (eC (.int 0))) (eC (.int 0)))) (sSeq (sSet 2 (e2 modM (eL intM (lCons (e2 ixM (eVar 0) (eC (.int 0))) lNil)) (eVar 1))) t__law_draw_1) sNext) t__law_draw_5)
noncomputable def m__law_draw : List D → M D := callM 5 (b__law_draw)
noncomputable def t__law_low_0 : MS := (sRet (eL tupM (lCons (e2 fdivM (eVar 0) (eVar 2)) (lCons (e2 fdivM (eVar 1) (eVar 2)) lNil))))
noncomputable def t__law_low_1 : MS := (sSeq (sWhile (bOf (e2 gtM (eVar 3) (eC (.int 0)))) (sPar 2 3 (lCons (eVar 3) (lCons (e2 modM (eL intM (lCons (eVar 2) lNil)) (eVar 3)) lNil)))) t__law_low_0)
noncomputable def b__law_low : MS := (sSeq (sPar 2 3 (lCons (eL absM (lCons (eVar 0) lNil)) (lCons (eVar 1) lNil))) t__law_low_1)
noncomputable def m__law_low : List D → M D := callM 4 (b__law_low)
noncomputable def b__law_mul : MS := (sRet (eCall m__law_low (lCons (e2 mulM (e2 ixM (eVar 0) (eC (.int 0))) (e2 ixM (eVar 1) (eC (.int 0)))) (lCons (e2 mulM (e2 ixM (eVar 0) (eC (.int 1))) (e2 ixM (eVar 1) (eC (.int 1)))) lNil))))
noncomputable def m__law_mul : List D → M D := callM 2 (b__law_mul)
noncomputable def t__law_part_0 : MS := (sRet (eCall m__law_low (lCons (eCall m__law_draw (lCons (eVar 0) (lCons (e2 addM (eVar 2) (eC (.int 1))) lNil))) (lCons (eVar 2) lNil))))
noncomputable def t__law_part_1 : MS := (sSeq (sSet 2 (e2 addM (eC (.int 1)) (eCall m__law_draw (lCons (eVar 0) (lCons (e2 ixM (eL lstM (lCons (eC (.int 12)) (lCons (eC (.int 12)) (lCons (eC (.int 12)) (lCons (eC (.int 5)) (lCons (eC (.int 1000)) (lCons (e2 powM (eC (.int 10)) (eC (.int 6))) lNil))))))) (e2 subM (eVar 1) (eC (.int 2)))) lNil))))) t__law_part_0)
noncomputable def t__law_part_2 : MS := (sSeq (sIf (bOf (e2 ltM (eVar 1) (eC (.int 2)))) (sRet (eL tupM (lCons (eVar 1) (lCons (eC (.int 1)) lNil)))) sNext) t__law_part_1)
noncomputable def b__law_part : MS := (sSeq (sSet 1 (eCall m__law_draw (lCons (eVar 0) (lCons (eC (.int 8)) lNil)))) t__law_part_2)
noncomputable def m__law_part : List D → M D := callM 3 (b__law_part)
noncomputable def t__law_dot_0 : MS := (sRet (eL tupM (lCons (eVar 3) (lCons (eVar 2) lNil))))
noncomputable def t__law_dot_1 : MS := (sSeq (sSet 3 (eIf (bOf (e2 eqM (eVar 1) (eC (.int 4)))) (eVar 2) (eCall m__law_mul (lCons (eCall m__law_part (lCons (eVar 0) lNil)) (lCons (eVar 2) lNil))))) t__law_dot_0)
noncomputable def t__law_dot_2 : MS := (sSeq (sSet 2 (eIf (bOf (e2 gtM (eVar 1) (eC (.int 3)))) (eCall m__law_part (lCons (eVar 0) lNil)) (eL tupM (lCons (eC (.int 1)) (lCons (eC (.int 1)) lNil))))) t__law_dot_1)
noncomputable def t__law_dot_3 : MS := (sSeq (sIf (bOf (e2 ltM (eVar 1) (eC (.int 3)))) (sRet (e2 ixM (eL lstM (lCons (eL tupM (lCons (eL tupM (lCons (eC (.int 0)) (lCons (eC (.int 1)) lNil))) (lCons (eL tupM (lCons (eC (.int 0)) (lCons (eC (.int 1)) lNil))) lNil))) (lCons (eL tupM (lCons (eL tupM (lCons (eC (.int 0)) (lCons (eC (.int 1)) lNil))) (lCons (eL tupM (lCons (eC (.int 1)) (lCons (eC (.int 1)) lNil))) lNil))) (lCons (eL tupM (lCons (eL tupM (lCons (eC (.int 1)) (lCons (eC (.int 1)) lNil))) (lCons (eL tupM (lCons (eC (.int 1)) (lCons (eC (.int 1)) lNil))) lNil))) lNil)))) (eVar 1))) sNext) t__law_dot_2)
noncomputable def b__law_dot : MS := (sSeq (sSet 1 (eCall m__law_draw (lCons (eVar 0) (lCons (eC (.int 7)) lNil)))) t__law_dot_3)
noncomputable def m__law_dot : List D → M D := callM 4 (b__law_dot)
noncomputable def t__law_is_one_0 : MS := (sRet (eAnd (e2 eqM (eM1 isLs cntM (eVar 2) (eC (.bl true))) (eC (.int 1))) (eAnd (e2 ixM (eVar 2) (eVar 1)) (eAnd (e2 eqM (eVar 3) (eVar 4)) (e2 eqM (eVar 3) (eL lstM (lCons (eC (.bl true)) (lCons (eC (.bl false)) (lCons (eC (.bl false)) lNil)))))))))
noncomputable def t__law_is_one_1 : MS := (sSeq (sSet 4 (eL lstM (lCons (eL (isiE ct) (lCons (eVar 0) (lCons (eC (.ty "ValueError")) lNil))) (lCons (eL (isiE ct) (lCons (eVar 0) (lCons (eC (.ty "LookupError")) lNil))) (lCons (eL (isiE ct) (lCons (eVar 0) (lCons (eC (.ty "ArithmeticError")) lNil))) lNil))))) t__law_is_one_0)
noncomputable def t__law_is_one_2 : MS := (sSeq (sSet 3 (eL lstM (lCons (eL (isiE ct) (lCons (eVar 0) (lCons (eC (.gl "InputError")) lNil))) (lCons (eL (isiE ct) (lCons (eVar 0) (lCons (eC (.gl "StateError")) lNil))) (lCons (eL (isiE ct) (lCons (eVar 0) (lCons (eC (.gl "LimitError")) lNil))) lNil))))) t__law_is_one_1)
noncomputable def t__law_is_one_3 : MS := (sSeq (sSet 2 (e2 addM (eVar 2) (eL lstM (lCons (eL (isiE ct) (lCons (eVar 0) (lCons (eC (.gl "NothingToUndo")) lNil))) (lCons (eL (isiE ct) (lCons (eVar 0) (lCons (eC (.gl "TooMany")) lNil))) lNil))))) t__law_is_one_2)
noncomputable def t__law_is_one_4 : MS := (sSeq (sSet 2 (e2 addM (eVar 2) (eL lstM (lCons (eL (isiE ct) (lCons (eVar 0) (lCons (eC (.gl "WrongSize")) lNil))) (lCons (eL (isiE ct) (lCons (eVar 0) (lCons (eC (.gl "Busy")) lNil))) (lCons (eL (isiE ct) (lCons (eVar 0) (lCons (eC (.gl "Closed")) lNil))) lNil)))))) t__law_is_one_3)
noncomputable def t__law_is_one_5 : MS := (sSeq (sSet 2 (e2 addM (eVar 2) (eL lstM (lCons (eL (isiE ct) (lCons (eVar 0) (lCons (eC (.gl "MissingSpot")) lNil))) (lCons (eL (isiE ct) (lCons (eVar 0) (lCons (eC (.gl "UsedOften")) lNil))) (lCons (eL (isiE ct) (lCons (eVar 0) (lCons (eC (.gl "WrongKind")) lNil))) lNil)))))) t__law_is_one_4)
noncomputable def t__law_is_one_6 : MS := (sSeq (sSet 2 (e2 addM (eVar 2) (eL lstM (lCons (eL (isiE ct) (lCons (eVar 0) (lCons (eC (.gl "NotALayer")) lNil))) (lCons (eL (isiE ct) (lCons (eVar 0) (lCons (eC (.gl "NotAStack")) lNil))) (lCons (eL (isiE ct) (lCons (eVar 0) (lCons (eC (.gl "UnknownPicture")) lNil))) lNil)))))) t__law_is_one_5)
noncomputable def t__law_is_one_7 : MS := (sSeq (sSet 2 (e2 addM (eVar 2) (eL lstM (lCons (eL (isiE ct) (lCons (eVar 0) (lCons (eC (.gl "InvalidText")) lNil))) (lCons (eL (isiE ct) (lCons (eVar 0) (lCons (eC (.gl "InvalidLine")) lNil))) (lCons (eL (isiE ct) (lCons (eVar 0) (lCons (eC (.gl "NotAPicture")) lNil))) lNil)))))) t__law_is_one_6)
noncomputable def t__law_is_one_8 : MS := (sSeq (sSet 2 (e2 addM (eVar 2) (eL lstM (lCons (eL (isiE ct) (lCons (eVar 0) (lCons (eC (.gl "InvalidOption")) lNil))) (lCons (eL (isiE ct) (lCons (eVar 0) (lCons (eC (.gl "InvalidLayers")) lNil))) (lCons (eL (isiE ct) (lCons (eVar 0) (lCons (eC (.gl "InvalidStrokes")) lNil))) lNil)))))) t__law_is_one_7)
noncomputable def t__law_is_one_9 : MS := (sSeq (sSet 2 (e2 addM (eVar 2) (eL lstM (lCons (eL (isiE ct) (lCons (eVar 0) (lCons (eC (.gl "InvalidTable")) lNil))) (lCons (eL (isiE ct) (lCons (eVar 0) (lCons (eC (.gl "InvalidForm")) lNil))) (lCons (eL (isiE ct) (lCons (eVar 0) (lCons (eC (.gl "InvalidRows")) lNil))) lNil)))))) t__law_is_one_8)
noncomputable def t__law_is_one_10 : MS := (sSeq (sSet 2 (e2 addM (eVar 2) (eL lstM (lCons (eL (isiE ct) (lCons (eVar 0) (lCons (eC (.gl "InvalidPath")) lNil))) (lCons (eL (isiE ct) (lCons (eVar 0) (lCons (eC (.gl "InvalidSpot")) lNil))) (lCons (eL (isiE ct) (lCons (eVar 0) (lCons (eC (.gl "InvalidSpots")) lNil))) lNil)))))) t__law_is_one_9)
noncomputable def t__law_is_one_11 : MS := (sSeq (sSet 2 (e2 addM (eVar 2) (eL lstM (lCons (eL (isiE ct) (lCons (eVar 0) (lCons (eC (.gl "InvalidNumber")) lNil))) (lCons (eL (isiE ct) (lCons (eVar 0) (lCons (eC (.gl "InvalidTree")) lNil))) (lCons (eL (isiE ct) (lCons (eVar 0) (lCons (eC (.gl "InvalidTrees")) lNil))) lNil)))))) t__law_is_one_10)
noncomputable def t__law_is_one_12 : MS := (sSeq (sSet 2 (e2 addM (eVar 2) (eL lstM (lCons (eL (isiE ct) (lCons (eVar 0) (lCons (eC (.gl "InvalidKind")) lNil))) (lCons (eL (isiE ct) (lCons (eVar 0) (lCons (eC (.gl "InvalidKinds")) lNil))) (lCons (eL (isiE ct) (lCons (eVar 0) (lCons (eC (.gl "InvalidMode")) lNil))) lNil)))))) t__law_is_one_11)
noncomputable def b__law_is_one : MS := (sSeq (sSet 2 (eL lstM (lCons (eL (isiE ct) (lCons (eVar 0) (lCons (eC (.gl "InvalidShare")) lNil))) (lCons (eL (isiE ct) (lCons (eVar 0) (lCons (eC (.gl "InvalidPixel")) lNil))) (lCons (eL (isiE ct) (lCons (eVar 0) (lCons (eC (.gl "InvalidName")) lNil))) lNil))))) t__law_is_one_12)
noncomputable def m__law_is_one : List D → M D := callM 5 (b__law_is_one)
noncomputable def b__law_caught (mb : Ev → M D) : MS := (sTry (sRet (eL lstM (lCons (eC (.str "told")) (lCons (eL reprM (lCons (e1 (callThk mb) (eVar 0)) lNil)) lNil)))) (⟨mt_2, some 1, (sRet (eIf (bTru (eCall (noExc m__law_is_one) (lCons (eVar 1) (lCons (eC (.int 1)) lNil)))) (eL lstM (lCons (eC (.str "no pixel")) (lCons (eL reprM (lCons (e1 (atM atc "value") (eVar 1)) lNil)) lNil))) (eL lstM (lCons (eC (.str "other")) (lCons (eC (.str "")) lNil)))))⟩ :: (⟨mt_1, some 1, (sRet (eIf (bTru (eCall (noExc m__law_is_one) (lCons (eVar 1) (lCons (eC (.int 18)) lNil)))) (eL lstM (lCons (eC (.str "no text")) (lCons (eL reprM (lCons (e1 (atM atc "text") (eVar 1)) lNil)) lNil))) (eL lstM (lCons (eC (.str "other")) (lCons (eC (.str "")) lNil)))))⟩ :: (⟨mt_0, some 1, (sRet (eL lstM (lCons (eC (.str "other")) (lCons (eC (.str "")) lNil))))⟩ :: []))))
noncomputable def mL__law_caught (mb : Ev → M D) : List D → M D := callM 2 (b__law_caught mb)
noncomputable def t__law_written_0 : MS := (sRet (eM1 isSt joinM (eC (.str ":")) (eVar 1)))
noncomputable def b__law_written : MS := (sSeq (sSet 1 (eLc 2 (eSeq seqA (eVar 0)) bYes (eIf (bOf (e2 eqM (e2 ixM (eVar 2) (eC (.int 1))) (eC (.int 1)))) (eL strM (lCons (e2 ixM (eVar 2) (eC (.int 0))) lNil)) (e2 addM (e2 addM (eL strM (lCons (e2 ixM (eVar 2) (eC (.int 0))) lNil)) (eC (.str "/"))) (eL strM (lCons (e2 ixM (eVar 2) (eC (.int 1))) lNil)))))) t__law_written_0)
noncomputable def m__law_written : List D → M D := callM 3 (b__law_written)
noncomputable def t__law_number_0 : MS := (sRet (eL intSM (lCons (eVar 0) lNil)))
noncomputable def b__law_number : MS := (sSeq (sIf (bOr (bOf (e2 eqM (eVar 0) (eC (.str "")))) (bOr (bNot (bTru (eL allM (lCons (eLc 1 (eSeq seqA (eVar 0)) bYes (e2 inM (eVar 1) (eC (.str "0123456789")))) lNil)))) (bAnd (bOf (e2 eqM (e2 ixM (eVar 0) (eC (.int 0))) (eC (.str "0")))) (bOf (e2 neM (eVar 0) (eC (.str "0"))))))) (sRet (eC .non)) sNext) t__law_number_0)
noncomputable def m__law_number : List D → M D := callM 2 (b__law_number)
noncomputable def t__law_half_0 : MS := (sRet (eIf (bOf (e2 eqM (eVar 3) (eL tupM (lCons (e2 ixM (eVar 1) (eC (.int 0))) (lCons (e2 ixM (eVar 1) (eC (.int 1))) lNil))))) (eVar 3) (eC .non)))
noncomputable def t__law_half_1 : MS := (sSeq (sSet 3 (eCall m__law_low (lCons (e2 ixM (eVar 1) (eC (.int 0))) (lCons (e2 ixM (eVar 1) (eC (.int 1))) lNil)))) t__law_half_0)
noncomputable def t__law_half_2 : MS := (sSeq (sIf (bOr (bOf (e2 neM (eL lenM (lCons (eVar 1) lNil)) (eC (.int 2)))) (bOr (bOf (e2 inM (eC .non) (eVar 1))) (bNot (bOf (e3c ltM ltM (eC (.int 0)) (e2 ixM (eVar 1) (eC (.int 0))) (e2 ixM (eVar 1) (eC (.int 1)))))))) (sRet (eC .non)) sNext) t__law_half_1)
noncomputable def t__law_half_3 : MS := (sSeq (sIf (bOr (bOf (e2 eqM (eVar 1) (eL lstM (lCons (eC (.int 0)) lNil)))) (bOf (e2 eqM (eVar 1) (eL lstM (lCons (eC (.int 1)) lNil))))) (sRet (eL tupM (lCons (e2 ixM (eVar 1) (eC (.int 0))) (lCons (eC (.int 1)) lNil)))) sNext) t__law_half_2)
noncomputable def b__law_half : MS := (sSeq (sSet 1 (eLc 2 (eSeq seqA (eM1 isSt splM (eVar 0) (eC (.str "/")))) bYes (eCall m__law_number (lCons (eVar 2) lNil)))) t__law_half_3)
noncomputable def m__law_half : List D → M D := callM 4 (b__law_half)
noncomputable def t__law_reading_0 : MS := (sRet (eL tupM (lCons (e2 ixM (eVar 1) (eC (.int 0))) (lCons (e2 ixM (eVar 1) (eC (.int 1))) lNil))))
noncomputable def t__law_reading_1 : MS := (sSeq (sIf (bOr (bOf (e2 neM (eL lenM (lCons (eVar 1) lNil)) (eC (.int 2)))) (bOr (bOf (e2 inM (eC .non) (eVar 1))) (bOf (e2 gtM (e2 mulM (e2 ixM (e2 ixM (eVar 1) (eC (.int 0))) (eC (.int 0))) (e2 ixM (e2 ixM (eVar 1) (eC (.int 1))) (eC (.int 1)))) (e2 mulM (e2 ixM (e2 ixM (eVar 1) (eC (.int 1))) (eC (.int 0))) (e2 ixM (e2 ixM (eVar 1) (eC (.int 0))) (eC (.int 1)))))))) (sRet (eC .non)) sNext) t__law_reading_0)
noncomputable def b__law_reading : MS := (sSeq (sSet 1 (eLc 2 (eSeq seqA (eM1 isSt splM (eVar 0) (eC (.str ":")))) bYes (eCall m__law_half (lCons (eVar 2) lNil)))) t__law_reading_1)
noncomputable def m__law_reading : List D → M D := callM 3 (b__law_reading)
noncomputable def t__law_bent_0 : MS := (sRet (e2 ixM (e2 addM (eVar 7) (eL lstM (lCons (eC (.str "0:01")) (lCons (eC (.str "00:1")) (lCons (eC (.str "1:0")) (lCons (eC (.str "1/3:1/4")) (lCons (eC (.str "1/4:1/3")) (lCons (e2 addM (e2 addM (eVar 5) (eC (.str ";"))) (eVar 6)) (lCons (e2 addM (eVar 5) (eVar 6)) lNil))))))))) (eCall m__law_draw (lCons (eVar 0) (lCons (eC (.int 36)) lNil)))))
noncomputable def t__law_bent_1 : MS := (sSeq (sSet 7 (e2 addM (eVar 7) (eL lstM (lCons (eC (.str "0:2")) (lCons (eC (.str "1:3/2")) (lCons (eC (.str "-0:1")) (lCons (eC (.str "0:0/1")) (lCons (eC (.str "1/1:1")) (lCons (eC (.str "2/4:1")) (lCons (eC (.str "1/2:2/2")) (lCons (eC (.str "0:1 ")) (lCons (eC (.str " 0:1")) (lCons (eC (.str "0:1\n")) (lCons (eC (.str "")) (lCons (eC (.str ":")) (lCons (eC (.str "::")) lNil)))))))))))))))) t__law_bent_0)
noncomputable def t__law_bent_2 : MS := (sSeq (sSet 7 (e2 addM (eVar 7) (eL lstM (lCons (e2 addM (e2 addM (eVar 5) (eC (.str "::"))) (eVar 6)) (lCons (e2 addM (eC (.str "0")) (eVar 1)) (lCons (e2 addM (eC (.str "-")) (eVar 1)) (lCons (e2 addM (e2 addM (eVar 5) (eC (.str ":0"))) (eVar 6)) (lCons (e2 addM (e2 addM (eVar 5) (eC (.str "/1:"))) (eVar 6)) (lCons (eC (.str "1/2:1/3")) lNil))))))))) t__law_bent_1)
noncomputable def t__law_bent_3 : MS := (sSeq (sSet 7 (e2 addM (eVar 7) (eL lstM (lCons (e2 addM (eSl (eVar 1) oN (oI (eVar 3))) (eSl (eVar 1) (oI (e2 addM (eVar 3) (eC (.int 1)))) oN)) (lCons (e2 addM (eVar 5) (eC (.str ":"))) (lCons (e2 addM (eC (.str ":")) (eVar 6)) (lCons (e2 addM (e2 addM (eVar 1) (eC (.str ":"))) (eVar 6)) (lCons (e2 addM (e2 addM (eVar 5) (eC (.str " : "))) (eVar 6)) lNil)))))))) t__law_bent_2)
noncomputable def t__law_bent_4 : MS := (sSeq (sSet 7 (eL lstM (lCons (e2 addM (e2 addM (eSl (eVar 1) oN (oI (eVar 3))) (eVar 4)) (eSl (eVar 1) (oI (eVar 3)) oN)) (lCons (e2 addM (e2 addM (eSl (eVar 1) oN (oI (eVar 3))) (eVar 4)) (eSl (eVar 1) (oI (e2 addM (eVar 3) (eC (.int 1)))) oN)) (lCons (e2 addM (e2 addM (eVar 6) (eC (.str ":"))) (eVar 5)) (lCons (eVar 5) (lCons (eVar 6) lNil))))))) t__law_bent_3)
noncomputable def t__law_bent_5 : MS := (sSeq (sAsg (gL 2 (gsCons (gN 5) (gsCons (gN 6) gsNil))) (eM1 isSt splM (eVar 1) (eC (.str ":")))) t__law_bent_4)
noncomputable def t__law_bent_6 : MS := (sSeq (sPar 3 4 (lCons (eCall m__law_draw (lCons (eVar 0) (lCons (e2 addM (eL lenM (lCons (eVar 1) lNil)) (eC (.int 1))) lNil))) (lCons (e2 ixM (eVar 2) (eCall m__law_draw (lCons (eVar 0) (lCons (eL lenM (lCons (eVar 2) lNil)) lNil)))) lNil))) t__law_bent_5)
noncomputable def b__law_bent : MS := (sSeq (sSet 2 (eC (.str "0123456789-/ :+._,;()eExXaAoO'\"#*=<>[]{}|~^&@!?\\\n"))) t__law_bent_6)
noncomputable def m__law_bent : List D → M D := callM 8 (b__law_bent)
noncomputable def t__law_text_right_0 : MS := (sRet (e2 eqM (eLam mL__law_caught (eCallK m_read_pixel gD_read_pixel_0_text lNil (lCons (eVar 0) lNil))) (eVar 1)))
noncomputable def t__law_text_right_1 : MS := (sSeq (sForE (eLL rng1M (lCons (eC (.int 2)) lNil)) (gN 2) (sIf (bOf (e2 neM (eLam mL__law_caught (eCall m_read_pixel (lCons (eVar 0) lNil))) (eVar 1))) (sRet (eC (.bl false))) sNext)) t__law_text_right_0)
noncomputable def t__law_text_right_2 : MS := (sSeq (sSet 1 (eIf (bOf (e2 isNM (eVar 1) (eC .non))) (eL lstM (lCons (eC (.str "no text")) (lCons (eL reprM (lCons (eVar 0) lNil)) lNil))) (eL lstM (lCons (eC (.str "told")) (lCons (eL reprM (lCons (eVar 1) lNil)) lNil))))) t__law_text_right_1)
noncomputable def b__law_text_right : MS := (sSeq (sSet 1 (eIf (bNot (bTru (eL isiM (lCons (eVar 0) (lCons (eC (.ty "str")) lNil))))) (eC .non) (eCall m__law_reading (lCons (eVar 0) lNil)))) t__law_text_right_2)
noncomputable def m__law_text_right : List D → M D := callM 3 (b__law_text_right)
noncomputable def t__law_odd_right_0 : MS := (sIf (bOf (e2 neM (eLam mL__law_caught (eCallK m_pixel_text gD_pixel_text_0_pixel lNil (lCons (eVar 5) lNil))) (eVar 6))) (sRet (eC (.bl false))) sNext)
noncomputable def t__law_odd_right_1 : MS := (sSeq (sIf (bOf (e2 neM (eLam mL__law_caught (eCall m_pixel_text (lCons (eVar 5) lNil))) (eVar 6))) (sRet (eC (.bl false))) sNext) t__law_odd_right_0)
noncomputable def t__law_odd_right_2 : MS := (sRet (eC (.bl true)))
noncomputable def t__law_odd_right_3 : MS := (sSeq (sForE (eSeq seqA (e2 addM (eVar 4) (eL lstM (lCons (eL tupM (lCons (eL tupM (lCons (eC (.int 0)) (lCons (eC (.int 0)) lNil))) (lCons (eL tupM (lCons (eC (.int 1)) (lCons (eC (.int 1)) lNil))) lNil))) (lCons (eL tupM (lCons (eL tupM (lCons (eC (.int 1)) (lCons (eC (.int 0)) lNil))) (lCons (eL tupM (lCons (eC (.int 1)) (lCons (eC (.int 1)) lNil))) lNil))) (lCons (eL tupM (lCons (eL tupM (lCons (eC (.int 0)) (lCons (eC (.int 1)) lNil))) (lCons (eL tupM (lCons (e1 negM (eC (.int 1))) (lCons (e1 negM (eC (.int 1))) lNil))) lNil))) lNil)))))) (gN 5) (sSeq (sSet 6 (eL lstM (lCons (eC (.str "no pixel")) (lCons (eL reprM (lCons (eVar 5) lNil)) lNil)))) t__law_odd_right_1)) t__law_odd_right_2)
noncomputable def t__law_odd_right_4 : MS := (sSeq (sSet 4 (e2 addM (eVar 4) (eL lstM (lCons (eL tupM (lCons (eL tupM (lCons (eC (.int 1)) (lCons (eC (.int 1)) lNil))) (lCons (eL tupM (lCons (eC (.int 0)) (lCons (eC (.int 1)) lNil))) lNil))) (lCons (eL tupM (lCons (eL tupM (lCons (eC (.int 0)) (lCons (eC (.int 1)) lNil))) (lCons (eL tupM (lCons (eC (.int 2)) (lCons (eC (.int 1)) lNil))) lNil))) (lCons (eL tupM (lCons (eL tupM (lCons (e1 negM (eC (.int 1))) (lCons (eC (.int 2)) lNil))) (lCons (eVar 2) lNil))) (lCons (eL tupM (lCons (eL tupM (lCons (eC (.int 0)) (lCons (eC (.int 2)) lNil))) (lCons (eL tupM (lCons (eC (.int 1)) (lCons (eC (.int 1)) lNil))) lNil))) (lCons (eL tupM (lCons (eL tupM (lCons (eC (.int 1)) (lCons (eC (.int 2)) lNil))) (lCons (eL tupM (lCons (eC (.int 1)) (lCons (eC (.int 3)) lNil))) lNil))) lNil)))))))) t__law_odd_right_3)
noncomputable def t__law_odd_right_5 : MS := (sSeq (sSet 4 (e2 addM (eVar 4) (eL lstM (lCons (eL tupM (lCons (eVar 1) (lCons (eL listM (lCons (eVar 2) lNil)) lNil))) (lCons (eL tupM (lCons (eVar 1) (lCons (eC (.bl true)) lNil))) (lCons (eL tupM (lCons (eL tupM (lCons (eC (.bl true)) (lCons (eC (.int 1)) lNil))) (lCons (eL tupM (lCons (eC (.int 1)) (lCons (eC (.int 1)) lNil))) lNil))) (lCons (eL tupM (lCons (eL tupM (lCons (eC (.int 1)) (lCons (eC (.int 1)) lNil))) (lCons (eL tupM (lCons (eC (.int 1)) (lCons (eC (.bl true)) lNil))) lNil))) (lCons (eL tupM (lCons (eL lstM lNil) (lCons (eL lstM lNil) lNil))) lNil)))))))) t__law_odd_right_4)
noncomputable def t__law_odd_right_6 : MS := (sSeq (sSet 4 (eL lstM (lCons (eC .non) (lCons (eC (.bl true)) (lCons (eC (.int 0)) (lCons (eC (.str "0:1")) (lCons (eL tupM lNil) (lCons (eL lstM lNil) (lCons (eC (.dct [])) (lCons (eL listM (lCons (eVar 0) lNil)) (lCons (eSl (eVar 0) oN (oI (eC (.int 1)))) (lCons (e2 addM (eVar 0) (eL tupM (lCons (eVar 2) lNil))) (lCons (eL tupM (lCons (eVar 0) lNil)) (lCons (eL tupM (lCons (eVar 1) (lCons (eVar 3) lNil))) (lCons (eL tupM (lCons (eC .non) (lCons (eVar 2) lNil))) lNil))))))))))))))) t__law_odd_right_5)
noncomputable def t__law_odd_right_7 : MS := (sSeq (sSet 3 (eL tupM (lCons (e2 mulM (eC (.int 2)) (e2 ixM (eVar 2) (eC (.int 0)))) (lCons (e2 mulM (eC (.int 2)) (e2 ixM (eVar 2) (eC (.int 1)))) lNil)))) t__law_odd_right_6)
noncomputable def b__law_odd_right : MS := (sSeq (sAsg (gT 2 (gsCons (gN 1) (gsCons (gN 2) gsNil))) (eVar 0)) t__law_odd_right_7)
noncomputable def m__law_odd_right : List D → M D := callM 7 (b__law_odd_right)
noncomputable def t_law_0 : MS := (sForE (eLL rng1M (lCons (eC (.int 3)) lNil)) (gN 8) (sIf (bNot (bTru (eCall m__law_text_right (lCons (eCall m__law_bent (lCons (eVar 2) (lCons (eVar 5) lNil))) lNil)))) (sRet (eC (.bl false))) sNext))
noncomputable def t_law_1 : MS := (sSeq (sIf (bOr (bNot (bTru (eCall m__law_text_right (lCons (eVar 5) lNil)))) (bOr (bNot (bTru (eCall m__law_text_right (lCons (eVar 7) lNil)))) (bNot (bTru (eCall m__law_odd_right (lCons (eVar 4) lNil)))))) (sRet (eC (.bl false))) sNext) t_law_0)
noncomputable def t_law_2 : MS := (sSeq (sSet 7 (e2 ixM (eL lstM (lCons (eC .non) (lCons (eC (.bl true)) (lCons (eC (.int 1)) (lCons (eVar 4) (lCons (eL lstM lNil) (lCons (eC (.dct [])) (lCons (eL tupM (lCons (eVar 5) lNil)) (lCons (eL lstM (lCons (eVar 5) lNil)) (lCons (eL tupM (lCons (eL lstM lNil) lNil)) lNil)))))))))) (eCall m__law_draw (lCons (eVar 2) (lCons (eC (.int 9)) lNil))))) t_law_1)
noncomputable def t_law_3 : MS := (sSeq (sIf (bOf (e2 neM (eLam mL__law_caught (eCallK m_pixel_text gD_pixel_text_0_pixel lNil (lCons (eVar 4) lNil))) (eVar 6))) (sRet (eC (.bl false))) sNext) t_law_2)
noncomputable def t_law_4 : MS := (sSeq (sIf (bOf (e2 neM (eLam mL__law_caught (eCall m_pixel_text (lCons (eVar 4) lNil))) (eVar 6))) (sRet (eC (.bl false))) sNext) t_law_3)
noncomputable def t_law_5 : MS := (sSeq (sSet 6 (eL lstM (lCons (eC (.str "told")) (lCons (eL reprM (lCons (eVar 5) lNil)) lNil)))) t_law_4)
noncomputable def t_law_6 : MS := (sSeq (sSet 5 (eCall m__law_written (lCons (eVar 4) lNil))) t_law_5)
noncomputable def t_law_7 : MS := (sForE (eLL rng1M (lCons (eC (.int 4)) lNil)) (gN 3) (sSeq (sSet 4 (eCall m__law_dot (lCons (eVar 2) lNil))) t_law_6))
noncomputable def t_law_8 : MS := (sRet (eC (.bl true)))
noncomputable def b_law : MS := (sSeq (sForE (eLL rng1M (lCons (eL max2M (lCons (eC (.int 1)) (lCons (eL min2M (lCons (eL lenM (lCons (eVar 0) lNil)) (lCons (eC (.int 8)) lNil))) lNil))) lNil)) (gN 1) (sSeq (sSet 2 (eCall m__law_seed (lCons (eVar 0) (lCons (eVar 1) lNil)))) t_law_7)) t_law_8)
noncomputable def m_law : List D → M D := callM 9 (b_law)
/-! ### the defs do them -/
section
variable {P : Program} {w : World} {K : PySem.W.Frag} {mg : Str → Option Value} {base : Heap}
theorem init_InvalidPixel {CX : CXT} (T : Txt K mg) : FnOk P w K mg base CX 1 (He.ma K (He.ga K "InvalidPixel") "__init__") (fdAt K (He.ma K (He.ga K "InvalidPixel") "__init__")) ["self", "value"] (spI (He.ga K "InvalidPixel") "value") :=
  init1 T.i_InvalidPixel sc_InvalidPixel T.e_InvalidPixel.T T.e_InvalidPixel.no (Or.inl rfl) (Or.inl rfl)
theorem bI_InvalidPixel (T : Txt K mg) : L2.Binds K (fdAt K (He.ma K (He.ga K "InvalidPixel") "__init__")) ["self", "value"] [] :=
  T.i_InvalidPixel.bindsN fun _ _ _ _ _ _ us h => match us, h with | [_, _], _ => rfl
theorem init_InvalidShare {CX : CXT} (T : Txt K mg) : FnOk P w K mg base CX 1 (He.ma K (He.ga K "InvalidShare") "__init__") (fdAt K (He.ma K (He.ga K "InvalidShare") "__init__")) ["self", "value"] (spI (He.ga K "InvalidShare") "value") :=
  init1 T.i_InvalidShare sc_InvalidShare T.e_InvalidShare.T T.e_InvalidShare.no (Or.inl rfl) (Or.inl rfl)
theorem bI_InvalidShare (T : Txt K mg) : L2.Binds K (fdAt K (He.ma K (He.ga K "InvalidShare") "__init__")) ["self", "value"] [] :=
  T.i_InvalidShare.bindsN fun _ _ _ _ _ _ us h => match us, h with | [_, _], _ => rfl
theorem init_InvalidText {CX : CXT} (T : Txt K mg) : FnOk P w K mg base CX 1 (He.ma K (He.ga K "InvalidText") "__init__") (fdAt K (He.ma K (He.ga K "InvalidText") "__init__")) ["self", "text"] (spI (He.ga K "InvalidText") "text") :=
  init1 T.i_InvalidText sc_InvalidText T.e_InvalidText.T T.e_InvalidText.no (Or.inl rfl) (Or.inl rfl)
theorem bI_InvalidText (T : Txt K mg) : L2.Binds K (fdAt K (He.ma K (He.ga K "InvalidText") "__init__")) ["self", "text"] [] :=
  T.i_InvalidText.bindsN fun _ _ _ _ _ _ us h => match us, h with | [_, _], _ => rfl
theorem bL__law_caught (T : Txt K mg) : ∀ (s : Shared) (us : List Value), K.In s.heap → us.length = 1 → BindsTo s (fdAt K (He.ga K "_law_caught")) ⟨us, []⟩ ((["_law_act"] : List Str).zip us) :=
  fun s us _ h => L2.FunD.bindsA (ps := ["_law_act"]) T.d__law_caught.F (fun _ _ _ _ _ _ us hl => match us, hl with | [_], _ => rfl) s us h
theorem pb__law_bent (T : Txt K mg) : KBg K (fdAt K (He.ga K "_law_bent")) ["_law_seed_here", "_law_writing"] [] 2 (fun us _ => us) (fun vs _ => vs) (fun ds _ => ds) :=
  binds_n T.d__law_bent.F rfl fun _ _ _ _ _ _ us hl => match us, hl with | [_, _], _ => rfl
theorem pb__law_dot (T : Txt K mg) : KBg K (fdAt K (He.ga K "_law_dot")) ["_law_seed_here"] [] 1 (fun us _ => us) (fun vs _ => vs) (fun ds _ => ds) :=
  binds_n T.d__law_dot.F rfl fun _ _ _ _ _ _ us hl => match us, hl with | [_], _ => rfl
theorem pb__law_draw (T : Txt K mg) : KBg K (fdAt K (He.ga K "_law_draw")) ["_law_seed_here", "_law_many"] [] 2 (fun us _ => us) (fun vs _ => vs) (fun ds _ => ds) :=
  binds_n T.d__law_draw.F rfl fun _ _ _ _ _ _ us hl => match us, hl with | [_, _], _ => rfl
theorem pb__law_half (T : Txt K mg) : KBg K (fdAt K (He.ga K "_law_half")) ["_law_word"] [] 1 (fun us _ => us) (fun vs _ => vs) (fun ds _ => ds) :=
  binds_n T.d__law_half.F rfl fun _ _ _ _ _ _ us hl => match us, hl with | [_], _ => rfl
theorem pb__law_is_one (T : Txt K mg) : KBg K (fdAt K (He.ga K "_law_is_one")) ["_law_e", "_law_at"] [] 2 (fun us _ => us) (fun vs _ => vs) (fun ds _ => ds) :=
  binds_n T.d__law_is_one.F rfl fun _ _ _ _ _ _ us hl => match us, hl with | [_, _], _ => rfl
theorem pb__law_low (T : Txt K mg) : KBg K (fdAt K (He.ga K "_law_low")) ["_law_top", "_law_bottom"] [] 2 (fun us _ => us) (fun vs _ => vs) (fun ds _ => ds) :=
  binds_n T.d__law_low.F rfl fun _ _ _ _ _ _ us hl => match us, hl with | [_, _], _ => rfl
theorem pb__law_mul (T : Txt K mg) : KBg K (fdAt K (He.ga K "_law_mul")) ["_law_one", "_law_other"] [] 2 (fun us _ => us) (fun vs _ => vs) (fun ds _ => ds) :=
  binds_n T.d__law_mul.F rfl fun _ _ _ _ _ _ us hl => match us, hl with | [_, _], _ => rfl
theorem pb__law_number (T : Txt K mg) : KBg K (fdAt K (He.ga K "_law_number")) ["_law_word"] [] 1 (fun us _ => us) (fun vs _ => vs) (fun ds _ => ds) :=
  binds_n T.d__law_number.F rfl fun _ _ _ _ _ _ us hl => match us, hl with | [_], _ => rfl
theorem pb__law_odd_right (T : Txt K mg) : KBg K (fdAt K (He.ga K "_law_odd_right")) ["_law_dot_here"] [] 1 (fun us _ => us) (fun vs _ => vs) (fun ds _ => ds) :=
  binds_n T.d__law_odd_right.F rfl fun _ _ _ _ _ _ us hl => match us, hl with | [_], _ => rfl
theorem pb__law_part (T : Txt K mg) : KBg K (fdAt K (He.ga K "_law_part")) ["_law_seed_here"] [] 1 (fun us _ => us) (fun vs _ => vs) (fun ds _ => ds) :=
  binds_n T.d__law_part.F rfl fun _ _ _ _ _ _ us hl => match us, hl with | [_], _ => rfl
theorem pb__law_reading (T : Txt K mg) : KBg K (fdAt K (He.ga K "_law_reading")) ["_law_writing"] [] 1 (fun us _ => us) (fun vs _ => vs) (fun ds _ => ds) :=
  binds_n T.d__law_reading.F rfl fun _ _ _ _ _ _ us hl => match us, hl with | [_], _ => rfl
theorem pb__law_seed (T : Txt K mg) : KBg K (fdAt K (He.ga K "_law_seed")) ["_law_script", "_law_k"] [] 2 (fun us _ => us) (fun vs _ => vs) (fun ds _ => ds) :=
  binds_n T.d__law_seed.F rfl fun _ _ _ _ _ _ us hl => match us, hl with | [_, _], _ => rfl
theorem pb__law_text_right (T : Txt K mg) : KBg K (fdAt K (He.ga K "_law_text_right")) ["_law_writing"] [] 1 (fun us _ => us) (fun vs _ => vs) (fun ds _ => ds) :=
  binds_n T.d__law_text_right.F rfl fun _ _ _ _ _ _ us hl => match us, hl with | [_], _ => rfl
theorem pb__law_written (T : Txt K mg) : KBg K (fdAt K (He.ga K "_law_written")) ["_law_dot_here"] [] 1 (fun us _ => us) (fun vs _ => vs) (fun ds _ => ds) :=
  binds_n T.d__law_written.F rfl fun _ _ _ _ _ _ us hl => match us, hl with | [_], _ => rfl
theorem pb_check_pixel (T : Txt K mg) : KBg K (fdAt K (He.ga K "check_pixel")) ["value"] [] 1 (fun us _ => us) (fun vs _ => vs) (fun ds _ => ds) :=
  binds_n T.d_check_pixel.F rfl fun _ _ _ _ _ _ us hl => match us, hl with | [_], _ => rfl
theorem pb_common_divisor (T : Txt K mg) : KBg K (fdAt K (He.ga K "common_divisor")) ["one", "other"] [] 2 (fun us _ => us) (fun vs _ => vs) (fun ds _ => ds) :=
  binds_n T.d_common_divisor.F rfl fun _ _ _ _ _ _ us hl => match us, hl with | [_, _], _ => rfl
theorem pb_integer_in (T : Txt K mg) : KBg K (fdAt K (He.ga K "integer_in")) ["word"] [] 1 (fun us _ => us) (fun vs _ => vs) (fun ds _ => ds) :=
  binds_n T.d_integer_in.F rfl fun _ _ _ _ _ _ us hl => match us, hl with | [_], _ => rfl
theorem pb_is_integer (T : Txt K mg) : KBg K (fdAt K (He.ga K "is_integer")) ["value", "low", "high"] [] 3 (fun us _ => us) (fun vs _ => vs) (fun ds _ => ds) :=
  binds_n T.d_is_integer.F rfl fun _ _ _ _ _ _ us hl => match us, hl with | [_, _, _], _ => rfl
theorem pb_is_less (T : Txt K mg) : KBg K (fdAt K (He.ga K "is_less")) ["one", "other"] [] 2 (fun us _ => us) (fun vs _ => vs) (fun ds _ => ds) :=
  binds_n T.d_is_less.F rfl fun _ _ _ _ _ _ us hl => match us, hl with | [_, _], _ => rfl
theorem pb_is_pixel (T : Txt K mg) : KBg K (fdAt K (He.ga K "is_pixel")) ["value"] [] 1 (fun us _ => us) (fun vs _ => vs) (fun ds _ => ds) :=
  binds_n T.d_is_pixel.F rfl fun _ _ _ _ _ _ us hl => match us, hl with | [_], _ => rfl
theorem pb_is_ratio (T : Txt K mg) : KBg K (fdAt K (He.ga K "is_ratio")) ["value"] [] 1 (fun us _ => us) (fun vs _ => vs) (fun ds _ => ds) :=
  binds_n T.d_is_ratio.F rfl fun _ _ _ _ _ _ us hl => match us, hl with | [_], _ => rfl
theorem pb_is_share (T : Txt K mg) : KBg K (fdAt K (He.ga K "is_share")) ["value"] [] 1 (fun us _ => us) (fun vs _ => vs) (fun ds _ => ds) :=
  binds_n T.d_is_share.F rfl fun _ _ _ _ _ _ us hl => match us, hl with | [_], _ => rfl
theorem pb_pixel_in (T : Txt K mg) : KBg K (fdAt K (He.ga K "pixel_in")) ["word"] [] 1 (fun us _ => us) (fun vs _ => vs) (fun ds _ => ds) :=
  binds_n T.d_pixel_in.F rfl fun _ _ _ _ _ _ us hl => match us, hl with | [_], _ => rfl
theorem kb_pixel_text_0_pixel (T : Txt K mg) : KBg K (fdAt K (He.ga K "pixel_text")) ["pixel"] ["pixel"] 0 (fun us ws => pick [0] (us ++ ws)) (fun vs zs => pick [0] (vs ++ zs)) (fun ds cs => pick [0] (ds ++ cs)) :=
  kb_n T.d_pixel_text.F 0 [0] rfl (by decide) fun _ _ _ _ _ _ us ws h1 h2 => match us, ws, h1, h2 with | [], [_], _, _ => rfl
theorem pb_pixel_text (T : Txt K mg) : KBg K (fdAt K (He.ga K "pixel_text")) ["pixel"] [] 1 (fun us _ => us) (fun vs _ => vs) (fun ds _ => ds) :=
  binds_n T.d_pixel_text.F rfl fun _ _ _ _ _ _ us hl => match us, hl with | [_], _ => rfl
theorem pb_ratio_in (T : Txt K mg) : KBg K (fdAt K (He.ga K "ratio_in")) ["word"] [] 1 (fun us _ => us) (fun vs _ => vs) (fun ds _ => ds) :=
  binds_n T.d_ratio_in.F rfl fun _ _ _ _ _ _ us hl => match us, hl with | [_], _ => rfl
theorem pb_ratio_text (T : Txt K mg) : KBg K (fdAt K (He.ga K "ratio_text")) ["ratio"] [] 1 (fun us _ => us) (fun vs _ => vs) (fun ds _ => ds) :=
  binds_n T.d_ratio_text.F rfl fun _ _ _ _ _ _ us hl => match us, hl with | [_], _ => rfl
theorem kb_read_pixel_0_text (T : Txt K mg) : KBg K (fdAt K (He.ga K "read_pixel")) ["text"] ["text"] 0 (fun us ws => pick [0] (us ++ ws)) (fun vs zs => pick [0] (vs ++ zs)) (fun ds cs => pick [0] (ds ++ cs)) :=
  kb_n T.d_read_pixel.F 0 [0] rfl (by decide) fun _ _ _ _ _ _ us ws h1 h2 => match us, ws, h1, h2 with | [], [_], _, _ => rfl
theorem pb_read_pixel (T : Txt K mg) : KBg K (fdAt K (He.ga K "read_pixel")) ["text"] [] 1 (fun us _ => us) (fun vs _ => vs) (fun ds _ => ds) :=
  binds_n T.d_read_pixel.F rfl fun _ _ _ _ _ _ us hl => match us, hl with | [_], _ => rfl
theorem ok_is_integer (T : Txt K mg) (TB : ∀ p ∈ cs K, LamX.TabB base mg p.1 p.2) : FnG ⟨none, none, TT K⟩ P w K mg base 1 (He.ga K "is_integer") (fdAt K (He.ga K "is_integer")) ["value", "low", "high"] m_is_integer :=
  FnG.of T.d_is_integer.F sc_is_integer fun cd A outer s H E hcd hr hg tk po => (js_cons (s_if (jt_w (jw_or (jt_not (jt_tru (j_callB call_isiD isi_i (by rfl) T.z_isinstance (by first | rfl | decide +kernel) (jl_cons (j_var 0) (jl_cons (j_ty (by rfl) T.z_int (by first | rfl | decide +kernel)) jl_nil))))) (jw_or1 (jt_tru (j_callB call_isiD isi_i (by rfl) T.z_isinstance (by first | rfl | decide +kernel) (jl_cons (j_var 0) (jl_cons (j_ty (by rfl) T.z_bool (by first | rfl | decide +kernel)) jl_nil))))))) (js_one (s_ret j_bl)) js_nil) (js_one (s_ret (j_and (j_or (j_cmp op_isN isN_i (j_var 1) j_non (nomark _)) (j_one (j_cmp op_ge cmp_i (j_var 0) (j_var 1) (nomark _)))) (j_one (j_or (j_cmp op_isN isN_i (j_var 2) j_non (nomark _)) (j_one (j_cmp op_le cmp_i (j_var 0) (j_var 2) (nomark _)))))))))
theorem ok_common_divisor (T : Txt K mg) (TB : ∀ p ∈ cs K, LamX.TabB base mg p.1 p.2) : FnG ⟨none, none, TT K⟩ P w K mg base 1 (He.ga K "common_divisor") (fdAt K (He.ga K "common_divisor")) ["one", "other"] m_common_divisor :=
  FnG.of T.d_common_divisor.F sc_common_divisor fun cd A outer s H E hcd hr hg tk po => (js_cons (s_par rfl sc_common_divisor.nd (jl_cons (j_callB call_abs abs_i (by rfl) T.z_abs (by first | rfl | decide +kernel) (jl_cons (j_var 0) jl_nil)) (jl_cons (j_callB call_abs abs_i (by rfl) T.z_abs (by first | rfl | decide +kernel) (jl_cons (j_var 1) jl_nil)) jl_nil)) fun _ h => ps_par (i := 0) (j := 1) rfl sc_common_divisor.nd rfl rfl (by decide) rfl rfl h (by rfl)) (js_cons (s_while po (jt_cmp op_gt cmp_i (j_var 1) j_int (nomark _)) (js_one (s_par rfl sc_common_divisor.nd (jl_cons (j_var 1) (jl_cons (j_op op_mod mod_i (j_var 0) (j_var 1)) jl_nil)) fun _ h => ps_par (i := 0) (j := 1) rfl sc_common_divisor.nd rfl rfl (by decide) rfl rfl h (by rfl)))) (js_one (s_ret (j_var 0)))))
theorem ok_is_less (T : Txt K mg) (TB : ∀ p ∈ cs K, LamX.TabB base mg p.1 p.2) : FnG ⟨none, none, TT K⟩ P w K mg base 1 (He.ga K "is_less") (fdAt K (He.ga K "is_less")) ["one", "other"] m_is_less :=
  FnG.of T.d_is_less.F sc_is_less fun cd A outer s H E hcd hr hg tk po => (js_one (s_ret (j_cmp op_lt cmp_i (j_op op_mulD mul_i (j_ix ix_seq ix_i (j_var 0) j_int) (j_ix ix_seq ix_i (j_var 1) j_int)) (j_op op_mulD mul_i (j_ix ix_seq ix_i (j_var 1) j_int) (j_ix ix_seq ix_i (j_var 0) j_int)) (nomark _))))
theorem ok_is_ratio (T : Txt K mg) (TB : ∀ p ∈ cs K, LamX.TabB base mg p.1 p.2) : FnG ⟨none, none, TT K⟩ P w K mg base 2 (He.ga K "is_ratio") (fdAt K (He.ga K "is_ratio")) ["value"] m_is_ratio :=
  FnG.of T.d_is_ratio.F sc_is_ratio fun cd A outer s H E hcd hr hg tk po => (js_cons (s_if (jt_w (jw_or (jt_not (jt_tru (j_callB call_isiD isi_i (by rfl) T.z_isinstance (by first | rfl | decide +kernel) (jl_cons (j_var 0) (jl_cons (j_ty (by rfl) T.z_tuple (by first | rfl | decide +kernel)) jl_nil))))) (jw_or1 (jt_cmp (op_neA hr.units) ne_i (j_callB call_len len_i (by rfl) T.z_len (by first | rfl | decide +kernel) (jl_cons (j_var 0) jl_nil)) j_int (nomark _))))) (js_one (s_ret j_bl)) js_nil) (js_cons (s_if (jt_w (jw_or (jt_not (jt_tru (j_callP (m := m_is_integer) (ok_is_integer T TB) (hr.mono (by decide)) hg tk (by rfl) T.d_is_integer.g T.d_is_integer.F.kp (pb_is_integer T) (jl_cons (j_ix ix_seq ix_i (j_var 0) j_int) (jl_cons j_non (jl_cons j_non jl_nil))) (lenS (lenS (lenS len0)))))) (jw_or1 (jt_not (jt_tru (j_callP (m := m_is_integer) (ok_is_integer T TB) (hr.mono (by decide)) hg tk (by rfl) T.d_is_integer.g T.d_is_integer.F.kp (pb_is_integer T) (jl_cons (j_ix ix_seq ix_i (j_var 0) j_int) (jl_cons j_int (jl_cons j_non jl_nil))) (lenS (lenS (lenS len0))))))))) (js_one (s_ret j_bl)) js_nil) (js_one (s_ret (j_cmp (op_eqA hr.units) eq_i (j_callP (m := m_common_divisor) (ok_common_divisor T TB) (hr.mono (by decide)) hg tk (by rfl) T.d_common_divisor.g T.d_common_divisor.F.kp (pb_common_divisor T) (jl_cons (j_ix ix_seq ix_i (j_var 0) j_int) (jl_cons (j_ix ix_seq ix_i (j_var 0) j_int) jl_nil)) (lenS (lenS len0))) j_int (nomark _))))))
theorem ok_is_share (T : Txt K mg) (TB : ∀ p ∈ cs K, LamX.TabB base mg p.1 p.2) : FnG ⟨none, none, TT K⟩ P w K mg base 3 (He.ga K "is_share") (fdAt K (He.ga K "is_share")) ["value"] m_is_share :=
  FnG.of T.d_is_share.F sc_is_share fun cd A outer s H E hcd hr hg tk po => (js_one (s_ret (j_and (j_callP (m := m_is_ratio) (ok_is_ratio T TB) (hr.mono (by decide)) hg tk (by rfl) T.d_is_ratio.g T.d_is_ratio.F.kp (pb_is_ratio T) (jl_cons (j_var 0) jl_nil) (lenS len0)) (j_one (j_chain op_le cmp_i op_le cmp_i j_int (j_ix ix_seq ix_i (j_var 0) j_int) (j_ix ix_seq ix_i (j_var 0) j_int))))))
theorem ok_ratio_text (T : Txt K mg) (TB : ∀ p ∈ cs K, LamX.TabB base mg p.1 p.2) : FnG ⟨none, none, TT K⟩ P w K mg base 3 (He.ga K "ratio_text") (fdAt K (He.ga K "ratio_text")) ["ratio"] m_ratio_text :=
  FnG.of T.d_ratio_text.F sc_ratio_text fun cd A outer s H E hcd hr hg tk po => (js_cons (s_if (jt_not (jt_tru (j_callP (m := m_is_ratio) (ok_is_ratio T TB) (hr.mono (by decide)) hg tk (by rfl) T.d_is_ratio.g T.d_is_ratio.F.kp (pb_is_ratio T) (jl_cons (j_var 0) jl_nil) (lenS len0)))) (js_one (s_raise1 rfl tk T.e_InvalidShare (init_InvalidShare T) (hr.mono (by decide)) (bI_InvalidShare T) (by rfl) T.g_InvalidShare (jl_cons (j_var 0) jl_nil) rfl)) js_nil) (js_one (s_ret (j_if (jt_cmp (op_eqA hr.units) eq_i (j_ix ix_seq ix_i (j_var 0) j_int) j_int (nomark _)) (j_callTy call_strD (str_i _) (by rfl) T.z_str (by first | rfl | decide +kernel) (jl_cons (j_ix ix_seq ix_i (j_var 0) j_int) jl_nil)) (j_fs (.cons (j_fmt (j_ix ix_seq ix_i (j_var 0) j_int)) (.cons j_str (.cons (j_fmt (j_ix ix_seq ix_i (j_var 0) j_int)) .nil))))))))
theorem ok_integer_in (T : Txt K mg) (TB : ∀ p ∈ cs K, LamX.TabB base mg p.1 p.2) : FnG ⟨none, none, TT K⟩ P w K mg base 1 (He.ga K "integer_in") (fdAt K (He.ga K "integer_in")) ["word"] m_integer_in :=
  FnG.of T.d_integer_in.F sc_integer_in fun cd A outer s H E hcd hr hg tk po => (js_cons (s_if (jt_w (jw_or (jt_not (jt_chain op_le cmp_i op_le cmp_i j_int (j_callB call_len len_i (by rfl) T.z_len (by first | rfl | decide +kernel) (jl_cons (j_var 0) jl_nil)) (j_con (by rfl) T.k_LONGEST_INTEGER))) (jw_or1 (jt_not (jt_tru (j_callB (cr_all rfl) all_i (by rfl) T.z_all (by first | rfl | decide +kernel) (jl_cons (j_lc rfl sc_integer_in.nd (i_any (j_var 0)) (by show blkC ["word", "sign"] (defScope s_integer_in) _ _ = true; decide +kernel) (fun _ _ _ _ _ => pg_name (i := 1) sc_integer_in.nd rfl (Or.inl rfl)) (fun _ _ _ _ _ => jts_nil) (fun _ _ _ _ _ => (j_cmp (op_inP hr.units) in_i (j_var 1) (j_con (by rfl) T.k_DIGITS) (by rfl)))) jl_nil))))))) (js_one (s_ret j_non)) js_nil) (js_one (s_ret (j_if (jt_w (jw_or (jt_cmp (op_neA hr.units) ne_i (j_ix ix_seq ix_i (j_var 0) j_int) j_str (nomark _)) (jw_or1 (jt_cmp (op_eqA hr.units) eq_i (j_var 0) j_str (nomark _))))) (j_callTy call_intS intS_i (by rfl) T.z_int (by first | rfl | decide +kernel) (jl_cons (j_var 0) jl_nil)) j_non))))
theorem ok_ratio_in (T : Txt K mg) (TB : ∀ p ∈ cs K, LamX.TabB base mg p.1 p.2) : FnG ⟨none, none, TT K⟩ P w K mg base 4 (He.ga K "ratio_in") (fdAt K (He.ga K "ratio_in")) ["word"] m_ratio_in :=
  FnG.of T.d_ratio_in.F sc_ratio_in fun cd A outer s H E hcd hr hg tk po => (js_cons (s_set (i := 1) sc_ratio_in.nd (j_if (jt_cmp (op_eqA hr.units) eq_i (j_slice (j_var 0) jo_none (jo_some j_int)) j_str (nomark _)) (j_un un_neg neg_i j_int) j_int)) (js_cons (s_setLc (j := 2) rfl sc_ratio_in.nd rfl rfl (sw_true rfl rfl rfl (by decide +kernel)) (i_any (j_split (j_slice (j_var 0) (jo_some (j_callTy call_int1 int_i (by rfl) T.z_int (by first | rfl | decide +kernel) (jl_cons (j_cmp op_lt cmp_i (j_var 1) j_int (nomark _)) jl_nil))) jo_none) j_str)) (by show blkC ["word", "sign", "numbers", "piece", "found"] (defScope s_ratio_in) _ _ = true; decide +kernel) (fun _ _ _ _ _ => pg_name (i := 3) sc_ratio_in.nd rfl (Or.inl rfl)) (fun _ _ _ _ _ => jts_nil) (fun _ _ _ _ _ => (j_callP (m := m_integer_in) (ok_integer_in T TB) (hr.mono (by decide)) hg takes_W0 (by rfl) T.d_integer_in.g T.d_integer_in.F.kp (pb_integer_in T) (jl_cons (j_var 3) jl_nil) (lenS len0)))) (js_cons (s_if (jt_w (jw_or (jt_cmp op_gt cmp_i (j_callB call_len len_i (by rfl) T.z_len (by first | rfl | decide +kernel) (jl_cons (j_var 2) jl_nil)) j_int (nomark _)) (jw_or1 (jt_cmp (op_inP hr.units) in_i j_non (j_var 2) (by rfl))))) (js_one (s_ret j_non)) js_nil) (js_cons (s_set (i := 4) sc_ratio_in.nd (j_tup (jl_cons (j_op op_mulD mul_i (j_var 1) (j_ix ix_seq ix_i (j_var 2) j_int)) (jl_cons (j_if (jt_cmp (op_eqA hr.units) eq_i (j_callB call_len len_i (by rfl) T.z_len (by first | rfl | decide +kernel) (jl_cons (j_var 2) jl_nil)) j_int (nomark _)) j_int (j_ix ix_seq ix_i (j_var 2) j_int)) jl_nil)))) (js_one (s_ret (j_if (jt_w (jw_and (jt_tru (j_callP (m := m_is_ratio) (ok_is_ratio T TB) (hr.mono (by decide)) hg tk (by rfl) T.d_is_ratio.g T.d_is_ratio.F.kp (pb_is_ratio T) (jl_cons (j_var 4) jl_nil) (lenS len0))) (jw_and1 (jt_cmp (op_eqA hr.units) eq_i (j_callP (m := m_ratio_text) (ok_ratio_text T TB) (hr.mono (by decide)) hg tk (by rfl) T.d_ratio_text.g T.d_ratio_text.F.kp (pb_ratio_text T) (jl_cons (j_var 4) jl_nil) (lenS len0)) (j_var 0) (nomark _))))) (j_var 4) j_non)))))))
theorem ok_is_pixel (T : Txt K mg) (TB : ∀ p ∈ cs K, LamX.TabB base mg p.1 p.2) : FnG ⟨none, none, TT K⟩ P w K mg base 4 (He.ga K "is_pixel") (fdAt K (He.ga K "is_pixel")) ["value"] m_is_pixel :=
  FnG.of T.d_is_pixel.F sc_is_pixel fun cd A outer s H E hcd hr hg tk po => (js_cons (s_if (jt_w (jw_or (jt_not (jt_tru (j_callB call_isiD isi_i (by rfl) T.z_isinstance (by first | rfl | decide +kernel) (jl_cons (j_var 0) (jl_cons (j_ty (by rfl) T.z_tuple (by first | rfl | decide +kernel)) jl_nil))))) (jw_or (jt_cmp (op_neA hr.units) ne_i (j_callB call_len len_i (by rfl) T.z_len (by first | rfl | decide +kernel) (jl_cons (j_var 0) jl_nil)) j_int (nomark _)) (jw_or (jt_not (jt_tru (j_callP (m := m_is_share) (ok_is_share T TB) (hr.mono (by decide)) hg tk (by rfl) T.d_is_share.g T.d_is_share.F.kp (pb_is_share T) (jl_cons (j_ix ix_seq ix_i (j_var 0) j_int) jl_nil) (lenS len0)))) (jw_or1 (jt_not (jt_tru (j_callP (m := m_is_share) (ok_is_share T TB) (hr.mono (by decide)) hg tk (by rfl) T.d_is_share.g T.d_is_share.F.kp (pb_is_share T) (jl_cons (j_ix ix_seq ix_i (j_var 0) j_int) jl_nil) (lenS len0))))))))) (js_one (s_ret j_bl)) js_nil) (js_one (s_ret (j_not (j_callP (m := m_is_less) (ok_is_less T TB) (hr.mono (by decide)) hg tk (by rfl) T.d_is_less.g T.d_is_less.F.kp (pb_is_less T) (jl_cons (j_ix ix_seq ix_i (j_var 0) j_int) (jl_cons (j_ix ix_seq ix_i (j_var 0) j_int) jl_nil)) (lenS (lenS len0)))))))
theorem ok_check_pixel (T : Txt K mg) (TB : ∀ p ∈ cs K, LamX.TabB base mg p.1 p.2) : FnG ⟨none, none, TT K⟩ P w K mg base 5 (He.ga K "check_pixel") (fdAt K (He.ga K "check_pixel")) ["value"] m_check_pixel :=
  FnG.of T.d_check_pixel.F sc_check_pixel fun cd A outer s H E hcd hr hg tk po => (js_one (s_if (jt_not (jt_tru (j_callP (m := m_is_pixel) (ok_is_pixel T TB) (hr.mono (by decide)) hg tk (by rfl) T.d_is_pixel.g T.d_is_pixel.F.kp (pb_is_pixel T) (jl_cons (j_var 0) jl_nil) (lenS len0)))) (js_one (s_raise1 rfl tk T.e_InvalidPixel (init_InvalidPixel T) (hr.mono (by decide)) (bI_InvalidPixel T) (by rfl) T.g_InvalidPixel (jl_cons (j_var 0) jl_nil) rfl)) js_nil))
theorem ok_pixel_text (T : Txt K mg) (TB : ∀ p ∈ cs K, LamX.TabB base mg p.1 p.2) : FnG ⟨none, none, TT K⟩ P w K mg base 6 (He.ga K "pixel_text") (fdAt K (He.ga K "pixel_text")) ["pixel"] m_pixel_text :=
  FnG.of T.d_pixel_text.F sc_pixel_text fun cd A outer s H E hcd hr hg tk po => (js_cons (s_drop (j_callP (m := m_check_pixel) (ok_check_pixel T TB) (hr.mono (by decide)) hg tk (by rfl) T.d_check_pixel.g T.d_check_pixel.F.kp (pb_check_pixel T) (jl_cons (j_var 0) jl_nil) (lenS len0))) (js_one (s_ret (j_op op_addD add_i (j_op op_addD add_i (j_callP (m := m_ratio_text) (ok_ratio_text T TB) (hr.mono (by decide)) hg tk (by rfl) T.d_ratio_text.g T.d_ratio_text.F.kp (pb_ratio_text T) (jl_cons (j_ix ix_seq ix_i (j_var 0) j_int) jl_nil) (lenS len0)) j_str) (j_callP (m := m_ratio_text) (ok_ratio_text T TB) (hr.mono (by decide)) hg tk (by rfl) T.d_ratio_text.g T.d_ratio_text.F.kp (pb_ratio_text T) (jl_cons (j_ix ix_seq ix_i (j_var 0) j_int) jl_nil) (lenS len0))))))
theorem ok_pixel_in (T : Txt K mg) (TB : ∀ p ∈ cs K, LamX.TabB base mg p.1 p.2) : FnG ⟨none, none, TT K⟩ P w K mg base 5 (He.ga K "pixel_in") (fdAt K (He.ga K "pixel_in")) ["word"] m_pixel_in :=
  FnG.of T.d_pixel_in.F sc_pixel_in fun cd A outer s H E hcd hr hg tk po => (js_cons (s_set (i := 1) sc_pixel_in.nd (j_callTy call_tuple_of tuple_i (by rfl) T.z_tuple (by first | rfl | decide +kernel) (jl_cons (j_lc rfl sc_pixel_in.nd (i_any (j_split (j_var 0) j_str)) (by show blkC ["word", "found", "piece"] (defScope s_pixel_in) _ _ = true; decide +kernel) (fun _ _ _ _ _ => pg_name (i := 2) sc_pixel_in.nd rfl (Or.inl rfl)) (fun _ _ _ _ _ => jts_nil) (fun _ _ _ _ _ => (j_callP (m := m_ratio_in) (ok_ratio_in T TB) (hr.mono (by decide)) hg takes_W0 (by rfl) T.d_ratio_in.g T.d_ratio_in.F.kp (pb_ratio_in T) (jl_cons (j_var 2) jl_nil) (lenS len0)))) jl_nil))) (js_one (s_ret (j_if (jt_tru (j_callP (m := m_is_pixel) (ok_is_pixel T TB) (hr.mono (by decide)) hg tk (by rfl) T.d_is_pixel.g T.d_is_pixel.F.kp (pb_is_pixel T) (jl_cons (j_var 1) jl_nil) (lenS len0))) (j_var 1) j_non))))
theorem ok_read_pixel (T : Txt K mg) (TB : ∀ p ∈ cs K, LamX.TabB base mg p.1 p.2) : FnG ⟨none, none, TT K⟩ P w K mg base 6 (He.ga K "read_pixel") (fdAt K (He.ga K "read_pixel")) ["text"] m_read_pixel :=
  FnG.of T.d_read_pixel.F sc_read_pixel fun cd A outer s H E hcd hr hg tk po => (js_cons (s_set (i := 1) sc_read_pixel.nd (j_if (jt_tru (j_callB call_isiD isi_i (by rfl) T.z_isinstance (by first | rfl | decide +kernel) (jl_cons (j_var 0) (jl_cons (j_ty (by rfl) T.z_str (by first | rfl | decide +kernel)) jl_nil)))) (j_callP (m := m_pixel_in) (ok_pixel_in T TB) (hr.mono (by decide)) hg tk (by rfl) T.d_pixel_in.g T.d_pixel_in.F.kp (pb_pixel_in T) (jl_cons (j_var 0) jl_nil) (lenS len0)) j_non)) (js_cons (s_if (jt_cmp op_isN isN_i (j_var 1) j_non (nomark _)) (js_one (s_raise1 rfl tk T.e_InvalidText (init_InvalidText T) (hr.mono (by decide)) (bI_InvalidText T) (by rfl) T.g_InvalidText (jl_cons (j_var 0) jl_nil) rfl)) js_nil) (js_one (s_ret (j_var 1)))))
theorem ok__law_seed (T : Txt K mg) (TB : ∀ p ∈ cs K, LamX.TabB base mg p.1 p.2) : FnG ⟨none, none, TT K⟩ P w K mg base 1 (He.ga K "_law_seed") (fdAt K (He.ga K "_law_seed")) ["_law_script", "_law_k"] m__law_seed :=
  FnG.of T.d__law_seed.F sc__law_seed fun cd A outer s H E hcd hr hg tk po => (js_cons (s_set (i := 2) sc__law_seed.nd j_int) (js_cons (s_if (jt_cmp op_lt cmp_i (j_var 1) (j_callB call_len len_i (by rfl) T.z_len (by first | rfl | decide +kernel) (jl_cons (j_var 0) jl_nil)) (nomark _)) (js_one (s_set (i := 2) sc__law_seed.nd (j_ix ix_seq ix_i (j_var 0) (j_var 1)))) js_nil) (js_cons (s_set (i := 3) sc__law_seed.nd (j_callB call_abs abs_i (by rfl) T.z_abs (by first | rfl | decide +kernel) (jl_cons (j_var 2) jl_nil))) (js_cons (s_if (jt_cmp op_lt cmp_i (j_var 3) (j_op op_pow pow_i j_int j_int) (nomark _)) (js_one (s_set (i := 3) sc__law_seed.nd j_int)) js_nil) (js_one (s_ret (j_new (jl_cons (j_var 3) (jl_cons (j_op op_mod mod_i (j_callTy call_int1 int_i (by rfl) T.z_int (by first | rfl | decide +kernel) (jl_cons (j_op op_addD add_i (j_op op_addD add_i (j_op op_addD add_i (j_var 2) (j_op op_mulD mul_i (j_op op_mulD mul_i j_int (j_var 1)) (j_var 1))) (j_op op_mulD mul_i j_int (j_var 1))) j_int) jl_nil)) j_int) (jl_cons j_int jl_nil))))))))))
theorem ok__law_draw (T : Txt K mg) (TB : ∀ p ∈ cs K, LamX.TabB base mg p.1 p.2) : FnG ⟨none, none, TT K⟩ P w K mg base 1 (He.ga K "_law_draw") (fdAt K (He.ga K "_law_draw")) ["_law_seed_here", "_law_many"] m__law_draw :=
  FnG.of T.d__law_draw.F sc__law_draw fun cd A outer s H E hcd hr hg tk po => (js_cons (s_if (jt_cmp op_gt cmp_i (j_ix ix_seq ix_i (j_var 0) j_int) j_int (nomark _)) (js_cons (s_set (i := 2) sc__law_draw.nd (j_op op_mod mod_i (j_callTy call_int1 int_i (by rfl) T.z_int (by first | rfl | decide +kernel) (jl_cons (j_ix ix_seq ix_i (j_var 0) j_int) jl_nil)) (j_var 1))) (js_cons (s_sub (j_op op_fdivW fdiv_i (j_ix ix_seq ix_i (j_var 0) j_int) (j_var 1)) (j_var 0) j_int fun _ _ _ h1 h2 h3 => ps_asg h1 (pg_sub h2 h3 set_list)) (js_one (s_ret (j_var 2))))) js_nil) (js_cons (s_sub (j_op op_addD add_i (j_ix ix_seq ix_i (j_var 0) j_int) j_int) (j_var 0) j_int fun _ _ _ h1 h2 h3 => ps_asg h1 (pg_sub h2 h3 set_list)) (js_cons (s_set (i := 3) sc__law_draw.nd (j_ix ix_seq ix_i (j_var 0) j_int)) (js_cons (s_set (i := 4) sc__law_draw.nd (j_op op_mod mod_i (j_op op_pow pow_i (j_callTy call_int1 int_i (by rfl) T.z_int (by first | rfl | decide +kernel) (jl_cons (j_op op_addD add_i (j_op op_addD add_i (j_ix ix_seq ix_i (j_var 0) j_int) (j_op op_mulD mul_i j_int (j_var 3))) j_int) jl_nil)) j_int) j_int)) (js_one (s_ret (j_op op_mod mod_i (j_op op_fdivW fdiv_i (j_op op_mod mod_i (j_callTy call_int1 int_i (by rfl) T.z_int (by first | rfl | decide +kernel) (jl_cons (j_op op_mulD mul_i (j_var 4) (j_op op_addD add_i (j_op op_addD add_i (j_op op_fdivW fdiv_i (j_var 4) j_int) (j_op op_mulD mul_i j_int (j_var 3))) j_int)) jl_nil)) j_int) j_int) (j_var 1))))))))
theorem ok__law_low (T : Txt K mg) (TB : ∀ p ∈ cs K, LamX.TabB base mg p.1 p.2) : FnG ⟨none, none, TT K⟩ P w K mg base 1 (He.ga K "_law_low") (fdAt K (He.ga K "_law_low")) ["_law_top", "_law_bottom"] m__law_low :=
  FnG.of T.d__law_low.F sc__law_low fun cd A outer s H E hcd hr hg tk po => (js_cons (s_par rfl sc__law_low.nd (jl_cons (j_callB call_abs abs_i (by rfl) T.z_abs (by first | rfl | decide +kernel) (jl_cons (j_var 0) jl_nil)) (jl_cons (j_var 1) jl_nil)) fun _ h => ps_par (i := 2) (j := 3) rfl sc__law_low.nd rfl rfl (by decide) rfl rfl h (by rfl)) (js_cons (s_while po (jt_cmp op_gt cmp_i (j_var 3) j_int (nomark _)) (js_one (s_par rfl sc__law_low.nd (jl_cons (j_var 3) (jl_cons (j_op op_mod mod_i (j_callTy call_int1 int_i (by rfl) T.z_int (by first | rfl | decide +kernel) (jl_cons (j_var 2) jl_nil)) (j_var 3)) jl_nil)) fun _ h => ps_par (i := 2) (j := 3) rfl sc__law_low.nd rfl rfl (by decide) rfl rfl h (by rfl)))) (js_one (s_ret (j_tup (jl_cons (j_op op_fdivW fdiv_i (j_var 0) (j_var 2)) (jl_cons (j_op op_fdivW fdiv_i (j_var 1) (j_var 2)) jl_nil)))))))
theorem ok__law_mul (T : Txt K mg) (TB : ∀ p ∈ cs K, LamX.TabB base mg p.1 p.2) : FnG ⟨none, none, TT K⟩ P w K mg base 2 (He.ga K "_law_mul") (fdAt K (He.ga K "_law_mul")) ["_law_one", "_law_other"] m__law_mul :=
  FnG.of T.d__law_mul.F sc__law_mul fun cd A outer s H E hcd hr hg tk po => (js_one (s_ret (j_callP (m := m__law_low) (ok__law_low T TB) (hr.mono (by decide)) hg tk (by rfl) T.d__law_low.g T.d__law_low.F.kp (pb__law_low T) (jl_cons (j_op op_mulD mul_i (j_ix ix_seq ix_i (j_var 0) j_int) (j_ix ix_seq ix_i (j_var 1) j_int)) (jl_cons (j_op op_mulD mul_i (j_ix ix_seq ix_i (j_var 0) j_int) (j_ix ix_seq ix_i (j_var 1) j_int)) jl_nil)) (lenS (lenS len0)))))
theorem ok__law_part (T : Txt K mg) (TB : ∀ p ∈ cs K, LamX.TabB base mg p.1 p.2) : FnG ⟨none, none, TT K⟩ P w K mg base 2 (He.ga K "_law_part") (fdAt K (He.ga K "_law_part")) ["_law_seed_here"] m__law_part :=
  FnG.of T.d__law_part.F sc__law_part fun cd A outer s H E hcd hr hg tk po => (js_cons (s_set (i := 1) sc__law_part.nd (j_callP (m := m__law_draw) (ok__law_draw T TB) (hr.mono (by decide)) hg tk (by rfl) T.d__law_draw.g T.d__law_draw.F.kp (pb__law_draw T) (jl_cons (j_var 0) (jl_cons j_int jl_nil)) (lenS (lenS len0)))) (js_cons (s_if (jt_cmp op_lt cmp_i (j_var 1) j_int (nomark _)) (js_one (s_ret (j_tup (jl_cons (j_var 1) (jl_cons j_int jl_nil))))) js_nil) (js_cons (s_set (i := 2) sc__law_part.nd (j_op op_addD add_i j_int (j_callP (m := m__law_draw) (ok__law_draw T TB) (hr.mono (by decide)) hg tk (by rfl) T.d__law_draw.g T.d__law_draw.F.kp (pb__law_draw T) (jl_cons (j_var 0) (jl_cons (j_ix ix_seq ix_i (j_lst (jl_cons j_int (jl_cons j_int (jl_cons j_int (jl_cons j_int (jl_cons j_int (jl_cons (j_op op_pow pow_i j_int j_int) jl_nil))))))) (j_op op_sub sub_i (j_var 1) j_int)) jl_nil)) (lenS (lenS len0))))) (js_one (s_ret (j_callP (m := m__law_low) (ok__law_low T TB) (hr.mono (by decide)) hg tk (by rfl) T.d__law_low.g T.d__law_low.F.kp (pb__law_low T) (jl_cons (j_callP (m := m__law_draw) (ok__law_draw T TB) (hr.mono (by decide)) hg tk (by rfl) T.d__law_draw.g T.d__law_draw.F.kp (pb__law_draw T) (jl_cons (j_var 0) (jl_cons (j_op op_addD add_i (j_var 2) j_int) jl_nil)) (lenS (lenS len0))) (jl_cons (j_var 2) jl_nil)) (lenS (lenS len0))))))))
theorem ok__law_dot (T : Txt K mg) (TB : ∀ p ∈ cs K, LamX.TabB base mg p.1 p.2) : FnG ⟨none, none, TT K⟩ P w K mg base 3 (He.ga K "_law_dot") (fdAt K (He.ga K "_law_dot")) ["_law_seed_here"] m__law_dot :=
  FnG.of T.d__law_dot.F sc__law_dot fun cd A outer s H E hcd hr hg tk po => (js_cons (s_set (i := 1) sc__law_dot.nd (j_callP (m := m__law_draw) (ok__law_draw T TB) (hr.mono (by decide)) hg tk (by rfl) T.d__law_draw.g T.d__law_draw.F.kp (pb__law_draw T) (jl_cons (j_var 0) (jl_cons j_int jl_nil)) (lenS (lenS len0)))) (js_cons (s_if (jt_cmp op_lt cmp_i (j_var 1) j_int (nomark _)) (js_one (s_ret (j_ix ix_seq ix_i (j_lst (jl_cons (j_tup (jl_cons (j_tup (jl_cons j_int (jl_cons j_int jl_nil))) (jl_cons (j_tup (jl_cons j_int (jl_cons j_int jl_nil))) jl_nil))) (jl_cons (j_tup (jl_cons (j_tup (jl_cons j_int (jl_cons j_int jl_nil))) (jl_cons (j_tup (jl_cons j_int (jl_cons j_int jl_nil))) jl_nil))) (jl_cons (j_tup (jl_cons (j_tup (jl_cons j_int (jl_cons j_int jl_nil))) (jl_cons (j_tup (jl_cons j_int (jl_cons j_int jl_nil))) jl_nil))) jl_nil)))) (j_var 1)))) js_nil) (js_cons (s_set (i := 2) sc__law_dot.nd (j_if (jt_cmp op_gt cmp_i (j_var 1) j_int (nomark _)) (j_callP (m := m__law_part) (ok__law_part T TB) (hr.mono (by decide)) hg tk (by rfl) T.d__law_part.g T.d__law_part.F.kp (pb__law_part T) (jl_cons (j_var 0) jl_nil) (lenS len0)) (j_tup (jl_cons j_int (jl_cons j_int jl_nil))))) (js_cons (s_set (i := 3) sc__law_dot.nd (j_if (jt_cmp (op_eqA hr.units) eq_i (j_var 1) j_int (nomark _)) (j_var 2) (j_callP (m := m__law_mul) (ok__law_mul T TB) (hr.mono (by decide)) hg tk (by rfl) T.d__law_mul.g T.d__law_mul.F.kp (pb__law_mul T) (jl_cons (j_callP (m := m__law_part) (ok__law_part T TB) (hr.mono (by decide)) hg tk (by rfl) T.d__law_part.g T.d__law_part.F.kp (pb__law_part T) (jl_cons (j_var 0) jl_nil) (lenS len0)) (jl_cons (j_var 2) jl_nil)) (lenS (lenS len0))))) (js_one (s_ret (j_tup (jl_cons (j_var 3) (jl_cons (j_var 2) jl_nil)))))))))
theorem okH__law_is_one (T : Txt K mg) : FnGH (TT K) P w K mg base 1 (He.ga K "_law_is_one") (fdAt K (He.ga K "_law_is_one")) ["_law_e", "_law_at"] m__law_is_one :=
  FnGH.of T.d__law_is_one.F sc__law_is_one fun lam cd A outer s H E p hot hr hg tk => have hh : HotIn (hotX P w K mg base ["_law_e", "_law_at", "_law_found", "_law_bases", "_law_own"] "_law_is_one" (defScope s__law_is_one) (He.ga K "_law_is_one") cd A outer s H E p) p := ⟨hot, List.mem_singleton.mpr rfl⟩; (js_cons (s_set (i := 2) sc__law_is_one.nd (j_lst (jl_cons (j_callB (call_isiE (hot_cur hh)) (isiE_i T.ct) (by rfl) T.z_isinstance (by first | rfl | decide +kernel) (jl_cons (j_var 0) (jl_cons (j_gl (by rfl) T.g_InvalidShare) jl_nil))) (jl_cons (j_callB (call_isiE (hot_cur hh)) (isiE_i T.ct) (by rfl) T.z_isinstance (by first | rfl | decide +kernel) (jl_cons (j_var 0) (jl_cons (j_gl (by rfl) T.g_InvalidPixel) jl_nil))) (jl_cons (j_callB (call_isiE (hot_cur hh)) (isiE_i T.ct) (by rfl) T.z_isinstance (by first | rfl | decide +kernel) (jl_cons (j_var 0) (jl_cons (j_gl (by rfl) T.g_InvalidName) jl_nil))) jl_nil))))) (js_cons (s_set (i := 2) sc__law_is_one.nd (j_op op_addD add_i (j_var 2) (j_lst (jl_cons (j_callB (call_isiE (hot_cur hh)) (isiE_i T.ct) (by rfl) T.z_isinstance (by first | rfl | decide +kernel) (jl_cons (j_var 0) (jl_cons (j_gl (by rfl) T.g_InvalidKind) jl_nil))) (jl_cons (j_callB (call_isiE (hot_cur hh)) (isiE_i T.ct) (by rfl) T.z_isinstance (by first | rfl | decide +kernel) (jl_cons (j_var 0) (jl_cons (j_gl (by rfl) T.g_InvalidKinds) jl_nil))) (jl_cons (j_callB (call_isiE (hot_cur hh)) (isiE_i T.ct) (by rfl) T.z_isinstance (by first | rfl | decide +kernel) (jl_cons (j_var 0) (jl_cons (j_gl (by rfl) T.g_InvalidMode) jl_nil))) jl_nil)))))) (js_cons (s_set (i := 2) sc__law_is_one.nd (j_op op_addD add_i (j_var 2) (j_lst (jl_cons (j_callB (call_isiE (hot_cur hh)) (isiE_i T.ct) (by rfl) T.z_isinstance (by first | rfl | decide +kernel) (jl_cons (j_var 0) (jl_cons (j_gl (by rfl) T.g_InvalidNumber) jl_nil))) (jl_cons (j_callB (call_isiE (hot_cur hh)) (isiE_i T.ct) (by rfl) T.z_isinstance (by first | rfl | decide +kernel) (jl_cons (j_var 0) (jl_cons (j_gl (by rfl) T.g_InvalidTree) jl_nil))) (jl_cons (j_callB (call_isiE (hot_cur hh)) (isiE_i T.ct) (by rfl) T.z_isinstance (by first | rfl | decide +kernel) (jl_cons (j_var 0) (jl_cons (j_gl (by rfl) T.g_InvalidTrees) jl_nil))) jl_nil)))))) (js_cons (s_set (i := 2) sc__law_is_one.nd (j_op op_addD add_i (j_var 2) (j_lst (jl_cons (j_callB (call_isiE (hot_cur hh)) (isiE_i T.ct) (by rfl) T.z_isinstance (by first | rfl | decide +kernel) (jl_cons (j_var 0) (jl_cons (j_gl (by rfl) T.g_InvalidPath) jl_nil))) (jl_cons (j_callB (call_isiE (hot_cur hh)) (isiE_i T.ct) (by rfl) T.z_isinstance (by first | rfl | decide +kernel) (jl_cons (j_var 0) (jl_cons (j_gl (by rfl) T.g_InvalidSpot) jl_nil))) (jl_cons (j_callB (call_isiE (hot_cur hh)) (isiE_i T.ct) (by rfl) T.z_isinstance (by first | rfl | decide +kernel) (jl_cons (j_var 0) (jl_cons (j_gl (by rfl) T.g_InvalidSpots) jl_nil))) jl_nil)))))) (js_cons (s_set (i := 2) sc__law_is_one.nd (j_op op_addD add_i (j_var 2) (j_lst (jl_cons (j_callB (call_isiE (hot_cur hh)) (isiE_i T.ct) (by rfl) T.z_isinstance (by first | rfl | decide +kernel) (jl_cons (j_var 0) (jl_cons (j_gl (by rfl) T.g_InvalidTable) jl_nil))) (jl_cons (j_callB (call_isiE (hot_cur hh)) (isiE_i T.ct) (by rfl) T.z_isinstance (by first | rfl | decide +kernel) (jl_cons (j_var 0) (jl_cons (j_gl (by rfl) T.g_InvalidForm) jl_nil))) (jl_cons (j_callB (call_isiE (hot_cur hh)) (isiE_i T.ct) (by rfl) T.z_isinstance (by first | rfl | decide +kernel) (jl_cons (j_var 0) (jl_cons (j_gl (by rfl) T.g_InvalidRows) jl_nil))) jl_nil)))))) (js_cons (s_set (i := 2) sc__law_is_one.nd (j_op op_addD add_i (j_var 2) (j_lst (jl_cons (j_callB (call_isiE (hot_cur hh)) (isiE_i T.ct) (by rfl) T.z_isinstance (by first | rfl | decide +kernel) (jl_cons (j_var 0) (jl_cons (j_gl (by rfl) T.g_InvalidOption) jl_nil))) (jl_cons (j_callB (call_isiE (hot_cur hh)) (isiE_i T.ct) (by rfl) T.z_isinstance (by first | rfl | decide +kernel) (jl_cons (j_var 0) (jl_cons (j_gl (by rfl) T.g_InvalidLayers) jl_nil))) (jl_cons (j_callB (call_isiE (hot_cur hh)) (isiE_i T.ct) (by rfl) T.z_isinstance (by first | rfl | decide +kernel) (jl_cons (j_var 0) (jl_cons (j_gl (by rfl) T.g_InvalidStrokes) jl_nil))) jl_nil)))))) (js_cons (s_set (i := 2) sc__law_is_one.nd (j_op op_addD add_i (j_var 2) (j_lst (jl_cons (j_callB (call_isiE (hot_cur hh)) (isiE_i T.ct) (by rfl) T.z_isinstance (by first | rfl | decide +kernel) (jl_cons (j_var 0) (jl_cons (j_gl (by rfl) T.g_InvalidText) jl_nil))) (jl_cons (j_callB (call_isiE (hot_cur hh)) (isiE_i T.ct) (by rfl) T.z_isinstance (by first | rfl | decide +kernel) (jl_cons (j_var 0) (jl_cons (j_gl (by rfl) T.g_InvalidLine) jl_nil))) (jl_cons (j_callB (call_isiE (hot_cur hh)) (isiE_i T.ct) (by rfl) T.z_isinstance (by first | rfl | decide +kernel) (jl_cons (j_var 0) (jl_cons (j_gl (by rfl) T.g_NotAPicture) jl_nil))) jl_nil)))))) (js_cons (s_set (i := 2) sc__law_is_one.nd (j_op op_addD add_i (j_var 2) (j_lst (jl_cons (j_callB (call_isiE (hot_cur hh)) (isiE_i T.ct) (by rfl) T.z_isinstance (by first | rfl | decide +kernel) (jl_cons (j_var 0) (jl_cons (j_gl (by rfl) T.g_NotALayer) jl_nil))) (jl_cons (j_callB (call_isiE (hot_cur hh)) (isiE_i T.ct) (by rfl) T.z_isinstance (by first | rfl | decide +kernel) (jl_cons (j_var 0) (jl_cons (j_gl (by rfl) T.g_NotAStack) jl_nil))) (jl_cons (j_callB (call_isiE (hot_cur hh)) (isiE_i T.ct) (by rfl) T.z_isinstance (by first | rfl | decide +kernel) (jl_cons (j_var 0) (jl_cons (j_gl (by rfl) T.g_UnknownPicture) jl_nil))) jl_nil)))))) (js_cons (s_set (i := 2) sc__law_is_one.nd (j_op op_addD add_i (j_var 2) (j_lst (jl_cons (j_callB (call_isiE (hot_cur hh)) (isiE_i T.ct) (by rfl) T.z_isinstance (by first | rfl | decide +kernel) (jl_cons (j_var 0) (jl_cons (j_gl (by rfl) T.g_MissingSpot) jl_nil))) (jl_cons (j_callB (call_isiE (hot_cur hh)) (isiE_i T.ct) (by rfl) T.z_isinstance (by first | rfl | decide +kernel) (jl_cons (j_var 0) (jl_cons (j_gl (by rfl) T.g_UsedOften) jl_nil))) (jl_cons (j_callB (call_isiE (hot_cur hh)) (isiE_i T.ct) (by rfl) T.z_isinstance (by first | rfl | decide +kernel) (jl_cons (j_var 0) (jl_cons (j_gl (by rfl) T.g_WrongKind) jl_nil))) jl_nil)))))) (js_cons (s_set (i := 2) sc__law_is_one.nd (j_op op_addD add_i (j_var 2) (j_lst (jl_cons (j_callB (call_isiE (hot_cur hh)) (isiE_i T.ct) (by rfl) T.z_isinstance (by first | rfl | decide +kernel) (jl_cons (j_var 0) (jl_cons (j_gl (by rfl) T.g_WrongSize) jl_nil))) (jl_cons (j_callB (call_isiE (hot_cur hh)) (isiE_i T.ct) (by rfl) T.z_isinstance (by first | rfl | decide +kernel) (jl_cons (j_var 0) (jl_cons (j_gl (by rfl) T.g_Busy) jl_nil))) (jl_cons (j_callB (call_isiE (hot_cur hh)) (isiE_i T.ct) (by rfl) T.z_isinstance (by first | rfl | decide +kernel) (jl_cons (j_var 0) (jl_cons (j_gl (by rfl) T.g_Closed) jl_nil))) jl_nil)))))) (js_cons (s_set (i := 2) sc__law_is_one.nd (j_op op_addD add_i (j_var 2) (j_lst (jl_cons (j_callB (call_isiE (hot_cur hh)) (isiE_i T.ct) (by rfl) T.z_isinstance (by first | rfl | decide +kernel) (jl_cons (j_var 0) (jl_cons (j_gl (by rfl) T.g_NothingToUndo) jl_nil))) (jl_cons (j_callB (call_isiE (hot_cur hh)) (isiE_i T.ct) (by rfl) T.z_isinstance (by first | rfl | decide +kernel) (jl_cons (j_var 0) (jl_cons (j_gl (by rfl) T.g_TooMany) jl_nil))) jl_nil))))) (js_cons (s_set (i := 3) sc__law_is_one.nd (j_lst (jl_cons (j_callB (call_isiE (hot_cur hh)) (isiE_i T.ct) (by rfl) T.z_isinstance (by first | rfl | decide +kernel) (jl_cons (j_var 0) (jl_cons (j_gl (by rfl) T.g_InputError) jl_nil))) (jl_cons (j_callB (call_isiE (hot_cur hh)) (isiE_i T.ct) (by rfl) T.z_isinstance (by first | rfl | decide +kernel) (jl_cons (j_var 0) (jl_cons (j_gl (by rfl) T.g_StateError) jl_nil))) (jl_cons (j_callB (call_isiE (hot_cur hh)) (isiE_i T.ct) (by rfl) T.z_isinstance (by first | rfl | decide +kernel) (jl_cons (j_var 0) (jl_cons (j_gl (by rfl) T.g_LimitError) jl_nil))) jl_nil))))) (js_cons (s_set (i := 4) sc__law_is_one.nd (j_lst (jl_cons (j_callB (call_isiE (hot_cur hh)) (isiE_i T.ct) (by rfl) T.z_isinstance (by first | rfl | decide +kernel) (jl_cons (j_var 0) (jl_cons (j_ty (by rfl) T.z_ValueError (by first | rfl | decide +kernel)) jl_nil))) (jl_cons (j_callB (call_isiE (hot_cur hh)) (isiE_i T.ct) (by rfl) T.z_isinstance (by first | rfl | decide +kernel) (jl_cons (j_var 0) (jl_cons (j_ty (by rfl) T.z_LookupError (by first | rfl | decide +kernel)) jl_nil))) (jl_cons (j_callB (call_isiE (hot_cur hh)) (isiE_i T.ct) (by rfl) T.z_isinstance (by first | rfl | decide +kernel) (jl_cons (j_var 0) (jl_cons (j_ty (by rfl) T.z_ArithmeticError (by first | rfl | decide +kernel)) jl_nil))) jl_nil))))) (js_one (s_ret (j_and (j_cmp (op_eqA (RoomH_units hr)) eq_i (j_count (RoomH_units hr) (j_var 2) j_bl fun _ _ h1 h2 => pe_bm PySem.F.plainAttrs_list PySem.F.slot_list_count PySem.F.type_list_count (mt_cntD (RoomH_units hr)) h1 (pa_cons h2 pa_nil)) j_int (nomark _)) (j_and (j_ix ix_seq ix_i (j_var 2) (j_var 1)) (j_and (j_cmp (op_eqA (RoomH_units hr)) eq_i (j_var 3) (j_var 4) (nomark _)) (j_one (j_cmp (op_eqA (RoomH_units hr)) eq_i (j_var 3) (j_lst (jl_cons j_bl (jl_cons j_bl (jl_cons j_bl jl_nil)))) (nomark _)))))))))))))))))))))
theorem okL__law_caught (T : Txt K mg) : FnLam (TT K) P w K mg base 7 "_law_caught" (He.ga K "_law_caught") (fdAt K (He.ga K "_law_caught")) "_law_act" ["_law_act", "_law_e"] (defArgs s__law_caught) (defBody s__law_caught) (defScope s__law_caught) b__law_caught :=
  ⟨T.d__law_caught.F, sc__law_caught, rfl, Or.inl rfl, fun mb lam cd A outer s H E hr hg tk po act => (js_one (s_try rfl rfl sc__law_caught.nd tk (fun W pn xe tk po => (js_one (s_ret (j_lst (jl_cons j_str (jl_cons (j_callB (call_reprD hg hr.units) (repr_i _) (by rfl) T.z_repr (by first | rfl | decide +kernel) (jl_cons (act _ _ _ _ _ tk) jl_nil)) jl_nil)))))) (.cons (tests_one ⟨by rfl, by decide, .inl T.g_InvalidPixel⟩) T.mt_2 (by exact ⟨rfl, rfl⟩) (fun a oe pn ho => (js_one (s_ret (j_if (jt_tru (j_callH (m := m__law_is_one) (okH__law_is_one T) ((L2H.roomH_mark hr (some (Value.ref a))).mono (by decide)) hg (hot_suite ho) (by rfl) T.d__law_is_one.g T.d__law_is_one.F.kp (pb__law_is_one T) rfl (jl_cons (j_var 1) (jl_cons j_int jl_nil)) (lenS (lenS len0)))) (j_lst (jl_cons j_str (jl_cons (j_callB (call_reprD hg (RoomH_units (L2H.roomH_mark hr (some (Value.ref a))))) (repr_i _) (by rfl) T.z_repr (by first | rfl | decide +kernel) (jl_cons (j_at (hot_cur (hot_suite ho)) T.at_value (j_var 1)) jl_nil)) jl_nil))) (j_lst (jl_cons j_str (jl_cons j_str jl_nil))))))) (.cons (tests_one ⟨by rfl, by decide, .inl T.g_InvalidText⟩) T.mt_1 (by exact ⟨rfl, rfl⟩) (fun a oe pn ho => (js_one (s_ret (j_if (jt_tru (j_callH (m := m__law_is_one) (okH__law_is_one T) ((L2H.roomH_mark hr (some (Value.ref a))).mono (by decide)) hg (hot_suite ho) (by rfl) T.d__law_is_one.g T.d__law_is_one.F.kp (pb__law_is_one T) rfl (jl_cons (j_var 1) (jl_cons j_int jl_nil)) (lenS (lenS len0)))) (j_lst (jl_cons j_str (jl_cons (j_callB (call_reprD hg (RoomH_units (L2H.roomH_mark hr (some (Value.ref a))))) (repr_i _) (by rfl) T.z_repr (by first | rfl | decide +kernel) (jl_cons (j_at (hot_cur (hot_suite ho)) T.at_text (j_var 1)) jl_nil)) jl_nil))) (j_lst (jl_cons j_str (jl_cons j_str jl_nil))))))) (.cons (tests_three ⟨by rfl, by decide, .inl T.g_InputError⟩ ⟨by rfl, by decide, .inl T.g_StateError⟩ ⟨by rfl, by decide, .inl T.g_LimitError⟩) T.mt_0 (by exact ⟨rfl, rfl⟩) (fun a oe pn ho => (js_one (s_ret (j_lst (jl_cons j_str (jl_cons j_str jl_nil)))))) .nil)))))⟩
theorem ok__law_written (T : Txt K mg) (TB : ∀ p ∈ cs K, LamX.TabB base mg p.1 p.2) : FnG ⟨none, none, TT K⟩ P w K mg base 1 (He.ga K "_law_written") (fdAt K (He.ga K "_law_written")) ["_law_dot_here"] m__law_written :=
  FnG.of T.d__law_written.F sc__law_written fun cd A outer s H E hcd hr hg tk po => (js_cons (s_setLc (j := 1) rfl sc__law_written.nd rfl rfl (sw_true rfl rfl rfl (by decide +kernel)) (i_any (j_var 0)) (by show blkC ["_law_dot_here", "_law_words", "_law_one"] (defScope s__law_written) _ _ = true; decide +kernel) (fun _ _ _ _ _ => pg_name (i := 2) sc__law_written.nd rfl (Or.inl rfl)) (fun _ _ _ _ _ => jts_nil) (fun _ _ _ _ _ => (j_if (jt_cmp (op_eqA hr.units) eq_i (j_ix ix_seq ix_i (j_var 2) j_int) j_int (nomark _)) (j_callTy call_strD (str_i _) (by rfl) T.z_str (by first | rfl | decide +kernel) (jl_cons (j_ix ix_seq ix_i (j_var 2) j_int) jl_nil)) (j_op op_addD add_i (j_op op_addD add_i (j_callTy call_strD (str_i _) (by rfl) T.z_str (by first | rfl | decide +kernel) (jl_cons (j_ix ix_seq ix_i (j_var 2) j_int) jl_nil)) j_str) (j_callTy call_strD (str_i _) (by rfl) T.z_str (by first | rfl | decide +kernel) (jl_cons (j_ix ix_seq ix_i (j_var 2) j_int) jl_nil)))))) (js_one (s_ret (j_join j_str (j_var 1) fun _ _ h1 h2 => pe_join h1 h2))))
theorem ok__law_number (T : Txt K mg) (TB : ∀ p ∈ cs K, LamX.TabB base mg p.1 p.2) : FnG ⟨none, none, TT K⟩ P w K mg base 1 (He.ga K "_law_number") (fdAt K (He.ga K "_law_number")) ["_law_word"] m__law_number :=
  FnG.of T.d__law_number.F sc__law_number fun cd A outer s H E hcd hr hg tk po => (js_cons (s_if (jt_w (jw_or (jt_cmp (op_eqA hr.units) eq_i (j_var 0) j_str (nomark _)) (jw_or (jt_not (jt_tru (j_callB (cr_all rfl) all_i (by rfl) T.z_all (by first | rfl | decide +kernel) (jl_cons (j_lc rfl sc__law_number.nd (i_any (j_var 0)) (by show blkC ["_law_word", "_law_sign"] (defScope s__law_number) _ _ = true; decide +kernel) (fun _ _ _ _ _ => pg_name (i := 1) sc__law_number.nd rfl (Or.inl rfl)) (fun _ _ _ _ _ => jts_nil) (fun _ _ _ _ _ => (j_cmp (op_inP hr.units) in_i (j_var 1) j_str (by rfl)))) jl_nil)))) (jw_or1 (jt_w (jw_and (jt_cmp (op_eqA hr.units) eq_i (j_ix ix_seq ix_i (j_var 0) j_int) j_str (nomark _)) (jw_and1 (jt_cmp (op_neA hr.units) ne_i (j_var 0) j_str (nomark _))))))))) (js_one (s_ret j_non)) js_nil) (js_one (s_ret (j_callTy call_intS intS_i (by rfl) T.z_int (by first | rfl | decide +kernel) (jl_cons (j_var 0) jl_nil)))))
theorem ok__law_half (T : Txt K mg) (TB : ∀ p ∈ cs K, LamX.TabB base mg p.1 p.2) : FnG ⟨none, none, TT K⟩ P w K mg base 2 (He.ga K "_law_half") (fdAt K (He.ga K "_law_half")) ["_law_word"] m__law_half :=
  FnG.of T.d__law_half.F sc__law_half fun cd A outer s H E hcd hr hg tk po => (js_cons (s_setLc (j := 1) rfl sc__law_half.nd rfl rfl (sw_true rfl rfl rfl (by decide +kernel)) (i_any (j_split (j_var 0) j_str)) (by show blkC ["_law_word", "_law_numbers", "_law_piece", "_law_found"] (defScope s__law_half) _ _ = true; decide +kernel) (fun _ _ _ _ _ => pg_name (i := 2) sc__law_half.nd rfl (Or.inl rfl)) (fun _ _ _ _ _ => jts_nil) (fun _ _ _ _ _ => (j_callP (m := m__law_number) (ok__law_number T TB) (hr.mono (by decide)) hg takes_W0 (by rfl) T.d__law_number.g T.d__law_number.F.kp (pb__law_number T) (jl_cons (j_var 2) jl_nil) (lenS len0)))) (js_cons (s_if (jt_w (jw_or (jt_cmp (op_eqA hr.units) eq_i (j_var 1) (j_lst (jl_cons j_int jl_nil)) (nomark _)) (jw_or1 (jt_cmp (op_eqA hr.units) eq_i (j_var 1) (j_lst (jl_cons j_int jl_nil)) (nomark _))))) (js_one (s_ret (j_tup (jl_cons (j_ix ix_seq ix_i (j_var 1) j_int) (jl_cons j_int jl_nil))))) js_nil) (js_cons (s_if (jt_w (jw_or (jt_cmp (op_neA hr.units) ne_i (j_callB call_len len_i (by rfl) T.z_len (by first | rfl | decide +kernel) (jl_cons (j_var 1) jl_nil)) j_int (nomark _)) (jw_or (jt_cmp (op_inP hr.units) in_i j_non (j_var 1) (by rfl)) (jw_or1 (jt_not (jt_chain op_lt cmp_i op_lt cmp_i j_int (j_ix ix_seq ix_i (j_var 1) j_int) (j_ix ix_seq ix_i (j_var 1) j_int))))))) (js_one (s_ret j_non)) js_nil) (js_cons (s_set (i := 3) sc__law_half.nd (j_callP (m := m__law_low) (ok__law_low T TB) (hr.mono (by decide)) hg tk (by rfl) T.d__law_low.g T.d__law_low.F.kp (pb__law_low T) (jl_cons (j_ix ix_seq ix_i (j_var 1) j_int) (jl_cons (j_ix ix_seq ix_i (j_var 1) j_int) jl_nil)) (lenS (lenS len0)))) (js_one (s_ret (j_if (jt_cmp (op_eqA hr.units) eq_i (j_var 3) (j_tup (jl_cons (j_ix ix_seq ix_i (j_var 1) j_int) (jl_cons (j_ix ix_seq ix_i (j_var 1) j_int) jl_nil))) (nomark _)) (j_var 3) j_non)))))))
theorem ok__law_reading (T : Txt K mg) (TB : ∀ p ∈ cs K, LamX.TabB base mg p.1 p.2) : FnG ⟨none, none, TT K⟩ P w K mg base 3 (He.ga K "_law_reading") (fdAt K (He.ga K "_law_reading")) ["_law_writing"] m__law_reading :=
  FnG.of T.d__law_reading.F sc__law_reading fun cd A outer s H E hcd hr hg tk po => (js_cons (s_setLc (j := 1) rfl sc__law_reading.nd rfl rfl (sw_true rfl rfl rfl (by decide +kernel)) (i_any (j_split (j_var 0) j_str)) (by show blkC ["_law_writing", "_law_halves", "_law_word"] (defScope s__law_reading) _ _ = true; decide +kernel) (fun _ _ _ _ _ => pg_name (i := 2) sc__law_reading.nd rfl (Or.inl rfl)) (fun _ _ _ _ _ => jts_nil) (fun _ _ _ _ _ => (j_callP (m := m__law_half) (ok__law_half T TB) (hr.mono (by decide)) hg takes_W0 (by rfl) T.d__law_half.g T.d__law_half.F.kp (pb__law_half T) (jl_cons (j_var 2) jl_nil) (lenS len0)))) (js_cons (s_if (jt_w (jw_or (jt_cmp (op_neA hr.units) ne_i (j_callB call_len len_i (by rfl) T.z_len (by first | rfl | decide +kernel) (jl_cons (j_var 1) jl_nil)) j_int (nomark _)) (jw_or (jt_cmp (op_inP hr.units) in_i j_non (j_var 1) (by rfl)) (jw_or1 (jt_cmp op_gt cmp_i (j_op op_mulD mul_i (j_ix ix_seq ix_i (j_ix ix_seq ix_i (j_var 1) j_int) j_int) (j_ix ix_seq ix_i (j_ix ix_seq ix_i (j_var 1) j_int) j_int)) (j_op op_mulD mul_i (j_ix ix_seq ix_i (j_ix ix_seq ix_i (j_var 1) j_int) j_int) (j_ix ix_seq ix_i (j_ix ix_seq ix_i (j_var 1) j_int) j_int)) (nomark _)))))) (js_one (s_ret j_non)) js_nil) (js_one (s_ret (j_tup (jl_cons (j_ix ix_seq ix_i (j_var 1) j_int) (jl_cons (j_ix ix_seq ix_i (j_var 1) j_int) jl_nil)))))))
theorem ok__law_bent (T : Txt K mg) (TB : ∀ p ∈ cs K, LamX.TabB base mg p.1 p.2) : FnG ⟨none, none, TT K⟩ P w K mg base 2 (He.ga K "_law_bent") (fdAt K (He.ga K "_law_bent")) ["_law_seed_here", "_law_writing"] m__law_bent :=
  FnG.of T.d__law_bent.F sc__law_bent fun cd A outer s H E hcd hr hg tk po => (js_cons (s_set (i := 2) sc__law_bent.nd j_str) (js_cons (s_par rfl sc__law_bent.nd (jl_cons (j_callP (m := m__law_draw) (ok__law_draw T TB) (hr.mono (by decide)) hg tk (by rfl) T.d__law_draw.g T.d__law_draw.F.kp (pb__law_draw T) (jl_cons (j_var 0) (jl_cons (j_op op_addD add_i (j_callB call_len len_i (by rfl) T.z_len (by first | rfl | decide +kernel) (jl_cons (j_var 1) jl_nil)) j_int) jl_nil)) (lenS (lenS len0))) (jl_cons (j_ix ix_seq ix_i (j_var 2) (j_callP (m := m__law_draw) (ok__law_draw T TB) (hr.mono (by decide)) hg tk (by rfl) T.d__law_draw.g T.d__law_draw.F.kp (pb__law_draw T) (jl_cons (j_var 0) (jl_cons (j_callB call_len len_i (by rfl) T.z_len (by first | rfl | decide +kernel) (jl_cons (j_var 2) jl_nil)) jl_nil)) (lenS (lenS len0)))) jl_nil)) fun _ h => ps_par (i := 3) (j := 4) rfl sc__law_bent.nd rfl rfl (by decide) rfl rfl h (by rfl)) (js_cons (s_asg (j_split (j_var 1) j_str) (g_lst (n := 2) (gs_cons (g_name (i := 5) sc__law_bent.nd) (gs_cons (g_name (i := 6) sc__law_bent.nd) gs_nil)) fun _ h => pg_lst rfl h)) (js_cons (s_set (i := 7) sc__law_bent.nd (j_lst (jl_cons (j_op op_addD add_i (j_op op_addD add_i (j_slice (j_var 1) jo_none (jo_some (j_var 3))) (j_var 4)) (j_slice (j_var 1) (jo_some (j_var 3)) jo_none)) (jl_cons (j_op op_addD add_i (j_op op_addD add_i (j_slice (j_var 1) jo_none (jo_some (j_var 3))) (j_var 4)) (j_slice (j_var 1) (jo_some (j_op op_addD add_i (j_var 3) j_int)) jo_none)) (jl_cons (j_op op_addD add_i (j_op op_addD add_i (j_var 6) j_str) (j_var 5)) (jl_cons (j_var 5) (jl_cons (j_var 6) jl_nil))))))) (js_cons (s_set (i := 7) sc__law_bent.nd (j_op op_addD add_i (j_var 7) (j_lst (jl_cons (j_op op_addD add_i (j_slice (j_var 1) jo_none (jo_some (j_var 3))) (j_slice (j_var 1) (jo_some (j_op op_addD add_i (j_var 3) j_int)) jo_none)) (jl_cons (j_op op_addD add_i (j_var 5) j_str) (jl_cons (j_op op_addD add_i j_str (j_var 6)) (jl_cons (j_op op_addD add_i (j_op op_addD add_i (j_var 1) j_str) (j_var 6)) (jl_cons (j_op op_addD add_i (j_op op_addD add_i (j_var 5) j_str) (j_var 6)) jl_nil)))))))) (js_cons (s_set (i := 7) sc__law_bent.nd (j_op op_addD add_i (j_var 7) (j_lst (jl_cons (j_op op_addD add_i (j_op op_addD add_i (j_var 5) j_str) (j_var 6)) (jl_cons (j_op op_addD add_i j_str (j_var 1)) (jl_cons (j_op op_addD add_i j_str (j_var 1)) (jl_cons (j_op op_addD add_i (j_op op_addD add_i (j_var 5) j_str) (j_var 6)) (jl_cons (j_op op_addD add_i (j_op op_addD add_i (j_var 5) j_str) (j_var 6)) (jl_cons j_str jl_nil))))))))) (js_cons (s_set (i := 7) sc__law_bent.nd (j_op op_addD add_i (j_var 7) (j_lst (jl_cons j_str (jl_cons j_str (jl_cons j_str (jl_cons j_str (jl_cons j_str (jl_cons j_str (jl_cons j_str (jl_cons j_str (jl_cons j_str (jl_cons j_str (jl_cons j_str (jl_cons j_str (jl_cons j_str jl_nil)))))))))))))))) (js_one (s_ret (j_ix ix_seq ix_i (j_op op_addD add_i (j_var 7) (j_lst (jl_cons j_str (jl_cons j_str (jl_cons j_str (jl_cons j_str (jl_cons j_str (jl_cons (j_op op_addD add_i (j_op op_addD add_i (j_var 5) j_str) (j_var 6)) (jl_cons (j_op op_addD add_i (j_var 5) (j_var 6)) jl_nil))))))))) (j_callP (m := m__law_draw) (ok__law_draw T TB) (hr.mono (by decide)) hg tk (by rfl) T.d__law_draw.g T.d__law_draw.F.kp (pb__law_draw T) (jl_cons (j_var 0) (jl_cons j_int jl_nil)) (lenS (lenS len0)))))))))))))
theorem ok__law_text_right (T : Txt K mg) (TB : ∀ p ∈ cs K, LamX.TabB base mg p.1 p.2) : FnG ⟨none, none, TT K⟩ P w K mg base 10 (He.ga K "_law_text_right") (fdAt K (He.ga K "_law_text_right")) ["_law_writing"] m__law_text_right :=
  FnG.of T.d__law_text_right.F sc__law_text_right fun cd A outer s H E hcd hr hg tk po => (js_cons (s_set (i := 1) sc__law_text_right.nd (j_if (jt_not (jt_tru (j_callB call_isiD isi_i (by rfl) T.z_isinstance (by first | rfl | decide +kernel) (jl_cons (j_var 0) (jl_cons (j_ty (by rfl) T.z_str (by first | rfl | decide +kernel)) jl_nil))))) j_non (j_callP (m := m__law_reading) (ok__law_reading T TB) (hr.mono (by decide)) hg tk (by rfl) T.d__law_reading.g T.d__law_reading.F.kp (pb__law_reading T) (jl_cons (j_var 0) jl_nil) (lenS len0)))) (js_cons (s_set (i := 1) sc__law_text_right.nd (j_if (jt_cmp op_isN isN_i (j_var 1) j_non (nomark _)) (j_lst (jl_cons j_str (jl_cons (j_callB (call_reprD hg hr.units) (repr_i _) (by rfl) T.z_repr (by first | rfl | decide +kernel) (jl_cons (j_var 0) jl_nil)) jl_nil))) (j_lst (jl_cons j_str (jl_cons (j_callB (call_reprD hg hr.units) (repr_i _) (by rfl) T.z_repr (by first | rfl | decide +kernel) (jl_cons (j_var 1) jl_nil)) jl_nil))))) (js_cons (s_for po rfl (i_rng1 (by rfl) T.z_range (jl_cons j_int jl_nil)) (g_name (i := 2) sc__law_text_right.nd) (js_one (s_if (jt_cmp (op_neA hr.units) ne_i (j_lam (k := 6) (okL__law_caught T) tk (by rfl) T.d__law_caught.g hg (hr.mono (by decide)) (bL__law_caught T) (TB (He.cT K ("_law_text_right", none)) (.head _)) hcd (.head _) (tab_hu T.nd (.head _)) (LamX.lamS_by (by show LamX.lamSB (defScope s__law_text_right) _ = true; decide +kernel)) rfl (fun _ _ _ _ _ => rfl) (fun A outer s H E f c hr hg tk => (j_callP (m := m_read_pixel) (ok_read_pixel T TB) (hr.mono (by decide)) hg tk (by rfl) T.d_read_pixel.g T.d_read_pixel.F.kp (pb_read_pixel T) (jl_cons (j_var 0) jl_nil) (lenS len0)))) (j_var 1) (nomark _)) (js_one (s_ret j_bl)) js_nil))) (js_one (s_ret (j_cmp (op_eqA hr.units) eq_i (j_lam (k := 6) (okL__law_caught T) tk (by rfl) T.d__law_caught.g hg (hr.mono (by decide)) (bL__law_caught T) (TB (He.cT K ("_law_text_right", none)) (.head _)) hcd (.head _) (tab_hu T.nd (.head _)) (LamX.lamS_by (by show LamX.lamSB (defScope s__law_text_right) _ = true; decide +kernel)) rfl (fun _ _ _ _ _ => rfl) (fun A outer s H E f c hr hg tk => (j_callK0 (m := m_read_pixel) (gD := gD_read_pixel_0_text) (ok_read_pixel T TB) (hr.mono (by decide)) hg tk (by rfl) T.d_read_pixel.g T.d_read_pixel.F.kp (kb_read_pixel_0_text T) (jk_cons (j_var 0) jk_nil) (lenS len0)))) (j_var 1) (nomark _)))))))
theorem ok__law_odd_right (T : Txt K mg) (TB : ∀ p ∈ cs K, LamX.TabB base mg p.1 p.2) : FnG ⟨none, none, TT K⟩ P w K mg base 10 (He.ga K "_law_odd_right") (fdAt K (He.ga K "_law_odd_right")) ["_law_dot_here"] m__law_odd_right :=
  FnG.of T.d__law_odd_right.F sc__law_odd_right fun cd A outer s H E hcd hr hg tk po => (js_cons (s_asg (j_var 0) (g_tup (n := 2) rfl (gs_cons (g_name (i := 1) sc__law_odd_right.nd) (gs_cons (g_name (i := 2) sc__law_odd_right.nd) gs_nil)))) (js_cons (s_set (i := 3) sc__law_odd_right.nd (j_tup (jl_cons (j_op op_mulD mul_i j_int (j_ix ix_seq ix_i (j_var 2) j_int)) (jl_cons (j_op op_mulD mul_i j_int (j_ix ix_seq ix_i (j_var 2) j_int)) jl_nil)))) (js_cons (s_set (i := 4) sc__law_odd_right.nd (j_lst (jl_cons j_non (jl_cons j_bl (jl_cons j_int (jl_cons j_str (jl_cons (j_tup jl_nil) (jl_cons (j_lst jl_nil) (jl_cons j_dct0 (jl_cons (j_callTy call_list_of list_i (by rfl) T.z_list (by first | rfl | decide +kernel) (jl_cons (j_var 0) jl_nil)) (jl_cons (j_slice (j_var 0) jo_none (jo_some j_int)) (jl_cons (j_op op_addD add_i (j_var 0) (j_tup (jl_cons (j_var 2) jl_nil))) (jl_cons (j_tup (jl_cons (j_var 0) jl_nil)) (jl_cons (j_tup (jl_cons (j_var 1) (jl_cons (j_var 3) jl_nil))) (jl_cons (j_tup (jl_cons j_non (jl_cons (j_var 2) jl_nil))) jl_nil))))))))))))))) (js_cons (s_set (i := 4) sc__law_odd_right.nd (j_op op_addD add_i (j_var 4) (j_lst (jl_cons (j_tup (jl_cons (j_var 1) (jl_cons (j_callTy call_list_of list_i (by rfl) T.z_list (by first | rfl | decide +kernel) (jl_cons (j_var 2) jl_nil)) jl_nil))) (jl_cons (j_tup (jl_cons (j_var 1) (jl_cons j_bl jl_nil))) (jl_cons (j_tup (jl_cons (j_tup (jl_cons j_bl (jl_cons j_int jl_nil))) (jl_cons (j_tup (jl_cons j_int (jl_cons j_int jl_nil))) jl_nil))) (jl_cons (j_tup (jl_cons (j_tup (jl_cons j_int (jl_cons j_int jl_nil))) (jl_cons (j_tup (jl_cons j_int (jl_cons j_bl jl_nil))) jl_nil))) (jl_cons (j_tup (jl_cons (j_lst jl_nil) (jl_cons (j_lst jl_nil) jl_nil))) jl_nil)))))))) (js_cons (s_set (i := 4) sc__law_odd_right.nd (j_op op_addD add_i (j_var 4) (j_lst (jl_cons (j_tup (jl_cons (j_tup (jl_cons j_int (jl_cons j_int jl_nil))) (jl_cons (j_tup (jl_cons j_int (jl_cons j_int jl_nil))) jl_nil))) (jl_cons (j_tup (jl_cons (j_tup (jl_cons j_int (jl_cons j_int jl_nil))) (jl_cons (j_tup (jl_cons j_int (jl_cons j_int jl_nil))) jl_nil))) (jl_cons (j_tup (jl_cons (j_tup (jl_cons (j_un un_neg neg_i j_int) (jl_cons j_int jl_nil))) (jl_cons (j_var 2) jl_nil))) (jl_cons (j_tup (jl_cons (j_tup (jl_cons j_int (jl_cons j_int jl_nil))) (jl_cons (j_tup (jl_cons j_int (jl_cons j_int jl_nil))) jl_nil))) (jl_cons (j_tup (jl_cons (j_tup (jl_cons j_int (jl_cons j_int jl_nil))) (jl_cons (j_tup (jl_cons j_int (jl_cons j_int jl_nil))) jl_nil))) jl_nil)))))))) (js_cons (s_for po rfl (i_any (j_op op_addD add_i (j_var 4) (j_lst (jl_cons (j_tup (jl_cons (j_tup (jl_cons j_int (jl_cons j_int jl_nil))) (jl_cons (j_tup (jl_cons j_int (jl_cons j_int jl_nil))) jl_nil))) (jl_cons (j_tup (jl_cons (j_tup (jl_cons j_int (jl_cons j_int jl_nil))) (jl_cons (j_tup (jl_cons j_int (jl_cons j_int jl_nil))) jl_nil))) (jl_cons (j_tup (jl_cons (j_tup (jl_cons j_int (jl_cons j_int jl_nil))) (jl_cons (j_tup (jl_cons (j_un un_neg neg_i j_int) (jl_cons (j_un un_neg neg_i j_int) jl_nil))) jl_nil))) jl_nil)))))) (g_name (i := 5) sc__law_odd_right.nd) (js_cons (s_set (i := 6) sc__law_odd_right.nd (j_lst (jl_cons j_str (jl_cons (j_callB (call_reprD hg hr.units) (repr_i _) (by rfl) T.z_repr (by first | rfl | decide +kernel) (jl_cons (j_var 5) jl_nil)) jl_nil)))) (js_cons (s_if (jt_cmp (op_neA hr.units) ne_i (j_lam (k := 6) (okL__law_caught T) tk (by rfl) T.d__law_caught.g hg (hr.mono (by decide)) (bL__law_caught T) (TB (He.cT K ("_law_odd_right", none)) (.tail _ (.head _))) hcd (.tail _ (.head _)) (tab_hu T.nd (.tail _ (.head _))) (LamX.lamS_by (by show LamX.lamSB (defScope s__law_odd_right) _ = true; decide +kernel)) rfl (fun _ _ _ _ _ => rfl) (fun A outer s H E f c hr hg tk => (j_callP (m := m_pixel_text) (ok_pixel_text T TB) (hr.mono (by decide)) hg tk (by rfl) T.d_pixel_text.g T.d_pixel_text.F.kp (pb_pixel_text T) (jl_cons (j_var 5) jl_nil) (lenS len0)))) (j_var 6) (nomark _)) (js_one (s_ret j_bl)) js_nil) (js_one (s_if (jt_cmp (op_neA hr.units) ne_i (j_lam (k := 6) (okL__law_caught T) tk (by rfl) T.d__law_caught.g hg (hr.mono (by decide)) (bL__law_caught T) (TB (He.cT K ("_law_odd_right", none)) (.tail _ (.head _))) hcd (.tail _ (.head _)) (tab_hu T.nd (.tail _ (.head _))) (LamX.lamS_by (by show LamX.lamSB (defScope s__law_odd_right) _ = true; decide +kernel)) rfl (fun _ _ _ _ _ => rfl) (fun A outer s H E f c hr hg tk => (j_callK0 (m := m_pixel_text) (gD := gD_pixel_text_0_pixel) (ok_pixel_text T TB) (hr.mono (by decide)) hg tk (by rfl) T.d_pixel_text.g T.d_pixel_text.F.kp (kb_pixel_text_0_pixel T) (jk_cons (j_var 5) jk_nil) (lenS len0)))) (j_var 6) (nomark _)) (js_one (s_ret j_bl)) js_nil))))) (js_one (s_ret j_bl))))))))
theorem ok_law (T : Txt K mg) (TB : ∀ p ∈ cs K, LamX.TabB base mg p.1 p.2) : FnG ⟨none, none, TT K⟩ P w K mg base 11 (He.ga K "law") (fdAt K (He.ga K "law")) ["_law_script"] m_law :=
  FnG.of T.d_law.F sc_law fun cd A outer s H E hcd hr hg tk po => (js_cons (s_for po rfl (i_rng1 (by rfl) T.z_range (jl_cons (j_callB (call_max2 rfl) max2_i (by rfl) T.z_max (by first | rfl | decide +kernel) (jl_cons j_int (jl_cons (j_callB (call_min2 rfl) min2_i (by rfl) T.z_min (by first | rfl | decide +kernel) (jl_cons (j_callB call_len len_i (by rfl) T.z_len (by first | rfl | decide +kernel) (jl_cons (j_var 0) jl_nil)) (jl_cons j_int jl_nil))) jl_nil))) jl_nil)) (g_name (i := 1) sc_law.nd) (js_cons (s_set (i := 2) sc_law.nd (j_callP (m := m__law_seed) (ok__law_seed T TB) (hr.mono (by decide)) hg tk (by rfl) T.d__law_seed.g T.d__law_seed.F.kp (pb__law_seed T) (jl_cons (j_var 0) (jl_cons (j_var 1) jl_nil)) (lenS (lenS len0)))) (js_one (s_for po rfl (i_rng1 (by rfl) T.z_range (jl_cons j_int jl_nil)) (g_name (i := 3) sc_law.nd) (js_cons (s_set (i := 4) sc_law.nd (j_callP (m := m__law_dot) (ok__law_dot T TB) (hr.mono (by decide)) hg tk (by rfl) T.d__law_dot.g T.d__law_dot.F.kp (pb__law_dot T) (jl_cons (j_var 2) jl_nil) (lenS len0))) (js_cons (s_set (i := 5) sc_law.nd (j_callP (m := m__law_written) (ok__law_written T TB) (hr.mono (by decide)) hg tk (by rfl) T.d__law_written.g T.d__law_written.F.kp (pb__law_written T) (jl_cons (j_var 4) jl_nil) (lenS len0))) (js_cons (s_set (i := 6) sc_law.nd (j_lst (jl_cons j_str (jl_cons (j_callB (call_reprD hg hr.units) (repr_i _) (by rfl) T.z_repr (by first | rfl | decide +kernel) (jl_cons (j_var 5) jl_nil)) jl_nil)))) (js_cons (s_if (jt_cmp (op_neA hr.units) ne_i (j_lam (k := 6) (okL__law_caught T) tk (by rfl) T.d__law_caught.g hg (hr.mono (by decide)) (bL__law_caught T) (TB (He.cT K ("law", none)) (.tail _ (.tail _ (.head _)))) hcd (.tail _ (.tail _ (.head _))) (tab_hu T.nd (.tail _ (.tail _ (.head _)))) (LamX.lamS_by (by show LamX.lamSB (defScope s_law) _ = true; decide +kernel)) rfl (fun _ _ _ _ _ => rfl) (fun A outer s H E f c hr hg tk => (j_callP (m := m_pixel_text) (ok_pixel_text T TB) (hr.mono (by decide)) hg tk (by rfl) T.d_pixel_text.g T.d_pixel_text.F.kp (pb_pixel_text T) (jl_cons (j_var 4) jl_nil) (lenS len0)))) (j_var 6) (nomark _)) (js_one (s_ret j_bl)) js_nil) (js_cons (s_if (jt_cmp (op_neA hr.units) ne_i (j_lam (k := 6) (okL__law_caught T) tk (by rfl) T.d__law_caught.g hg (hr.mono (by decide)) (bL__law_caught T) (TB (He.cT K ("law", none)) (.tail _ (.tail _ (.head _)))) hcd (.tail _ (.tail _ (.head _))) (tab_hu T.nd (.tail _ (.tail _ (.head _)))) (LamX.lamS_by (by show LamX.lamSB (defScope s_law) _ = true; decide +kernel)) rfl (fun _ _ _ _ _ => rfl) (fun A outer s H E f c hr hg tk => (j_callK0 (m := m_pixel_text) (gD := gD_pixel_text_0_pixel) (ok_pixel_text T TB) (hr.mono (by decide)) hg tk (by rfl) T.d_pixel_text.g T.d_pixel_text.F.kp (kb_pixel_text_0_pixel T) (jk_cons (j_var 4) jk_nil) (lenS len0)))) (j_var 6) (nomark _)) (js_one (s_ret j_bl)) js_nil) (js_cons (s_set (i := 7) sc_law.nd (j_ix ix_seq ix_i (j_lst (jl_cons j_non (jl_cons j_bl (jl_cons j_int (jl_cons (j_var 4) (jl_cons (j_lst jl_nil) (jl_cons j_dct0 (jl_cons (j_tup (jl_cons (j_var 5) jl_nil)) (jl_cons (j_lst (jl_cons (j_var 5) jl_nil)) (jl_cons (j_tup (jl_cons (j_lst jl_nil) jl_nil)) jl_nil)))))))))) (j_callP (m := m__law_draw) (ok__law_draw T TB) (hr.mono (by decide)) hg tk (by rfl) T.d__law_draw.g T.d__law_draw.F.kp (pb__law_draw T) (jl_cons (j_var 2) (jl_cons j_int jl_nil)) (lenS (lenS len0))))) (js_cons (s_if (jt_w (jw_or (jt_not (jt_tru (j_callP (m := m__law_text_right) (ok__law_text_right T TB) (hr.mono (by decide)) hg tk (by rfl) T.d__law_text_right.g T.d__law_text_right.F.kp (pb__law_text_right T) (jl_cons (j_var 5) jl_nil) (lenS len0)))) (jw_or (jt_not (jt_tru (j_callP (m := m__law_text_right) (ok__law_text_right T TB) (hr.mono (by decide)) hg tk (by rfl) T.d__law_text_right.g T.d__law_text_right.F.kp (pb__law_text_right T) (jl_cons (j_var 7) jl_nil) (lenS len0)))) (jw_or1 (jt_not (jt_tru (j_callP (m := m__law_odd_right) (ok__law_odd_right T TB) (hr.mono (by decide)) hg tk (by rfl) T.d__law_odd_right.g T.d__law_odd_right.F.kp (pb__law_odd_right T) (jl_cons (j_var 4) jl_nil) (lenS len0)))))))) (js_one (s_ret j_bl)) js_nil) (js_one (s_for po rfl (i_rng1 (by rfl) T.z_range (jl_cons j_int jl_nil)) (g_name (i := 8) sc_law.nd) (js_one (s_if (jt_not (jt_tru (j_callP (m := m__law_text_right) (ok__law_text_right T TB) (hr.mono (by decide)) hg tk (by rfl) T.d__law_text_right.g T.d__law_text_right.F.kp (pb__law_text_right T) (jl_cons (j_callP (m := m__law_bent) (ok__law_bent T TB) (hr.mono (by decide)) hg tk (by rfl) T.d__law_bent.g T.d__law_bent.F.kp (pb__law_bent T) (jl_cons (j_var 2) (jl_cons (j_var 5) jl_nil)) (lenS (lenS len0))) jl_nil) (lenS len0)))) (js_one (s_ret j_bl)) js_nil))))))))))))))) (js_one (s_ret j_bl)))
end
/-! ### the head -/
theorem txt {K : PySem.W.Frag} {h : Heap} {mg : Str → Option Value} (X : K.In h) (G : h.Ns mainGlobals mg) (c : He.SaysD fa fn K) (m : ex K = true) : Txt K mg := by
  have g_Busy := He.glo_ok X G (c.fact 29 (f := .glo "Busy") rfl)
  have g_Closed := He.glo_ok X G (c.fact 30 (f := .glo "Closed") rfl)
  have g_InputError := He.glo_ok X G (c.fact 31 (f := .glo "InputError") rfl)
  have g_InvalidForm := He.glo_ok X G (c.fact 32 (f := .glo "InvalidForm") rfl)
  have g_InvalidKind := He.glo_ok X G (c.fact 33 (f := .glo "InvalidKind") rfl)
  have g_InvalidKinds := He.glo_ok X G (c.fact 34 (f := .glo "InvalidKinds") rfl)
  have g_InvalidLayers := He.glo_ok X G (c.fact 35 (f := .glo "InvalidLayers") rfl)
  have g_InvalidLine := He.glo_ok X G (c.fact 36 (f := .glo "InvalidLine") rfl)
  have g_InvalidMode := He.glo_ok X G (c.fact 37 (f := .glo "InvalidMode") rfl)
  have g_InvalidName := He.glo_ok X G (c.fact 38 (f := .glo "InvalidName") rfl)
  have g_InvalidNumber := He.glo_ok X G (c.fact 39 (f := .glo "InvalidNumber") rfl)
  have g_InvalidOption := He.glo_ok X G (c.fact 40 (f := .glo "InvalidOption") rfl)
  have g_InvalidPath := He.glo_ok X G (c.fact 41 (f := .glo "InvalidPath") rfl)
  have g_InvalidPixel := He.glo_ok X G (c.fact 42 (f := .glo "InvalidPixel") rfl)
  have g_InvalidRows := He.glo_ok X G (c.fact 43 (f := .glo "InvalidRows") rfl)
  have g_InvalidShare := He.glo_ok X G (c.fact 44 (f := .glo "InvalidShare") rfl)
  have g_InvalidSpot := He.glo_ok X G (c.fact 45 (f := .glo "InvalidSpot") rfl)
  have g_InvalidSpots := He.glo_ok X G (c.fact 46 (f := .glo "InvalidSpots") rfl)
  have g_InvalidStrokes := He.glo_ok X G (c.fact 47 (f := .glo "InvalidStrokes") rfl)
  have g_InvalidTable := He.glo_ok X G (c.fact 48 (f := .glo "InvalidTable") rfl)
  have g_InvalidText := He.glo_ok X G (c.fact 49 (f := .glo "InvalidText") rfl)
  have g_InvalidTree := He.glo_ok X G (c.fact 50 (f := .glo "InvalidTree") rfl)
  have g_InvalidTrees := He.glo_ok X G (c.fact 51 (f := .glo "InvalidTrees") rfl)
  have g_LimitError := He.glo_ok X G (c.fact 52 (f := .glo "LimitError") rfl)
  have g_MissingSpot := He.glo_ok X G (c.fact 53 (f := .glo "MissingSpot") rfl)
  have g_NotALayer := He.glo_ok X G (c.fact 54 (f := .glo "NotALayer") rfl)
  have g_NotAPicture := He.glo_ok X G (c.fact 55 (f := .glo "NotAPicture") rfl)
  have g_NotAStack := He.glo_ok X G (c.fact 56 (f := .glo "NotAStack") rfl)
  have g_NothingToUndo := He.glo_ok X G (c.fact 57 (f := .glo "NothingToUndo") rfl)
  have g_StateError := He.glo_ok X G (c.fact 58 (f := .glo "StateError") rfl)
  have g_TooMany := He.glo_ok X G (c.fact 59 (f := .glo "TooMany") rfl)
  have g_UnknownPicture := He.glo_ok X G (c.fact 60 (f := .glo "UnknownPicture") rfl)
  have g_UsedOften := He.glo_ok X G (c.fact 61 (f := .glo "UsedOften") rfl)
  have g_WrongKind := He.glo_ok X G (c.fact 62 (f := .glo "WrongKind") rfl)
  have g_WrongSize := He.glo_ok X G (c.fact 63 (f := .glo "WrongSize") rfl)
  exact {
    d_is_integer := by obtain ⟨fd, F⟩ := c.def_ 0 (d := e_is_integer) rfl; exact ⟨fdAt_of F, He.glo_ok X G (c.fact 0 (f := .glo "is_integer") rfl)⟩
    d_common_divisor := by obtain ⟨fd, F⟩ := c.def_ 1 (d := e_common_divisor) rfl; exact ⟨fdAt_of F, He.glo_ok X G (c.fact 1 (f := .glo "common_divisor") rfl)⟩
    d_is_less := by obtain ⟨fd, F⟩ := c.def_ 2 (d := e_is_less) rfl; exact ⟨fdAt_of F, He.glo_ok X G (c.fact 2 (f := .glo "is_less") rfl)⟩
    d_is_ratio := by obtain ⟨fd, F⟩ := c.def_ 3 (d := e_is_ratio) rfl; exact ⟨fdAt_of F, He.glo_ok X G (c.fact 3 (f := .glo "is_ratio") rfl)⟩
    d_is_share := by obtain ⟨fd, F⟩ := c.def_ 4 (d := e_is_share) rfl; exact ⟨fdAt_of F, He.glo_ok X G (c.fact 4 (f := .glo "is_share") rfl)⟩
    d_ratio_text := by obtain ⟨fd, F⟩ := c.def_ 5 (d := e_ratio_text) rfl; exact ⟨fdAt_of F, He.glo_ok X G (c.fact 5 (f := .glo "ratio_text") rfl)⟩
    d_integer_in := by obtain ⟨fd, F⟩ := c.def_ 6 (d := e_integer_in) rfl; exact ⟨fdAt_of F, He.glo_ok X G (c.fact 6 (f := .glo "integer_in") rfl)⟩
    d_ratio_in := by obtain ⟨fd, F⟩ := c.def_ 7 (d := e_ratio_in) rfl; exact ⟨fdAt_of F, He.glo_ok X G (c.fact 7 (f := .glo "ratio_in") rfl)⟩
    d_is_pixel := by obtain ⟨fd, F⟩ := c.def_ 8 (d := e_is_pixel) rfl; exact ⟨fdAt_of F, He.glo_ok X G (c.fact 8 (f := .glo "is_pixel") rfl)⟩
    d_check_pixel := by obtain ⟨fd, F⟩ := c.def_ 9 (d := e_check_pixel) rfl; exact ⟨fdAt_of F, He.glo_ok X G (c.fact 9 (f := .glo "check_pixel") rfl)⟩
    d_pixel_text := by obtain ⟨fd, F⟩ := c.def_ 10 (d := e_pixel_text) rfl; exact ⟨fdAt_of F, He.glo_ok X G (c.fact 10 (f := .glo "pixel_text") rfl)⟩
    d_pixel_in := by obtain ⟨fd, F⟩ := c.def_ 11 (d := e_pixel_in) rfl; exact ⟨fdAt_of F, He.glo_ok X G (c.fact 11 (f := .glo "pixel_in") rfl)⟩
    d_read_pixel := by obtain ⟨fd, F⟩ := c.def_ 12 (d := e_read_pixel) rfl; exact ⟨fdAt_of F, He.glo_ok X G (c.fact 12 (f := .glo "read_pixel") rfl)⟩
    d__law_seed := by obtain ⟨fd, F⟩ := c.def_ 13 (d := e__law_seed) rfl; exact ⟨fdAt_of F, He.glo_ok X G (c.fact 13 (f := .glo "_law_seed") rfl)⟩
    d__law_draw := by obtain ⟨fd, F⟩ := c.def_ 14 (d := e__law_draw) rfl; exact ⟨fdAt_of F, He.glo_ok X G (c.fact 14 (f := .glo "_law_draw") rfl)⟩
    d__law_low := by obtain ⟨fd, F⟩ := c.def_ 15 (d := e__law_low) rfl; exact ⟨fdAt_of F, He.glo_ok X G (c.fact 15 (f := .glo "_law_low") rfl)⟩
    d__law_mul := by obtain ⟨fd, F⟩ := c.def_ 16 (d := e__law_mul) rfl; exact ⟨fdAt_of F, He.glo_ok X G (c.fact 16 (f := .glo "_law_mul") rfl)⟩
    d__law_part := by obtain ⟨fd, F⟩ := c.def_ 17 (d := e__law_part) rfl; exact ⟨fdAt_of F, He.glo_ok X G (c.fact 17 (f := .glo "_law_part") rfl)⟩
    d__law_dot := by obtain ⟨fd, F⟩ := c.def_ 18 (d := e__law_dot) rfl; exact ⟨fdAt_of F, He.glo_ok X G (c.fact 18 (f := .glo "_law_dot") rfl)⟩
    d__law_is_one := by obtain ⟨fd, F⟩ := c.def_ 19 (d := e__law_is_one) rfl; exact ⟨fdAt_of F, He.glo_ok X G (c.fact 19 (f := .glo "_law_is_one") rfl)⟩
    d__law_caught := by obtain ⟨fd, F⟩ := c.def_ 20 (d := e__law_caught) rfl; exact ⟨fdAt_of F, He.glo_ok X G (c.fact 20 (f := .glo "_law_caught") rfl)⟩
    d__law_written := by obtain ⟨fd, F⟩ := c.def_ 21 (d := e__law_written) rfl; exact ⟨fdAt_of F, He.glo_ok X G (c.fact 21 (f := .glo "_law_written") rfl)⟩
    d__law_number := by obtain ⟨fd, F⟩ := c.def_ 22 (d := e__law_number) rfl; exact ⟨fdAt_of F, He.glo_ok X G (c.fact 22 (f := .glo "_law_number") rfl)⟩
    d__law_half := by obtain ⟨fd, F⟩ := c.def_ 23 (d := e__law_half) rfl; exact ⟨fdAt_of F, He.glo_ok X G (c.fact 23 (f := .glo "_law_half") rfl)⟩
    d__law_reading := by obtain ⟨fd, F⟩ := c.def_ 24 (d := e__law_reading) rfl; exact ⟨fdAt_of F, He.glo_ok X G (c.fact 24 (f := .glo "_law_reading") rfl)⟩
    d__law_bent := by obtain ⟨fd, F⟩ := c.def_ 25 (d := e__law_bent) rfl; exact ⟨fdAt_of F, He.glo_ok X G (c.fact 25 (f := .glo "_law_bent") rfl)⟩
    d__law_text_right := by obtain ⟨fd, F⟩ := c.def_ 26 (d := e__law_text_right) rfl; exact ⟨fdAt_of F, He.glo_ok X G (c.fact 26 (f := .glo "_law_text_right") rfl)⟩
    d__law_odd_right := by obtain ⟨fd, F⟩ := c.def_ 27 (d := e__law_odd_right) rfl; exact ⟨fdAt_of F, He.glo_ok X G (c.fact 27 (f := .glo "_law_odd_right") rfl)⟩
    d_law := by obtain ⟨fd, F⟩ := c.def_ 28 (d := e_law) rfl; exact ⟨fdAt_of F, He.glo_ok X G (c.fact 28 (f := .glo "law") rfl)⟩
    z_ArithmeticError := He.free_ok X G (c.fact 64 (f := .free "ArithmeticError") rfl)
    z_LookupError := He.free_ok X G (c.fact 65 (f := .free "LookupError") rfl)
    z_ValueError := He.free_ok X G (c.fact 66 (f := .free "ValueError") rfl)
    z_abs := He.free_ok X G (c.fact 67 (f := .free "abs") rfl)
    z_all := He.free_ok X G (c.fact 68 (f := .free "all") rfl)
    z_bool := He.free_ok X G (c.fact 69 (f := .free "bool") rfl)
    z_int := He.free_ok X G (c.fact 70 (f := .free "int") rfl)
    z_isinstance := He.free_ok X G (c.fact 71 (f := .free "isinstance") rfl)
    z_len := He.free_ok X G (c.fact 72 (f := .free "len") rfl)
    z_list := He.free_ok X G (c.fact 73 (f := .free "list") rfl)
    z_max := He.free_ok X G (c.fact 74 (f := .free "max") rfl)
    z_min := He.free_ok X G (c.fact 75 (f := .free "min") rfl)
    z_range := He.free_ok X G (c.fact 76 (f := .free "range") rfl)
    z_repr := He.free_ok X G (c.fact 77 (f := .free "repr") rfl)
    z_str := He.free_ok X G (c.fact 78 (f := .free "str") rfl)
    z_tuple := He.free_ok X G (c.fact 79 (f := .free "tuple") rfl)
    g_Busy := g_Busy
    g_Closed := g_Closed
    g_InputError := g_InputError
    g_InvalidForm := g_InvalidForm
    g_InvalidKind := g_InvalidKind
    g_InvalidKinds := g_InvalidKinds
    g_InvalidLayers := g_InvalidLayers
    g_InvalidLine := g_InvalidLine
    g_InvalidMode := g_InvalidMode
    g_InvalidName := g_InvalidName
    g_InvalidNumber := g_InvalidNumber
    g_InvalidOption := g_InvalidOption
    g_InvalidPath := g_InvalidPath
    g_InvalidPixel := g_InvalidPixel
    g_InvalidRows := g_InvalidRows
    g_InvalidShare := g_InvalidShare
    g_InvalidSpot := g_InvalidSpot
    g_InvalidSpots := g_InvalidSpots
    g_InvalidStrokes := g_InvalidStrokes
    g_InvalidTable := g_InvalidTable
    g_InvalidText := g_InvalidText
    g_InvalidTree := g_InvalidTree
    g_InvalidTrees := g_InvalidTrees
    g_LimitError := g_LimitError
    g_MissingSpot := g_MissingSpot
    g_NotALayer := g_NotALayer
    g_NotAPicture := g_NotAPicture
    g_NotAStack := g_NotAStack
    g_NothingToUndo := g_NothingToUndo
    g_StateError := g_StateError
    g_TooMany := g_TooMany
    g_UnknownPicture := g_UnknownPicture
    g_UsedOften := g_UsedOften
    g_WrongKind := g_WrongKind
    g_WrongSize := g_WrongSize
    e_InvalidPixel := errB_ok (fx_at m (.head _))
    i_InvalidPixel := by obtain ⟨fd, F⟩ := c.def_ 29 (d := e_InvalidPixel) rfl; exact fdAt_of F
    e_InvalidShare := errB_ok (fx_at m (.tail _ (.head _)))
    i_InvalidShare := by obtain ⟨fd, F⟩ := c.def_ 30 (d := e_InvalidShare) rfl; exact fdAt_of F
    e_InvalidText := errB_ok (fx_at m (.tail _ (.tail _ (.head _))))
    i_InvalidText := by obtain ⟨fd, F⟩ := c.def_ 31 (d := e_InvalidText) rfl; exact fdAt_of F
    at_text := at_of (.cons g_InvalidPixel (.cons g_InvalidShare (.cons g_InvalidText .nil))) (fx_at m (.tail _ (.tail _ (.tail _ (.head _)))))
    at_value := at_of (.cons g_InvalidPixel (.cons g_InvalidShare (.cons g_InvalidText .nil))) (fx_at m (.tail _ (.tail _ (.tail _ (.tail _ (.head _))))))
    ct := ct_of (.cons g_InvalidPixel (.cons g_InvalidShare (.cons g_InvalidText .nil))) (.cons g_Busy (.cons g_Closed (.cons g_InputError (.cons g_InvalidForm (.cons g_InvalidKind (.cons g_InvalidKinds (.cons g_InvalidLayers (.cons g_InvalidLine (.cons g_InvalidMode (.cons g_InvalidName (.cons g_InvalidNumber (.cons g_InvalidOption (.cons g_InvalidPath (.cons g_InvalidPixel (.cons g_InvalidRows (.cons g_InvalidShare (.cons g_InvalidSpot (.cons g_InvalidSpots (.cons g_InvalidStrokes (.cons g_InvalidTable (.cons g_InvalidText (.cons g_InvalidTree (.cons g_InvalidTrees (.cons g_LimitError (.cons g_MissingSpot (.cons g_NotALayer (.cons g_NotAPicture (.cons g_NotAStack (.cons g_NothingToUndo (.cons g_StateError (.cons g_TooMany (.cons g_UnknownPicture (.cons g_UsedOften (.cons g_WrongKind (.cons g_WrongSize .nil))))))))))))))))))))))))))))))))))) (fx_at m (.tail _ (.tail _ (.tail _ (.tail _ (.tail _ (.head _)))))))
    mt_0 := mt_of3 (.cons g_InvalidPixel (.cons g_InvalidShare (.cons g_InvalidText .nil))) (fx_at m (.tail _ (.tail _ (.tail _ (.tail _ (.tail _ (.tail _ (.head _))))))))
    mt_1 := mt_of1 (.cons g_InvalidPixel (.cons g_InvalidShare (.cons g_InvalidText .nil))) (fx_at m (.tail _ (.tail _ (.tail _ (.tail _ (.tail _ (.tail _ (.tail _ (.head _)))))))))
    mt_2 := mt_of1 (.cons g_InvalidPixel (.cons g_InvalidShare (.cons g_InvalidText .nil))) (fx_at m (.tail _ (.tail _ (.tail _ (.tail _ (.tail _ (.tail _ (.tail _ (.tail _ (.head _))))))))))
    k_DIGITS := conB_ok X G (fx_at m (.tail _ (.tail _ (.tail _ (.tail _ (.tail _ (.tail _ (.tail _ (.tail _ (.tail _ (.head _)))))))))))
    k_LONGEST_INTEGER := conB_ok X G (fx_at m (.tail _ (.tail _ (.tail _ (.tail _ (.tail _ (.tail _ (.tail _ (.tail _ (.tail _ (.tail _ (.head _))))))))))))
    nd := of_decide_eq_true (fx_at m (.tail _ (.tail _ (.tail _ (.tail _ (.tail _ (.tail _ (.tail _ (.tail _ (.tail _ (.tail _ (.tail _ (.head _)))))))))))))
    ks := by have := fx_at m (.tail _ (.tail _ (.tail _ (.tail _ (.tail _ (.tail _ (.tail _ (.tail _ (.tail _ (.tail _ (.tail _ (.tail _ (.head _))))))))))))); simpa using this }
end Zk05

/-! law_k05: what the computations answer. -/
namespace Zk05
open PySem PySem.Spec PyProof.Rows L2 SE SX
mutual
/-- known by its kind, numbers that are not too large -/
def sm5 : D → Bool
  | .int i => decide (i.natAbs < 10 ^ 75)
  | .tup xs => sm5L xs
  | .non | .bl _ | .str _ | .lst _ | .ro _ | .dct _ => true
  | _ => false
def sm5L : List D → Bool
  | [] => true
  | d :: ds => sm5 d && sm5L ds
end
theorem sm5_pl {d : D} (h : sm5 d = true) : plD d = true := by
  cases d <;> first | rfl | cases h
theorem sm5_int {i : Int} (h : sm5 (.int i) = true) : i.natAbs < 10 ^ 75 := of_decide_eq_true h
theorem sm5_2 {x y : D} (h : sm5 (.tup [x, y]) = true) : sm5 x = true ∧ sm5 y = true := by
  have h2 : (sm5 x && (sm5 y && true)) = true := h
  obtain ⟨a, b⟩ := andB h2
  exact ⟨a, (andB b).1⟩
section
variable {μ : Mem}
theorem integer_v0 {d : D} (h : plD d = true) : m_is_integer [d, .non, .non] μ = .ok (.bl (isI d)) μ := by
  refine wr_eq.mp ?_
  unfold m_is_integer b_is_integer t_is_integer_0
  try simp only [wr_eVar, wr_eC, wr_e2, wr_e1, wr_eL, wr_eCall, wr_eCallK, wr_eLL, wr_eSeq, wr_lNil, wr_lCons, wr_bTru, wr_bOf, wr_bNot, wr_bAnd, wr_bOr, wr_isBl, wr_eAnd, wr_eOr, wr_eNot, wr_eIf, wr_e3c, wr_ok, wr_exc, ws_sNext, ws_sSeq, ws_sSet, ws_sDrop, ws_sRet, ws_sRetN, ws_sBrk, ws_sCnt, ws_sIf, ws_sAsg, ws_sPar, ws_sSub, ws_sForE, wr_callM, List.getElem?_cons_zero, List.getElem?_cons_succ, List.set_cons_zero, List.set_cons_succ, List.map_cons, List.map_nil, List.length_cons, List.length_nil, List.cons_append, List.nil_append, List.replicate, List.append_nil, addM_i, subM_i, negM_i, cmpM_i, eqM_i, eqM_s, neM_i, neM_s, absM_i, intM_i, intM_b, max2M_i, min2M_i, lenM_t, lenM_l, lenM_r, tupM_ap, lstM_ap, strM_s, truB_b, isBl_b, newM_ap, Nat.reduceLeDiff, seqL_l, seqT_t, isNM_n, isNM_i, if_true, if_false, Bool.false_eq_true, Bool.not_true, Bool.not_false, Nat.reduceSub, Nat.reduceAdd, Nat.zero_add, eq_self, and_self, and_true, true_and, gN]
  simp only [isi_int h, isi_bool h, wr_ok]
  try simp only [wr_eVar, wr_eC, wr_e2, wr_e1, wr_eL, wr_eCall, wr_eCallK, wr_eLL, wr_eSeq, wr_lNil, wr_lCons, wr_bTru, wr_bOf, wr_bNot, wr_bAnd, wr_bOr, wr_isBl, wr_eAnd, wr_eOr, wr_eNot, wr_eIf, wr_e3c, wr_ok, wr_exc, ws_sNext, ws_sSeq, ws_sSet, ws_sDrop, ws_sRet, ws_sRetN, ws_sBrk, ws_sCnt, ws_sIf, ws_sAsg, ws_sPar, ws_sSub, ws_sForE, wr_callM, List.getElem?_cons_zero, List.getElem?_cons_succ, List.set_cons_zero, List.set_cons_succ, List.map_cons, List.map_nil, List.length_cons, List.length_nil, List.cons_append, List.nil_append, List.replicate, List.append_nil, addM_i, subM_i, negM_i, cmpM_i, eqM_i, eqM_s, neM_i, neM_s, absM_i, intM_i, intM_b, max2M_i, min2M_i, lenM_t, lenM_l, lenM_r, tupM_ap, lstM_ap, strM_s, truB_b, isBl_b, newM_ap, Nat.reduceLeDiff, seqL_l, seqT_t, isNM_n, isNM_i, if_true, if_false, Bool.false_eq_true, Bool.not_true, Bool.not_false, Nat.reduceSub, Nat.reduceAdd, Nat.zero_add, eq_self, and_self, and_true, true_and, gN]
  cases d <;> simp [isI, isB]
theorem integer_v1 {d : D} (h : plD d = true) : m_is_integer [d, .int 1, .non] μ = .ok (.bl (match d with | .int i => decide (1 ≤ i) | _ => false)) μ := by
  refine wr_eq.mp ?_
  unfold m_is_integer b_is_integer t_is_integer_0
  try simp only [wr_eVar, wr_eC, wr_e2, wr_e1, wr_eL, wr_eCall, wr_eCallK, wr_eLL, wr_eSeq, wr_lNil, wr_lCons, wr_bTru, wr_bOf, wr_bNot, wr_bAnd, wr_bOr, wr_isBl, wr_eAnd, wr_eOr, wr_eNot, wr_eIf, wr_e3c, wr_ok, wr_exc, ws_sNext, ws_sSeq, ws_sSet, ws_sDrop, ws_sRet, ws_sRetN, ws_sBrk, ws_sCnt, ws_sIf, ws_sAsg, ws_sPar, ws_sSub, ws_sForE, wr_callM, List.getElem?_cons_zero, List.getElem?_cons_succ, List.set_cons_zero, List.set_cons_succ, List.map_cons, List.map_nil, List.length_cons, List.length_nil, List.cons_append, List.nil_append, List.replicate, List.append_nil, addM_i, subM_i, negM_i, cmpM_i, eqM_i, eqM_s, neM_i, neM_s, absM_i, intM_i, intM_b, max2M_i, min2M_i, lenM_t, lenM_l, lenM_r, tupM_ap, lstM_ap, strM_s, truB_b, isBl_b, newM_ap, Nat.reduceLeDiff, seqL_l, seqT_t, isNM_n, isNM_i, if_true, if_false, Bool.false_eq_true, Bool.not_true, Bool.not_false, Nat.reduceSub, Nat.reduceAdd, Nat.zero_add, eq_self, and_self, and_true, true_and, gN]
  simp only [isi_int h, isi_bool h, wr_ok]
  try simp only [wr_eVar, wr_eC, wr_e2, wr_e1, wr_eL, wr_eCall, wr_eCallK, wr_eLL, wr_eSeq, wr_lNil, wr_lCons, wr_bTru, wr_bOf, wr_bNot, wr_bAnd, wr_bOr, wr_isBl, wr_eAnd, wr_eOr, wr_eNot, wr_eIf, wr_e3c, wr_ok, wr_exc, ws_sNext, ws_sSeq, ws_sSet, ws_sDrop, ws_sRet, ws_sRetN, ws_sBrk, ws_sCnt, ws_sIf, ws_sAsg, ws_sPar, ws_sSub, ws_sForE, wr_callM, List.getElem?_cons_zero, List.getElem?_cons_succ, List.set_cons_zero, List.set_cons_succ, List.map_cons, List.map_nil, List.length_cons, List.length_nil, List.cons_append, List.nil_append, List.replicate, List.append_nil, addM_i, subM_i, negM_i, cmpM_i, eqM_i, eqM_s, neM_i, neM_s, absM_i, intM_i, intM_b, max2M_i, min2M_i, lenM_t, lenM_l, lenM_r, tupM_ap, lstM_ap, strM_s, truB_b, isBl_b, newM_ap, Nat.reduceLeDiff, seqL_l, seqT_t, isNM_n, isNM_i, if_true, if_false, Bool.false_eq_true, Bool.not_true, Bool.not_false, Nat.reduceSub, Nat.reduceAdd, Nat.zero_add, eq_self, and_self, and_true, true_and, gN]
  cases d with
  | int i =>
    try simp only [wr_eVar, wr_eC, wr_e2, wr_e1, wr_eL, wr_eCall, wr_eCallK, wr_eLL, wr_eSeq, wr_lNil, wr_lCons, wr_bTru, wr_bOf, wr_bNot, wr_bAnd, wr_bOr, wr_isBl, wr_eAnd, wr_eOr, wr_eNot, wr_eIf, wr_e3c, wr_ok, wr_exc, ws_sNext, ws_sSeq, ws_sSet, ws_sDrop, ws_sRet, ws_sRetN, ws_sBrk, ws_sCnt, ws_sIf, ws_sAsg, ws_sPar, ws_sSub, ws_sForE, wr_callM, List.getElem?_cons_zero, List.getElem?_cons_succ, List.set_cons_zero, List.set_cons_succ, List.map_cons, List.map_nil, List.length_cons, List.length_nil, List.cons_append, List.nil_append, List.replicate, List.append_nil, addM_i, subM_i, negM_i, cmpM_i, eqM_i, eqM_s, neM_i, neM_s, absM_i, intM_i, intM_b, max2M_i, min2M_i, lenM_t, lenM_l, lenM_r, tupM_ap, lstM_ap, strM_s, truB_b, isBl_b, newM_ap, Nat.reduceLeDiff, seqL_l, seqT_t, isNM_n, isNM_i, if_true, if_false, Bool.false_eq_true, Bool.not_true, Bool.not_false, Nat.reduceSub, Nat.reduceAdd, Nat.zero_add, eq_self, and_self, and_true, true_and, gN]
    simp only [isI, isB]
    by_cases z : 1 ≤ i
    · simp [z]
    · simp [z]
  | _ => simp [isI, isB]
theorem gcd_v {a b : Int} : m_common_divisor [.int a, .int b] μ = .ok (.int (Int.gcd a b)) μ := by
  refine wr_eq.mp ?_
  unfold m_common_divisor b_common_divisor t_common_divisor_1 t_common_divisor_0
  try simp only [wr_eVar, wr_eC, wr_e2, wr_e1, wr_eL, wr_eCall, wr_eCallK, wr_eLL, wr_eSeq, wr_lNil, wr_lCons, wr_bTru, wr_bOf, wr_bNot, wr_bAnd, wr_bOr, wr_isBl, wr_eAnd, wr_eOr, wr_eNot, wr_eIf, wr_e3c, wr_ok, wr_exc, ws_sNext, ws_sSeq, ws_sSet, ws_sDrop, ws_sRet, ws_sRetN, ws_sBrk, ws_sCnt, ws_sIf, ws_sAsg, ws_sPar, ws_sSub, ws_sForE, wr_callM, List.getElem?_cons_zero, List.getElem?_cons_succ, List.set_cons_zero, List.set_cons_succ, List.map_cons, List.map_nil, List.length_cons, List.length_nil, List.cons_append, List.nil_append, List.replicate, List.append_nil, addM_i, subM_i, negM_i, cmpM_i, eqM_i, eqM_s, neM_i, neM_s, absM_i, intM_i, intM_b, max2M_i, min2M_i, lenM_t, lenM_l, lenM_r, tupM_ap, lstM_ap, strM_s, truB_b, isBl_b, newM_ap, Nat.reduceLeDiff, seqL_l, seqT_t, isNM_n, isNM_i, if_true, if_false, Bool.false_eq_true, Bool.not_true, Bool.not_false, Nat.reduceSub, Nat.reduceAdd, Nat.zero_add, eq_self, and_self, and_true, true_and, gN]
  refine ws_while (fun ρ μ' => μ' = μ ∧ ∃ x y : Int, ρ = [some (.int x), some (.int y)] ∧ 0 ≤ x ∧ 0 ≤ y ∧ Int.gcd x y = Int.gcd a b) (fun ρ _ => match ρ with | [_, some (.int y)] => y.toNat | _ => 0) ?_ ?_
  · refine ⟨rfl, _, _, rfl, by split <;> omega, by split <;> omega, ?_⟩
    rw [abs_gcd, Int.gcd_comm, abs_gcd, Int.gcd_comm]
  · rintro ρ μ' ⟨rfl, x, y, rfl, hx, hy, hg⟩
    try simp only [wr_eVar, wr_eC, wr_e2, wr_e1, wr_eL, wr_eCall, wr_eCallK, wr_eLL, wr_eSeq, wr_lNil, wr_lCons, wr_bTru, wr_bOf, wr_bNot, wr_bAnd, wr_bOr, wr_isBl, wr_eAnd, wr_eOr, wr_eNot, wr_eIf, wr_e3c, wr_ok, wr_exc, ws_sNext, ws_sSeq, ws_sSet, ws_sDrop, ws_sRet, ws_sRetN, ws_sBrk, ws_sCnt, ws_sIf, ws_sAsg, ws_sPar, ws_sSub, ws_sForE, wr_callM, List.getElem?_cons_zero, List.getElem?_cons_succ, List.set_cons_zero, List.set_cons_succ, List.map_cons, List.map_nil, List.length_cons, List.length_nil, List.cons_append, List.nil_append, List.replicate, List.append_nil, addM_i, subM_i, negM_i, cmpM_i, eqM_i, eqM_s, neM_i, neM_s, absM_i, intM_i, intM_b, max2M_i, min2M_i, lenM_t, lenM_l, lenM_r, tupM_ap, lstM_ap, strM_s, truB_b, isBl_b, newM_ap, Nat.reduceLeDiff, seqL_l, seqT_t, isNM_n, isNM_i, if_true, if_false, Bool.false_eq_true, Bool.not_true, Bool.not_false, Nat.reduceSub, Nat.reduceAdd, Nat.zero_add, eq_self, and_self, and_true, true_and, gN]
    by_cases z : 0 < y
    · simp only [decide_eq_true z, if_true, modM_i z]
      try simp only [wr_eVar, wr_eC, wr_e2, wr_e1, wr_eL, wr_eCall, wr_eCallK, wr_eLL, wr_eSeq, wr_lNil, wr_lCons, wr_bTru, wr_bOf, wr_bNot, wr_bAnd, wr_bOr, wr_isBl, wr_eAnd, wr_eOr, wr_eNot, wr_eIf, wr_e3c, wr_ok, wr_exc, ws_sNext, ws_sSeq, ws_sSet, ws_sDrop, ws_sRet, ws_sRetN, ws_sBrk, ws_sCnt, ws_sIf, ws_sAsg, ws_sPar, ws_sSub, ws_sForE, wr_callM, List.getElem?_cons_zero, List.getElem?_cons_succ, List.set_cons_zero, List.set_cons_succ, List.map_cons, List.map_nil, List.length_cons, List.length_nil, List.cons_append, List.nil_append, List.replicate, List.append_nil, addM_i, subM_i, negM_i, cmpM_i, eqM_i, eqM_s, neM_i, neM_s, absM_i, intM_i, intM_b, max2M_i, min2M_i, lenM_t, lenM_l, lenM_r, tupM_ap, lstM_ap, strM_s, truB_b, isBl_b, newM_ap, Nat.reduceLeDiff, seqL_l, seqT_t, isNM_n, isNM_i, if_true, if_false, Bool.false_eq_true, Bool.not_true, Bool.not_false, Nat.reduceSub, Nat.reduceAdd, Nat.zero_add, eq_self, and_self, and_true, true_and, gN]
      refine ⟨⟨_, _, rfl, hy, Int.emod_nonneg _ (by omega), by rw [gcd_step z, hg]⟩, ?_⟩
      have := Int.emod_lt_of_pos x z
      have := Int.emod_nonneg x (show y ≠ 0 by omega)
      omega
    · simp only [decide_eq_false z, Bool.false_eq_true, if_false]
      try simp only [wr_eVar, wr_eC, wr_e2, wr_e1, wr_eL, wr_eCall, wr_eCallK, wr_eLL, wr_eSeq, wr_lNil, wr_lCons, wr_bTru, wr_bOf, wr_bNot, wr_bAnd, wr_bOr, wr_isBl, wr_eAnd, wr_eOr, wr_eNot, wr_eIf, wr_e3c, wr_ok, wr_exc, ws_sNext, ws_sSeq, ws_sSet, ws_sDrop, ws_sRet, ws_sRetN, ws_sBrk, ws_sCnt, ws_sIf, ws_sAsg, ws_sPar, ws_sSub, ws_sForE, wr_callM, List.getElem?_cons_zero, List.getElem?_cons_succ, List.set_cons_zero, List.set_cons_succ, List.map_cons, List.map_nil, List.length_cons, List.length_nil, List.cons_append, List.nil_append, List.replicate, List.append_nil, addM_i, subM_i, negM_i, cmpM_i, eqM_i, eqM_s, neM_i, neM_s, absM_i, intM_i, intM_b, max2M_i, min2M_i, lenM_t, lenM_l, lenM_r, tupM_ap, lstM_ap, strM_s, truB_b, isBl_b, newM_ap, Nat.reduceLeDiff, seqL_l, seqT_t, isNM_n, isNM_i, if_true, if_false, Bool.false_eq_true, Bool.not_true, Bool.not_false, Nat.reduceSub, Nat.reduceAdd, Nat.zero_add, eq_self, and_self, and_true, true_and, gN]
      have : y = 0 := by omega
      subst this
      rw [← hg, gcd_end hx]
theorem low_v {a b : Int} (hb : 1 ≤ b) (hb2 : b.natAbs < 2 ^ 8000) : m__law_low [.int a, .int b] μ = .ok (.tup [.int (a / Int.gcd a b), .int (b / Int.gcd a b)]) μ := by
  refine wr_eq.mp ?_
  unfold m__law_low b__law_low t__law_low_1 t__law_low_0
  try simp only [wr_eVar, wr_eC, wr_e2, wr_e1, wr_eL, wr_eCall, wr_eCallK, wr_eLL, wr_eSeq, wr_lNil, wr_lCons, wr_bTru, wr_bOf, wr_bNot, wr_bAnd, wr_bOr, wr_isBl, wr_eAnd, wr_eOr, wr_eNot, wr_eIf, wr_e3c, wr_ok, wr_exc, ws_sNext, ws_sSeq, ws_sSet, ws_sDrop, ws_sRet, ws_sRetN, ws_sBrk, ws_sCnt, ws_sIf, ws_sAsg, ws_sPar, ws_sSub, ws_sForE, wr_callM, List.getElem?_cons_zero, List.getElem?_cons_succ, List.set_cons_zero, List.set_cons_succ, List.map_cons, List.map_nil, List.length_cons, List.length_nil, List.cons_append, List.nil_append, List.replicate, List.append_nil, addM_i, subM_i, negM_i, cmpM_i, eqM_i, eqM_s, neM_i, neM_s, absM_i, intM_i, intM_b, max2M_i, min2M_i, lenM_t, lenM_l, lenM_r, tupM_ap, lstM_ap, strM_s, truB_b, isBl_b, newM_ap, Nat.reduceLeDiff, seqL_l, seqT_t, isNM_n, isNM_i, if_true, if_false, Bool.false_eq_true, Bool.not_true, Bool.not_false, Nat.reduceSub, Nat.reduceAdd, Nat.zero_add, eq_self, and_self, and_true, true_and, gN]
  refine ws_while (fun ρ μ' => μ' = μ ∧ ∃ x y : Int, ρ = [some (.int a), some (.int b), some (.int x), some (.int y)] ∧ 0 ≤ x ∧ 0 ≤ y ∧ Int.gcd x y = Int.gcd a b) (fun ρ _ => match ρ with | [_, _, _, some (.int y)] => y.toNat | _ => 0) ?_ ?_
  · refine ⟨rfl, _, _, rfl, by split <;> omega, by omega, ?_⟩
    rw [abs_gcd]
  · rintro ρ μ' ⟨rfl, x, y, rfl, hx, hy, hg⟩
    try simp only [wr_eVar, wr_eC, wr_e2, wr_e1, wr_eL, wr_eCall, wr_eCallK, wr_eLL, wr_eSeq, wr_lNil, wr_lCons, wr_bTru, wr_bOf, wr_bNot, wr_bAnd, wr_bOr, wr_isBl, wr_eAnd, wr_eOr, wr_eNot, wr_eIf, wr_e3c, wr_ok, wr_exc, ws_sNext, ws_sSeq, ws_sSet, ws_sDrop, ws_sRet, ws_sRetN, ws_sBrk, ws_sCnt, ws_sIf, ws_sAsg, ws_sPar, ws_sSub, ws_sForE, wr_callM, List.getElem?_cons_zero, List.getElem?_cons_succ, List.set_cons_zero, List.set_cons_succ, List.map_cons, List.map_nil, List.length_cons, List.length_nil, List.cons_append, List.nil_append, List.replicate, List.append_nil, addM_i, subM_i, negM_i, cmpM_i, eqM_i, eqM_s, neM_i, neM_s, absM_i, intM_i, intM_b, max2M_i, min2M_i, lenM_t, lenM_l, lenM_r, tupM_ap, lstM_ap, strM_s, truB_b, isBl_b, newM_ap, Nat.reduceLeDiff, seqL_l, seqT_t, isNM_n, isNM_i, if_true, if_false, Bool.false_eq_true, Bool.not_true, Bool.not_false, Nat.reduceSub, Nat.reduceAdd, Nat.zero_add, eq_self, and_self, and_true, true_and, gN]
    by_cases z : 0 < y
    · simp only [decide_eq_true z, if_true, modM_i z]
      try simp only [wr_eVar, wr_eC, wr_e2, wr_e1, wr_eL, wr_eCall, wr_eCallK, wr_eLL, wr_eSeq, wr_lNil, wr_lCons, wr_bTru, wr_bOf, wr_bNot, wr_bAnd, wr_bOr, wr_isBl, wr_eAnd, wr_eOr, wr_eNot, wr_eIf, wr_e3c, wr_ok, wr_exc, ws_sNext, ws_sSeq, ws_sSet, ws_sDrop, ws_sRet, ws_sRetN, ws_sBrk, ws_sCnt, ws_sIf, ws_sAsg, ws_sPar, ws_sSub, ws_sForE, wr_callM, List.getElem?_cons_zero, List.getElem?_cons_succ, List.set_cons_zero, List.set_cons_succ, List.map_cons, List.map_nil, List.length_cons, List.length_nil, List.cons_append, List.nil_append, List.replicate, List.append_nil, addM_i, subM_i, negM_i, cmpM_i, eqM_i, eqM_s, neM_i, neM_s, absM_i, intM_i, intM_b, max2M_i, min2M_i, lenM_t, lenM_l, lenM_r, tupM_ap, lstM_ap, strM_s, truB_b, isBl_b, newM_ap, Nat.reduceLeDiff, seqL_l, seqT_t, isNM_n, isNM_i, if_true, if_false, Bool.false_eq_true, Bool.not_true, Bool.not_false, Nat.reduceSub, Nat.reduceAdd, Nat.zero_add, eq_self, and_self, and_true, true_and, gN]
      refine ⟨⟨_, _, rfl, hy, Int.emod_nonneg _ (by omega), by rw [gcd_step z, hg]⟩, ?_⟩
      have := Int.emod_lt_of_pos x z
      have := Int.emod_nonneg x (show y ≠ 0 by omega)
      omega
    · simp only [decide_eq_false z, Bool.false_eq_true, if_false]
      have : y = 0 := by omega
      subst this
      have e : x = Int.gcd a b := by rw [← hg, gcd_end hx]
      have g := gcd_le (a := a) hb
      have k : x.natAbs < 2 ^ 8000 := Nat.lt_of_le_of_lt (by omega) hb2
      simp only [fdivM_i (show 0 < x by omega) k]
      try simp only [wr_eVar, wr_eC, wr_e2, wr_e1, wr_eL, wr_eCall, wr_eCallK, wr_eLL, wr_eSeq, wr_lNil, wr_lCons, wr_bTru, wr_bOf, wr_bNot, wr_bAnd, wr_bOr, wr_isBl, wr_eAnd, wr_eOr, wr_eNot, wr_eIf, wr_e3c, wr_ok, wr_exc, ws_sNext, ws_sSeq, ws_sSet, ws_sDrop, ws_sRet, ws_sRetN, ws_sBrk, ws_sCnt, ws_sIf, ws_sAsg, ws_sPar, ws_sSub, ws_sForE, wr_callM, List.getElem?_cons_zero, List.getElem?_cons_succ, List.set_cons_zero, List.set_cons_succ, List.map_cons, List.map_nil, List.length_cons, List.length_nil, List.cons_append, List.nil_append, List.replicate, List.append_nil, addM_i, subM_i, negM_i, cmpM_i, eqM_i, eqM_s, neM_i, neM_s, absM_i, intM_i, intM_b, max2M_i, min2M_i, lenM_t, lenM_l, lenM_r, tupM_ap, lstM_ap, strM_s, truB_b, isBl_b, newM_ap, Nat.reduceLeDiff, seqL_l, seqT_t, isNM_n, isNM_i, if_true, if_false, Bool.false_eq_true, Bool.not_true, Bool.not_false, Nat.reduceSub, Nat.reduceAdd, Nat.zero_add, eq_self, and_self, and_true, true_and, gN]
      rw [e]
theorem ix0 {x : D} {xs : List D} {μ : Mem} : ixM (.tup (x :: xs)) (.int 0) μ = .ok x μ := ixM_t atI_0
theorem ix1 {x y : D} {xs : List D} {μ : Mem} : ixM (.tup (x :: y :: xs)) (.int 1) μ = .ok y μ := ixM_t (atI_of (n := 1) rfl rfl)
theorem ratio_v {d : D} (h : sm5 d = true) : m_is_ratio [d] μ = .ok (.bl (rat d)) μ := by
  refine wr_eq.mp ?_
  unfold m_is_ratio b_is_ratio t_is_ratio_1 t_is_ratio_0
  try simp only [wr_eVar, wr_eC, wr_e2, wr_e1, wr_eL, wr_eCall, wr_eCallK, wr_eLL, wr_eSeq, wr_lNil, wr_lCons, wr_bTru, wr_bOf, wr_bNot, wr_bAnd, wr_bOr, wr_isBl, wr_eAnd, wr_eOr, wr_eNot, wr_eIf, wr_e3c, wr_ok, wr_exc, ws_sNext, ws_sSeq, ws_sSet, ws_sDrop, ws_sRet, ws_sRetN, ws_sBrk, ws_sCnt, ws_sIf, ws_sAsg, ws_sPar, ws_sSub, ws_sForE, wr_callM, List.getElem?_cons_zero, List.getElem?_cons_succ, List.set_cons_zero, List.set_cons_succ, List.map_cons, List.map_nil, List.length_cons, List.length_nil, List.cons_append, List.nil_append, List.replicate, List.append_nil, addM_i, subM_i, negM_i, cmpM_i, eqM_i, eqM_s, neM_i, neM_s, absM_i, intM_i, intM_b, max2M_i, min2M_i, lenM_t, lenM_l, lenM_r, tupM_ap, lstM_ap, strM_s, truB_b, isBl_b, newM_ap, Nat.reduceLeDiff, seqL_l, seqT_t, isNM_n, isNM_i, if_true, if_false, Bool.false_eq_true, Bool.not_true, Bool.not_false, Nat.reduceSub, Nat.reduceAdd, Nat.zero_add, eq_self, and_self, and_true, true_and, gN]
  simp only [isi_tuple (sm5_pl h), wr_ok]
  try simp only [wr_eVar, wr_eC, wr_e2, wr_e1, wr_eL, wr_eCall, wr_eCallK, wr_eLL, wr_eSeq, wr_lNil, wr_lCons, wr_bTru, wr_bOf, wr_bNot, wr_bAnd, wr_bOr, wr_isBl, wr_eAnd, wr_eOr, wr_eNot, wr_eIf, wr_e3c, wr_ok, wr_exc, ws_sNext, ws_sSeq, ws_sSet, ws_sDrop, ws_sRet, ws_sRetN, ws_sBrk, ws_sCnt, ws_sIf, ws_sAsg, ws_sPar, ws_sSub, ws_sForE, wr_callM, List.getElem?_cons_zero, List.getElem?_cons_succ, List.set_cons_zero, List.set_cons_succ, List.map_cons, List.map_nil, List.length_cons, List.length_nil, List.cons_append, List.nil_append, List.replicate, List.append_nil, addM_i, subM_i, negM_i, cmpM_i, eqM_i, eqM_s, neM_i, neM_s, absM_i, intM_i, intM_b, max2M_i, min2M_i, lenM_t, lenM_l, lenM_r, tupM_ap, lstM_ap, strM_s, truB_b, isBl_b, newM_ap, Nat.reduceLeDiff, seqL_l, seqT_t, isNM_n, isNM_i, if_true, if_false, Bool.false_eq_true, Bool.not_true, Bool.not_false, Nat.reduceSub, Nat.reduceAdd, Nat.zero_add, eq_self, and_self, and_true, true_and, gN]
  cases d with
  | tup xs =>
    simp only [isT]
    try simp only [wr_eVar, wr_eC, wr_e2, wr_e1, wr_eL, wr_eCall, wr_eCallK, wr_eLL, wr_eSeq, wr_lNil, wr_lCons, wr_bTru, wr_bOf, wr_bNot, wr_bAnd, wr_bOr, wr_isBl, wr_eAnd, wr_eOr, wr_eNot, wr_eIf, wr_e3c, wr_ok, wr_exc, ws_sNext, ws_sSeq, ws_sSet, ws_sDrop, ws_sRet, ws_sRetN, ws_sBrk, ws_sCnt, ws_sIf, ws_sAsg, ws_sPar, ws_sSub, ws_sForE, wr_callM, List.getElem?_cons_zero, List.getElem?_cons_succ, List.set_cons_zero, List.set_cons_succ, List.map_cons, List.map_nil, List.length_cons, List.length_nil, List.cons_append, List.nil_append, List.replicate, List.append_nil, addM_i, subM_i, negM_i, cmpM_i, eqM_i, eqM_s, neM_i, neM_s, absM_i, intM_i, intM_b, max2M_i, min2M_i, lenM_t, lenM_l, lenM_r, tupM_ap, lstM_ap, strM_s, truB_b, isBl_b, newM_ap, Nat.reduceLeDiff, seqL_l, seqT_t, isNM_n, isNM_i, if_true, if_false, Bool.false_eq_true, Bool.not_true, Bool.not_false, Nat.reduceSub, Nat.reduceAdd, Nat.zero_add, eq_self, and_self, and_true, true_and, gN]
    match xs, h with
    | [], _ => simp [rat]
    | [_], _ => simp [rat]
    | _ :: _ :: _ :: _, _ =>
      simp [rat]
      intro hz
      omega
    | [x, y], h =>
      obtain ⟨hx, hy⟩ := sm5_2 h
      try simp only [wr_eVar, wr_eC, wr_e2, wr_e1, wr_eL, wr_eCall, wr_eCallK, wr_eLL, wr_eSeq, wr_lNil, wr_lCons, wr_bTru, wr_bOf, wr_bNot, wr_bAnd, wr_bOr, wr_isBl, wr_eAnd, wr_eOr, wr_eNot, wr_eIf, wr_e3c, wr_ok, wr_exc, ws_sNext, ws_sSeq, ws_sSet, ws_sDrop, ws_sRet, ws_sRetN, ws_sBrk, ws_sCnt, ws_sIf, ws_sAsg, ws_sPar, ws_sSub, ws_sForE, wr_callM, List.getElem?_cons_zero, List.getElem?_cons_succ, List.set_cons_zero, List.set_cons_succ, List.map_cons, List.map_nil, List.length_cons, List.length_nil, List.cons_append, List.nil_append, List.replicate, List.append_nil, addM_i, subM_i, negM_i, cmpM_i, eqM_i, eqM_s, neM_i, neM_s, absM_i, intM_i, intM_b, max2M_i, min2M_i, lenM_t, lenM_l, lenM_r, tupM_ap, lstM_ap, strM_s, truB_b, isBl_b, newM_ap, Nat.reduceLeDiff, seqL_l, seqT_t, isNM_n, isNM_i, if_true, if_false, Bool.false_eq_true, Bool.not_true, Bool.not_false, Nat.reduceSub, Nat.reduceAdd, Nat.zero_add, eq_self, and_self, and_true, true_and, gN]
      simp only [ix0, ix1, wr_ok, integer_v0 (sm5_pl hx), integer_v1 (sm5_pl hy)]
      try simp only [wr_eVar, wr_eC, wr_e2, wr_e1, wr_eL, wr_eCall, wr_eCallK, wr_eLL, wr_eSeq, wr_lNil, wr_lCons, wr_bTru, wr_bOf, wr_bNot, wr_bAnd, wr_bOr, wr_isBl, wr_eAnd, wr_eOr, wr_eNot, wr_eIf, wr_e3c, wr_ok, wr_exc, ws_sNext, ws_sSeq, ws_sSet, ws_sDrop, ws_sRet, ws_sRetN, ws_sBrk, ws_sCnt, ws_sIf, ws_sAsg, ws_sPar, ws_sSub, ws_sForE, wr_callM, List.getElem?_cons_zero, List.getElem?_cons_succ, List.set_cons_zero, List.set_cons_succ, List.map_cons, List.map_nil, List.length_cons, List.length_nil, List.cons_append, List.nil_append, List.replicate, List.append_nil, addM_i, subM_i, negM_i, cmpM_i, eqM_i, eqM_s, neM_i, neM_s, absM_i, intM_i, intM_b, max2M_i, min2M_i, lenM_t, lenM_l, lenM_r, tupM_ap, lstM_ap, strM_s, truB_b, isBl_b, newM_ap, Nat.reduceLeDiff, seqL_l, seqT_t, isNM_n, isNM_i, if_true, if_false, Bool.false_eq_true, Bool.not_true, Bool.not_false, Nat.reduceSub, Nat.reduceAdd, Nat.zero_add, eq_self, and_self, and_true, true_and, gN]
      cases x <;> cases y <;> simp [isI, rat]
      rename_i a b
      by_cases z : b < 1
      · simp [z]
        omega
      · have z' : 1 ≤ b := by omega
        simp only [z, if_false]
        rw [gcd_v]
        try simp only [wr_eVar, wr_eC, wr_e2, wr_e1, wr_eL, wr_eCall, wr_eCallK, wr_eLL, wr_eSeq, wr_lNil, wr_lCons, wr_bTru, wr_bOf, wr_bNot, wr_bAnd, wr_bOr, wr_isBl, wr_eAnd, wr_eOr, wr_eNot, wr_eIf, wr_e3c, wr_ok, wr_exc, ws_sNext, ws_sSeq, ws_sSet, ws_sDrop, ws_sRet, ws_sRetN, ws_sBrk, ws_sCnt, ws_sIf, ws_sAsg, ws_sPar, ws_sSub, ws_sForE, wr_callM, List.getElem?_cons_zero, List.getElem?_cons_succ, List.set_cons_zero, List.set_cons_succ, List.map_cons, List.map_nil, List.length_cons, List.length_nil, List.cons_append, List.nil_append, List.replicate, List.append_nil, addM_i, subM_i, negM_i, cmpM_i, eqM_i, eqM_s, neM_i, neM_s, absM_i, intM_i, intM_b, max2M_i, min2M_i, lenM_t, lenM_l, lenM_r, tupM_ap, lstM_ap, strM_s, truB_b, isBl_b, newM_ap, Nat.reduceLeDiff, seqL_l, seqT_t, isNM_n, isNM_i, if_true, if_false, Bool.false_eq_true, Bool.not_true, Bool.not_false, Nat.reduceSub, Nat.reduceAdd, Nat.zero_add, eq_self, and_self, and_true, true_and, gN]
        simp [z']
        norm_cast
  | _ => simp [isT, rat]
theorem share_v {d : D} (h : sm5 d = true) : m_is_share [d] μ = .ok (.bl (shr d)) μ := by
  refine wr_eq.mp ?_
  unfold m_is_share b_is_share
  try simp only [wr_eVar, wr_eC, wr_e2, wr_e1, wr_eL, wr_eCall, wr_eCallK, wr_eLL, wr_eSeq, wr_lNil, wr_lCons, wr_bTru, wr_bOf, wr_bNot, wr_bAnd, wr_bOr, wr_isBl, wr_eAnd, wr_eOr, wr_eNot, wr_eIf, wr_e3c, wr_ok, wr_exc, ws_sNext, ws_sSeq, ws_sSet, ws_sDrop, ws_sRet, ws_sRetN, ws_sBrk, ws_sCnt, ws_sIf, ws_sAsg, ws_sPar, ws_sSub, ws_sForE, wr_callM, List.getElem?_cons_zero, List.getElem?_cons_succ, List.set_cons_zero, List.set_cons_succ, List.map_cons, List.map_nil, List.length_cons, List.length_nil, List.cons_append, List.nil_append, List.replicate, List.append_nil, addM_i, subM_i, negM_i, cmpM_i, eqM_i, eqM_s, neM_i, neM_s, absM_i, intM_i, intM_b, max2M_i, min2M_i, lenM_t, lenM_l, lenM_r, tupM_ap, lstM_ap, strM_s, truB_b, isBl_b, newM_ap, Nat.reduceLeDiff, seqL_l, seqT_t, isNM_n, isNM_i, if_true, if_false, Bool.false_eq_true, Bool.not_true, Bool.not_false, Nat.reduceSub, Nat.reduceAdd, Nat.zero_add, eq_self, and_self, and_true, true_and, gN]
  rw [ratio_v h]
  try simp only [wr_eVar, wr_eC, wr_e2, wr_e1, wr_eL, wr_eCall, wr_eCallK, wr_eLL, wr_eSeq, wr_lNil, wr_lCons, wr_bTru, wr_bOf, wr_bNot, wr_bAnd, wr_bOr, wr_isBl, wr_eAnd, wr_eOr, wr_eNot, wr_eIf, wr_e3c, wr_ok, wr_exc, ws_sNext, ws_sSeq, ws_sSet, ws_sDrop, ws_sRet, ws_sRetN, ws_sBrk, ws_sCnt, ws_sIf, ws_sAsg, ws_sPar, ws_sSub, ws_sForE, wr_callM, List.getElem?_cons_zero, List.getElem?_cons_succ, List.set_cons_zero, List.set_cons_succ, List.map_cons, List.map_nil, List.length_cons, List.length_nil, List.cons_append, List.nil_append, List.replicate, List.append_nil, addM_i, subM_i, negM_i, cmpM_i, eqM_i, eqM_s, neM_i, neM_s, absM_i, intM_i, intM_b, max2M_i, min2M_i, lenM_t, lenM_l, lenM_r, tupM_ap, lstM_ap, strM_s, truB_b, isBl_b, newM_ap, Nat.reduceLeDiff, seqL_l, seqT_t, isNM_n, isNM_i, if_true, if_false, Bool.false_eq_true, Bool.not_true, Bool.not_false, Nat.reduceSub, Nat.reduceAdd, Nat.zero_add, eq_self, and_self, and_true, true_and, gN]
  cases q : rat d with
  | false =>
    simp only [Bool.false_eq_true, if_false]
    unfold rat at q
    unfold shr
    split at q
    · rw [q]; rfl
    · rfl
  | true =>
    simp only [if_true]
    unfold rat at q
    split at q
    · rename_i a b
      simp only [ix0, ix1, wr_ok]
      try simp only [wr_eVar, wr_eC, wr_e2, wr_e1, wr_eL, wr_eCall, wr_eCallK, wr_eLL, wr_eSeq, wr_lNil, wr_lCons, wr_bTru, wr_bOf, wr_bNot, wr_bAnd, wr_bOr, wr_isBl, wr_eAnd, wr_eOr, wr_eNot, wr_eIf, wr_e3c, wr_ok, wr_exc, ws_sNext, ws_sSeq, ws_sSet, ws_sDrop, ws_sRet, ws_sRetN, ws_sBrk, ws_sCnt, ws_sIf, ws_sAsg, ws_sPar, ws_sSub, ws_sForE, wr_callM, List.getElem?_cons_zero, List.getElem?_cons_succ, List.set_cons_zero, List.set_cons_succ, List.map_cons, List.map_nil, List.length_cons, List.length_nil, List.cons_append, List.nil_append, List.replicate, List.append_nil, addM_i, subM_i, negM_i, cmpM_i, eqM_i, eqM_s, neM_i, neM_s, absM_i, intM_i, intM_b, max2M_i, min2M_i, lenM_t, lenM_l, lenM_r, tupM_ap, lstM_ap, strM_s, truB_b, isBl_b, newM_ap, Nat.reduceLeDiff, seqL_l, seqT_t, isNM_n, isNM_i, if_true, if_false, Bool.false_eq_true, Bool.not_true, Bool.not_false, Nat.reduceSub, Nat.reduceAdd, Nat.zero_add, eq_self, and_self, and_true, true_and, gN]
      simp only [shr, q, Bool.true_and]
      by_cases z : 0 ≤ a
      · simp [z]
      · simp [z]
    · cases q
theorem p75 : (10 : Nat) ^ 75 < 2 ^ 250 := by decide +kernel
theorem mul_b {a b : Int} (ha : a.natAbs < 10 ^ 75) (hb : b.natAbs < 10 ^ 75) : mulOk a b = true := mulOk_le (B := 10 ^ 75) (by omega) (by omega) p75
theorem two2 : (!decide (((2 : Nat) : Int) = 2)) = false := by decide
theorem less_v {a b c e : Int} (ha : a.natAbs < 10 ^ 75) (hb : b.natAbs < 10 ^ 75) (hc : c.natAbs < 10 ^ 75) (he : e.natAbs < 10 ^ 75) : m_is_less [.tup [.int a, .int b], .tup [.int c, .int e]] μ = .ok (.bl (decide (a * e < c * b))) μ := by
  refine wr_eq.mp ?_
  unfold m_is_less b_is_less
  try simp only [wr_eVar, wr_eC, wr_e2, wr_e1, wr_eL, wr_eCall, wr_eCallK, wr_eLL, wr_eSeq, wr_lNil, wr_lCons, wr_bTru, wr_bOf, wr_bNot, wr_bAnd, wr_bOr, wr_isBl, wr_eAnd, wr_eOr, wr_eNot, wr_eIf, wr_e3c, wr_ok, wr_exc, ws_sNext, ws_sSeq, ws_sSet, ws_sDrop, ws_sRet, ws_sRetN, ws_sBrk, ws_sCnt, ws_sIf, ws_sAsg, ws_sPar, ws_sSub, ws_sForE, wr_callM, List.getElem?_cons_zero, List.getElem?_cons_succ, List.set_cons_zero, List.set_cons_succ, List.map_cons, List.map_nil, List.length_cons, List.length_nil, List.cons_append, List.nil_append, List.replicate, List.append_nil, addM_i, subM_i, negM_i, cmpM_i, eqM_i, eqM_s, neM_i, neM_s, absM_i, intM_i, intM_b, max2M_i, min2M_i, lenM_t, lenM_l, lenM_r, tupM_ap, lstM_ap, strM_s, truB_b, isBl_b, newM_ap, Nat.reduceLeDiff, seqL_l, seqT_t, isNM_n, isNM_i, if_true, if_false, Bool.false_eq_true, Bool.not_true, Bool.not_false, Nat.reduceSub, Nat.reduceAdd, Nat.zero_add, eq_self, and_self, and_true, true_and, gN]
  have e1 := mul_b ha he
  have e2 := mul_b hc hb
  simp only [ix0, ix1, wr_ok, mulM_i e1, mulM_i e2]
  try simp only [wr_eVar, wr_eC, wr_e2, wr_e1, wr_eL, wr_eCall, wr_eCallK, wr_eLL, wr_eSeq, wr_lNil, wr_lCons, wr_bTru, wr_bOf, wr_bNot, wr_bAnd, wr_bOr, wr_isBl, wr_eAnd, wr_eOr, wr_eNot, wr_eIf, wr_e3c, wr_ok, wr_exc, ws_sNext, ws_sSeq, ws_sSet, ws_sDrop, ws_sRet, ws_sRetN, ws_sBrk, ws_sCnt, ws_sIf, ws_sAsg, ws_sPar, ws_sSub, ws_sForE, wr_callM, List.getElem?_cons_zero, List.getElem?_cons_succ, List.set_cons_zero, List.set_cons_succ, List.map_cons, List.map_nil, List.length_cons, List.length_nil, List.cons_append, List.nil_append, List.replicate, List.append_nil, addM_i, subM_i, negM_i, cmpM_i, eqM_i, eqM_s, neM_i, neM_s, absM_i, intM_i, intM_b, max2M_i, min2M_i, lenM_t, lenM_l, lenM_r, tupM_ap, lstM_ap, strM_s, truB_b, isBl_b, newM_ap, Nat.reduceLeDiff, seqL_l, seqT_t, isNM_n, isNM_i, if_true, if_false, Bool.false_eq_true, Bool.not_true, Bool.not_false, Nat.reduceSub, Nat.reduceAdd, Nat.zero_add, eq_self, and_self, and_true, true_and, gN]
theorem pixel_v {d : D} (h : sm5 d = true) : m_is_pixel [d] μ = .ok (.bl (pix d)) μ := by
  refine wr_eq.mp ?_
  unfold m_is_pixel b_is_pixel t_is_pixel_0
  try simp only [wr_eVar, wr_eC, wr_e2, wr_e1, wr_eL, wr_eCall, wr_eCallK, wr_eLL, wr_eSeq, wr_lNil, wr_lCons, wr_bTru, wr_bOf, wr_bNot, wr_bAnd, wr_bOr, wr_isBl, wr_eAnd, wr_eOr, wr_eNot, wr_eIf, wr_e3c, wr_ok, wr_exc, ws_sNext, ws_sSeq, ws_sSet, ws_sDrop, ws_sRet, ws_sRetN, ws_sBrk, ws_sCnt, ws_sIf, ws_sAsg, ws_sPar, ws_sSub, ws_sForE, wr_callM, List.getElem?_cons_zero, List.getElem?_cons_succ, List.set_cons_zero, List.set_cons_succ, List.map_cons, List.map_nil, List.length_cons, List.length_nil, List.cons_append, List.nil_append, List.replicate, List.append_nil, addM_i, subM_i, negM_i, cmpM_i, eqM_i, eqM_s, neM_i, neM_s, absM_i, intM_i, intM_b, max2M_i, min2M_i, lenM_t, lenM_l, lenM_r, tupM_ap, lstM_ap, strM_s, truB_b, isBl_b, newM_ap, Nat.reduceLeDiff, seqL_l, seqT_t, isNM_n, isNM_i, if_true, if_false, Bool.false_eq_true, Bool.not_true, Bool.not_false, Nat.reduceSub, Nat.reduceAdd, Nat.zero_add, eq_self, and_self, and_true, true_and, gN]
  simp only [isi_tuple (sm5_pl h), wr_ok]
  try simp only [wr_eVar, wr_eC, wr_e2, wr_e1, wr_eL, wr_eCall, wr_eCallK, wr_eLL, wr_eSeq, wr_lNil, wr_lCons, wr_bTru, wr_bOf, wr_bNot, wr_bAnd, wr_bOr, wr_isBl, wr_eAnd, wr_eOr, wr_eNot, wr_eIf, wr_e3c, wr_ok, wr_exc, ws_sNext, ws_sSeq, ws_sSet, ws_sDrop, ws_sRet, ws_sRetN, ws_sBrk, ws_sCnt, ws_sIf, ws_sAsg, ws_sPar, ws_sSub, ws_sForE, wr_callM, List.getElem?_cons_zero, List.getElem?_cons_succ, List.set_cons_zero, List.set_cons_succ, List.map_cons, List.map_nil, List.length_cons, List.length_nil, List.cons_append, List.nil_append, List.replicate, List.append_nil, addM_i, subM_i, negM_i, cmpM_i, eqM_i, eqM_s, neM_i, neM_s, absM_i, intM_i, intM_b, max2M_i, min2M_i, lenM_t, lenM_l, lenM_r, tupM_ap, lstM_ap, strM_s, truB_b, isBl_b, newM_ap, Nat.reduceLeDiff, seqL_l, seqT_t, isNM_n, isNM_i, if_true, if_false, Bool.false_eq_true, Bool.not_true, Bool.not_false, Nat.reduceSub, Nat.reduceAdd, Nat.zero_add, eq_self, and_self, and_true, true_and, gN]
  cases d with
  | tup xs =>
    simp only [isT]
    try simp only [wr_eVar, wr_eC, wr_e2, wr_e1, wr_eL, wr_eCall, wr_eCallK, wr_eLL, wr_eSeq, wr_lNil, wr_lCons, wr_bTru, wr_bOf, wr_bNot, wr_bAnd, wr_bOr, wr_isBl, wr_eAnd, wr_eOr, wr_eNot, wr_eIf, wr_e3c, wr_ok, wr_exc, ws_sNext, ws_sSeq, ws_sSet, ws_sDrop, ws_sRet, ws_sRetN, ws_sBrk, ws_sCnt, ws_sIf, ws_sAsg, ws_sPar, ws_sSub, ws_sForE, wr_callM, List.getElem?_cons_zero, List.getElem?_cons_succ, List.set_cons_zero, List.set_cons_succ, List.map_cons, List.map_nil, List.length_cons, List.length_nil, List.cons_append, List.nil_append, List.replicate, List.append_nil, addM_i, subM_i, negM_i, cmpM_i, eqM_i, eqM_s, neM_i, neM_s, absM_i, intM_i, intM_b, max2M_i, min2M_i, lenM_t, lenM_l, lenM_r, tupM_ap, lstM_ap, strM_s, truB_b, isBl_b, newM_ap, Nat.reduceLeDiff, seqL_l, seqT_t, isNM_n, isNM_i, if_true, if_false, Bool.false_eq_true, Bool.not_true, Bool.not_false, Nat.reduceSub, Nat.reduceAdd, Nat.zero_add, eq_self, and_self, and_true, true_and, gN]
    match xs, h with
    | [], _ => simp [pix]
    | [_], _ => simp [pix]
    | _ :: _ :: _ :: _, _ =>
      simp [pix]
      intro hz
      omega
    | [x, y], h =>
      obtain ⟨hx, hy⟩ := sm5_2 h
      try simp only [wr_eVar, wr_eC, wr_e2, wr_e1, wr_eL, wr_eCall, wr_eCallK, wr_eLL, wr_eSeq, wr_lNil, wr_lCons, wr_bTru, wr_bOf, wr_bNot, wr_bAnd, wr_bOr, wr_isBl, wr_eAnd, wr_eOr, wr_eNot, wr_eIf, wr_e3c, wr_ok, wr_exc, ws_sNext, ws_sSeq, ws_sSet, ws_sDrop, ws_sRet, ws_sRetN, ws_sBrk, ws_sCnt, ws_sIf, ws_sAsg, ws_sPar, ws_sSub, ws_sForE, wr_callM, List.getElem?_cons_zero, List.getElem?_cons_succ, List.set_cons_zero, List.set_cons_succ, List.map_cons, List.map_nil, List.length_cons, List.length_nil, List.cons_append, List.nil_append, List.replicate, List.append_nil, addM_i, subM_i, negM_i, cmpM_i, eqM_i, eqM_s, neM_i, neM_s, absM_i, intM_i, intM_b, max2M_i, min2M_i, lenM_t, lenM_l, lenM_r, tupM_ap, lstM_ap, strM_s, truB_b, isBl_b, newM_ap, Nat.reduceLeDiff, seqL_l, seqT_t, isNM_n, isNM_i, if_true, if_false, Bool.false_eq_true, Bool.not_true, Bool.not_false, Nat.reduceSub, Nat.reduceAdd, Nat.zero_add, eq_self, and_self, and_true, true_and, gN]
      simp only [ix0, ix1, wr_ok, share_v hx, share_v hy]
      try simp only [wr_eVar, wr_eC, wr_e2, wr_e1, wr_eL, wr_eCall, wr_eCallK, wr_eLL, wr_eSeq, wr_lNil, wr_lCons, wr_bTru, wr_bOf, wr_bNot, wr_bAnd, wr_bOr, wr_isBl, wr_eAnd, wr_eOr, wr_eNot, wr_eIf, wr_e3c, wr_ok, wr_exc, ws_sNext, ws_sSeq, ws_sSet, ws_sDrop, ws_sRet, ws_sRetN, ws_sBrk, ws_sCnt, ws_sIf, ws_sAsg, ws_sPar, ws_sSub, ws_sForE, wr_callM, List.getElem?_cons_zero, List.getElem?_cons_succ, List.set_cons_zero, List.set_cons_succ, List.map_cons, List.map_nil, List.length_cons, List.length_nil, List.cons_append, List.nil_append, List.replicate, List.append_nil, addM_i, subM_i, negM_i, cmpM_i, eqM_i, eqM_s, neM_i, neM_s, absM_i, intM_i, intM_b, max2M_i, min2M_i, lenM_t, lenM_l, lenM_r, tupM_ap, lstM_ap, strM_s, truB_b, isBl_b, newM_ap, Nat.reduceLeDiff, seqL_l, seqT_t, isNM_n, isNM_i, if_true, if_false, Bool.false_eq_true, Bool.not_true, Bool.not_false, Nat.reduceSub, Nat.reduceAdd, Nat.zero_add, eq_self, and_self, and_true, true_and, gN]
      cases q1 : shr x with
      | false => simp [pix, q1]
      | true =>
        cases q2 : shr y with
        | false => simp [pix, q1, q2]
        | true =>
          obtain ⟨a, b, rfl, _⟩ := shr_is q1
          obtain ⟨c, e, rfl, _⟩ := shr_is q2
          have ha := sm5_int (sm5_2 hx).1
          have hb := sm5_int (sm5_2 hx).2
          have hc := sm5_int (sm5_2 hy).1
          have he := sm5_int (sm5_2 hy).2
          simp [pix, q1, q2]
          rw [less_v hc he ha hb]
          try simp only [wr_eVar, wr_eC, wr_e2, wr_e1, wr_eL, wr_eCall, wr_eCallK, wr_eLL, wr_eSeq, wr_lNil, wr_lCons, wr_bTru, wr_bOf, wr_bNot, wr_bAnd, wr_bOr, wr_isBl, wr_eAnd, wr_eOr, wr_eNot, wr_eIf, wr_e3c, wr_ok, wr_exc, ws_sNext, ws_sSeq, ws_sSet, ws_sDrop, ws_sRet, ws_sRetN, ws_sBrk, ws_sCnt, ws_sIf, ws_sAsg, ws_sPar, ws_sSub, ws_sForE, wr_callM, List.getElem?_cons_zero, List.getElem?_cons_succ, List.set_cons_zero, List.set_cons_succ, List.map_cons, List.map_nil, List.length_cons, List.length_nil, List.cons_append, List.nil_append, List.replicate, List.append_nil, addM_i, subM_i, negM_i, cmpM_i, eqM_i, eqM_s, neM_i, neM_s, absM_i, intM_i, intM_b, max2M_i, min2M_i, lenM_t, lenM_l, lenM_r, tupM_ap, lstM_ap, strM_s, truB_b, isBl_b, newM_ap, Nat.reduceLeDiff, seqL_l, seqT_t, isNM_n, isNM_i, if_true, if_false, Bool.false_eq_true, Bool.not_true, Bool.not_false, Nat.reduceSub, Nat.reduceAdd, Nat.zero_add, eq_self, and_self, and_true, true_and, gN]
          simp only [leP]
          by_cases z : c * b < a * e
          · have : ¬ a * e ≤ c * b := by omega
            simp [z]
          · have : a * e ≤ c * b := by omega
            simp [z, this]
  | _ => simp [isT, pix]
end
end Zk05
namespace Zk05
open PySem PySem.Spec PyProof.Rows L2 SE SX
/-! ### the text of an integer -/
theorem z0 : ("0" : Str) = S [48] := by decide +kernel
theorem zE : ("" : Str) = S [] := by decide +kernel
theorem zM : ("-" : Str) = S [45] := by decide +kernel
theorem zS : ("/" : Str) = S [47] := by decide +kernel
theorem S_iff {a b : List Nat} : (S a = S b) ↔ a = b := ⟨S_inj, fun h => by rw [h]⟩
/-- the signs of an integer -/
def numI (t : Int) : List Nat := if t < 0 then 45 :: TL.numL t.natAbs else TL.numL t.natAbs
theorem num_I (t : Int) : Str.ofString (toString t) = S (numI t) := by
  unfold numI
  cases t with
  | ofNat n =>
    rw [if_neg (by simp)]
    exact num_S n
  | negSucc n =>
    rw [if_pos (by omega)]
    have e : (toString (Int.negSucc n) : String) = "-" ++ toString ((Nat.succ n : Nat) : Int) := rfl
    have ap : ∀ x y : String, Str.ofString (x ++ y) = Str.ofString x ++ Str.ofString y := fun x y => by
      apply TL.ext_tl
      rw [TL.tl_append]
      show (Str.ofString (x ++ y)).cps.toList = (Str.ofString x).cps.toList ++ (Str.ofString y).cps.toList
      rw [PySem.Str.ofString_eq_toList, PySem.Str.ofString_eq_toList, PySem.Str.ofString_eq_toList, String.toList_append, List.map_append]
    rw [e, ap, show (Str.ofString "-") = S [45] from zM, num_S, S_cat]
    rfl
theorem numI_free {t : Int} : 47 ∉ numI t := by
  unfold numI
  split
  · intro h
    rcases List.mem_cons.mp h with z | z
    · cases z
    · exact TL.numL_free (by omega) z
  · exact TL.numL_free (by omega)
/-- the reading of digits -/
def dg (c : Nat) : Bool := decide (48 ≤ c) && decide (c ≤ 57)
def numO (w : List Nat) : Option Nat := if w ≠ [] ∧ w.all dg = true ∧ (w.head? ≠ some 48 ∨ w = [48]) then some (NumText.digitsVal w) else none
def oD : Option Nat → D
  | some n => .int n
  | none => .non
theorem digs_all {w : List Nat} (h : w.all dg = true) : NumText.AllDigits w := fun c hc => by
  have := List.all_eq_true.mp h c hc
  simp only [dg, Bool.and_eq_true, decide_eq_true_eq] at this
  exact this
theorem numO_can {w : List Nat} {n : Nat} (h : numO w = some n) : w = TL.numL n := by
  unfold numO at h
  split at h
  · rename_i c
    obtain ⟨h1, h2, h3⟩ := c
    cases h
    have ad := digs_all h2
    obtain ⟨k, hk⟩ : ∃ k, w.length = k + 1 := ⟨w.length - 1, by
      have : w.length ≠ 0 := fun z => h1 (List.length_eq_zero_iff.mp z)
      omega⟩
    have e := NumText.toDigits_digitsVal k w hk ad (by
      match w, h1, h3, hk, ad with
      | c :: r, _, h3, hk, ad =>
        rcases h3 with h3 | h3
        · refine .inr ⟨c, r, rfl, ?_⟩
          have := ad c List.mem_cons_self
          have z : c ≠ 48 := fun z => h3 (by rw [z]; rfl)
          omega
        · left
          rw [h3] at hk
          simp at hk
          omega)
    unfold TL.numL
    rw [e, List.map_map]
    have : ∀ l : List Nat, NumText.AllDigits l → l.map (Char.toNat ∘ Char.ofNat) = l := by
      intro l
      induction l with
      | nil => intro _; rfl
      | cons c r ih =>
        intro hl
        rw [List.map_cons, ih hl.tail]
        have := hl.head
        congr 1
        show (Char.ofNat c).toNat = c
        have hv : c.isValidChar := by left; omega
        unfold Char.ofNat
        rw [dif_pos hv]
        rfl
    exact (this w ad).symm
  · cases h
theorem numO_lt {w : List Nat} {n k : Nat} (h : numO w = some n) (hl : w.length ≤ k) : n < 10 ^ k := by
  have e := numO_can h
  rw [e] at hl
  clear h e w
  have key : ∀ (k n : Nat), (TL.numL n).length ≤ k → n < 10 ^ k := by
    intro k
    induction k with
    | zero =>
      intro n hn
      exact absurd (List.length_eq_zero_iff.mp (by omega)) (TL.numL_ne n)
    | succ k ih =>
      intro n hn
      by_cases z : n < 10
      · exact Nat.lt_of_lt_of_le z (by rw [Nat.pow_succ]; have := Nat.pow_pos (n := k) (show 0 < 10 by omega); omega)
      · rw [TL.numL_step (by omega)] at hn
        simp at hn
        have := ih (n / 10) hn
        rw [Nat.pow_succ]
        omega
  exact key k n hl
/-! ### pieces -/
theorem spl_main : ∀ (l acc : List Nat), ∃ p ps, TL.spl [47] 0 acc l = (acc ++ p) :: ps ∧ 47 ∉ p ∧ (∀ q ∈ ps, 47 ∉ q) ∧ TL.joinL [47] (p :: ps) = l
  | [], acc => ⟨[], [], by rw [TL.spl_nil, List.append_nil], by simp, by simp, rfl⟩
  | c :: r, acc => by
    by_cases z : c = 47
    · subst z
      obtain ⟨p, ps, e, h1, h2, h3⟩ := spl_main r []
      refine ⟨[], p :: ps, ?_, by simp, fun q hq => ?_, ?_⟩
      · rw [TL.spl_hit (by rfl)]
        rw [show [47].length - 1 = 0 from rfl, e, List.append_nil]
        rfl
      · rcases List.mem_cons.mp hq with rfl | hq
        · exact h1
        · exact h2 q hq
      · show [] ++ ([47] ++ TL.joinL [47] (p :: ps)) = _
        rw [h3]
        rfl
    · obtain ⟨p, ps, e, h1, h2, h3⟩ := spl_main r (acc ++ [c])
      refine ⟨c :: p, ps, ?_, ?_, h2, ?_⟩
      · rw [TL.spl_miss (by simp [TL.pre, z]), e]
        simp
      · intro hm
        rcases List.mem_cons.mp hm with q | q
        · exact z q.symm
        · exact h1 q
      · cases ps with
        | nil => exact congrArg (c :: ·) h3
        | cons q qs => exact congrArg (c :: ·) h3
def pcs (l : List Nat) : List (List Nat) := TL.spl [47] 0 [] l
theorem pcs_is (l : List Nat) : ∃ p ps, pcs l = p :: ps ∧ 47 ∉ p ∧ (∀ q ∈ ps, 47 ∉ q) ∧ TL.joinL [47] (p :: ps) = l := by
  obtain ⟨p, ps, e, h⟩ := spl_main l []
  exact ⟨p, ps, e, h⟩
theorem join_le : ∀ (ps : List (List Nat)), ∀ p ∈ ps, p.length ≤ (TL.joinL [47] ps).length
  | [], _, h => by cases h
  | [q], p, h => by
    rw [List.mem_singleton.mp h]
    exact Nat.le_refl _
  | q :: r :: t, p, h => by
    have e : TL.joinL [47] (q :: r :: t) = q ++ ([47] ++ TL.joinL [47] (r :: t)) := rfl
    rw [e]
    simp only [List.length_append]
    rcases List.mem_cons.mp h with z | z
    · rw [z]; omega
    · have := join_le (r :: t) p z
      omega
theorem pcs_le {l p : List Nat} (h : p ∈ pcs l) : p.length ≤ l.length := by
  obtain ⟨q, ps, e, _, _, h3⟩ := pcs_is l
  rw [e] at h
  have := join_le _ p h
  rw [h3] at this
  exact this
/-! ### the reading -/
def sg (b : Bool) (n : Nat) : Int := if b = true then 0 - (n : Int) else n
def rdL (b : Bool) : List (Option Nat) → Option (Int × Int)
  | [some n] => if n = 0 ∧ b = true then none else some (sg b n, 1)
  | [some n, some m] => if 2 ≤ m ∧ Int.gcd n m = 1 then some (sg b n, m) else none
  | _ => none
def below (a : List Nat) : Bool := decide (a.take 1 = [45])
def rest (a : List Nat) : List Nat := if below a = true then a.drop 1 else a
def rdO (a : List Nat) : Option (Int × Int) := rdL (below a) ((pcs (rest a)).map numO)
def rD : Option (Int × Int) → D
  | some (t, b) => .tup [.int t, .int b]
  | none => .non
theorem rest_is (a : List Nat) : a = (if below a = true then 45 :: rest a else rest a) := by
  unfold rest below
  cases a with
  | nil => rfl
  | cons c r =>
    by_cases z : c = 45
    · subst z; simp
    · simp [z]
theorem numI_sg {b : Bool} {n : Nat} : numI (sg b n) = if b = true ∧ n ≠ 0 then 45 :: TL.numL n else TL.numL n := by
  unfold numI sg
  cases b with
  | false => simp
  | true =>
    by_cases z : n = 0
    · subst z; simp
    · have : (0 - (n : Int)) < 0 := by omega
      have e : (0 - (n : Int)).natAbs = n := by omega
      simp [z]
      all_goals omega
/-- the text of the ratio that was read -/
def tx (t b : Int) : List Nat := if b = 1 then numI t else numI t ++ (47 :: numI b)
theorem numI_nat {m : Nat} : numI (m : Int) = TL.numL m := by
  unfold numI
  rw [if_neg (by omega)]
  simp
/-- read, written: the same text, but for what is not lowest -/
theorem read_one {a : List Nat} {w : List Nat} {n : Nat} (hw : rest a = w) (hn : numO w = some n) : (tx (sg (below a) n) 1 = a) ↔ ¬ (n = 0 ∧ below a = true) := by
  have e := rest_is a
  have c := numO_can hn
  rw [hw] at e
  unfold tx
  rw [if_pos rfl, numI_sg]
  cases q : below a with
  | false =>
    rw [q] at e
    simp only [Bool.false_eq_true, if_false, false_and, and_false, not_false_eq_true, iff_true] at e ⊢
    rw [e, c]
  | true =>
    rw [q] at e
    simp only [if_true] at e
    by_cases z : n = 0
    · simp only [z, true_and, ne_eq, not_true_eq_false, and_false, if_false, and_true, not_true_eq_false, iff_false]
      intro h
      rw [e, c, z] at h
      revert h
      decide
    · simp only [z, ne_eq, not_false_eq_true, and_self, if_true, false_and, iff_true]
      rw [e, c]
theorem read_two {a w0 w1 : List Nat} {n m : Nat} (hw : rest a = w0 ++ (47 :: w1)) (h0 : numO w0 = some n) (h1 : numO w1 = some m) (f0 : 47 ∉ w0) : (tx (sg (below a) n) m = a) ↔ (m ≠ 1 ∧ ¬ (n = 0 ∧ below a = true)) := by
  have e := rest_is a
  have c0 := numO_can h0
  have c1 := numO_can h1
  rw [hw] at e
  have mem : 47 ∈ a := by
    rw [e]
    split <;> simp
  unfold tx
  by_cases z1 : m = 1
  · rw [if_pos (by omega)]
    refine ⟨fun h => absurd (by rw [← h] at mem; exact mem) numI_free, fun h => absurd z1 h.1⟩
  · rw [if_neg (by omega), numI_sg, numI_nat, ← c1]
    cases q : below a with
    | false =>
      rw [q] at e
      simp only [Bool.false_eq_true, if_false, false_and, and_false, not_false_eq_true, ne_eq, z1, and_self, iff_true] at e ⊢
      rw [← c0, e]
    | true =>
      rw [q] at e
      simp only [if_true] at e
      by_cases z : n = 0
      · simp only [z, ne_eq, not_true_eq_false, and_false, if_false, and_true, iff_false, z1, not_false_eq_true, true_and, and_self]
        intro h
        rw [z] at c0
        rw [e, c0] at h
        have := congrArg List.head? h
        rw [show TL.numL 0 = [48] from by decide] at this
        simp at this
      · simp only [z, ne_eq, not_false_eq_true, and_self, if_true, false_and, iff_true, z1]
        rw [← c0, e]
        rfl
theorem spl_mainC : ∀ (l acc : List Nat), ∃ p ps, TL.spl [58] 0 acc l = (acc ++ p) :: ps ∧ 58 ∉ p ∧ (∀ q ∈ ps, 58 ∉ q) ∧ TL.joinL [58] (p :: ps) = l
  | [], acc => ⟨[], [], by rw [TL.spl_nil, List.append_nil], by simp, by simp, rfl⟩
  | c :: r, acc => by
    by_cases z : c = 58
    · subst z
      obtain ⟨p, ps, e, h1, h2, h3⟩ := spl_mainC r []
      refine ⟨[], p :: ps, ?_, by simp, fun q hq => ?_, ?_⟩
      · rw [TL.spl_hit (by rfl)]
        rw [show [58].length - 1 = 0 from rfl, e, List.append_nil]
        rfl
      · rcases List.mem_cons.mp hq with rfl | hq
        · exact h1
        · exact h2 q hq
      · show [] ++ ([58] ++ TL.joinL [58] (p :: ps)) = _
        rw [h3]
        rfl
    · obtain ⟨p, ps, e, h1, h2, h3⟩ := spl_mainC r (acc ++ [c])
      refine ⟨c :: p, ps, ?_, ?_, h2, ?_⟩
      · rw [TL.spl_miss (by simp [TL.pre, z]), e]
        simp
      · intro hm
        rcases List.mem_cons.mp hm with q | q
        · exact z q.symm
        · exact h1 q
      · cases ps with
        | nil => exact congrArg (c :: ·) h3
        | cons q qs => exact congrArg (c :: ·) h3
def pcsC (l : List Nat) : List (List Nat) := TL.spl [58] 0 [] l
theorem pcsC_is (l : List Nat) : ∃ p ps, pcsC l = p :: ps ∧ 58 ∉ p ∧ (∀ q ∈ ps, 58 ∉ q) ∧ TL.joinL [58] (p :: ps) = l := by
  obtain ⟨p, ps, e, h⟩ := spl_mainC l []
  exact ⟨p, ps, e, h⟩
theorem join_leC : ∀ (ps : List (List Nat)), ∀ p ∈ ps, p.length ≤ (TL.joinL [58] ps).length
  | [], _, h => by cases h
  | [q], p, h => by
    rw [List.mem_singleton.mp h]
    exact Nat.le_refl _
  | q :: r :: t, p, h => by
    have e : TL.joinL [58] (q :: r :: t) = q ++ ([58] ++ TL.joinL [58] (r :: t)) := rfl
    rw [e]
    simp only [List.length_append]
    rcases List.mem_cons.mp h with z | z
    · rw [z]; omega
    · have := join_leC (r :: t) p z
      omega
theorem pcsC_le {l p : List Nat} (h : p ∈ pcsC l) : p.length ≤ l.length := by
  obtain ⟨q, ps, e, _, _, h3⟩ := pcsC_is l
  rw [e] at h
  have := join_leC _ p h
  rw [h3] at this
  exact this
end Zk05
namespace Zk05
open PySem PySem.Spec PyProof.Rows L2 SE SX
section
variable {μ : Mem}
theorem len_S {w : List Nat} (h : w.length ≤ 100000) : lenM [.str (S w)] μ = .ok (.int w.length) μ := by
  show (if (S w).length ≤ 10000000 then Res.ok (D.int (S w).length) μ else .bad) = _
  rw [S_len, if_pos (by omega)]
theorem ix_S {c : Nat} {r : List Nat} (h : (c :: r).length ≤ 100000) : ixM (.str (S (c :: r))) (.int 0) μ = .ok (.str (S [c])) μ := by
  have e : atI (S (c :: r)).cps.toList 0 = some c := by
    simp [atI, ixN]
  show (if (S (c :: r)).length ≤ 1000000 then (match atI (S (c :: r)).cps.toList 0 with | some c => Res.ok (D.str ⟨#[c]⟩) μ | none => .bad) else .bad) = _
  rw [S_len, if_pos (by omega), e]
theorem dig_list : ("0123456789" : Str).cps.toList = [48, 49, 50, 51, 52, 53, 54, 55, 56, 57] := by decide +kernel
theorem dig_in {c : Nat} : inM (.str ⟨#[c]⟩) (.str "0123456789") μ = .ok (.bl (dg c)) μ := by
  show Res.ok (D.bl (decide (c ∈ ("0123456789" : Str).cps.toList))) μ = _
  rw [dig_list]
  congr 2
  unfold dg
  rw [Bool.eq_iff_iff]
  simp
  omega
def dgD : D → Bool
  | .str x => x.cps.toList.all dg
  | _ => false
theorem chars_S (w : List Nat) : chars (S w) = w.map fun c => .str ⟨#[c]⟩ := by
  unfold chars
  simp
theorem chars_all (w : List Nat) : ((chars (S w)).map dgD).all id = w.all dg := by
  rw [chars_S, List.map_map, List.all_map]
  congr 1
  funext c
  simp [dgD]
/-- are all signs figures -/
theorem all_dg {i : Nat} {me : Ev → M D} {ρ : Ev} {w : List Nat} (hw : w.length ≤ 100000) (h : ∀ c μ, me ((ρ.set i none).set i (some (.str ⟨#[c]⟩))) μ = .ok (.bl (dg c)) μ) : lcF i bYes me ρ (chars (S w)) [] μ = .ok (.lst ((chars (S w)).map fun d => .bl (dgD d))) μ := by
  rw [lcF_map (g := fun d => .bl (dgD d)) (fun d hd μ => ?_) (by simp [chars_S]; omega), List.nil_append]
  rw [chars_S] at hd
  obtain ⟨c, _, rfl⟩ := List.mem_map.mp hd
  rw [h c μ]
  simp [dgD]
theorem dec_S {a b : List Nat} : decide (S a = S b) = decide (a = b) := decide_eq_decide.mpr S_iff
theorem int_v {w : List Nat} (h1 : w ≠ []) (h2 : w.all dg = true) (hl : w.length ≤ 640) : intSM [.str (S w)] μ = .ok (.int (NumText.digitsVal w : Nat)) μ := by
  show (match PySem.intText? (S w) with | some n => if (S w).length ≤ 640 then Res.ok (D.int n) μ else .bad | none => .bad) = _
  rw [int_S h2 h1 (by omega)]
  dsimp only
  rw [S_len, if_pos hl]
theorem integer_in_v {w : List Nat} (hl : w.length ≤ 640) : m_integer_in [.str (S w)] μ = .ok (oD (numO w)) μ := by
  refine wr_eq.mp ?_
  unfold m_integer_in b_integer_in c_LONGEST_INTEGER c_DIGITS
  try simp only [wr_eVar, wr_eC, wr_e2, wr_e1, wr_eL, wr_eCall, wr_eCallK, wr_eLL, wr_eSeq, wr_lNil, wr_lCons, wr_bTru, wr_bOf, wr_bNot, wr_bAnd, wr_bOr, wr_isBl, wr_eAnd, wr_eOr, wr_eNot, wr_eIf, wr_e3c, wr_ok, wr_exc, ws_sNext, ws_sSeq, ws_sSet, ws_sDrop, ws_sRet, ws_sRetN, ws_sBrk, ws_sCnt, ws_sIf, ws_sAsg, ws_sPar, ws_sSub, ws_sForE, wr_callM, List.getElem?_cons_zero, List.getElem?_cons_succ, List.set_cons_zero, List.set_cons_succ, List.map_cons, List.map_nil, List.length_cons, List.length_nil, List.cons_append, List.nil_append, List.replicate, List.append_nil, addM_i, subM_i, negM_i, cmpM_i, eqM_i, eqM_s, neM_i, neM_s, absM_i, intM_i, intM_b, max2M_i, min2M_i, lenM_t, lenM_l, lenM_r, tupM_ap, lstM_ap, strM_s, truB_b, isBl_b, newM_ap, Nat.reduceLeDiff, seqL_l, seqT_t, isNM_n, isNM_i, wr_eLc, wr_eSl, wr_oN, wr_oI, intO_i, seqA_l, seqA_r, seqA_t, listM_t, listM_l, slM_t, slM_l, ws_sMatch, ws_mcNil, ws_mcAny, ws_mcVal, if_true, if_false, Bool.false_eq_true, Bool.not_true, Bool.not_false, Nat.reduceSub, Nat.reduceAdd, Nat.zero_add, eq_self, and_self, and_true, true_and, gN]
  simp only [len_S (show w.length ≤ 100000 by omega), wr_ok]
  try simp only [wr_eVar, wr_eC, wr_e2, wr_e1, wr_eL, wr_eCall, wr_eCallK, wr_eLL, wr_eSeq, wr_lNil, wr_lCons, wr_bTru, wr_bOf, wr_bNot, wr_bAnd, wr_bOr, wr_isBl, wr_eAnd, wr_eOr, wr_eNot, wr_eIf, wr_e3c, wr_ok, wr_exc, ws_sNext, ws_sSeq, ws_sSet, ws_sDrop, ws_sRet, ws_sRetN, ws_sBrk, ws_sCnt, ws_sIf, ws_sAsg, ws_sPar, ws_sSub, ws_sForE, wr_callM, List.getElem?_cons_zero, List.getElem?_cons_succ, List.set_cons_zero, List.set_cons_succ, List.map_cons, List.map_nil, List.length_cons, List.length_nil, List.cons_append, List.nil_append, List.replicate, List.append_nil, addM_i, subM_i, negM_i, cmpM_i, eqM_i, eqM_s, neM_i, neM_s, absM_i, intM_i, intM_b, max2M_i, min2M_i, lenM_t, lenM_l, lenM_r, tupM_ap, lstM_ap, strM_s, truB_b, isBl_b, newM_ap, Nat.reduceLeDiff, seqL_l, seqT_t, isNM_n, isNM_i, wr_eLc, wr_eSl, wr_oN, wr_oI, intO_i, seqA_l, seqA_r, seqA_t, listM_t, listM_l, slM_t, slM_l, ws_sMatch, ws_mcNil, ws_mcAny, ws_mcVal, if_true, if_false, Bool.false_eq_true, Bool.not_true, Bool.not_false, Nat.reduceSub, Nat.reduceAdd, Nat.zero_add, eq_self, and_self, and_true, true_and, gN]
  cases w with
  | nil => simp [numO, oD]
  | cons c r =>
    have e1 : decide (((1 : Int)) ≤ (c :: r).length) = true := decide_eq_true (by simp; omega)
    have e2 : decide ((((c :: r).length : Int)) ≤ 4000) = true := decide_eq_true (by omega)
    simp only [e1, e2]
    try simp only [wr_eVar, wr_eC, wr_e2, wr_e1, wr_eL, wr_eCall, wr_eCallK, wr_eLL, wr_eSeq, wr_lNil, wr_lCons, wr_bTru, wr_bOf, wr_bNot, wr_bAnd, wr_bOr, wr_isBl, wr_eAnd, wr_eOr, wr_eNot, wr_eIf, wr_e3c, wr_ok, wr_exc, ws_sNext, ws_sSeq, ws_sSet, ws_sDrop, ws_sRet, ws_sRetN, ws_sBrk, ws_sCnt, ws_sIf, ws_sAsg, ws_sPar, ws_sSub, ws_sForE, wr_callM, List.getElem?_cons_zero, List.getElem?_cons_succ, List.set_cons_zero, List.set_cons_succ, List.map_cons, List.map_nil, List.length_cons, List.length_nil, List.cons_append, List.nil_append, List.replicate, List.append_nil, addM_i, subM_i, negM_i, cmpM_i, eqM_i, eqM_s, neM_i, neM_s, absM_i, intM_i, intM_b, max2M_i, min2M_i, lenM_t, lenM_l, lenM_r, tupM_ap, lstM_ap, strM_s, truB_b, isBl_b, newM_ap, Nat.reduceLeDiff, seqL_l, seqT_t, isNM_n, isNM_i, wr_eLc, wr_eSl, wr_oN, wr_oI, intO_i, seqA_l, seqA_r, seqA_t, listM_t, listM_l, slM_t, slM_l, ws_sMatch, ws_mcNil, ws_mcAny, ws_mcVal, if_true, if_false, Bool.false_eq_true, Bool.not_true, Bool.not_false, Nat.reduceSub, Nat.reduceAdd, Nat.zero_add, eq_self, and_self, and_true, true_and, gN]
    rw [seqA_s]
    try simp only [wr_eVar, wr_eC, wr_e2, wr_e1, wr_eL, wr_eCall, wr_eCallK, wr_eLL, wr_eSeq, wr_lNil, wr_lCons, wr_bTru, wr_bOf, wr_bNot, wr_bAnd, wr_bOr, wr_isBl, wr_eAnd, wr_eOr, wr_eNot, wr_eIf, wr_e3c, wr_ok, wr_exc, ws_sNext, ws_sSeq, ws_sSet, ws_sDrop, ws_sRet, ws_sRetN, ws_sBrk, ws_sCnt, ws_sIf, ws_sAsg, ws_sPar, ws_sSub, ws_sForE, wr_callM, List.getElem?_cons_zero, List.getElem?_cons_succ, List.set_cons_zero, List.set_cons_succ, List.map_cons, List.map_nil, List.length_cons, List.length_nil, List.cons_append, List.nil_append, List.replicate, List.append_nil, addM_i, subM_i, negM_i, cmpM_i, eqM_i, eqM_s, neM_i, neM_s, absM_i, intM_i, intM_b, max2M_i, min2M_i, lenM_t, lenM_l, lenM_r, tupM_ap, lstM_ap, strM_s, truB_b, isBl_b, newM_ap, Nat.reduceLeDiff, seqL_l, seqT_t, isNM_n, isNM_i, wr_eLc, wr_eSl, wr_oN, wr_oI, intO_i, seqA_l, seqA_r, seqA_t, listM_t, listM_l, slM_t, slM_l, ws_sMatch, ws_mcNil, ws_mcAny, ws_mcVal, if_true, if_false, Bool.false_eq_true, Bool.not_true, Bool.not_false, Nat.reduceSub, Nat.reduceAdd, Nat.zero_add, eq_self, and_self, and_true, true_and, gN]
    rw [all_dg (by omega) fun c μ => ?_]
    · try simp only [wr_eVar, wr_eC, wr_e2, wr_e1, wr_eL, wr_eCall, wr_eCallK, wr_eLL, wr_eSeq, wr_lNil, wr_lCons, wr_bTru, wr_bOf, wr_bNot, wr_bAnd, wr_bOr, wr_isBl, wr_eAnd, wr_eOr, wr_eNot, wr_eIf, wr_e3c, wr_ok, wr_exc, ws_sNext, ws_sSeq, ws_sSet, ws_sDrop, ws_sRet, ws_sRetN, ws_sBrk, ws_sCnt, ws_sIf, ws_sAsg, ws_sPar, ws_sSub, ws_sForE, wr_callM, List.getElem?_cons_zero, List.getElem?_cons_succ, List.set_cons_zero, List.set_cons_succ, List.map_cons, List.map_nil, List.length_cons, List.length_nil, List.cons_append, List.nil_append, List.replicate, List.append_nil, addM_i, subM_i, negM_i, cmpM_i, eqM_i, eqM_s, neM_i, neM_s, absM_i, intM_i, intM_b, max2M_i, min2M_i, lenM_t, lenM_l, lenM_r, tupM_ap, lstM_ap, strM_s, truB_b, isBl_b, newM_ap, Nat.reduceLeDiff, seqL_l, seqT_t, isNM_n, isNM_i, wr_eLc, wr_eSl, wr_oN, wr_oI, intO_i, seqA_l, seqA_r, seqA_t, listM_t, listM_l, slM_t, slM_l, ws_sMatch, ws_mcNil, ws_mcAny, ws_mcVal, if_true, if_false, Bool.false_eq_true, Bool.not_true, Bool.not_false, Nat.reduceSub, Nat.reduceAdd, Nat.zero_add, eq_self, and_self, and_true, true_and, gN]
      rw [allM_map]
      try simp only [wr_eVar, wr_eC, wr_e2, wr_e1, wr_eL, wr_eCall, wr_eCallK, wr_eLL, wr_eSeq, wr_lNil, wr_lCons, wr_bTru, wr_bOf, wr_bNot, wr_bAnd, wr_bOr, wr_isBl, wr_eAnd, wr_eOr, wr_eNot, wr_eIf, wr_e3c, wr_ok, wr_exc, ws_sNext, ws_sSeq, ws_sSet, ws_sDrop, ws_sRet, ws_sRetN, ws_sBrk, ws_sCnt, ws_sIf, ws_sAsg, ws_sPar, ws_sSub, ws_sForE, wr_callM, List.getElem?_cons_zero, List.getElem?_cons_succ, List.set_cons_zero, List.set_cons_succ, List.map_cons, List.map_nil, List.length_cons, List.length_nil, List.cons_append, List.nil_append, List.replicate, List.append_nil, addM_i, subM_i, negM_i, cmpM_i, eqM_i, eqM_s, neM_i, neM_s, absM_i, intM_i, intM_b, max2M_i, min2M_i, lenM_t, lenM_l, lenM_r, tupM_ap, lstM_ap, strM_s, truB_b, isBl_b, newM_ap, Nat.reduceLeDiff, seqL_l, seqT_t, isNM_n, isNM_i, wr_eLc, wr_eSl, wr_oN, wr_oI, intO_i, seqA_l, seqA_r, seqA_t, listM_t, listM_l, slM_t, slM_l, ws_sMatch, ws_mcNil, ws_mcAny, ws_mcVal, if_true, if_false, Bool.false_eq_true, Bool.not_true, Bool.not_false, Nat.reduceSub, Nat.reduceAdd, Nat.zero_add, eq_self, and_self, and_true, true_and, gN]
      rw [chars_all]
      unfold t_integer_in_0
      cases q : (c :: r).all dg with
      | false =>
        try simp only [wr_eVar, wr_eC, wr_e2, wr_e1, wr_eL, wr_eCall, wr_eCallK, wr_eLL, wr_eSeq, wr_lNil, wr_lCons, wr_bTru, wr_bOf, wr_bNot, wr_bAnd, wr_bOr, wr_isBl, wr_eAnd, wr_eOr, wr_eNot, wr_eIf, wr_e3c, wr_ok, wr_exc, ws_sNext, ws_sSeq, ws_sSet, ws_sDrop, ws_sRet, ws_sRetN, ws_sBrk, ws_sCnt, ws_sIf, ws_sAsg, ws_sPar, ws_sSub, ws_sForE, wr_callM, List.getElem?_cons_zero, List.getElem?_cons_succ, List.set_cons_zero, List.set_cons_succ, List.map_cons, List.map_nil, List.length_cons, List.length_nil, List.cons_append, List.nil_append, List.replicate, List.append_nil, addM_i, subM_i, negM_i, cmpM_i, eqM_i, eqM_s, neM_i, neM_s, absM_i, intM_i, intM_b, max2M_i, min2M_i, lenM_t, lenM_l, lenM_r, tupM_ap, lstM_ap, strM_s, truB_b, isBl_b, newM_ap, Nat.reduceLeDiff, seqL_l, seqT_t, isNM_n, isNM_i, wr_eLc, wr_eSl, wr_oN, wr_oI, intO_i, seqA_l, seqA_r, seqA_t, listM_t, listM_l, slM_t, slM_l, ws_sMatch, ws_mcNil, ws_mcAny, ws_mcVal, if_true, if_false, Bool.false_eq_true, Bool.not_true, Bool.not_false, Nat.reduceSub, Nat.reduceAdd, Nat.zero_add, eq_self, and_self, and_true, true_and, gN]
        have : numO (c :: r) = none := if_neg fun h => by rw [h.2.1] at q; cases q
        rw [this]
        rfl
      | true =>
        try simp only [wr_eVar, wr_eC, wr_e2, wr_e1, wr_eL, wr_eCall, wr_eCallK, wr_eLL, wr_eSeq, wr_lNil, wr_lCons, wr_bTru, wr_bOf, wr_bNot, wr_bAnd, wr_bOr, wr_isBl, wr_eAnd, wr_eOr, wr_eNot, wr_eIf, wr_e3c, wr_ok, wr_exc, ws_sNext, ws_sSeq, ws_sSet, ws_sDrop, ws_sRet, ws_sRetN, ws_sBrk, ws_sCnt, ws_sIf, ws_sAsg, ws_sPar, ws_sSub, ws_sForE, wr_callM, List.getElem?_cons_zero, List.getElem?_cons_succ, List.set_cons_zero, List.set_cons_succ, List.map_cons, List.map_nil, List.length_cons, List.length_nil, List.cons_append, List.nil_append, List.replicate, List.append_nil, addM_i, subM_i, negM_i, cmpM_i, eqM_i, eqM_s, neM_i, neM_s, absM_i, intM_i, intM_b, max2M_i, min2M_i, lenM_t, lenM_l, lenM_r, tupM_ap, lstM_ap, strM_s, truB_b, isBl_b, newM_ap, Nat.reduceLeDiff, seqL_l, seqT_t, isNM_n, isNM_i, wr_eLc, wr_eSl, wr_oN, wr_oI, intO_i, seqA_l, seqA_r, seqA_t, listM_t, listM_l, slM_t, slM_l, ws_sMatch, ws_mcNil, ws_mcAny, ws_mcVal, if_true, if_false, Bool.false_eq_true, Bool.not_true, Bool.not_false, Nat.reduceSub, Nat.reduceAdd, Nat.zero_add, eq_self, and_self, and_true, true_and, gN]
        simp only [ix_S (show (c :: r).length ≤ 100000 by omega), wr_ok]
        try simp only [wr_eVar, wr_eC, wr_e2, wr_e1, wr_eL, wr_eCall, wr_eCallK, wr_eLL, wr_eSeq, wr_lNil, wr_lCons, wr_bTru, wr_bOf, wr_bNot, wr_bAnd, wr_bOr, wr_isBl, wr_eAnd, wr_eOr, wr_eNot, wr_eIf, wr_e3c, wr_ok, wr_exc, ws_sNext, ws_sSeq, ws_sSet, ws_sDrop, ws_sRet, ws_sRetN, ws_sBrk, ws_sCnt, ws_sIf, ws_sAsg, ws_sPar, ws_sSub, ws_sForE, wr_callM, List.getElem?_cons_zero, List.getElem?_cons_succ, List.set_cons_zero, List.set_cons_succ, List.map_cons, List.map_nil, List.length_cons, List.length_nil, List.cons_append, List.nil_append, List.replicate, List.append_nil, addM_i, subM_i, negM_i, cmpM_i, eqM_i, eqM_s, neM_i, neM_s, absM_i, intM_i, intM_b, max2M_i, min2M_i, lenM_t, lenM_l, lenM_r, tupM_ap, lstM_ap, strM_s, truB_b, isBl_b, newM_ap, Nat.reduceLeDiff, seqL_l, seqT_t, isNM_n, isNM_i, wr_eLc, wr_eSl, wr_oN, wr_oI, intO_i, seqA_l, seqA_r, seqA_t, listM_t, listM_l, slM_t, slM_l, ws_sMatch, ws_mcNil, ws_mcAny, ws_mcVal, if_true, if_false, Bool.false_eq_true, Bool.not_true, Bool.not_false, Nat.reduceSub, Nat.reduceAdd, Nat.zero_add, eq_self, and_self, and_true, true_and, gN]
        simp only [z0, dec_S]
        by_cases z : c = 48
        · by_cases zr : c :: r = [48]
          · have : numO (c :: r) = some (NumText.digitsVal (c :: r)) := if_pos ⟨List.cons_ne_nil _ _, q, .inr zr⟩
            have e3 : decide ([c] = [48]) = true := decide_eq_true (by rw [z])
            have e4 : decide (c :: r = [48]) = true := decide_eq_true zr
            rw [e3, e4]
            try simp only [wr_eVar, wr_eC, wr_e2, wr_e1, wr_eL, wr_eCall, wr_eCallK, wr_eLL, wr_eSeq, wr_lNil, wr_lCons, wr_bTru, wr_bOf, wr_bNot, wr_bAnd, wr_bOr, wr_isBl, wr_eAnd, wr_eOr, wr_eNot, wr_eIf, wr_e3c, wr_ok, wr_exc, ws_sNext, ws_sSeq, ws_sSet, ws_sDrop, ws_sRet, ws_sRetN, ws_sBrk, ws_sCnt, ws_sIf, ws_sAsg, ws_sPar, ws_sSub, ws_sForE, wr_callM, List.getElem?_cons_zero, List.getElem?_cons_succ, List.set_cons_zero, List.set_cons_succ, List.map_cons, List.map_nil, List.length_cons, List.length_nil, List.cons_append, List.nil_append, List.replicate, List.append_nil, addM_i, subM_i, negM_i, cmpM_i, eqM_i, eqM_s, neM_i, neM_s, absM_i, intM_i, intM_b, max2M_i, min2M_i, lenM_t, lenM_l, lenM_r, tupM_ap, lstM_ap, strM_s, truB_b, isBl_b, newM_ap, Nat.reduceLeDiff, seqL_l, seqT_t, isNM_n, isNM_i, wr_eLc, wr_eSl, wr_oN, wr_oI, intO_i, seqA_l, seqA_r, seqA_t, listM_t, listM_l, slM_t, slM_l, ws_sMatch, ws_mcNil, ws_mcAny, ws_mcVal, if_true, if_false, Bool.false_eq_true, Bool.not_true, Bool.not_false, Nat.reduceSub, Nat.reduceAdd, Nat.zero_add, eq_self, and_self, and_true, true_and, gN]
            rw [int_v (List.cons_ne_nil _ _) q hl, this]
            exact ⟨rfl, rfl⟩
          · have : numO (c :: r) = none := if_neg fun h => by
              rcases h.2.2 with k | k
              · exact k (by rw [z]; rfl)
              · exact zr k
            have e3 : decide ([c] = [48]) = true := decide_eq_true (by rw [z])
            have zr2 : decide (c :: r = [48]) = false := decide_eq_false zr
            rw [e3, zr2, this]
            try simp only [wr_eVar, wr_eC, wr_e2, wr_e1, wr_eL, wr_eCall, wr_eCallK, wr_eLL, wr_eSeq, wr_lNil, wr_lCons, wr_bTru, wr_bOf, wr_bNot, wr_bAnd, wr_bOr, wr_isBl, wr_eAnd, wr_eOr, wr_eNot, wr_eIf, wr_e3c, wr_ok, wr_exc, ws_sNext, ws_sSeq, ws_sSet, ws_sDrop, ws_sRet, ws_sRetN, ws_sBrk, ws_sCnt, ws_sIf, ws_sAsg, ws_sPar, ws_sSub, ws_sForE, wr_callM, List.getElem?_cons_zero, List.getElem?_cons_succ, List.set_cons_zero, List.set_cons_succ, List.map_cons, List.map_nil, List.length_cons, List.length_nil, List.cons_append, List.nil_append, List.replicate, List.append_nil, addM_i, subM_i, negM_i, cmpM_i, eqM_i, eqM_s, neM_i, neM_s, absM_i, intM_i, intM_b, max2M_i, min2M_i, lenM_t, lenM_l, lenM_r, tupM_ap, lstM_ap, strM_s, truB_b, isBl_b, newM_ap, Nat.reduceLeDiff, seqL_l, seqT_t, isNM_n, isNM_i, wr_eLc, wr_eSl, wr_oN, wr_oI, intO_i, seqA_l, seqA_r, seqA_t, listM_t, listM_l, slM_t, slM_l, ws_sMatch, ws_mcNil, ws_mcAny, ws_mcVal, if_true, if_false, Bool.false_eq_true, Bool.not_true, Bool.not_false, Nat.reduceSub, Nat.reduceAdd, Nat.zero_add, eq_self, and_self, and_true, true_and, gN]
            rfl
        · have : numO (c :: r) = some (NumText.digitsVal (c :: r)) := if_pos ⟨List.cons_ne_nil _ _, q, .inl (by simp [z])⟩
          have z2 : decide ([c] = [48]) = false := decide_eq_false (by simp [z])
          rw [z2]
          try simp only [wr_eVar, wr_eC, wr_e2, wr_e1, wr_eL, wr_eCall, wr_eCallK, wr_eLL, wr_eSeq, wr_lNil, wr_lCons, wr_bTru, wr_bOf, wr_bNot, wr_bAnd, wr_bOr, wr_isBl, wr_eAnd, wr_eOr, wr_eNot, wr_eIf, wr_e3c, wr_ok, wr_exc, ws_sNext, ws_sSeq, ws_sSet, ws_sDrop, ws_sRet, ws_sRetN, ws_sBrk, ws_sCnt, ws_sIf, ws_sAsg, ws_sPar, ws_sSub, ws_sForE, wr_callM, List.getElem?_cons_zero, List.getElem?_cons_succ, List.set_cons_zero, List.set_cons_succ, List.map_cons, List.map_nil, List.length_cons, List.length_nil, List.cons_append, List.nil_append, List.replicate, List.append_nil, addM_i, subM_i, negM_i, cmpM_i, eqM_i, eqM_s, neM_i, neM_s, absM_i, intM_i, intM_b, max2M_i, min2M_i, lenM_t, lenM_l, lenM_r, tupM_ap, lstM_ap, strM_s, truB_b, isBl_b, newM_ap, Nat.reduceLeDiff, seqL_l, seqT_t, isNM_n, isNM_i, wr_eLc, wr_eSl, wr_oN, wr_oI, intO_i, seqA_l, seqA_r, seqA_t, listM_t, listM_l, slM_t, slM_l, ws_sMatch, ws_mcNil, ws_mcAny, ws_mcVal, if_true, if_false, Bool.false_eq_true, Bool.not_true, Bool.not_false, Nat.reduceSub, Nat.reduceAdd, Nat.zero_add, eq_self, and_self, and_true, true_and, gN]
          rw [int_v (List.cons_ne_nil _ _) q hl, this]
          exact ⟨rfl, rfl⟩
    · refine wr_eq.mp ?_
      try simp only [wr_eVar, wr_eC, wr_e2, wr_e1, wr_eL, wr_eCall, wr_eCallK, wr_eLL, wr_eSeq, wr_lNil, wr_lCons, wr_bTru, wr_bOf, wr_bNot, wr_bAnd, wr_bOr, wr_isBl, wr_eAnd, wr_eOr, wr_eNot, wr_eIf, wr_e3c, wr_ok, wr_exc, ws_sNext, ws_sSeq, ws_sSet, ws_sDrop, ws_sRet, ws_sRetN, ws_sBrk, ws_sCnt, ws_sIf, ws_sAsg, ws_sPar, ws_sSub, ws_sForE, wr_callM, List.getElem?_cons_zero, List.getElem?_cons_succ, List.set_cons_zero, List.set_cons_succ, List.map_cons, List.map_nil, List.length_cons, List.length_nil, List.cons_append, List.nil_append, List.replicate, List.append_nil, addM_i, subM_i, negM_i, cmpM_i, eqM_i, eqM_s, neM_i, neM_s, absM_i, intM_i, intM_b, max2M_i, min2M_i, lenM_t, lenM_l, lenM_r, tupM_ap, lstM_ap, strM_s, truB_b, isBl_b, newM_ap, Nat.reduceLeDiff, seqL_l, seqT_t, isNM_n, isNM_i, wr_eLc, wr_eSl, wr_oN, wr_oI, intO_i, seqA_l, seqA_r, seqA_t, listM_t, listM_l, slM_t, slM_l, ws_sMatch, ws_mcNil, ws_mcAny, ws_mcVal, if_true, if_false, Bool.false_eq_true, Bool.not_true, Bool.not_false, Nat.reduceSub, Nat.reduceAdd, Nat.zero_add, eq_self, and_self, and_true, true_and, gN]
      rw [dig_in]
      try simp only [wr_eVar, wr_eC, wr_e2, wr_e1, wr_eL, wr_eCall, wr_eCallK, wr_eLL, wr_eSeq, wr_lNil, wr_lCons, wr_bTru, wr_bOf, wr_bNot, wr_bAnd, wr_bOr, wr_isBl, wr_eAnd, wr_eOr, wr_eNot, wr_eIf, wr_e3c, wr_ok, wr_exc, ws_sNext, ws_sSeq, ws_sSet, ws_sDrop, ws_sRet, ws_sRetN, ws_sBrk, ws_sCnt, ws_sIf, ws_sAsg, ws_sPar, ws_sSub, ws_sForE, wr_callM, List.getElem?_cons_zero, List.getElem?_cons_succ, List.set_cons_zero, List.set_cons_succ, List.map_cons, List.map_nil, List.length_cons, List.length_nil, List.cons_append, List.nil_append, List.replicate, List.append_nil, addM_i, subM_i, negM_i, cmpM_i, eqM_i, eqM_s, neM_i, neM_s, absM_i, intM_i, intM_b, max2M_i, min2M_i, lenM_t, lenM_l, lenM_r, tupM_ap, lstM_ap, strM_s, truB_b, isBl_b, newM_ap, Nat.reduceLeDiff, seqL_l, seqT_t, isNM_n, isNM_i, wr_eLc, wr_eSl, wr_oN, wr_oI, intO_i, seqA_l, seqA_r, seqA_t, listM_t, listM_l, slM_t, slM_l, ws_sMatch, ws_mcNil, ws_mcAny, ws_mcVal, if_true, if_false, Bool.false_eq_true, Bool.not_true, Bool.not_false, Nat.reduceSub, Nat.reduceAdd, Nat.zero_add, eq_self, and_self, and_true, true_and, gN]
theorem number_v {w : List Nat} (hl : w.length ≤ 640) : m__law_number [.str (S w)] μ = .ok (oD (numO w)) μ := by
  refine wr_eq.mp ?_
  unfold m__law_number b__law_number
  try simp only [wr_eVar, wr_eC, wr_e2, wr_e1, wr_eL, wr_eCall, wr_eCallK, wr_eLL, wr_eSeq, wr_lNil, wr_lCons, wr_bTru, wr_bOf, wr_bNot, wr_bAnd, wr_bOr, wr_isBl, wr_eAnd, wr_eOr, wr_eNot, wr_eIf, wr_e3c, wr_ok, wr_exc, ws_sNext, ws_sSeq, ws_sSet, ws_sDrop, ws_sRet, ws_sRetN, ws_sBrk, ws_sCnt, ws_sIf, ws_sAsg, ws_sPar, ws_sSub, ws_sForE, wr_callM, List.getElem?_cons_zero, List.getElem?_cons_succ, List.set_cons_zero, List.set_cons_succ, List.map_cons, List.map_nil, List.length_cons, List.length_nil, List.cons_append, List.nil_append, List.replicate, List.append_nil, addM_i, subM_i, negM_i, cmpM_i, eqM_i, eqM_s, neM_i, neM_s, absM_i, intM_i, intM_b, max2M_i, min2M_i, lenM_t, lenM_l, lenM_r, tupM_ap, lstM_ap, strM_s, truB_b, isBl_b, newM_ap, Nat.reduceLeDiff, seqL_l, seqT_t, isNM_n, isNM_i, wr_eLc, wr_eSl, wr_oN, wr_oI, intO_i, seqA_l, seqA_r, seqA_t, listM_t, listM_l, slM_t, slM_l, ws_sMatch, ws_mcNil, ws_mcAny, ws_mcVal, if_true, if_false, Bool.false_eq_true, Bool.not_true, Bool.not_false, Nat.reduceSub, Nat.reduceAdd, Nat.zero_add, eq_self, and_self, and_true, true_and, gN]
  simp only [zE, dec_S]
  cases w with
  | nil => simp [numO, oD]
  | cons c r =>
    have e1 : decide (c :: r = []) = false := rfl
    simp only [e1]
    try simp only [wr_eVar, wr_eC, wr_e2, wr_e1, wr_eL, wr_eCall, wr_eCallK, wr_eLL, wr_eSeq, wr_lNil, wr_lCons, wr_bTru, wr_bOf, wr_bNot, wr_bAnd, wr_bOr, wr_isBl, wr_eAnd, wr_eOr, wr_eNot, wr_eIf, wr_e3c, wr_ok, wr_exc, ws_sNext, ws_sSeq, ws_sSet, ws_sDrop, ws_sRet, ws_sRetN, ws_sBrk, ws_sCnt, ws_sIf, ws_sAsg, ws_sPar, ws_sSub, ws_sForE, wr_callM, List.getElem?_cons_zero, List.getElem?_cons_succ, List.set_cons_zero, List.set_cons_succ, List.map_cons, List.map_nil, List.length_cons, List.length_nil, List.cons_append, List.nil_append, List.replicate, List.append_nil, addM_i, subM_i, negM_i, cmpM_i, eqM_i, eqM_s, neM_i, neM_s, absM_i, intM_i, intM_b, max2M_i, min2M_i, lenM_t, lenM_l, lenM_r, tupM_ap, lstM_ap, strM_s, truB_b, isBl_b, newM_ap, Nat.reduceLeDiff, seqL_l, seqT_t, isNM_n, isNM_i, wr_eLc, wr_eSl, wr_oN, wr_oI, intO_i, seqA_l, seqA_r, seqA_t, listM_t, listM_l, slM_t, slM_l, ws_sMatch, ws_mcNil, ws_mcAny, ws_mcVal, if_true, if_false, Bool.false_eq_true, Bool.not_true, Bool.not_false, Nat.reduceSub, Nat.reduceAdd, Nat.zero_add, eq_self, and_self, and_true, true_and, gN]
    rw [seqA_s]
    try simp only [wr_eVar, wr_eC, wr_e2, wr_e1, wr_eL, wr_eCall, wr_eCallK, wr_eLL, wr_eSeq, wr_lNil, wr_lCons, wr_bTru, wr_bOf, wr_bNot, wr_bAnd, wr_bOr, wr_isBl, wr_eAnd, wr_eOr, wr_eNot, wr_eIf, wr_e3c, wr_ok, wr_exc, ws_sNext, ws_sSeq, ws_sSet, ws_sDrop, ws_sRet, ws_sRetN, ws_sBrk, ws_sCnt, ws_sIf, ws_sAsg, ws_sPar, ws_sSub, ws_sForE, wr_callM, List.getElem?_cons_zero, List.getElem?_cons_succ, List.set_cons_zero, List.set_cons_succ, List.map_cons, List.map_nil, List.length_cons, List.length_nil, List.cons_append, List.nil_append, List.replicate, List.append_nil, addM_i, subM_i, negM_i, cmpM_i, eqM_i, eqM_s, neM_i, neM_s, absM_i, intM_i, intM_b, max2M_i, min2M_i, lenM_t, lenM_l, lenM_r, tupM_ap, lstM_ap, strM_s, truB_b, isBl_b, newM_ap, Nat.reduceLeDiff, seqL_l, seqT_t, isNM_n, isNM_i, wr_eLc, wr_eSl, wr_oN, wr_oI, intO_i, seqA_l, seqA_r, seqA_t, listM_t, listM_l, slM_t, slM_l, ws_sMatch, ws_mcNil, ws_mcAny, ws_mcVal, if_true, if_false, Bool.false_eq_true, Bool.not_true, Bool.not_false, Nat.reduceSub, Nat.reduceAdd, Nat.zero_add, eq_self, and_self, and_true, true_and, gN]
    rw [all_dg (by omega) fun c μ => ?_]
    · try simp only [wr_eVar, wr_eC, wr_e2, wr_e1, wr_eL, wr_eCall, wr_eCallK, wr_eLL, wr_eSeq, wr_lNil, wr_lCons, wr_bTru, wr_bOf, wr_bNot, wr_bAnd, wr_bOr, wr_isBl, wr_eAnd, wr_eOr, wr_eNot, wr_eIf, wr_e3c, wr_ok, wr_exc, ws_sNext, ws_sSeq, ws_sSet, ws_sDrop, ws_sRet, ws_sRetN, ws_sBrk, ws_sCnt, ws_sIf, ws_sAsg, ws_sPar, ws_sSub, ws_sForE, wr_callM, List.getElem?_cons_zero, List.getElem?_cons_succ, List.set_cons_zero, List.set_cons_succ, List.map_cons, List.map_nil, List.length_cons, List.length_nil, List.cons_append, List.nil_append, List.replicate, List.append_nil, addM_i, subM_i, negM_i, cmpM_i, eqM_i, eqM_s, neM_i, neM_s, absM_i, intM_i, intM_b, max2M_i, min2M_i, lenM_t, lenM_l, lenM_r, tupM_ap, lstM_ap, strM_s, truB_b, isBl_b, newM_ap, Nat.reduceLeDiff, seqL_l, seqT_t, isNM_n, isNM_i, wr_eLc, wr_eSl, wr_oN, wr_oI, intO_i, seqA_l, seqA_r, seqA_t, listM_t, listM_l, slM_t, slM_l, ws_sMatch, ws_mcNil, ws_mcAny, ws_mcVal, if_true, if_false, Bool.false_eq_true, Bool.not_true, Bool.not_false, Nat.reduceSub, Nat.reduceAdd, Nat.zero_add, eq_self, and_self, and_true, true_and, gN]
      rw [allM_map]
      try simp only [wr_eVar, wr_eC, wr_e2, wr_e1, wr_eL, wr_eCall, wr_eCallK, wr_eLL, wr_eSeq, wr_lNil, wr_lCons, wr_bTru, wr_bOf, wr_bNot, wr_bAnd, wr_bOr, wr_isBl, wr_eAnd, wr_eOr, wr_eNot, wr_eIf, wr_e3c, wr_ok, wr_exc, ws_sNext, ws_sSeq, ws_sSet, ws_sDrop, ws_sRet, ws_sRetN, ws_sBrk, ws_sCnt, ws_sIf, ws_sAsg, ws_sPar, ws_sSub, ws_sForE, wr_callM, List.getElem?_cons_zero, List.getElem?_cons_succ, List.set_cons_zero, List.set_cons_succ, List.map_cons, List.map_nil, List.length_cons, List.length_nil, List.cons_append, List.nil_append, List.replicate, List.append_nil, addM_i, subM_i, negM_i, cmpM_i, eqM_i, eqM_s, neM_i, neM_s, absM_i, intM_i, intM_b, max2M_i, min2M_i, lenM_t, lenM_l, lenM_r, tupM_ap, lstM_ap, strM_s, truB_b, isBl_b, newM_ap, Nat.reduceLeDiff, seqL_l, seqT_t, isNM_n, isNM_i, wr_eLc, wr_eSl, wr_oN, wr_oI, intO_i, seqA_l, seqA_r, seqA_t, listM_t, listM_l, slM_t, slM_l, ws_sMatch, ws_mcNil, ws_mcAny, ws_mcVal, if_true, if_false, Bool.false_eq_true, Bool.not_true, Bool.not_false, Nat.reduceSub, Nat.reduceAdd, Nat.zero_add, eq_self, and_self, and_true, true_and, gN]
      rw [chars_all]
      unfold t__law_number_0
      cases q : (c :: r).all dg with
      | false =>
        try simp only [wr_eVar, wr_eC, wr_e2, wr_e1, wr_eL, wr_eCall, wr_eCallK, wr_eLL, wr_eSeq, wr_lNil, wr_lCons, wr_bTru, wr_bOf, wr_bNot, wr_bAnd, wr_bOr, wr_isBl, wr_eAnd, wr_eOr, wr_eNot, wr_eIf, wr_e3c, wr_ok, wr_exc, ws_sNext, ws_sSeq, ws_sSet, ws_sDrop, ws_sRet, ws_sRetN, ws_sBrk, ws_sCnt, ws_sIf, ws_sAsg, ws_sPar, ws_sSub, ws_sForE, wr_callM, List.getElem?_cons_zero, List.getElem?_cons_succ, List.set_cons_zero, List.set_cons_succ, List.map_cons, List.map_nil, List.length_cons, List.length_nil, List.cons_append, List.nil_append, List.replicate, List.append_nil, addM_i, subM_i, negM_i, cmpM_i, eqM_i, eqM_s, neM_i, neM_s, absM_i, intM_i, intM_b, max2M_i, min2M_i, lenM_t, lenM_l, lenM_r, tupM_ap, lstM_ap, strM_s, truB_b, isBl_b, newM_ap, Nat.reduceLeDiff, seqL_l, seqT_t, isNM_n, isNM_i, wr_eLc, wr_eSl, wr_oN, wr_oI, intO_i, seqA_l, seqA_r, seqA_t, listM_t, listM_l, slM_t, slM_l, ws_sMatch, ws_mcNil, ws_mcAny, ws_mcVal, if_true, if_false, Bool.false_eq_true, Bool.not_true, Bool.not_false, Nat.reduceSub, Nat.reduceAdd, Nat.zero_add, eq_self, and_self, and_true, true_and, gN]
        have : numO (c :: r) = none := if_neg fun h => by rw [h.2.1] at q; cases q
        rw [this]
        rfl
      | true =>
        try simp only [wr_eVar, wr_eC, wr_e2, wr_e1, wr_eL, wr_eCall, wr_eCallK, wr_eLL, wr_eSeq, wr_lNil, wr_lCons, wr_bTru, wr_bOf, wr_bNot, wr_bAnd, wr_bOr, wr_isBl, wr_eAnd, wr_eOr, wr_eNot, wr_eIf, wr_e3c, wr_ok, wr_exc, ws_sNext, ws_sSeq, ws_sSet, ws_sDrop, ws_sRet, ws_sRetN, ws_sBrk, ws_sCnt, ws_sIf, ws_sAsg, ws_sPar, ws_sSub, ws_sForE, wr_callM, List.getElem?_cons_zero, List.getElem?_cons_succ, List.set_cons_zero, List.set_cons_succ, List.map_cons, List.map_nil, List.length_cons, List.length_nil, List.cons_append, List.nil_append, List.replicate, List.append_nil, addM_i, subM_i, negM_i, cmpM_i, eqM_i, eqM_s, neM_i, neM_s, absM_i, intM_i, intM_b, max2M_i, min2M_i, lenM_t, lenM_l, lenM_r, tupM_ap, lstM_ap, strM_s, truB_b, isBl_b, newM_ap, Nat.reduceLeDiff, seqL_l, seqT_t, isNM_n, isNM_i, wr_eLc, wr_eSl, wr_oN, wr_oI, intO_i, seqA_l, seqA_r, seqA_t, listM_t, listM_l, slM_t, slM_l, ws_sMatch, ws_mcNil, ws_mcAny, ws_mcVal, if_true, if_false, Bool.false_eq_true, Bool.not_true, Bool.not_false, Nat.reduceSub, Nat.reduceAdd, Nat.zero_add, eq_self, and_self, and_true, true_and, gN]
        simp only [ix_S (show (c :: r).length ≤ 100000 by omega), wr_ok]
        try simp only [wr_eVar, wr_eC, wr_e2, wr_e1, wr_eL, wr_eCall, wr_eCallK, wr_eLL, wr_eSeq, wr_lNil, wr_lCons, wr_bTru, wr_bOf, wr_bNot, wr_bAnd, wr_bOr, wr_isBl, wr_eAnd, wr_eOr, wr_eNot, wr_eIf, wr_e3c, wr_ok, wr_exc, ws_sNext, ws_sSeq, ws_sSet, ws_sDrop, ws_sRet, ws_sRetN, ws_sBrk, ws_sCnt, ws_sIf, ws_sAsg, ws_sPar, ws_sSub, ws_sForE, wr_callM, List.getElem?_cons_zero, List.getElem?_cons_succ, List.set_cons_zero, List.set_cons_succ, List.map_cons, List.map_nil, List.length_cons, List.length_nil, List.cons_append, List.nil_append, List.replicate, List.append_nil, addM_i, subM_i, negM_i, cmpM_i, eqM_i, eqM_s, neM_i, neM_s, absM_i, intM_i, intM_b, max2M_i, min2M_i, lenM_t, lenM_l, lenM_r, tupM_ap, lstM_ap, strM_s, truB_b, isBl_b, newM_ap, Nat.reduceLeDiff, seqL_l, seqT_t, isNM_n, isNM_i, wr_eLc, wr_eSl, wr_oN, wr_oI, intO_i, seqA_l, seqA_r, seqA_t, listM_t, listM_l, slM_t, slM_l, ws_sMatch, ws_mcNil, ws_mcAny, ws_mcVal, if_true, if_false, Bool.false_eq_true, Bool.not_true, Bool.not_false, Nat.reduceSub, Nat.reduceAdd, Nat.zero_add, eq_self, and_self, and_true, true_and, gN]
        simp only [z0, dec_S]
        by_cases z : c = 48
        · by_cases zr : c :: r = [48]
          · have : numO (c :: r) = some (NumText.digitsVal (c :: r)) := if_pos ⟨List.cons_ne_nil _ _, q, .inr zr⟩
            have e3 : decide ([c] = [48]) = true := decide_eq_true (by rw [z])
            have e4 : decide (c :: r = [48]) = true := decide_eq_true zr
            rw [e3, e4]
            try simp only [wr_eVar, wr_eC, wr_e2, wr_e1, wr_eL, wr_eCall, wr_eCallK, wr_eLL, wr_eSeq, wr_lNil, wr_lCons, wr_bTru, wr_bOf, wr_bNot, wr_bAnd, wr_bOr, wr_isBl, wr_eAnd, wr_eOr, wr_eNot, wr_eIf, wr_e3c, wr_ok, wr_exc, ws_sNext, ws_sSeq, ws_sSet, ws_sDrop, ws_sRet, ws_sRetN, ws_sBrk, ws_sCnt, ws_sIf, ws_sAsg, ws_sPar, ws_sSub, ws_sForE, wr_callM, List.getElem?_cons_zero, List.getElem?_cons_succ, List.set_cons_zero, List.set_cons_succ, List.map_cons, List.map_nil, List.length_cons, List.length_nil, List.cons_append, List.nil_append, List.replicate, List.append_nil, addM_i, subM_i, negM_i, cmpM_i, eqM_i, eqM_s, neM_i, neM_s, absM_i, intM_i, intM_b, max2M_i, min2M_i, lenM_t, lenM_l, lenM_r, tupM_ap, lstM_ap, strM_s, truB_b, isBl_b, newM_ap, Nat.reduceLeDiff, seqL_l, seqT_t, isNM_n, isNM_i, wr_eLc, wr_eSl, wr_oN, wr_oI, intO_i, seqA_l, seqA_r, seqA_t, listM_t, listM_l, slM_t, slM_l, ws_sMatch, ws_mcNil, ws_mcAny, ws_mcVal, if_true, if_false, Bool.false_eq_true, Bool.not_true, Bool.not_false, Nat.reduceSub, Nat.reduceAdd, Nat.zero_add, eq_self, and_self, and_true, true_and, gN]
            rw [int_v (List.cons_ne_nil _ _) q hl, this]
            exact ⟨rfl, rfl⟩
          · have : numO (c :: r) = none := if_neg fun h => by
              rcases h.2.2 with k | k
              · exact k (by rw [z]; rfl)
              · exact zr k
            have e3 : decide ([c] = [48]) = true := decide_eq_true (by rw [z])
            have zr2 : decide (c :: r = [48]) = false := decide_eq_false zr
            rw [e3, zr2, this]
            try simp only [wr_eVar, wr_eC, wr_e2, wr_e1, wr_eL, wr_eCall, wr_eCallK, wr_eLL, wr_eSeq, wr_lNil, wr_lCons, wr_bTru, wr_bOf, wr_bNot, wr_bAnd, wr_bOr, wr_isBl, wr_eAnd, wr_eOr, wr_eNot, wr_eIf, wr_e3c, wr_ok, wr_exc, ws_sNext, ws_sSeq, ws_sSet, ws_sDrop, ws_sRet, ws_sRetN, ws_sBrk, ws_sCnt, ws_sIf, ws_sAsg, ws_sPar, ws_sSub, ws_sForE, wr_callM, List.getElem?_cons_zero, List.getElem?_cons_succ, List.set_cons_zero, List.set_cons_succ, List.map_cons, List.map_nil, List.length_cons, List.length_nil, List.cons_append, List.nil_append, List.replicate, List.append_nil, addM_i, subM_i, negM_i, cmpM_i, eqM_i, eqM_s, neM_i, neM_s, absM_i, intM_i, intM_b, max2M_i, min2M_i, lenM_t, lenM_l, lenM_r, tupM_ap, lstM_ap, strM_s, truB_b, isBl_b, newM_ap, Nat.reduceLeDiff, seqL_l, seqT_t, isNM_n, isNM_i, wr_eLc, wr_eSl, wr_oN, wr_oI, intO_i, seqA_l, seqA_r, seqA_t, listM_t, listM_l, slM_t, slM_l, ws_sMatch, ws_mcNil, ws_mcAny, ws_mcVal, if_true, if_false, Bool.false_eq_true, Bool.not_true, Bool.not_false, Nat.reduceSub, Nat.reduceAdd, Nat.zero_add, eq_self, and_self, and_true, true_and, gN]
            rfl
        · have : numO (c :: r) = some (NumText.digitsVal (c :: r)) := if_pos ⟨List.cons_ne_nil _ _, q, .inl (by simp [z])⟩
          have z2 : decide ([c] = [48]) = false := decide_eq_false (by simp [z])
          rw [z2]
          try simp only [wr_eVar, wr_eC, wr_e2, wr_e1, wr_eL, wr_eCall, wr_eCallK, wr_eLL, wr_eSeq, wr_lNil, wr_lCons, wr_bTru, wr_bOf, wr_bNot, wr_bAnd, wr_bOr, wr_isBl, wr_eAnd, wr_eOr, wr_eNot, wr_eIf, wr_e3c, wr_ok, wr_exc, ws_sNext, ws_sSeq, ws_sSet, ws_sDrop, ws_sRet, ws_sRetN, ws_sBrk, ws_sCnt, ws_sIf, ws_sAsg, ws_sPar, ws_sSub, ws_sForE, wr_callM, List.getElem?_cons_zero, List.getElem?_cons_succ, List.set_cons_zero, List.set_cons_succ, List.map_cons, List.map_nil, List.length_cons, List.length_nil, List.cons_append, List.nil_append, List.replicate, List.append_nil, addM_i, subM_i, negM_i, cmpM_i, eqM_i, eqM_s, neM_i, neM_s, absM_i, intM_i, intM_b, max2M_i, min2M_i, lenM_t, lenM_l, lenM_r, tupM_ap, lstM_ap, strM_s, truB_b, isBl_b, newM_ap, Nat.reduceLeDiff, seqL_l, seqT_t, isNM_n, isNM_i, wr_eLc, wr_eSl, wr_oN, wr_oI, intO_i, seqA_l, seqA_r, seqA_t, listM_t, listM_l, slM_t, slM_l, ws_sMatch, ws_mcNil, ws_mcAny, ws_mcVal, if_true, if_false, Bool.false_eq_true, Bool.not_true, Bool.not_false, Nat.reduceSub, Nat.reduceAdd, Nat.zero_add, eq_self, and_self, and_true, true_and, gN]
          rw [int_v (List.cons_ne_nil _ _) q hl, this]
          exact ⟨rfl, rfl⟩
    · refine wr_eq.mp ?_
      try simp only [wr_eVar, wr_eC, wr_e2, wr_e1, wr_eL, wr_eCall, wr_eCallK, wr_eLL, wr_eSeq, wr_lNil, wr_lCons, wr_bTru, wr_bOf, wr_bNot, wr_bAnd, wr_bOr, wr_isBl, wr_eAnd, wr_eOr, wr_eNot, wr_eIf, wr_e3c, wr_ok, wr_exc, ws_sNext, ws_sSeq, ws_sSet, ws_sDrop, ws_sRet, ws_sRetN, ws_sBrk, ws_sCnt, ws_sIf, ws_sAsg, ws_sPar, ws_sSub, ws_sForE, wr_callM, List.getElem?_cons_zero, List.getElem?_cons_succ, List.set_cons_zero, List.set_cons_succ, List.map_cons, List.map_nil, List.length_cons, List.length_nil, List.cons_append, List.nil_append, List.replicate, List.append_nil, addM_i, subM_i, negM_i, cmpM_i, eqM_i, eqM_s, neM_i, neM_s, absM_i, intM_i, intM_b, max2M_i, min2M_i, lenM_t, lenM_l, lenM_r, tupM_ap, lstM_ap, strM_s, truB_b, isBl_b, newM_ap, Nat.reduceLeDiff, seqL_l, seqT_t, isNM_n, isNM_i, wr_eLc, wr_eSl, wr_oN, wr_oI, intO_i, seqA_l, seqA_r, seqA_t, listM_t, listM_l, slM_t, slM_l, ws_sMatch, ws_mcNil, ws_mcAny, ws_mcVal, if_true, if_false, Bool.false_eq_true, Bool.not_true, Bool.not_false, Nat.reduceSub, Nat.reduceAdd, Nat.zero_add, eq_self, and_self, and_true, true_and, gN]
      rw [dig_in]
      try simp only [wr_eVar, wr_eC, wr_e2, wr_e1, wr_eL, wr_eCall, wr_eCallK, wr_eLL, wr_eSeq, wr_lNil, wr_lCons, wr_bTru, wr_bOf, wr_bNot, wr_bAnd, wr_bOr, wr_isBl, wr_eAnd, wr_eOr, wr_eNot, wr_eIf, wr_e3c, wr_ok, wr_exc, ws_sNext, ws_sSeq, ws_sSet, ws_sDrop, ws_sRet, ws_sRetN, ws_sBrk, ws_sCnt, ws_sIf, ws_sAsg, ws_sPar, ws_sSub, ws_sForE, wr_callM, List.getElem?_cons_zero, List.getElem?_cons_succ, List.set_cons_zero, List.set_cons_succ, List.map_cons, List.map_nil, List.length_cons, List.length_nil, List.cons_append, List.nil_append, List.replicate, List.append_nil, addM_i, subM_i, negM_i, cmpM_i, eqM_i, eqM_s, neM_i, neM_s, absM_i, intM_i, intM_b, max2M_i, min2M_i, lenM_t, lenM_l, lenM_r, tupM_ap, lstM_ap, strM_s, truB_b, isBl_b, newM_ap, Nat.reduceLeDiff, seqL_l, seqT_t, isNM_n, isNM_i, wr_eLc, wr_eSl, wr_oN, wr_oI, intO_i, seqA_l, seqA_r, seqA_t, listM_t, listM_l, slM_t, slM_l, ws_sMatch, ws_mcNil, ws_mcAny, ws_mcVal, if_true, if_false, Bool.false_eq_true, Bool.not_true, Bool.not_false, Nat.reduceSub, Nat.reduceAdd, Nat.zero_add, eq_self, and_self, and_true, true_and, gN]
theorem isSt_s {x : Str} : isSt (.str x) = true := rfl
theorem sl_to {a : List Nat} (h : a.length ≤ 100000) : slM (.str (S a)) none (some 1) μ = .ok (.str (S (a.take 1))) μ := by
  show (if (S a).length ≤ 1000000 then Res.ok (D.str (cutS (S a) none (some 1))) μ else .bad) = _
  rw [S_len, if_pos (by omega), C8.cutS_slice, slice_to (by omega)]
  rfl
theorem sl_from {a : List Nat} {i : Int} (h : a.length ≤ 100000) (h0 : 0 ≤ i) : slM (.str (S a)) (some i) none μ = .ok (.str (S (a.drop i.toNat))) μ := by
  show (if (S a).length ≤ 1000000 then Res.ok (D.str (cutS (S a) (some i) none)) μ else .bad) = _
  rw [S_len, if_pos (by omega), C8.cutS_slice, slice_from h0]
theorem spl_S {a : List Nat} (h : a.length ≤ 100000) : splM (.str (S a)) (.str (S [47])) μ = .ok (.lst ((pcs a).map fun p => .str (S p))) μ := by
  show (if (S [47]).length ≠ 0 ∧ (S a).length ≤ 1000000 then Res.ok (D.lst ((Txt.split (S a) (S [47])).map .str)) μ else .bad) = _
  rw [S_len, S_len, if_pos ⟨by simp, by omega⟩, split_S (by simp) (by decide), List.map_map]
  rfl
def numD : D → D
  | .str x => oD (numO x.cps.toList)
  | _ => .non
theorem nums_map (ps : List (List Nat)) : (ps.map fun p => D.str (S p)).map numD = (ps.map numO).map oD := by
  rw [List.map_map, List.map_map]
  congr 1
theorem pcs_many {a : List Nat} : (pcs a).length ≤ a.length + 1 := by
  obtain ⟨p, ps, e, _, _, h⟩ := pcs_is a
  rw [e, ← h]
  clear e h
  have key : ∀ qs : List (List Nat), qs.length ≤ (TL.joinL [47] qs).length + 1 := by
    intro qs
    induction qs with
    | nil => simp
    | cons q qs ih =>
      cases qs with
      | nil => simp
      | cons r rs =>
        show _ ≤ (q ++ ([47] ++ TL.joinL [47] (r :: rs))).length + 1
        simp only [List.length_append, List.length_cons, List.length_nil] at ih ⊢
        omega
  exact key _
theorem nums_lc {i : Nat} {me : Ev → M D} {ρ : Ev} {a : List Nat} (hw : a.length ≤ 640) (h : ∀ (p : List Nat) μ, p.length ≤ 640 → me ((ρ.set i none).set i (some (.str (S p)))) μ = .ok (oD (numO p)) μ) : lcF i bYes me ρ ((pcs a).map fun p => .str (S p)) [] μ = .ok (.lst (((pcs a).map numO).map oD)) μ := by
  have hm := pcs_many (a := a)
  rw [lcF_map (g := numD) (fun d hd μ => ?_) (by simp; omega), List.nil_append, nums_map]
  obtain ⟨p, hp, rfl⟩ := List.mem_map.mp hd
  have := pcs_le hp
  rw [h p μ (by omega)]
  simp [numD]
theorem none_in {ns : List (Option Nat)} : inM .non (.lst (ns.map oD)) μ = .ok (.bl (ns.any Option.isNone)) μ := by
  have p : ∀ l : List (Option Nat), isPL (l.map oD) = true ∧ ((dPL (l.map oD)).any fun z => PyData.eqv z .none) = l.any Option.isNone := by
    intro l
    induction l with
    | nil => exact ⟨rfl, rfl⟩
    | cons o l ih =>
      cases o with
      | none => exact ⟨ih.1, by rw [List.map_cons]; show (PyData.eqv .none .none || _) = _; rw [List.any_cons]; rfl⟩
      | some n => exact ⟨ih.1, by rw [List.map_cons]; show (PyData.eqv (.int n) .none || (dPL (l.map oD)).any _) = _; rw [ih.2, List.any_cons]; rfl⟩
  have e : seqIn .non (ns.map oD) = some (ns.any Option.isNone) := by
    unfold seqIn
    rw [if_pos (by rw [(p ns).1]; rfl)]
    exact congrArg some (p ns).2
  show (match seqIn .non (ns.map oD) with | some k => Res.ok (D.bl k) μ | none => .bad) = _
  rw [e]
theorem len_L {xs : List D} : lenM [.lst xs] μ = .ok (.int xs.length) μ := rfl
theorem lix0 {x : D} {xs : List D} : ixM (.lst (x :: xs)) (.int 0) μ = .ok x μ := ixM_l atI_0
theorem lix1 {x y : D} {xs : List D} : ixM (.lst (x :: y :: xs)) (.int 1) μ = .ok y μ := ixM_l (atI_of (n := 1) rfl rfl)
theorem lixm1 {x : D} : ixM (.lst [x]) (.int (-1)) μ = .ok x μ := ixM_l (by simp [atI, ixN])
theorem lixm2 {x y : D} : ixM (.lst [x, y]) (.int (-1)) μ = .ok y μ := ixM_l (by simp [atI, ixN])
theorem ratio_2 {t b : Int} : m_is_ratio [.tup [.int t, .int b]] μ = .ok (.bl (rat (.tup [.int t, .int b]))) μ := by
  refine wr_eq.mp ?_
  unfold m_is_ratio b_is_ratio t_is_ratio_1 t_is_ratio_0
  try simp only [wr_eVar, wr_eC, wr_e2, wr_e1, wr_eL, wr_eCall, wr_eCallK, wr_eLL, wr_eSeq, wr_lNil, wr_lCons, wr_bTru, wr_bOf, wr_bNot, wr_bAnd, wr_bOr, wr_isBl, wr_eAnd, wr_eOr, wr_eNot, wr_eIf, wr_e3c, wr_ok, wr_exc, ws_sNext, ws_sSeq, ws_sSet, ws_sDrop, ws_sRet, ws_sRetN, ws_sBrk, ws_sCnt, ws_sIf, ws_sAsg, ws_sPar, ws_sSub, ws_sForE, wr_callM, List.getElem?_cons_zero, List.getElem?_cons_succ, List.set_cons_zero, List.set_cons_succ, List.map_cons, List.map_nil, List.length_cons, List.length_nil, List.cons_append, List.nil_append, List.replicate, List.append_nil, addM_i, subM_i, negM_i, cmpM_i, eqM_i, eqM_s, neM_i, neM_s, absM_i, intM_i, intM_b, max2M_i, min2M_i, lenM_t, lenM_l, lenM_r, tupM_ap, lstM_ap, strM_s, truB_b, isBl_b, newM_ap, Nat.reduceLeDiff, seqL_l, seqT_t, isNM_n, isNM_i, if_true, if_false, Bool.false_eq_true, Bool.not_true, Bool.not_false, Nat.reduceSub, Nat.reduceAdd, Nat.zero_add, eq_self, and_self, and_true, true_and, gN]
  simp only [isi_tuple (show plD (.tup [.int t, .int b]) = true from rfl), wr_ok]
  simp only [isT]
  try simp only [wr_eVar, wr_eC, wr_e2, wr_e1, wr_eL, wr_eCall, wr_eCallK, wr_eLL, wr_eSeq, wr_lNil, wr_lCons, wr_bTru, wr_bOf, wr_bNot, wr_bAnd, wr_bOr, wr_isBl, wr_eAnd, wr_eOr, wr_eNot, wr_eIf, wr_e3c, wr_ok, wr_exc, ws_sNext, ws_sSeq, ws_sSet, ws_sDrop, ws_sRet, ws_sRetN, ws_sBrk, ws_sCnt, ws_sIf, ws_sAsg, ws_sPar, ws_sSub, ws_sForE, wr_callM, List.getElem?_cons_zero, List.getElem?_cons_succ, List.set_cons_zero, List.set_cons_succ, List.map_cons, List.map_nil, List.length_cons, List.length_nil, List.cons_append, List.nil_append, List.replicate, List.append_nil, addM_i, subM_i, negM_i, cmpM_i, eqM_i, eqM_s, neM_i, neM_s, absM_i, intM_i, intM_b, max2M_i, min2M_i, lenM_t, lenM_l, lenM_r, tupM_ap, lstM_ap, strM_s, truB_b, isBl_b, newM_ap, Nat.reduceLeDiff, seqL_l, seqT_t, isNM_n, isNM_i, if_true, if_false, Bool.false_eq_true, Bool.not_true, Bool.not_false, Nat.reduceSub, Nat.reduceAdd, Nat.zero_add, eq_self, and_self, and_true, true_and, gN]
  simp only [ix0, ix1, wr_ok, integer_v0 (show plD (.int t) = true from rfl), integer_v1 (show plD (.int b) = true from rfl)]
  try simp only [wr_eVar, wr_eC, wr_e2, wr_e1, wr_eL, wr_eCall, wr_eCallK, wr_eLL, wr_eSeq, wr_lNil, wr_lCons, wr_bTru, wr_bOf, wr_bNot, wr_bAnd, wr_bOr, wr_isBl, wr_eAnd, wr_eOr, wr_eNot, wr_eIf, wr_e3c, wr_ok, wr_exc, ws_sNext, ws_sSeq, ws_sSet, ws_sDrop, ws_sRet, ws_sRetN, ws_sBrk, ws_sCnt, ws_sIf, ws_sAsg, ws_sPar, ws_sSub, ws_sForE, wr_callM, List.getElem?_cons_zero, List.getElem?_cons_succ, List.set_cons_zero, List.set_cons_succ, List.map_cons, List.map_nil, List.length_cons, List.length_nil, List.cons_append, List.nil_append, List.replicate, List.append_nil, addM_i, subM_i, negM_i, cmpM_i, eqM_i, eqM_s, neM_i, neM_s, absM_i, intM_i, intM_b, max2M_i, min2M_i, lenM_t, lenM_l, lenM_r, tupM_ap, lstM_ap, strM_s, truB_b, isBl_b, newM_ap, Nat.reduceLeDiff, seqL_l, seqT_t, isNM_n, isNM_i, if_true, if_false, Bool.false_eq_true, Bool.not_true, Bool.not_false, Nat.reduceSub, Nat.reduceAdd, Nat.zero_add, eq_self, and_self, and_true, true_and, gN]
  simp [isI, rat]
  by_cases z : b < 1
  · simp [z]
    omega
  · have z' : 1 ≤ b := by omega
    simp only [z, if_false]
    rw [gcd_v]
    try simp only [wr_eVar, wr_eC, wr_e2, wr_e1, wr_eL, wr_eCall, wr_eCallK, wr_eLL, wr_eSeq, wr_lNil, wr_lCons, wr_bTru, wr_bOf, wr_bNot, wr_bAnd, wr_bOr, wr_isBl, wr_eAnd, wr_eOr, wr_eNot, wr_eIf, wr_e3c, wr_ok, wr_exc, ws_sNext, ws_sSeq, ws_sSet, ws_sDrop, ws_sRet, ws_sRetN, ws_sBrk, ws_sCnt, ws_sIf, ws_sAsg, ws_sPar, ws_sSub, ws_sForE, wr_callM, List.getElem?_cons_zero, List.getElem?_cons_succ, List.set_cons_zero, List.set_cons_succ, List.map_cons, List.map_nil, List.length_cons, List.length_nil, List.cons_append, List.nil_append, List.replicate, List.append_nil, addM_i, subM_i, negM_i, cmpM_i, eqM_i, eqM_s, neM_i, neM_s, absM_i, intM_i, intM_b, max2M_i, min2M_i, lenM_t, lenM_l, lenM_r, tupM_ap, lstM_ap, strM_s, truB_b, isBl_b, newM_ap, Nat.reduceLeDiff, seqL_l, seqT_t, isNM_n, isNM_i, if_true, if_false, Bool.false_eq_true, Bool.not_true, Bool.not_false, Nat.reduceSub, Nat.reduceAdd, Nat.zero_add, eq_self, and_self, and_true, true_and, gN]
    simp [z']
    norm_cast
/-- the length of a number's text -/
theorem num_len {t : Int} (h : t.natAbs < 2 ^ 250) : (numI t).length ≤ 1930 := by
  have := cost_int (show_i h)
  rw [num_I, S_len] at this
  exact this
theorem str_v {t : Int} (h : t.natAbs < 2 ^ 250) : strM [.int t] μ = .ok (.str (S (numI t))) μ := by
  rw [strM_i (show_i h), ← num_I]
theorem fmt_v {t : Int} (h : t.natAbs < 2 ^ 250) : fmtM (.int t) μ = .ok (.str (S (numI t))) μ := by
  show (if t.natAbs.log2 < 1920 then Res.ok (D.str (toString t)) μ else .bad) = _
  rw [if_pos (show_i h), ← num_I]
theorem wr_eFs2 {ρ : Ev} {m1 m2 m3 : Ev → M D} {P : D → Mem → Prop} {E : Ex → Mem → Prop} : wr (eFs (m1 :: m2 :: m3 :: []) ρ μ) P E = wr (m1 ρ μ) (fun x μ1 => wr (catM Str.empty x μ1) (fun a μ1 => wr (m2 ρ μ1) (fun y μ2 => wr (catM a y μ2) (fun b μ2 => wr (m3 ρ μ2) (fun z μ3 => wr (catM b z μ3) (fun c μ3 => P (.str c) μ3) E) E) E) E) E) E := by
  unfold eFs fsF
  rw [wr_bnd]
  simp only [wr_bnd, fsF]
  rfl
theorem cat_v {a b : List Nat} (h : (a ++ b).length ≤ 1000000) : catM (S a) (.str (S b)) μ = .ok (S (a ++ b)) μ := by
  show (if (S a ++ S b).length ≤ 1000000 then Res.ok (S a ++ S b) μ else .bad) = _
  rw [S_cat, S_len, if_pos h]
theorem empty_S : Str.empty = S [] := rfl
theorem text_ok {t b : Int} (ht : t.natAbs < 2 ^ 250) (hb : b.natAbs < 2 ^ 250) (hr : rat (.tup [.int t, .int b]) = true) : m_ratio_text [.tup [.int t, .int b]] μ = .ok (.str (S (tx t b))) μ := by
  refine wr_eq.mp ?_
  unfold m_ratio_text b_ratio_text t_ratio_text_0
  try simp only [wr_eVar, wr_eC, wr_e2, wr_e1, wr_eL, wr_eCall, wr_eCallK, wr_eLL, wr_eSeq, wr_lNil, wr_lCons, wr_bTru, wr_bOf, wr_bNot, wr_bAnd, wr_bOr, wr_isBl, wr_eAnd, wr_eOr, wr_eNot, wr_eIf, wr_e3c, wr_ok, wr_exc, ws_sNext, ws_sSeq, ws_sSet, ws_sDrop, ws_sRet, ws_sRetN, ws_sBrk, ws_sCnt, ws_sIf, ws_sAsg, ws_sPar, ws_sSub, ws_sForE, wr_callM, List.getElem?_cons_zero, List.getElem?_cons_succ, List.set_cons_zero, List.set_cons_succ, List.map_cons, List.map_nil, List.length_cons, List.length_nil, List.cons_append, List.nil_append, List.replicate, List.append_nil, addM_i, subM_i, negM_i, cmpM_i, eqM_i, eqM_s, neM_i, neM_s, absM_i, intM_i, intM_b, max2M_i, min2M_i, lenM_t, lenM_l, lenM_r, tupM_ap, lstM_ap, strM_s, truB_b, isBl_b, newM_ap, Nat.reduceLeDiff, seqL_l, seqT_t, isNM_n, isNM_i, wr_eLc, wr_eSl, wr_oN, wr_oI, intO_i, seqA_l, seqA_r, seqA_t, listM_t, listM_l, slM_t, slM_l, ws_sMatch, ws_mcNil, ws_mcAny, ws_mcVal, if_true, if_false, Bool.false_eq_true, Bool.not_true, Bool.not_false, Nat.reduceSub, Nat.reduceAdd, Nat.zero_add, eq_self, and_self, and_true, true_and, gN]
  rw [ratio_2, hr]
  try simp only [wr_eVar, wr_eC, wr_e2, wr_e1, wr_eL, wr_eCall, wr_eCallK, wr_eLL, wr_eSeq, wr_lNil, wr_lCons, wr_bTru, wr_bOf, wr_bNot, wr_bAnd, wr_bOr, wr_isBl, wr_eAnd, wr_eOr, wr_eNot, wr_eIf, wr_e3c, wr_ok, wr_exc, ws_sNext, ws_sSeq, ws_sSet, ws_sDrop, ws_sRet, ws_sRetN, ws_sBrk, ws_sCnt, ws_sIf, ws_sAsg, ws_sPar, ws_sSub, ws_sForE, wr_callM, List.getElem?_cons_zero, List.getElem?_cons_succ, List.set_cons_zero, List.set_cons_succ, List.map_cons, List.map_nil, List.length_cons, List.length_nil, List.cons_append, List.nil_append, List.replicate, List.append_nil, addM_i, subM_i, negM_i, cmpM_i, eqM_i, eqM_s, neM_i, neM_s, absM_i, intM_i, intM_b, max2M_i, min2M_i, lenM_t, lenM_l, lenM_r, tupM_ap, lstM_ap, strM_s, truB_b, isBl_b, newM_ap, Nat.reduceLeDiff, seqL_l, seqT_t, isNM_n, isNM_i, wr_eLc, wr_eSl, wr_oN, wr_oI, intO_i, seqA_l, seqA_r, seqA_t, listM_t, listM_l, slM_t, slM_l, ws_sMatch, ws_mcNil, ws_mcAny, ws_mcVal, if_true, if_false, Bool.false_eq_true, Bool.not_true, Bool.not_false, Nat.reduceSub, Nat.reduceAdd, Nat.zero_add, eq_self, and_self, and_true, true_and, gN]
  simp only [ix0, ix1, wr_ok]
  try simp only [wr_eVar, wr_eC, wr_e2, wr_e1, wr_eL, wr_eCall, wr_eCallK, wr_eLL, wr_eSeq, wr_lNil, wr_lCons, wr_bTru, wr_bOf, wr_bNot, wr_bAnd, wr_bOr, wr_isBl, wr_eAnd, wr_eOr, wr_eNot, wr_eIf, wr_e3c, wr_ok, wr_exc, ws_sNext, ws_sSeq, ws_sSet, ws_sDrop, ws_sRet, ws_sRetN, ws_sBrk, ws_sCnt, ws_sIf, ws_sAsg, ws_sPar, ws_sSub, ws_sForE, wr_callM, List.getElem?_cons_zero, List.getElem?_cons_succ, List.set_cons_zero, List.set_cons_succ, List.map_cons, List.map_nil, List.length_cons, List.length_nil, List.cons_append, List.nil_append, List.replicate, List.append_nil, addM_i, subM_i, negM_i, cmpM_i, eqM_i, eqM_s, neM_i, neM_s, absM_i, intM_i, intM_b, max2M_i, min2M_i, lenM_t, lenM_l, lenM_r, tupM_ap, lstM_ap, strM_s, truB_b, isBl_b, newM_ap, Nat.reduceLeDiff, seqL_l, seqT_t, isNM_n, isNM_i, wr_eLc, wr_eSl, wr_oN, wr_oI, intO_i, seqA_l, seqA_r, seqA_t, listM_t, listM_l, slM_t, slM_l, ws_sMatch, ws_mcNil, ws_mcAny, ws_mcVal, if_true, if_false, Bool.false_eq_true, Bool.not_true, Bool.not_false, Nat.reduceSub, Nat.reduceAdd, Nat.zero_add, eq_self, and_self, and_true, true_and, gN]
  have l1 := num_len ht
  have l2 := num_len hb
  unfold tx
  by_cases z : b = 1
  · simp only [z, decide_true, if_true]
    rw [str_v ht]
    exact ⟨rfl, rfl⟩
  · simp only [decide_eq_false z, Bool.false_eq_true, if_false, z]
    rw [wr_eFs2]
    try simp only [wr_eVar, wr_eC, wr_e2, wr_e1, wr_eL, wr_eCall, wr_eCallK, wr_eLL, wr_eSeq, wr_lNil, wr_lCons, wr_bTru, wr_bOf, wr_bNot, wr_bAnd, wr_bOr, wr_isBl, wr_eAnd, wr_eOr, wr_eNot, wr_eIf, wr_e3c, wr_ok, wr_exc, ws_sNext, ws_sSeq, ws_sSet, ws_sDrop, ws_sRet, ws_sRetN, ws_sBrk, ws_sCnt, ws_sIf, ws_sAsg, ws_sPar, ws_sSub, ws_sForE, wr_callM, List.getElem?_cons_zero, List.getElem?_cons_succ, List.set_cons_zero, List.set_cons_succ, List.map_cons, List.map_nil, List.length_cons, List.length_nil, List.cons_append, List.nil_append, List.replicate, List.append_nil, addM_i, subM_i, negM_i, cmpM_i, eqM_i, eqM_s, neM_i, neM_s, absM_i, intM_i, intM_b, max2M_i, min2M_i, lenM_t, lenM_l, lenM_r, tupM_ap, lstM_ap, strM_s, truB_b, isBl_b, newM_ap, Nat.reduceLeDiff, seqL_l, seqT_t, isNM_n, isNM_i, wr_eLc, wr_eSl, wr_oN, wr_oI, intO_i, seqA_l, seqA_r, seqA_t, listM_t, listM_l, slM_t, slM_l, ws_sMatch, ws_mcNil, ws_mcAny, ws_mcVal, if_true, if_false, Bool.false_eq_true, Bool.not_true, Bool.not_false, Nat.reduceSub, Nat.reduceAdd, Nat.zero_add, eq_self, and_self, and_true, true_and, gN]
    simp only [ix0, ix1, wr_ok, fmt_v ht, fmt_v hb]
    rw [empty_S, cat_v (by simp; omega)]
    try simp only [wr_eVar, wr_eC, wr_e2, wr_e1, wr_eL, wr_eCall, wr_eCallK, wr_eLL, wr_eSeq, wr_lNil, wr_lCons, wr_bTru, wr_bOf, wr_bNot, wr_bAnd, wr_bOr, wr_isBl, wr_eAnd, wr_eOr, wr_eNot, wr_eIf, wr_e3c, wr_ok, wr_exc, ws_sNext, ws_sSeq, ws_sSet, ws_sDrop, ws_sRet, ws_sRetN, ws_sBrk, ws_sCnt, ws_sIf, ws_sAsg, ws_sPar, ws_sSub, ws_sForE, wr_callM, List.getElem?_cons_zero, List.getElem?_cons_succ, List.set_cons_zero, List.set_cons_succ, List.map_cons, List.map_nil, List.length_cons, List.length_nil, List.cons_append, List.nil_append, List.replicate, List.append_nil, addM_i, subM_i, negM_i, cmpM_i, eqM_i, eqM_s, neM_i, neM_s, absM_i, intM_i, intM_b, max2M_i, min2M_i, lenM_t, lenM_l, lenM_r, tupM_ap, lstM_ap, strM_s, truB_b, isBl_b, newM_ap, Nat.reduceLeDiff, seqL_l, seqT_t, isNM_n, isNM_i, wr_eLc, wr_eSl, wr_oN, wr_oI, intO_i, seqA_l, seqA_r, seqA_t, listM_t, listM_l, slM_t, slM_l, ws_sMatch, ws_mcNil, ws_mcAny, ws_mcVal, if_true, if_false, Bool.false_eq_true, Bool.not_true, Bool.not_false, Nat.reduceSub, Nat.reduceAdd, Nat.zero_add, eq_self, and_self, and_true, true_and, gN]
    rw [zS, cat_v (by simp; omega)]
    try simp only [wr_eVar, wr_eC, wr_e2, wr_e1, wr_eL, wr_eCall, wr_eCallK, wr_eLL, wr_eSeq, wr_lNil, wr_lCons, wr_bTru, wr_bOf, wr_bNot, wr_bAnd, wr_bOr, wr_isBl, wr_eAnd, wr_eOr, wr_eNot, wr_eIf, wr_e3c, wr_ok, wr_exc, ws_sNext, ws_sSeq, ws_sSet, ws_sDrop, ws_sRet, ws_sRetN, ws_sBrk, ws_sCnt, ws_sIf, ws_sAsg, ws_sPar, ws_sSub, ws_sForE, wr_callM, List.getElem?_cons_zero, List.getElem?_cons_succ, List.set_cons_zero, List.set_cons_succ, List.map_cons, List.map_nil, List.length_cons, List.length_nil, List.cons_append, List.nil_append, List.replicate, List.append_nil, addM_i, subM_i, negM_i, cmpM_i, eqM_i, eqM_s, neM_i, neM_s, absM_i, intM_i, intM_b, max2M_i, min2M_i, lenM_t, lenM_l, lenM_r, tupM_ap, lstM_ap, strM_s, truB_b, isBl_b, newM_ap, Nat.reduceLeDiff, seqL_l, seqT_t, isNM_n, isNM_i, wr_eLc, wr_eSl, wr_oN, wr_oI, intO_i, seqA_l, seqA_r, seqA_t, listM_t, listM_l, slM_t, slM_l, ws_sMatch, ws_mcNil, ws_mcAny, ws_mcVal, if_true, if_false, Bool.false_eq_true, Bool.not_true, Bool.not_false, Nat.reduceSub, Nat.reduceAdd, Nat.zero_add, eq_self, and_self, and_true, true_and, gN]
    try simp only [decide_false, Bool.false_eq_true, if_false]
    rw [cat_v (by simp; omega)]
    try simp only [wr_eVar, wr_eC, wr_e2, wr_e1, wr_eL, wr_eCall, wr_eCallK, wr_eLL, wr_eSeq, wr_lNil, wr_lCons, wr_bTru, wr_bOf, wr_bNot, wr_bAnd, wr_bOr, wr_isBl, wr_eAnd, wr_eOr, wr_eNot, wr_eIf, wr_e3c, wr_ok, wr_exc, ws_sNext, ws_sSeq, ws_sSet, ws_sDrop, ws_sRet, ws_sRetN, ws_sBrk, ws_sCnt, ws_sIf, ws_sAsg, ws_sPar, ws_sSub, ws_sForE, wr_callM, List.getElem?_cons_zero, List.getElem?_cons_succ, List.set_cons_zero, List.set_cons_succ, List.map_cons, List.map_nil, List.length_cons, List.length_nil, List.cons_append, List.nil_append, List.replicate, List.append_nil, addM_i, subM_i, negM_i, cmpM_i, eqM_i, eqM_s, neM_i, neM_s, absM_i, intM_i, intM_b, max2M_i, min2M_i, lenM_t, lenM_l, lenM_r, tupM_ap, lstM_ap, strM_s, truB_b, isBl_b, newM_ap, Nat.reduceLeDiff, seqL_l, seqT_t, isNM_n, isNM_i, wr_eLc, wr_eSl, wr_oN, wr_oI, intO_i, seqA_l, seqA_r, seqA_t, listM_t, listM_l, slM_t, slM_l, ws_sMatch, ws_mcNil, ws_mcAny, ws_mcVal, if_true, if_false, Bool.false_eq_true, Bool.not_true, Bool.not_false, Nat.reduceSub, Nat.reduceAdd, Nat.zero_add, eq_self, and_self, and_true, true_and, gN]
    simp
/-! ### the program's reading -/
theorem rat_is {t b : Int} : rat (.tup [.int t, .int b]) = (decide (1 ≤ b) && decide (Int.gcd t b = 1)) := rfl
theorem gcd_sg {b : Bool} {n m : Nat} : Int.gcd (sg b n) m = Int.gcd n m := by
  unfold sg
  cases b with
  | false => rfl
  | true =>
    simp only [if_true]
    rw [show (0 - (n : Int)) = -(n : Int) by omega, Int.neg_gcd]
theorem ratio_in_v {a : List Nat} (ha : a.length ≤ 75) : m_ratio_in [.str (S a)] μ = .ok (rD (rdO a)) μ := by
  refine wr_eq.mp ?_
  unfold m_ratio_in b_ratio_in
  try simp only [wr_eVar, wr_eC, wr_e2, wr_e1, wr_eL, wr_eCall, wr_eCallK, wr_eLL, wr_eSeq, wr_lNil, wr_lCons, wr_bTru, wr_bOf, wr_bNot, wr_bAnd, wr_bOr, wr_isBl, wr_eAnd, wr_eOr, wr_eNot, wr_eIf, wr_e3c, wr_ok, wr_exc, ws_sNext, ws_sSeq, ws_sSet, ws_sDrop, ws_sRet, ws_sRetN, ws_sBrk, ws_sCnt, ws_sIf, ws_sAsg, ws_sPar, ws_sSub, ws_sForE, wr_callM, List.getElem?_cons_zero, List.getElem?_cons_succ, List.set_cons_zero, List.set_cons_succ, List.map_cons, List.map_nil, List.length_cons, List.length_nil, List.cons_append, List.nil_append, List.replicate, List.append_nil, addM_i, subM_i, negM_i, cmpM_i, eqM_i, eqM_s, neM_i, neM_s, absM_i, intM_i, intM_b, max2M_i, min2M_i, lenM_t, lenM_l, lenM_r, tupM_ap, lstM_ap, strM_s, truB_b, isBl_b, newM_ap, Nat.reduceLeDiff, seqL_l, seqT_t, isNM_n, isNM_i, wr_eLc, wr_eSl, wr_oN, wr_oI, intO_i, seqA_l, seqA_r, seqA_t, listM_t, listM_l, slM_t, slM_l, ws_sMatch, ws_mcNil, ws_mcAny, ws_mcVal, if_true, if_false, Bool.false_eq_true, Bool.not_true, Bool.not_false, Nat.reduceSub, Nat.reduceAdd, Nat.zero_add, eq_self, and_self, and_true, true_and, gN]
  simp only [sl_to (show a.length ≤ 100000 by omega), wr_ok]
  try simp only [wr_eVar, wr_eC, wr_e2, wr_e1, wr_eL, wr_eCall, wr_eCallK, wr_eLL, wr_eSeq, wr_lNil, wr_lCons, wr_bTru, wr_bOf, wr_bNot, wr_bAnd, wr_bOr, wr_isBl, wr_eAnd, wr_eOr, wr_eNot, wr_eIf, wr_e3c, wr_ok, wr_exc, ws_sNext, ws_sSeq, ws_sSet, ws_sDrop, ws_sRet, ws_sRetN, ws_sBrk, ws_sCnt, ws_sIf, ws_sAsg, ws_sPar, ws_sSub, ws_sForE, wr_callM, List.getElem?_cons_zero, List.getElem?_cons_succ, List.set_cons_zero, List.set_cons_succ, List.map_cons, List.map_nil, List.length_cons, List.length_nil, List.cons_append, List.nil_append, List.replicate, List.append_nil, addM_i, subM_i, negM_i, cmpM_i, eqM_i, eqM_s, neM_i, neM_s, absM_i, intM_i, intM_b, max2M_i, min2M_i, lenM_t, lenM_l, lenM_r, tupM_ap, lstM_ap, strM_s, truB_b, isBl_b, newM_ap, Nat.reduceLeDiff, seqL_l, seqT_t, isNM_n, isNM_i, wr_eLc, wr_eSl, wr_oN, wr_oI, intO_i, seqA_l, seqA_r, seqA_t, listM_t, listM_l, slM_t, slM_l, ws_sMatch, ws_mcNil, ws_mcAny, ws_mcVal, if_true, if_false, Bool.false_eq_true, Bool.not_true, Bool.not_false, Nat.reduceSub, Nat.reduceAdd, Nat.zero_add, eq_self, and_self, and_true, true_and, gN]
  simp only [zM, dec_S]
  rw [show decide (List.take 1 a = [45]) = below a from rfl]
  -- the sign
  have main : ∀ s : Int, s = (if below a = true then -1 else 1) → ws (t_ratio_in_3 [some (.str (S a)), some (.int s), none, none, none] μ) (fun _ μ' => D.non = rD (rdO a) ∧ μ' = μ) (fun d μ' => d = rD (rdO a) ∧ μ' = μ) (fun _ _ => False) (fun _ _ => False) (fun _ _ => False) := by
    intro s hs
    unfold t_ratio_in_3
    try simp only [wr_eVar, wr_eC, wr_e2, wr_e1, wr_eL, wr_eCall, wr_eCallK, wr_eLL, wr_eSeq, wr_lNil, wr_lCons, wr_bTru, wr_bOf, wr_bNot, wr_bAnd, wr_bOr, wr_isBl, wr_eAnd, wr_eOr, wr_eNot, wr_eIf, wr_e3c, wr_ok, wr_exc, ws_sNext, ws_sSeq, ws_sSet, ws_sDrop, ws_sRet, ws_sRetN, ws_sBrk, ws_sCnt, ws_sIf, ws_sAsg, ws_sPar, ws_sSub, ws_sForE, wr_callM, List.getElem?_cons_zero, List.getElem?_cons_succ, List.set_cons_zero, List.set_cons_succ, List.map_cons, List.map_nil, List.length_cons, List.length_nil, List.cons_append, List.nil_append, List.replicate, List.append_nil, addM_i, subM_i, negM_i, cmpM_i, eqM_i, eqM_s, neM_i, neM_s, absM_i, intM_i, intM_b, max2M_i, min2M_i, lenM_t, lenM_l, lenM_r, tupM_ap, lstM_ap, strM_s, truB_b, isBl_b, newM_ap, Nat.reduceLeDiff, seqL_l, seqT_t, isNM_n, isNM_i, wr_eLc, wr_eSl, wr_oN, wr_oI, intO_i, seqA_l, seqA_r, seqA_t, listM_t, listM_l, slM_t, slM_l, ws_sMatch, ws_mcNil, ws_mcAny, ws_mcVal, if_true, if_false, Bool.false_eq_true, Bool.not_true, Bool.not_false, Nat.reduceSub, Nat.reduceAdd, Nat.zero_add, eq_self, and_self, and_true, true_and, gN]
    have i0 : (0 : Int) ≤ (if decide (s < 0) = true then 1 else 0) := by split <;> omega
    simp only [wr_eM1]
    try simp only [wr_eVar, wr_eC, wr_e2, wr_e1, wr_eL, wr_eCall, wr_eCallK, wr_eLL, wr_eSeq, wr_lNil, wr_lCons, wr_bTru, wr_bOf, wr_bNot, wr_bAnd, wr_bOr, wr_isBl, wr_eAnd, wr_eOr, wr_eNot, wr_eIf, wr_e3c, wr_ok, wr_exc, ws_sNext, ws_sSeq, ws_sSet, ws_sDrop, ws_sRet, ws_sRetN, ws_sBrk, ws_sCnt, ws_sIf, ws_sAsg, ws_sPar, ws_sSub, ws_sForE, wr_callM, List.getElem?_cons_zero, List.getElem?_cons_succ, List.set_cons_zero, List.set_cons_succ, List.map_cons, List.map_nil, List.length_cons, List.length_nil, List.cons_append, List.nil_append, List.replicate, List.append_nil, addM_i, subM_i, negM_i, cmpM_i, eqM_i, eqM_s, neM_i, neM_s, absM_i, intM_i, intM_b, max2M_i, min2M_i, lenM_t, lenM_l, lenM_r, tupM_ap, lstM_ap, strM_s, truB_b, isBl_b, newM_ap, Nat.reduceLeDiff, seqL_l, seqT_t, isNM_n, isNM_i, wr_eLc, wr_eSl, wr_oN, wr_oI, intO_i, seqA_l, seqA_r, seqA_t, listM_t, listM_l, slM_t, slM_l, ws_sMatch, ws_mcNil, ws_mcAny, ws_mcVal, if_true, if_false, Bool.false_eq_true, Bool.not_true, Bool.not_false, Nat.reduceSub, Nat.reduceAdd, Nat.zero_add, eq_self, and_self, and_true, true_and, gN]
    simp only [sl_from (show a.length ≤ 100000 by omega) i0, wr_ok]
    try simp only [wr_eVar, wr_eC, wr_e2, wr_e1, wr_eL, wr_eCall, wr_eCallK, wr_eLL, wr_eSeq, wr_lNil, wr_lCons, wr_bTru, wr_bOf, wr_bNot, wr_bAnd, wr_bOr, wr_isBl, wr_eAnd, wr_eOr, wr_eNot, wr_eIf, wr_e3c, wr_ok, wr_exc, ws_sNext, ws_sSeq, ws_sSet, ws_sDrop, ws_sRet, ws_sRetN, ws_sBrk, ws_sCnt, ws_sIf, ws_sAsg, ws_sPar, ws_sSub, ws_sForE, wr_callM, List.getElem?_cons_zero, List.getElem?_cons_succ, List.set_cons_zero, List.set_cons_succ, List.map_cons, List.map_nil, List.length_cons, List.length_nil, List.cons_append, List.nil_append, List.replicate, List.append_nil, addM_i, subM_i, negM_i, cmpM_i, eqM_i, eqM_s, neM_i, neM_s, absM_i, intM_i, intM_b, max2M_i, min2M_i, lenM_t, lenM_l, lenM_r, tupM_ap, lstM_ap, strM_s, truB_b, isBl_b, newM_ap, Nat.reduceLeDiff, seqL_l, seqT_t, isNM_n, isNM_i, wr_eLc, wr_eSl, wr_oN, wr_oI, intO_i, seqA_l, seqA_r, seqA_t, listM_t, listM_l, slM_t, slM_l, ws_sMatch, ws_mcNil, ws_mcAny, ws_mcVal, if_true, if_false, Bool.false_eq_true, Bool.not_true, Bool.not_false, Nat.reduceSub, Nat.reduceAdd, Nat.zero_add, eq_self, and_self, and_true, true_and, gN]
    have er : a.drop (if decide (s < 0) = true then (1 : Int) else 0).toNat = rest a := by
      unfold rest
      cases hb : below a with
      | false => rw [hb] at hs; subst hs; rfl
      | true => rw [hb] at hs; subst hs; rfl
    simp only [er, isSt_s, if_true]
    try simp only [wr_eVar, wr_eC, wr_e2, wr_e1, wr_eL, wr_eCall, wr_eCallK, wr_eLL, wr_eSeq, wr_lNil, wr_lCons, wr_bTru, wr_bOf, wr_bNot, wr_bAnd, wr_bOr, wr_isBl, wr_eAnd, wr_eOr, wr_eNot, wr_eIf, wr_e3c, wr_ok, wr_exc, ws_sNext, ws_sSeq, ws_sSet, ws_sDrop, ws_sRet, ws_sRetN, ws_sBrk, ws_sCnt, ws_sIf, ws_sAsg, ws_sPar, ws_sSub, ws_sForE, wr_callM, List.getElem?_cons_zero, List.getElem?_cons_succ, List.set_cons_zero, List.set_cons_succ, List.map_cons, List.map_nil, List.length_cons, List.length_nil, List.cons_append, List.nil_append, List.replicate, List.append_nil, addM_i, subM_i, negM_i, cmpM_i, eqM_i, eqM_s, neM_i, neM_s, absM_i, intM_i, intM_b, max2M_i, min2M_i, lenM_t, lenM_l, lenM_r, tupM_ap, lstM_ap, strM_s, truB_b, isBl_b, newM_ap, Nat.reduceLeDiff, seqL_l, seqT_t, isNM_n, isNM_i, wr_eLc, wr_eSl, wr_oN, wr_oI, intO_i, seqA_l, seqA_r, seqA_t, listM_t, listM_l, slM_t, slM_l, ws_sMatch, ws_mcNil, ws_mcAny, ws_mcVal, if_true, if_false, Bool.false_eq_true, Bool.not_true, Bool.not_false, Nat.reduceSub, Nat.reduceAdd, Nat.zero_add, eq_self, and_self, and_true, true_and, gN]
    have hr : (rest a).length ≤ a.length := by
      unfold rest
      split
      · simp
      · exact Nat.le_refl _
    rw [zS, spl_S (by omega)]
    try simp only [wr_eVar, wr_eC, wr_e2, wr_e1, wr_eL, wr_eCall, wr_eCallK, wr_eLL, wr_eSeq, wr_lNil, wr_lCons, wr_bTru, wr_bOf, wr_bNot, wr_bAnd, wr_bOr, wr_isBl, wr_eAnd, wr_eOr, wr_eNot, wr_eIf, wr_e3c, wr_ok, wr_exc, ws_sNext, ws_sSeq, ws_sSet, ws_sDrop, ws_sRet, ws_sRetN, ws_sBrk, ws_sCnt, ws_sIf, ws_sAsg, ws_sPar, ws_sSub, ws_sForE, wr_callM, List.getElem?_cons_zero, List.getElem?_cons_succ, List.set_cons_zero, List.set_cons_succ, List.map_cons, List.map_nil, List.length_cons, List.length_nil, List.cons_append, List.nil_append, List.replicate, List.append_nil, addM_i, subM_i, negM_i, cmpM_i, eqM_i, eqM_s, neM_i, neM_s, absM_i, intM_i, intM_b, max2M_i, min2M_i, lenM_t, lenM_l, lenM_r, tupM_ap, lstM_ap, strM_s, truB_b, isBl_b, newM_ap, Nat.reduceLeDiff, seqL_l, seqT_t, isNM_n, isNM_i, wr_eLc, wr_eSl, wr_oN, wr_oI, intO_i, seqA_l, seqA_r, seqA_t, listM_t, listM_l, slM_t, slM_l, ws_sMatch, ws_mcNil, ws_mcAny, ws_mcVal, if_true, if_false, Bool.false_eq_true, Bool.not_true, Bool.not_false, Nat.reduceSub, Nat.reduceAdd, Nat.zero_add, eq_self, and_self, and_true, true_and, gN]
    rw [nums_lc (by omega) fun p μ hp => ?_]
    · try simp only [wr_eVar, wr_eC, wr_e2, wr_e1, wr_eL, wr_eCall, wr_eCallK, wr_eLL, wr_eSeq, wr_lNil, wr_lCons, wr_bTru, wr_bOf, wr_bNot, wr_bAnd, wr_bOr, wr_isBl, wr_eAnd, wr_eOr, wr_eNot, wr_eIf, wr_e3c, wr_ok, wr_exc, ws_sNext, ws_sSeq, ws_sSet, ws_sDrop, ws_sRet, ws_sRetN, ws_sBrk, ws_sCnt, ws_sIf, ws_sAsg, ws_sPar, ws_sSub, ws_sForE, wr_callM, List.getElem?_cons_zero, List.getElem?_cons_succ, List.set_cons_zero, List.set_cons_succ, List.map_cons, List.map_nil, List.length_cons, List.length_nil, List.cons_append, List.nil_append, List.replicate, List.append_nil, addM_i, subM_i, negM_i, cmpM_i, eqM_i, eqM_s, neM_i, neM_s, absM_i, intM_i, intM_b, max2M_i, min2M_i, lenM_t, lenM_l, lenM_r, tupM_ap, lstM_ap, strM_s, truB_b, isBl_b, newM_ap, Nat.reduceLeDiff, seqL_l, seqT_t, isNM_n, isNM_i, wr_eLc, wr_eSl, wr_oN, wr_oI, intO_i, seqA_l, seqA_r, seqA_t, listM_t, listM_l, slM_t, slM_l, ws_sMatch, ws_mcNil, ws_mcAny, ws_mcVal, if_true, if_false, Bool.false_eq_true, Bool.not_true, Bool.not_false, Nat.reduceSub, Nat.reduceAdd, Nat.zero_add, eq_self, and_self, and_true, true_and, gN]
      unfold t_ratio_in_2
      try simp only [wr_eVar, wr_eC, wr_e2, wr_e1, wr_eL, wr_eCall, wr_eCallK, wr_eLL, wr_eSeq, wr_lNil, wr_lCons, wr_bTru, wr_bOf, wr_bNot, wr_bAnd, wr_bOr, wr_isBl, wr_eAnd, wr_eOr, wr_eNot, wr_eIf, wr_e3c, wr_ok, wr_exc, ws_sNext, ws_sSeq, ws_sSet, ws_sDrop, ws_sRet, ws_sRetN, ws_sBrk, ws_sCnt, ws_sIf, ws_sAsg, ws_sPar, ws_sSub, ws_sForE, wr_callM, List.getElem?_cons_zero, List.getElem?_cons_succ, List.set_cons_zero, List.set_cons_succ, List.map_cons, List.map_nil, List.length_cons, List.length_nil, List.cons_append, List.nil_append, List.replicate, List.append_nil, addM_i, subM_i, negM_i, cmpM_i, eqM_i, eqM_s, neM_i, neM_s, absM_i, intM_i, intM_b, max2M_i, min2M_i, lenM_t, lenM_l, lenM_r, tupM_ap, lstM_ap, strM_s, truB_b, isBl_b, newM_ap, Nat.reduceLeDiff, seqL_l, seqT_t, isNM_n, isNM_i, wr_eLc, wr_eSl, wr_oN, wr_oI, intO_i, seqA_l, seqA_r, seqA_t, listM_t, listM_l, slM_t, slM_l, ws_sMatch, ws_mcNil, ws_mcAny, ws_mcVal, if_true, if_false, Bool.false_eq_true, Bool.not_true, Bool.not_false, Nat.reduceSub, Nat.reduceAdd, Nat.zero_add, eq_self, and_self, and_true, true_and, gN]
      obtain ⟨p, ps, e, f1, f2, f3⟩ := pcs_is (rest a)
      have rl : rdO a = rdL (below a) ((p :: ps).map numO) := by unfold rdO; rw [e]
      rw [rl, e]
      simp only [none_in, wr_ok]
      try simp only [wr_eVar, wr_eC, wr_e2, wr_e1, wr_eL, wr_eCall, wr_eCallK, wr_eLL, wr_eSeq, wr_lNil, wr_lCons, wr_bTru, wr_bOf, wr_bNot, wr_bAnd, wr_bOr, wr_isBl, wr_eAnd, wr_eOr, wr_eNot, wr_eIf, wr_e3c, wr_ok, wr_exc, ws_sNext, ws_sSeq, ws_sSet, ws_sDrop, ws_sRet, ws_sRetN, ws_sBrk, ws_sCnt, ws_sIf, ws_sAsg, ws_sPar, ws_sSub, ws_sForE, wr_callM, List.getElem?_cons_zero, List.getElem?_cons_succ, List.set_cons_zero, List.set_cons_succ, List.map_cons, List.map_nil, List.length_cons, List.length_nil, List.cons_append, List.nil_append, List.replicate, List.append_nil, addM_i, subM_i, negM_i, cmpM_i, eqM_i, eqM_s, neM_i, neM_s, absM_i, intM_i, intM_b, max2M_i, min2M_i, lenM_t, lenM_l, lenM_r, tupM_ap, lstM_ap, strM_s, truB_b, isBl_b, newM_ap, Nat.reduceLeDiff, seqL_l, seqT_t, isNM_n, isNM_i, wr_eLc, wr_eSl, wr_oN, wr_oI, intO_i, seqA_l, seqA_r, seqA_t, listM_t, listM_l, slM_t, slM_l, ws_sMatch, ws_mcNil, ws_mcAny, ws_mcVal, if_true, if_false, Bool.false_eq_true, Bool.not_true, Bool.not_false, Nat.reduceSub, Nat.reduceAdd, Nat.zero_add, eq_self, and_self, and_true, true_and, gN]
      cases ps with
      | nil =>
        simp only [List.map_cons, List.map_nil, List.length_cons, List.length_nil, List.any_cons, List.any_nil, Bool.or_false]
        simp only [show decide ((2 : Int) < ((0 + 1 : Nat) : Int)) = false from by decide]
        try simp only [wr_eVar, wr_eC, wr_e2, wr_e1, wr_eL, wr_eCall, wr_eCallK, wr_eLL, wr_eSeq, wr_lNil, wr_lCons, wr_bTru, wr_bOf, wr_bNot, wr_bAnd, wr_bOr, wr_isBl, wr_eAnd, wr_eOr, wr_eNot, wr_eIf, wr_e3c, wr_ok, wr_exc, ws_sNext, ws_sSeq, ws_sSet, ws_sDrop, ws_sRet, ws_sRetN, ws_sBrk, ws_sCnt, ws_sIf, ws_sAsg, ws_sPar, ws_sSub, ws_sForE, wr_callM, List.getElem?_cons_zero, List.getElem?_cons_succ, List.set_cons_zero, List.set_cons_succ, List.map_cons, List.map_nil, List.length_cons, List.length_nil, List.cons_append, List.nil_append, List.replicate, List.append_nil, addM_i, subM_i, negM_i, cmpM_i, eqM_i, eqM_s, neM_i, neM_s, absM_i, intM_i, intM_b, max2M_i, min2M_i, lenM_t, lenM_l, lenM_r, tupM_ap, lstM_ap, strM_s, truB_b, isBl_b, newM_ap, Nat.reduceLeDiff, seqL_l, seqT_t, isNM_n, isNM_i, wr_eLc, wr_eSl, wr_oN, wr_oI, intO_i, seqA_l, seqA_r, seqA_t, listM_t, listM_l, slM_t, slM_l, ws_sMatch, ws_mcNil, ws_mcAny, ws_mcVal, if_true, if_false, Bool.false_eq_true, Bool.not_true, Bool.not_false, Nat.reduceSub, Nat.reduceAdd, Nat.zero_add, eq_self, and_self, and_true, true_and, gN]
        cases hn : numO p with
        | none =>
          simp only [Option.isNone]
          try simp only [wr_eVar, wr_eC, wr_e2, wr_e1, wr_eL, wr_eCall, wr_eCallK, wr_eLL, wr_eSeq, wr_lNil, wr_lCons, wr_bTru, wr_bOf, wr_bNot, wr_bAnd, wr_bOr, wr_isBl, wr_eAnd, wr_eOr, wr_eNot, wr_eIf, wr_e3c, wr_ok, wr_exc, ws_sNext, ws_sSeq, ws_sSet, ws_sDrop, ws_sRet, ws_sRetN, ws_sBrk, ws_sCnt, ws_sIf, ws_sAsg, ws_sPar, ws_sSub, ws_sForE, wr_callM, List.getElem?_cons_zero, List.getElem?_cons_succ, List.set_cons_zero, List.set_cons_succ, List.map_cons, List.map_nil, List.length_cons, List.length_nil, List.cons_append, List.nil_append, List.replicate, List.append_nil, addM_i, subM_i, negM_i, cmpM_i, eqM_i, eqM_s, neM_i, neM_s, absM_i, intM_i, intM_b, max2M_i, min2M_i, lenM_t, lenM_l, lenM_r, tupM_ap, lstM_ap, strM_s, truB_b, isBl_b, newM_ap, Nat.reduceLeDiff, seqL_l, seqT_t, isNM_n, isNM_i, wr_eLc, wr_eSl, wr_oN, wr_oI, intO_i, seqA_l, seqA_r, seqA_t, listM_t, listM_l, slM_t, slM_l, ws_sMatch, ws_mcNil, ws_mcAny, ws_mcVal, if_true, if_false, Bool.false_eq_true, Bool.not_true, Bool.not_false, Nat.reduceSub, Nat.reduceAdd, Nat.zero_add, eq_self, and_self, and_true, true_and, gN]
          rfl
        | some n =>
          have hn2 : n < 10 ^ 75 := numO_lt hn (by
            have := pcs_le (l := rest a) (p := p) (by rw [e]; simp)
            omega)
          have hn3 := Nat.lt_trans hn2 p75
          simp only [Option.isNone]
          unfold t_ratio_in_1 t_ratio_in_0
          try simp only [wr_eVar, wr_eC, wr_e2, wr_e1, wr_eL, wr_eCall, wr_eCallK, wr_eLL, wr_eSeq, wr_lNil, wr_lCons, wr_bTru, wr_bOf, wr_bNot, wr_bAnd, wr_bOr, wr_isBl, wr_eAnd, wr_eOr, wr_eNot, wr_eIf, wr_e3c, wr_ok, wr_exc, ws_sNext, ws_sSeq, ws_sSet, ws_sDrop, ws_sRet, ws_sRetN, ws_sBrk, ws_sCnt, ws_sIf, ws_sAsg, ws_sPar, ws_sSub, ws_sForE, wr_callM, List.getElem?_cons_zero, List.getElem?_cons_succ, List.set_cons_zero, List.set_cons_succ, List.map_cons, List.map_nil, List.length_cons, List.length_nil, List.cons_append, List.nil_append, List.replicate, List.append_nil, addM_i, subM_i, negM_i, cmpM_i, eqM_i, eqM_s, neM_i, neM_s, absM_i, intM_i, intM_b, max2M_i, min2M_i, lenM_t, lenM_l, lenM_r, tupM_ap, lstM_ap, strM_s, truB_b, isBl_b, newM_ap, Nat.reduceLeDiff, seqL_l, seqT_t, isNM_n, isNM_i, wr_eLc, wr_eSl, wr_oN, wr_oI, intO_i, seqA_l, seqA_r, seqA_t, listM_t, listM_l, slM_t, slM_l, ws_sMatch, ws_mcNil, ws_mcAny, ws_mcVal, if_true, if_false, Bool.false_eq_true, Bool.not_true, Bool.not_false, Nat.reduceSub, Nat.reduceAdd, Nat.zero_add, eq_self, and_self, and_true, true_and, gN]
          simp only [oD, lix0, wr_ok]
          have mo : mulOk s n = true := mulOk_le (B := 10 ^ 75) (by subst hs; split <;> simp) (by omega) p75
          simp only [mulM_i mo, wr_ok]
          try simp only [wr_eVar, wr_eC, wr_e2, wr_e1, wr_eL, wr_eCall, wr_eCallK, wr_eLL, wr_eSeq, wr_lNil, wr_lCons, wr_bTru, wr_bOf, wr_bNot, wr_bAnd, wr_bOr, wr_isBl, wr_eAnd, wr_eOr, wr_eNot, wr_eIf, wr_e3c, wr_ok, wr_exc, ws_sNext, ws_sSeq, ws_sSet, ws_sDrop, ws_sRet, ws_sRetN, ws_sBrk, ws_sCnt, ws_sIf, ws_sAsg, ws_sPar, ws_sSub, ws_sForE, wr_callM, List.getElem?_cons_zero, List.getElem?_cons_succ, List.set_cons_zero, List.set_cons_succ, List.map_cons, List.map_nil, List.length_cons, List.length_nil, List.cons_append, List.nil_append, List.replicate, List.append_nil, addM_i, subM_i, negM_i, cmpM_i, eqM_i, eqM_s, neM_i, neM_s, absM_i, intM_i, intM_b, max2M_i, min2M_i, lenM_t, lenM_l, lenM_r, tupM_ap, lstM_ap, strM_s, truB_b, isBl_b, newM_ap, Nat.reduceLeDiff, seqL_l, seqT_t, isNM_n, isNM_i, wr_eLc, wr_eSl, wr_oN, wr_oI, intO_i, seqA_l, seqA_r, seqA_t, listM_t, listM_l, slM_t, slM_l, ws_sMatch, ws_mcNil, ws_mcAny, ws_mcVal, if_true, if_false, Bool.false_eq_true, Bool.not_true, Bool.not_false, Nat.reduceSub, Nat.reduceAdd, Nat.zero_add, eq_self, and_self, and_true, true_and, gN]
          simp only [show decide (((0 + 1 : Nat) : Int) = 1) = true from by decide]
          try simp only [wr_eVar, wr_eC, wr_e2, wr_e1, wr_eL, wr_eCall, wr_eCallK, wr_eLL, wr_eSeq, wr_lNil, wr_lCons, wr_bTru, wr_bOf, wr_bNot, wr_bAnd, wr_bOr, wr_isBl, wr_eAnd, wr_eOr, wr_eNot, wr_eIf, wr_e3c, wr_ok, wr_exc, ws_sNext, ws_sSeq, ws_sSet, ws_sDrop, ws_sRet, ws_sRetN, ws_sBrk, ws_sCnt, ws_sIf, ws_sAsg, ws_sPar, ws_sSub, ws_sForE, wr_callM, List.getElem?_cons_zero, List.getElem?_cons_succ, List.set_cons_zero, List.set_cons_succ, List.map_cons, List.map_nil, List.length_cons, List.length_nil, List.cons_append, List.nil_append, List.replicate, List.append_nil, addM_i, subM_i, negM_i, cmpM_i, eqM_i, eqM_s, neM_i, neM_s, absM_i, intM_i, intM_b, max2M_i, min2M_i, lenM_t, lenM_l, lenM_r, tupM_ap, lstM_ap, strM_s, truB_b, isBl_b, newM_ap, Nat.reduceLeDiff, seqL_l, seqT_t, isNM_n, isNM_i, wr_eLc, wr_eSl, wr_oN, wr_oI, intO_i, seqA_l, seqA_r, seqA_t, listM_t, listM_l, slM_t, slM_l, ws_sMatch, ws_mcNil, ws_mcAny, ws_mcVal, if_true, if_false, Bool.false_eq_true, Bool.not_true, Bool.not_false, Nat.reduceSub, Nat.reduceAdd, Nat.zero_add, eq_self, and_self, and_true, true_and, gN]
          have es : s * n = sg (below a) n := by
            subst hs
            unfold sg
            cases below a <;> simp
          rw [es]
          have nb : (sg (below a) n).natAbs < 2 ^ 250 := by
            unfold sg
            split <;> omega
          have rt : rat (.tup [.int (sg (below a) n), .int 1]) = true := by rw [rat_is]; simp
          rw [ratio_2, rt]
          try simp only [wr_eVar, wr_eC, wr_e2, wr_e1, wr_eL, wr_eCall, wr_eCallK, wr_eLL, wr_eSeq, wr_lNil, wr_lCons, wr_bTru, wr_bOf, wr_bNot, wr_bAnd, wr_bOr, wr_isBl, wr_eAnd, wr_eOr, wr_eNot, wr_eIf, wr_e3c, wr_ok, wr_exc, ws_sNext, ws_sSeq, ws_sSet, ws_sDrop, ws_sRet, ws_sRetN, ws_sBrk, ws_sCnt, ws_sIf, ws_sAsg, ws_sPar, ws_sSub, ws_sForE, wr_callM, List.getElem?_cons_zero, List.getElem?_cons_succ, List.set_cons_zero, List.set_cons_succ, List.map_cons, List.map_nil, List.length_cons, List.length_nil, List.cons_append, List.nil_append, List.replicate, List.append_nil, addM_i, subM_i, negM_i, cmpM_i, eqM_i, eqM_s, neM_i, neM_s, absM_i, intM_i, intM_b, max2M_i, min2M_i, lenM_t, lenM_l, lenM_r, tupM_ap, lstM_ap, strM_s, truB_b, isBl_b, newM_ap, Nat.reduceLeDiff, seqL_l, seqT_t, isNM_n, isNM_i, wr_eLc, wr_eSl, wr_oN, wr_oI, intO_i, seqA_l, seqA_r, seqA_t, listM_t, listM_l, slM_t, slM_l, ws_sMatch, ws_mcNil, ws_mcAny, ws_mcVal, if_true, if_false, Bool.false_eq_true, Bool.not_true, Bool.not_false, Nat.reduceSub, Nat.reduceAdd, Nat.zero_add, eq_self, and_self, and_true, true_and, gN]
          rw [text_ok nb (by decide +kernel) rt]
          try simp only [wr_eVar, wr_eC, wr_e2, wr_e1, wr_eL, wr_eCall, wr_eCallK, wr_eLL, wr_eSeq, wr_lNil, wr_lCons, wr_bTru, wr_bOf, wr_bNot, wr_bAnd, wr_bOr, wr_isBl, wr_eAnd, wr_eOr, wr_eNot, wr_eIf, wr_e3c, wr_ok, wr_exc, ws_sNext, ws_sSeq, ws_sSet, ws_sDrop, ws_sRet, ws_sRetN, ws_sBrk, ws_sCnt, ws_sIf, ws_sAsg, ws_sPar, ws_sSub, ws_sForE, wr_callM, List.getElem?_cons_zero, List.getElem?_cons_succ, List.set_cons_zero, List.set_cons_succ, List.map_cons, List.map_nil, List.length_cons, List.length_nil, List.cons_append, List.nil_append, List.replicate, List.append_nil, addM_i, subM_i, negM_i, cmpM_i, eqM_i, eqM_s, neM_i, neM_s, absM_i, intM_i, intM_b, max2M_i, min2M_i, lenM_t, lenM_l, lenM_r, tupM_ap, lstM_ap, strM_s, truB_b, isBl_b, newM_ap, Nat.reduceLeDiff, seqL_l, seqT_t, isNM_n, isNM_i, wr_eLc, wr_eSl, wr_oN, wr_oI, intO_i, seqA_l, seqA_r, seqA_t, listM_t, listM_l, slM_t, slM_l, ws_sMatch, ws_mcNil, ws_mcAny, ws_mcVal, if_true, if_false, Bool.false_eq_true, Bool.not_true, Bool.not_false, Nat.reduceSub, Nat.reduceAdd, Nat.zero_add, eq_self, and_self, and_true, true_and, gN]
          simp only [dec_S]
          have w : rest a = p := by rw [← f3]; rfl
          have r1 := read_one w hn
          by_cases q : n = 0 ∧ below a = true
          · have : decide (tx (sg (below a) n) 1 = a) = false := decide_eq_false fun h => (r1.mp h) q
            rw [this]
            simp only [rdL]
            rw [if_pos q]
            rfl
          · have : decide (tx (sg (below a) n) 1 = a) = true := decide_eq_true (r1.mpr q)
            rw [this]
            simp only [rdL]
            rw [if_neg q]
            rfl
      | cons q ps =>
        cases ps with
        | nil =>
          simp only [List.map_cons, List.map_nil, List.length_cons, List.length_nil, List.any_cons, List.any_nil, Bool.or_false]
          simp only [show decide ((2 : Int) < ((0 + 1 + 1 : Nat) : Int)) = false from by decide]
          try simp only [wr_eVar, wr_eC, wr_e2, wr_e1, wr_eL, wr_eCall, wr_eCallK, wr_eLL, wr_eSeq, wr_lNil, wr_lCons, wr_bTru, wr_bOf, wr_bNot, wr_bAnd, wr_bOr, wr_isBl, wr_eAnd, wr_eOr, wr_eNot, wr_eIf, wr_e3c, wr_ok, wr_exc, ws_sNext, ws_sSeq, ws_sSet, ws_sDrop, ws_sRet, ws_sRetN, ws_sBrk, ws_sCnt, ws_sIf, ws_sAsg, ws_sPar, ws_sSub, ws_sForE, wr_callM, List.getElem?_cons_zero, List.getElem?_cons_succ, List.set_cons_zero, List.set_cons_succ, List.map_cons, List.map_nil, List.length_cons, List.length_nil, List.cons_append, List.nil_append, List.replicate, List.append_nil, addM_i, subM_i, negM_i, cmpM_i, eqM_i, eqM_s, neM_i, neM_s, absM_i, intM_i, intM_b, max2M_i, min2M_i, lenM_t, lenM_l, lenM_r, tupM_ap, lstM_ap, strM_s, truB_b, isBl_b, newM_ap, Nat.reduceLeDiff, seqL_l, seqT_t, isNM_n, isNM_i, wr_eLc, wr_eSl, wr_oN, wr_oI, intO_i, seqA_l, seqA_r, seqA_t, listM_t, listM_l, slM_t, slM_l, ws_sMatch, ws_mcNil, ws_mcAny, ws_mcVal, if_true, if_false, Bool.false_eq_true, Bool.not_true, Bool.not_false, Nat.reduceSub, Nat.reduceAdd, Nat.zero_add, eq_self, and_self, and_true, true_and, gN]
          cases hn : numO p with
          | none =>
            simp only [Option.isNone, Bool.true_or]
            try simp only [wr_eVar, wr_eC, wr_e2, wr_e1, wr_eL, wr_eCall, wr_eCallK, wr_eLL, wr_eSeq, wr_lNil, wr_lCons, wr_bTru, wr_bOf, wr_bNot, wr_bAnd, wr_bOr, wr_isBl, wr_eAnd, wr_eOr, wr_eNot, wr_eIf, wr_e3c, wr_ok, wr_exc, ws_sNext, ws_sSeq, ws_sSet, ws_sDrop, ws_sRet, ws_sRetN, ws_sBrk, ws_sCnt, ws_sIf, ws_sAsg, ws_sPar, ws_sSub, ws_sForE, wr_callM, List.getElem?_cons_zero, List.getElem?_cons_succ, List.set_cons_zero, List.set_cons_succ, List.map_cons, List.map_nil, List.length_cons, List.length_nil, List.cons_append, List.nil_append, List.replicate, List.append_nil, addM_i, subM_i, negM_i, cmpM_i, eqM_i, eqM_s, neM_i, neM_s, absM_i, intM_i, intM_b, max2M_i, min2M_i, lenM_t, lenM_l, lenM_r, tupM_ap, lstM_ap, strM_s, truB_b, isBl_b, newM_ap, Nat.reduceLeDiff, seqL_l, seqT_t, isNM_n, isNM_i, wr_eLc, wr_eSl, wr_oN, wr_oI, intO_i, seqA_l, seqA_r, seqA_t, listM_t, listM_l, slM_t, slM_l, ws_sMatch, ws_mcNil, ws_mcAny, ws_mcVal, if_true, if_false, Bool.false_eq_true, Bool.not_true, Bool.not_false, Nat.reduceSub, Nat.reduceAdd, Nat.zero_add, eq_self, and_self, and_true, true_and, gN]
            rfl
          | some n =>
            cases hm : numO q with
            | none =>
              simp only [Option.isNone, Bool.or_true]
              try simp only [wr_eVar, wr_eC, wr_e2, wr_e1, wr_eL, wr_eCall, wr_eCallK, wr_eLL, wr_eSeq, wr_lNil, wr_lCons, wr_bTru, wr_bOf, wr_bNot, wr_bAnd, wr_bOr, wr_isBl, wr_eAnd, wr_eOr, wr_eNot, wr_eIf, wr_e3c, wr_ok, wr_exc, ws_sNext, ws_sSeq, ws_sSet, ws_sDrop, ws_sRet, ws_sRetN, ws_sBrk, ws_sCnt, ws_sIf, ws_sAsg, ws_sPar, ws_sSub, ws_sForE, wr_callM, List.getElem?_cons_zero, List.getElem?_cons_succ, List.set_cons_zero, List.set_cons_succ, List.map_cons, List.map_nil, List.length_cons, List.length_nil, List.cons_append, List.nil_append, List.replicate, List.append_nil, addM_i, subM_i, negM_i, cmpM_i, eqM_i, eqM_s, neM_i, neM_s, absM_i, intM_i, intM_b, max2M_i, min2M_i, lenM_t, lenM_l, lenM_r, tupM_ap, lstM_ap, strM_s, truB_b, isBl_b, newM_ap, Nat.reduceLeDiff, seqL_l, seqT_t, isNM_n, isNM_i, wr_eLc, wr_eSl, wr_oN, wr_oI, intO_i, seqA_l, seqA_r, seqA_t, listM_t, listM_l, slM_t, slM_l, ws_sMatch, ws_mcNil, ws_mcAny, ws_mcVal, if_true, if_false, Bool.false_eq_true, Bool.not_true, Bool.not_false, Nat.reduceSub, Nat.reduceAdd, Nat.zero_add, eq_self, and_self, and_true, true_and, gN]
              rfl
            | some m =>
              have hn2 : n < 10 ^ 75 := numO_lt hn (by
                have := pcs_le (l := rest a) (p := p) (by rw [e]; simp)
                omega)
              have hm2 : m < 10 ^ 75 := numO_lt hm (by
                have := pcs_le (l := rest a) (p := q) (by rw [e]; simp)
                omega)
              have hn3 := Nat.lt_trans hn2 p75
              have hm3 := Nat.lt_trans hm2 p75
              simp only [Option.isNone, Bool.or_false]
              unfold t_ratio_in_1 t_ratio_in_0
              try simp only [wr_eVar, wr_eC, wr_e2, wr_e1, wr_eL, wr_eCall, wr_eCallK, wr_eLL, wr_eSeq, wr_lNil, wr_lCons, wr_bTru, wr_bOf, wr_bNot, wr_bAnd, wr_bOr, wr_isBl, wr_eAnd, wr_eOr, wr_eNot, wr_eIf, wr_e3c, wr_ok, wr_exc, ws_sNext, ws_sSeq, ws_sSet, ws_sDrop, ws_sRet, ws_sRetN, ws_sBrk, ws_sCnt, ws_sIf, ws_sAsg, ws_sPar, ws_sSub, ws_sForE, wr_callM, List.getElem?_cons_zero, List.getElem?_cons_succ, List.set_cons_zero, List.set_cons_succ, List.map_cons, List.map_nil, List.length_cons, List.length_nil, List.cons_append, List.nil_append, List.replicate, List.append_nil, addM_i, subM_i, negM_i, cmpM_i, eqM_i, eqM_s, neM_i, neM_s, absM_i, intM_i, intM_b, max2M_i, min2M_i, lenM_t, lenM_l, lenM_r, tupM_ap, lstM_ap, strM_s, truB_b, isBl_b, newM_ap, Nat.reduceLeDiff, seqL_l, seqT_t, isNM_n, isNM_i, wr_eLc, wr_eSl, wr_oN, wr_oI, intO_i, seqA_l, seqA_r, seqA_t, listM_t, listM_l, slM_t, slM_l, ws_sMatch, ws_mcNil, ws_mcAny, ws_mcVal, if_true, if_false, Bool.false_eq_true, Bool.not_true, Bool.not_false, Nat.reduceSub, Nat.reduceAdd, Nat.zero_add, eq_self, and_self, and_true, true_and, gN]
              simp only [oD, lix0, lix1, wr_ok]
              have mo : mulOk s n = true := mulOk_le (B := 10 ^ 75) (by subst hs; split <;> simp) (by omega) p75
              simp only [mulM_i mo, wr_ok]
              try simp only [wr_eVar, wr_eC, wr_e2, wr_e1, wr_eL, wr_eCall, wr_eCallK, wr_eLL, wr_eSeq, wr_lNil, wr_lCons, wr_bTru, wr_bOf, wr_bNot, wr_bAnd, wr_bOr, wr_isBl, wr_eAnd, wr_eOr, wr_eNot, wr_eIf, wr_e3c, wr_ok, wr_exc, ws_sNext, ws_sSeq, ws_sSet, ws_sDrop, ws_sRet, ws_sRetN, ws_sBrk, ws_sCnt, ws_sIf, ws_sAsg, ws_sPar, ws_sSub, ws_sForE, wr_callM, List.getElem?_cons_zero, List.getElem?_cons_succ, List.set_cons_zero, List.set_cons_succ, List.map_cons, List.map_nil, List.length_cons, List.length_nil, List.cons_append, List.nil_append, List.replicate, List.append_nil, addM_i, subM_i, negM_i, cmpM_i, eqM_i, eqM_s, neM_i, neM_s, absM_i, intM_i, intM_b, max2M_i, min2M_i, lenM_t, lenM_l, lenM_r, tupM_ap, lstM_ap, strM_s, truB_b, isBl_b, newM_ap, Nat.reduceLeDiff, seqL_l, seqT_t, isNM_n, isNM_i, wr_eLc, wr_eSl, wr_oN, wr_oI, intO_i, seqA_l, seqA_r, seqA_t, listM_t, listM_l, slM_t, slM_l, ws_sMatch, ws_mcNil, ws_mcAny, ws_mcVal, if_true, if_false, Bool.false_eq_true, Bool.not_true, Bool.not_false, Nat.reduceSub, Nat.reduceAdd, Nat.zero_add, eq_self, and_self, and_true, true_and, gN]
              simp only [show decide (((0 + 1 + 1 : Nat) : Int) = 1) = false from by decide]
              try simp only [wr_eVar, wr_eC, wr_e2, wr_e1, wr_eL, wr_eCall, wr_eCallK, wr_eLL, wr_eSeq, wr_lNil, wr_lCons, wr_bTru, wr_bOf, wr_bNot, wr_bAnd, wr_bOr, wr_isBl, wr_eAnd, wr_eOr, wr_eNot, wr_eIf, wr_e3c, wr_ok, wr_exc, ws_sNext, ws_sSeq, ws_sSet, ws_sDrop, ws_sRet, ws_sRetN, ws_sBrk, ws_sCnt, ws_sIf, ws_sAsg, ws_sPar, ws_sSub, ws_sForE, wr_callM, List.getElem?_cons_zero, List.getElem?_cons_succ, List.set_cons_zero, List.set_cons_succ, List.map_cons, List.map_nil, List.length_cons, List.length_nil, List.cons_append, List.nil_append, List.replicate, List.append_nil, addM_i, subM_i, negM_i, cmpM_i, eqM_i, eqM_s, neM_i, neM_s, absM_i, intM_i, intM_b, max2M_i, min2M_i, lenM_t, lenM_l, lenM_r, tupM_ap, lstM_ap, strM_s, truB_b, isBl_b, newM_ap, Nat.reduceLeDiff, seqL_l, seqT_t, isNM_n, isNM_i, wr_eLc, wr_eSl, wr_oN, wr_oI, intO_i, seqA_l, seqA_r, seqA_t, listM_t, listM_l, slM_t, slM_l, ws_sMatch, ws_mcNil, ws_mcAny, ws_mcVal, if_true, if_false, Bool.false_eq_true, Bool.not_true, Bool.not_false, Nat.reduceSub, Nat.reduceAdd, Nat.zero_add, eq_self, and_self, and_true, true_and, gN]
              have es : s * n = sg (below a) n := by
                subst hs
                unfold sg
                cases below a <;> simp
              rw [es]
              have nb : (sg (below a) n).natAbs < 2 ^ 250 := by
                unfold sg
                split <;> omega
              have w : rest a = p ++ (47 :: q) := by rw [← f3]; rfl
              have r2 := read_two w hn hm f1
              rw [ratio_2]
              try simp only [wr_eVar, wr_eC, wr_e2, wr_e1, wr_eL, wr_eCall, wr_eCallK, wr_eLL, wr_eSeq, wr_lNil, wr_lCons, wr_bTru, wr_bOf, wr_bNot, wr_bAnd, wr_bOr, wr_isBl, wr_eAnd, wr_eOr, wr_eNot, wr_eIf, wr_e3c, wr_ok, wr_exc, ws_sNext, ws_sSeq, ws_sSet, ws_sDrop, ws_sRet, ws_sRetN, ws_sBrk, ws_sCnt, ws_sIf, ws_sAsg, ws_sPar, ws_sSub, ws_sForE, wr_callM, List.getElem?_cons_zero, List.getElem?_cons_succ, List.set_cons_zero, List.set_cons_succ, List.map_cons, List.map_nil, List.length_cons, List.length_nil, List.cons_append, List.nil_append, List.replicate, List.append_nil, addM_i, subM_i, negM_i, cmpM_i, eqM_i, eqM_s, neM_i, neM_s, absM_i, intM_i, intM_b, max2M_i, min2M_i, lenM_t, lenM_l, lenM_r, tupM_ap, lstM_ap, strM_s, truB_b, isBl_b, newM_ap, Nat.reduceLeDiff, seqL_l, seqT_t, isNM_n, isNM_i, wr_eLc, wr_eSl, wr_oN, wr_oI, intO_i, seqA_l, seqA_r, seqA_t, listM_t, listM_l, slM_t, slM_l, ws_sMatch, ws_mcNil, ws_mcAny, ws_mcVal, if_true, if_false, Bool.false_eq_true, Bool.not_true, Bool.not_false, Nat.reduceSub, Nat.reduceAdd, Nat.zero_add, eq_self, and_self, and_true, true_and, gN]
              cases rt : rat (.tup [.int (sg (below a) n), .int m]) with
              | false =>
                try simp only [wr_eVar, wr_eC, wr_e2, wr_e1, wr_eL, wr_eCall, wr_eCallK, wr_eLL, wr_eSeq, wr_lNil, wr_lCons, wr_bTru, wr_bOf, wr_bNot, wr_bAnd, wr_bOr, wr_isBl, wr_eAnd, wr_eOr, wr_eNot, wr_eIf, wr_e3c, wr_ok, wr_exc, ws_sNext, ws_sSeq, ws_sSet, ws_sDrop, ws_sRet, ws_sRetN, ws_sBrk, ws_sCnt, ws_sIf, ws_sAsg, ws_sPar, ws_sSub, ws_sForE, wr_callM, List.getElem?_cons_zero, List.getElem?_cons_succ, List.set_cons_zero, List.set_cons_succ, List.map_cons, List.map_nil, List.length_cons, List.length_nil, List.cons_append, List.nil_append, List.replicate, List.append_nil, addM_i, subM_i, negM_i, cmpM_i, eqM_i, eqM_s, neM_i, neM_s, absM_i, intM_i, intM_b, max2M_i, min2M_i, lenM_t, lenM_l, lenM_r, tupM_ap, lstM_ap, strM_s, truB_b, isBl_b, newM_ap, Nat.reduceLeDiff, seqL_l, seqT_t, isNM_n, isNM_i, wr_eLc, wr_eSl, wr_oN, wr_oI, intO_i, seqA_l, seqA_r, seqA_t, listM_t, listM_l, slM_t, slM_l, ws_sMatch, ws_mcNil, ws_mcAny, ws_mcVal, if_true, if_false, Bool.false_eq_true, Bool.not_true, Bool.not_false, Nat.reduceSub, Nat.reduceAdd, Nat.zero_add, eq_self, and_self, and_true, true_and, gN]
                have : ¬ (2 ≤ m ∧ Int.gcd n m = 1) := fun h => by
                  rw [rat_is, gcd_sg] at rt
                  have : (decide ((1 : Int) ≤ m) && decide (Int.gcd n m = 1)) = true := by rw [decide_eq_true (show (1 : Int) ≤ m by omega), decide_eq_true h.2]; rfl
                  rw [this] at rt
                  cases rt
                simp only [rdL]
                rw [if_neg this]
                rfl
              | true =>
                try simp only [wr_eVar, wr_eC, wr_e2, wr_e1, wr_eL, wr_eCall, wr_eCallK, wr_eLL, wr_eSeq, wr_lNil, wr_lCons, wr_bTru, wr_bOf, wr_bNot, wr_bAnd, wr_bOr, wr_isBl, wr_eAnd, wr_eOr, wr_eNot, wr_eIf, wr_e3c, wr_ok, wr_exc, ws_sNext, ws_sSeq, ws_sSet, ws_sDrop, ws_sRet, ws_sRetN, ws_sBrk, ws_sCnt, ws_sIf, ws_sAsg, ws_sPar, ws_sSub, ws_sForE, wr_callM, List.getElem?_cons_zero, List.getElem?_cons_succ, List.set_cons_zero, List.set_cons_succ, List.map_cons, List.map_nil, List.length_cons, List.length_nil, List.cons_append, List.nil_append, List.replicate, List.append_nil, addM_i, subM_i, negM_i, cmpM_i, eqM_i, eqM_s, neM_i, neM_s, absM_i, intM_i, intM_b, max2M_i, min2M_i, lenM_t, lenM_l, lenM_r, tupM_ap, lstM_ap, strM_s, truB_b, isBl_b, newM_ap, Nat.reduceLeDiff, seqL_l, seqT_t, isNM_n, isNM_i, wr_eLc, wr_eSl, wr_oN, wr_oI, intO_i, seqA_l, seqA_r, seqA_t, listM_t, listM_l, slM_t, slM_l, ws_sMatch, ws_mcNil, ws_mcAny, ws_mcVal, if_true, if_false, Bool.false_eq_true, Bool.not_true, Bool.not_false, Nat.reduceSub, Nat.reduceAdd, Nat.zero_add, eq_self, and_self, and_true, true_and, gN]
                rw [text_ok nb (show ((m : Int)).natAbs < 2 ^ 250 by omega) rt]
                try simp only [wr_eVar, wr_eC, wr_e2, wr_e1, wr_eL, wr_eCall, wr_eCallK, wr_eLL, wr_eSeq, wr_lNil, wr_lCons, wr_bTru, wr_bOf, wr_bNot, wr_bAnd, wr_bOr, wr_isBl, wr_eAnd, wr_eOr, wr_eNot, wr_eIf, wr_e3c, wr_ok, wr_exc, ws_sNext, ws_sSeq, ws_sSet, ws_sDrop, ws_sRet, ws_sRetN, ws_sBrk, ws_sCnt, ws_sIf, ws_sAsg, ws_sPar, ws_sSub, ws_sForE, wr_callM, List.getElem?_cons_zero, List.getElem?_cons_succ, List.set_cons_zero, List.set_cons_succ, List.map_cons, List.map_nil, List.length_cons, List.length_nil, List.cons_append, List.nil_append, List.replicate, List.append_nil, addM_i, subM_i, negM_i, cmpM_i, eqM_i, eqM_s, neM_i, neM_s, absM_i, intM_i, intM_b, max2M_i, min2M_i, lenM_t, lenM_l, lenM_r, tupM_ap, lstM_ap, strM_s, truB_b, isBl_b, newM_ap, Nat.reduceLeDiff, seqL_l, seqT_t, isNM_n, isNM_i, wr_eLc, wr_eSl, wr_oN, wr_oI, intO_i, seqA_l, seqA_r, seqA_t, listM_t, listM_l, slM_t, slM_l, ws_sMatch, ws_mcNil, ws_mcAny, ws_mcVal, if_true, if_false, Bool.false_eq_true, Bool.not_true, Bool.not_false, Nat.reduceSub, Nat.reduceAdd, Nat.zero_add, eq_self, and_self, and_true, true_and, gN]
                simp only [dec_S]
                have rt2 := rt
                rw [rat_is, gcd_sg, Bool.and_eq_true, decide_eq_true_eq, decide_eq_true_eq] at rt2
                by_cases z1 : m = 1
                · have : decide (tx (sg (below a) n) m = a) = false := decide_eq_false fun h => (r2.mp h).1 z1
                  rw [this]
                  have : ¬ (2 ≤ m ∧ Int.gcd n m = 1) := fun h => by omega
                  simp only [rdL]
                  rw [if_neg this]
                  rfl
                · have n0 : ¬ (n = 0 ∧ below a = true) := fun h => by
                    have g := rt2.2
                    rw [h.1] at g
                    simp at g
                    omega
                  have : decide (tx (sg (below a) n) m = a) = true := decide_eq_true (r2.mpr ⟨z1, n0⟩)
                  rw [this]
                  have : 2 ≤ m ∧ Int.gcd n m = 1 := ⟨by omega, rt2.2⟩
                  simp only [rdL]
                  rw [if_pos this]
                  rfl
        | cons r ps =>
          simp only [List.map_cons]
          try simp only [wr_eVar, wr_eC, wr_e2, wr_e1, wr_eL, wr_eCall, wr_eCallK, wr_eLL, wr_eSeq, wr_lNil, wr_lCons, wr_bTru, wr_bOf, wr_bNot, wr_bAnd, wr_bOr, wr_isBl, wr_eAnd, wr_eOr, wr_eNot, wr_eIf, wr_e3c, wr_ok, wr_exc, ws_sNext, ws_sSeq, ws_sSet, ws_sDrop, ws_sRet, ws_sRetN, ws_sBrk, ws_sCnt, ws_sIf, ws_sAsg, ws_sPar, ws_sSub, ws_sForE, wr_callM, List.getElem?_cons_zero, List.getElem?_cons_succ, List.set_cons_zero, List.set_cons_succ, List.map_cons, List.map_nil, List.length_cons, List.length_nil, List.cons_append, List.nil_append, List.replicate, List.append_nil, addM_i, subM_i, negM_i, cmpM_i, eqM_i, eqM_s, neM_i, neM_s, absM_i, intM_i, intM_b, max2M_i, min2M_i, lenM_t, lenM_l, lenM_r, tupM_ap, lstM_ap, strM_s, truB_b, isBl_b, newM_ap, Nat.reduceLeDiff, seqL_l, seqT_t, isNM_n, isNM_i, wr_eLc, wr_eSl, wr_oN, wr_oI, intO_i, seqA_l, seqA_r, seqA_t, listM_t, listM_l, slM_t, slM_l, ws_sMatch, ws_mcNil, ws_mcAny, ws_mcVal, if_true, if_false, Bool.false_eq_true, Bool.not_true, Bool.not_false, Nat.reduceSub, Nat.reduceAdd, Nat.zero_add, eq_self, and_self, and_true, true_and, gN]
          split
          · simp [rdL, rD]
          · rename_i h
            exact absurd (decide_eq_true (by simp; omega)) h
    · refine wr_eq.mp ?_
      try simp only [wr_eVar, wr_eC, wr_e2, wr_e1, wr_eL, wr_eCall, wr_eCallK, wr_eLL, wr_eSeq, wr_lNil, wr_lCons, wr_bTru, wr_bOf, wr_bNot, wr_bAnd, wr_bOr, wr_isBl, wr_eAnd, wr_eOr, wr_eNot, wr_eIf, wr_e3c, wr_ok, wr_exc, ws_sNext, ws_sSeq, ws_sSet, ws_sDrop, ws_sRet, ws_sRetN, ws_sBrk, ws_sCnt, ws_sIf, ws_sAsg, ws_sPar, ws_sSub, ws_sForE, wr_callM, List.getElem?_cons_zero, List.getElem?_cons_succ, List.set_cons_zero, List.set_cons_succ, List.map_cons, List.map_nil, List.length_cons, List.length_nil, List.cons_append, List.nil_append, List.replicate, List.append_nil, addM_i, subM_i, negM_i, cmpM_i, eqM_i, eqM_s, neM_i, neM_s, absM_i, intM_i, intM_b, max2M_i, min2M_i, lenM_t, lenM_l, lenM_r, tupM_ap, lstM_ap, strM_s, truB_b, isBl_b, newM_ap, Nat.reduceLeDiff, seqL_l, seqT_t, isNM_n, isNM_i, wr_eLc, wr_eSl, wr_oN, wr_oI, intO_i, seqA_l, seqA_r, seqA_t, listM_t, listM_l, slM_t, slM_l, ws_sMatch, ws_mcNil, ws_mcAny, ws_mcVal, if_true, if_false, Bool.false_eq_true, Bool.not_true, Bool.not_false, Nat.reduceSub, Nat.reduceAdd, Nat.zero_add, eq_self, and_self, and_true, true_and, gN]
      rw [integer_in_v hp]
      try simp only [wr_eVar, wr_eC, wr_e2, wr_e1, wr_eL, wr_eCall, wr_eCallK, wr_eLL, wr_eSeq, wr_lNil, wr_lCons, wr_bTru, wr_bOf, wr_bNot, wr_bAnd, wr_bOr, wr_isBl, wr_eAnd, wr_eOr, wr_eNot, wr_eIf, wr_e3c, wr_ok, wr_exc, ws_sNext, ws_sSeq, ws_sSet, ws_sDrop, ws_sRet, ws_sRetN, ws_sBrk, ws_sCnt, ws_sIf, ws_sAsg, ws_sPar, ws_sSub, ws_sForE, wr_callM, List.getElem?_cons_zero, List.getElem?_cons_succ, List.set_cons_zero, List.set_cons_succ, List.map_cons, List.map_nil, List.length_cons, List.length_nil, List.cons_append, List.nil_append, List.replicate, List.append_nil, addM_i, subM_i, negM_i, cmpM_i, eqM_i, eqM_s, neM_i, neM_s, absM_i, intM_i, intM_b, max2M_i, min2M_i, lenM_t, lenM_l, lenM_r, tupM_ap, lstM_ap, strM_s, truB_b, isBl_b, newM_ap, Nat.reduceLeDiff, seqL_l, seqT_t, isNM_n, isNM_i, wr_eLc, wr_eSl, wr_oN, wr_oI, intO_i, seqA_l, seqA_r, seqA_t, listM_t, listM_l, slM_t, slM_l, ws_sMatch, ws_mcNil, ws_mcAny, ws_mcVal, if_true, if_false, Bool.false_eq_true, Bool.not_true, Bool.not_false, Nat.reduceSub, Nat.reduceAdd, Nat.zero_add, eq_self, and_self, and_true, true_and, gN]
  cases hb : below a with
  | false =>
    try simp only [wr_eVar, wr_eC, wr_e2, wr_e1, wr_eL, wr_eCall, wr_eCallK, wr_eLL, wr_eSeq, wr_lNil, wr_lCons, wr_bTru, wr_bOf, wr_bNot, wr_bAnd, wr_bOr, wr_isBl, wr_eAnd, wr_eOr, wr_eNot, wr_eIf, wr_e3c, wr_ok, wr_exc, ws_sNext, ws_sSeq, ws_sSet, ws_sDrop, ws_sRet, ws_sRetN, ws_sBrk, ws_sCnt, ws_sIf, ws_sAsg, ws_sPar, ws_sSub, ws_sForE, wr_callM, List.getElem?_cons_zero, List.getElem?_cons_succ, List.set_cons_zero, List.set_cons_succ, List.map_cons, List.map_nil, List.length_cons, List.length_nil, List.cons_append, List.nil_append, List.replicate, List.append_nil, addM_i, subM_i, negM_i, cmpM_i, eqM_i, eqM_s, neM_i, neM_s, absM_i, intM_i, intM_b, max2M_i, min2M_i, lenM_t, lenM_l, lenM_r, tupM_ap, lstM_ap, strM_s, truB_b, isBl_b, newM_ap, Nat.reduceLeDiff, seqL_l, seqT_t, isNM_n, isNM_i, wr_eLc, wr_eSl, wr_oN, wr_oI, intO_i, seqA_l, seqA_r, seqA_t, listM_t, listM_l, slM_t, slM_l, ws_sMatch, ws_mcNil, ws_mcAny, ws_mcVal, if_true, if_false, Bool.false_eq_true, Bool.not_true, Bool.not_false, Nat.reduceSub, Nat.reduceAdd, Nat.zero_add, eq_self, and_self, and_true, true_and, gN]
    have := main 1 (by rw [hb]; rfl)
    exact this
  | true =>
    try simp only [wr_eVar, wr_eC, wr_e2, wr_e1, wr_eL, wr_eCall, wr_eCallK, wr_eLL, wr_eSeq, wr_lNil, wr_lCons, wr_bTru, wr_bOf, wr_bNot, wr_bAnd, wr_bOr, wr_isBl, wr_eAnd, wr_eOr, wr_eNot, wr_eIf, wr_e3c, wr_ok, wr_exc, ws_sNext, ws_sSeq, ws_sSet, ws_sDrop, ws_sRet, ws_sRetN, ws_sBrk, ws_sCnt, ws_sIf, ws_sAsg, ws_sPar, ws_sSub, ws_sForE, wr_callM, List.getElem?_cons_zero, List.getElem?_cons_succ, List.set_cons_zero, List.set_cons_succ, List.map_cons, List.map_nil, List.length_cons, List.length_nil, List.cons_append, List.nil_append, List.replicate, List.append_nil, addM_i, subM_i, negM_i, cmpM_i, eqM_i, eqM_s, neM_i, neM_s, absM_i, intM_i, intM_b, max2M_i, min2M_i, lenM_t, lenM_l, lenM_r, tupM_ap, lstM_ap, strM_s, truB_b, isBl_b, newM_ap, Nat.reduceLeDiff, seqL_l, seqT_t, isNM_n, isNM_i, wr_eLc, wr_eSl, wr_oN, wr_oI, intO_i, seqA_l, seqA_r, seqA_t, listM_t, listM_l, slM_t, slM_l, ws_sMatch, ws_mcNil, ws_mcAny, ws_mcVal, if_true, if_false, Bool.false_eq_true, Bool.not_true, Bool.not_false, Nat.reduceSub, Nat.reduceAdd, Nat.zero_add, eq_self, and_self, and_true, true_and, gN]
    have := main (-1) (by rw [hb]; rfl)
    exact this
end
end Zk05
namespace Zk05
open PySem PySem.Spec PyProof.Rows L2 SE SX
/-- the share that a word writes -/
def hfL : List (Option Nat) → Option (Int × Int)
  | [some n] => if n ≤ 1 then some ((n : Int), 1) else none
  | [some n, some m] => if 0 < n ∧ n < m ∧ Int.gcd n m = 1 then some ((n : Int), (m : Int)) else none
  | _ => none
def hfO (a : List Nat) : Option (Int × Int) := hfL ((pcs a).map numO)
theorem numO_45 {p : List Nat} : numO (45 :: p) = none := if_neg fun h => by
  have := h.2.1
  simp [dg] at this
theorem rd_lt5 {a : List Nat} (ha : a.length ≤ 75) {t b : Int} (h : rdO a = some (t, b)) : t.natAbs < 10 ^ 75 ∧ b.natAbs < 10 ^ 75 := by
  have one : (1 : Int).natAbs < 10 ^ 75 := by decide +kernel
  have hr : (rest a).length ≤ a.length := by
    unfold rest
    split
    · simp
    · exact Nat.le_refl _
  have key : ∀ p ∈ pcs (rest a), ∀ n, numO p = some n → n < 10 ^ 75 := fun p hp n hn => numO_lt hn (by have := pcs_le hp; omega)
  have sgb : ∀ (b : Bool) (n : Nat), n < 10 ^ 75 → (sg b n).natAbs < 10 ^ 75 := fun b n h => by unfold sg; split <;> omega
  unfold rdO at h
  obtain ⟨p, ps, e, _⟩ := pcs_is (rest a)
  rw [e] at h key
  have k1 := key p List.mem_cons_self
  cases ps with
  | nil =>
    simp only [List.map_cons, List.map_nil] at h
    cases hn : numO p with
    | none => rw [hn] at h; cases h
    | some n =>
      rw [hn] at h
      simp only [rdL] at h
      split at h
      · cases h
      · cases h
        exact ⟨sgb _ _ (k1 n hn), one⟩
  | cons q ps =>
    cases ps with
    | nil =>
      simp only [List.map_cons, List.map_nil] at h
      cases hn : numO p with
      | none => rw [hn] at h; cases h
      | some n =>
        cases hm : numO q with
        | none => rw [hn, hm] at h; cases h
        | some m =>
          rw [hn, hm] at h
          simp only [rdL] at h
          split at h
          · cases h
            have := key q (by simp) m hm
            exact ⟨sgb _ _ (k1 n hn), by omega⟩
          · cases h
    | cons r ps =>
      simp only [List.map_cons] at h
      cases numO p <;> cases numO q <;> simp [rdL] at h
theorem shr_i {t b : Int} : shr (.tup [.int t, .int b]) = (decide (1 ≤ b) && decide (Int.gcd t b = 1) && (decide (0 ≤ t) && decide (t ≤ b))) := rfl
/-- both readings of a share -/
theorem half_rd (a : List Nat) : hfO a = (match rdO a with
    | some p => if shr (rD (some p)) = true then some p else none
    | none => none) := by
  unfold hfO rdO
  obtain ⟨p, ps, e, f1, f2, f3⟩ := pcs_is a
  cases hb : below a with
  | false =>
    have : rest a = a := by unfold rest; rw [hb]; rfl
    rw [this, e]
    cases ps with
    | nil =>
      simp only [List.map_cons, List.map_nil]
      cases numO p with
      | none => rfl
      | some n =>
        simp only [hfL, rdL, sg, rD, shr_i]
        by_cases z : n ≤ 1
        · have : ((decide ((1 : Int) ≤ 1) && decide (Int.gcd (n : Int) 1 = 1)) && (decide (0 ≤ (n : Int)) && decide ((n : Int) ≤ 1))) = true := by
            simp
            omega
          simp [z]
          all_goals omega
        · have : ¬ ((n : Int) ≤ 1) := by omega
          simp [z]
          all_goals omega
    | cons q ps =>
      cases ps with
      | nil =>
        simp only [List.map_cons, List.map_nil]
        cases numO p with
        | none => cases numO q <;> rfl
        | some n =>
          cases numO q with
          | none => rfl
          | some m =>
            simp only [hfL, rdL, sg, rD]
            by_cases z : 0 < n ∧ n < m ∧ Int.gcd n m = 1
            · have h2 : 2 ≤ m ∧ Int.gcd n m = 1 := ⟨by omega, z.2.2⟩
              rw [if_pos z, if_pos h2]
              have : shr (.tup [.int (n : Int), .int (m : Int)]) = true := by
                rw [shr_i, decide_eq_true (show (1 : Int) ≤ m by omega), decide_eq_true z.2.2, decide_eq_true (show (0 : Int) ≤ n by omega), decide_eq_true (show (n : Int) ≤ m by omega)]
                rfl
              simp [this]
            · rw [if_neg z]
              by_cases h2 : 2 ≤ m ∧ Int.gcd n m = 1
              · rw [if_pos h2]
                have : shr (.tup [.int (n : Int), .int (m : Int)]) = false := by
                  rw [shr_i]
                  have : ¬ ((n : Int) ≤ m) := fun h => by
                    apply z
                    have g := h2.2
                    refine ⟨?_, ?_, g⟩
                    · rcases Nat.eq_zero_or_pos n with q | q
                      · rw [q] at g
                        simp at g
                        omega
                      · exact q
                    · rcases Nat.lt_or_ge n m with q | q
                      · exact q
                      · have : n = m := by omega
                        rw [this] at g
                        simp at g
                        omega
                  rw [decide_eq_false this]
                  simp
                simp [this]
              · rw [if_neg h2]
      | cons r ps =>
        simp only [List.map_cons]
        cases numO p <;> cases numO q <;> rfl
  | true =>
    have ha := rest_is a
    rw [hb] at ha
    simp only [if_true] at ha
    have hp : ∃ p', p = 45 :: p' := by
      have f4 : TL.joinL [47] (p :: ps) = 45 :: rest a := f3.trans ha
      generalize rest a = r0 at f4
      cases p with
      | nil =>
        cases ps with
        | nil => cases f4
        | cons q ps =>
          have : (47 : Nat) :: TL.joinL [47] (q :: ps) = 45 :: r0 := f4
          cases this
      | cons c p' =>
        refine ⟨p', ?_⟩
        cases ps with
        | nil =>
          have : c :: p' = 45 :: r0 := f4
          rw [List.cons.injEq] at this
          rw [this.1]
        | cons q ps =>
          have : c :: (p' ++ ([47] ++ TL.joinL [47] (q :: ps))) = 45 :: r0 := f4
          rw [List.cons.injEq] at this
          rw [this.1]
    obtain ⟨p', rfl⟩ := hp
    rw [e]
    simp only [List.map_cons, numO_45]
    have hl : hfL (none :: ps.map numO) = none := by cases ps.map numO <;> rfl
    rw [hl]
    obtain ⟨q, qs, e2, _⟩ := pcs_is (rest a)
    rw [e2]
    have neg : ∀ (n : Nat) (m : Int), n ≠ 0 → shr (.tup [.int (sg true n), .int m]) = false := fun n m h => by
      rw [shr_i]
      have : ¬ ((0 : Int) ≤ sg true n) := by unfold sg; simp; omega
      rw [decide_eq_false this]
      simp
    cases qs with
    | nil =>
      simp only [List.map_cons, List.map_nil]
      cases numO q with
      | none => rfl
      | some n =>
        simp only [rdL]
        by_cases z : n = 0
        · subst z
          simp
        · have : shr (rD (some (sg true n, 1))) = false := neg n 1 z
          simp [z, this]
    | cons r qs =>
      cases qs with
      | nil =>
        simp only [List.map_cons, List.map_nil]
        cases numO q with
        | none => cases numO r <;> rfl
        | some n =>
          cases numO r with
          | none => rfl
          | some m =>
            simp only [rdL]
            by_cases h2 : 2 ≤ m ∧ Int.gcd n m = 1
            · rw [if_pos h2]
              have : shr (rD (some (sg true n, (m : Int)))) = false := neg n m (fun h => by
                have g := h2.2
                rw [h] at g
                simp at g
                omega)
              simp [this]
            · rw [if_neg h2]
      | cons s qs =>
        simp only [List.map_cons]
        cases numO q <;> cases numO r <;> rfl
section
variable {μ : Mem}
theorem nums_data (ns : List (Option Nat)) : isPL (ns.map oD) = true ∧ PyData.depthAll (dPL (ns.map oD)) = 0 := by
  induction ns with
  | nil => exact ⟨rfl, rfl⟩
  | cons o l ih =>
    cases o with
    | none => exact ⟨ih.1, by rw [List.map_cons]; show max (PyData.depth .none) (PyData.depthAll (dPL (l.map oD))) = 0; rw [ih.2]; rfl⟩
    | some n => exact ⟨ih.1, by rw [List.map_cons]; show max (PyData.depth (.int n)) (PyData.depthAll (dPL (l.map oD))) = 0; rw [ih.2]; rfl⟩
theorem eq_nums {ns : List (Option Nat)} {k : Nat} : eqM (.lst (ns.map oD)) (.lst [.int k]) μ = .ok (.bl (decide (ns = [some k]))) μ := by
  obtain ⟨h1, h2⟩ := nums_data ns
  have ok1 : eqOk (.lst (ns.map oD)) = true := by
    unfold eqOk
    simp [isP, h1, dP, PyData.depth, h2]
  have ok2 : eqOk (.lst [.int (k : Int)]) = true := rfl
  unfold eqM eqB
  simp only [lookD, scD, ok1, ok2, and_self, if_true, dP, PyData.eqv]
  congr 2
  cases ns with
  | nil => rfl
  | cons o l =>
    cases l with
    | nil =>
      cases o with
      | none => rfl
      | some n =>
        show (PyData.eqv (.int n) (.int k) && true) = _
        rw [Bool.and_true]
        show decide ((n : Int) = k) = _
        exact decide_eq_decide.mpr ⟨fun h => by rw [show n = k by omega], fun h => by cases h; rfl⟩
    | cons x l =>
      show (PyData.eqv _ _ && false) = _
      rw [Bool.and_false]
      simp
theorem half_v {a : List Nat} (ha : a.length ≤ 75) : m__law_half [.str (S a)] μ = .ok (rD (hfO a)) μ := by
  refine wr_eq.mp ?_
  unfold m__law_half b__law_half
  try simp only [wr_eVar, wr_eC, wr_e2, wr_e1, wr_eL, wr_eCall, wr_eCallK, wr_eLL, wr_eSeq, wr_lNil, wr_lCons, wr_bTru, wr_bOf, wr_bNot, wr_bAnd, wr_bOr, wr_isBl, wr_eAnd, wr_eOr, wr_eNot, wr_eIf, wr_e3c, wr_ok, wr_exc, ws_sNext, ws_sSeq, ws_sSet, ws_sDrop, ws_sRet, ws_sRetN, ws_sBrk, ws_sCnt, ws_sIf, ws_sAsg, ws_sPar, ws_sSub, ws_sForE, wr_callM, List.getElem?_cons_zero, List.getElem?_cons_succ, List.set_cons_zero, List.set_cons_succ, List.map_cons, List.map_nil, List.length_cons, List.length_nil, List.cons_append, List.nil_append, List.replicate, List.append_nil, addM_i, subM_i, negM_i, cmpM_i, eqM_i, eqM_s, neM_i, neM_s, absM_i, intM_i, intM_b, max2M_i, min2M_i, lenM_t, lenM_l, lenM_r, tupM_ap, lstM_ap, strM_s, truB_b, isBl_b, newM_ap, Nat.reduceLeDiff, seqL_l, seqT_t, isNM_n, isNM_i, wr_eLc, wr_eSl, wr_oN, wr_oI, intO_i, seqA_l, seqA_r, seqA_t, listM_t, listM_l, slM_t, slM_l, ws_sMatch, ws_mcNil, ws_mcAny, ws_mcVal, if_true, if_false, Bool.false_eq_true, Bool.not_true, Bool.not_false, Nat.reduceSub, Nat.reduceAdd, Nat.zero_add, eq_self, and_self, and_true, true_and, gN]
  simp only [wr_eM1]
  try simp only [wr_eVar, wr_eC, wr_e2, wr_e1, wr_eL, wr_eCall, wr_eCallK, wr_eLL, wr_eSeq, wr_lNil, wr_lCons, wr_bTru, wr_bOf, wr_bNot, wr_bAnd, wr_bOr, wr_isBl, wr_eAnd, wr_eOr, wr_eNot, wr_eIf, wr_e3c, wr_ok, wr_exc, ws_sNext, ws_sSeq, ws_sSet, ws_sDrop, ws_sRet, ws_sRetN, ws_sBrk, ws_sCnt, ws_sIf, ws_sAsg, ws_sPar, ws_sSub, ws_sForE, wr_callM, List.getElem?_cons_zero, List.getElem?_cons_succ, List.set_cons_zero, List.set_cons_succ, List.map_cons, List.map_nil, List.length_cons, List.length_nil, List.cons_append, List.nil_append, List.replicate, List.append_nil, addM_i, subM_i, negM_i, cmpM_i, eqM_i, eqM_s, neM_i, neM_s, absM_i, intM_i, intM_b, max2M_i, min2M_i, lenM_t, lenM_l, lenM_r, tupM_ap, lstM_ap, strM_s, truB_b, isBl_b, newM_ap, Nat.reduceLeDiff, seqL_l, seqT_t, isNM_n, isNM_i, wr_eLc, wr_eSl, wr_oN, wr_oI, intO_i, seqA_l, seqA_r, seqA_t, listM_t, listM_l, slM_t, slM_l, ws_sMatch, ws_mcNil, ws_mcAny, ws_mcVal, if_true, if_false, Bool.false_eq_true, Bool.not_true, Bool.not_false, Nat.reduceSub, Nat.reduceAdd, Nat.zero_add, eq_self, and_self, and_true, true_and, gN]
  simp only [isSt_s, if_true]
  rw [zS, spl_S (by omega)]
  try simp only [wr_eVar, wr_eC, wr_e2, wr_e1, wr_eL, wr_eCall, wr_eCallK, wr_eLL, wr_eSeq, wr_lNil, wr_lCons, wr_bTru, wr_bOf, wr_bNot, wr_bAnd, wr_bOr, wr_isBl, wr_eAnd, wr_eOr, wr_eNot, wr_eIf, wr_e3c, wr_ok, wr_exc, ws_sNext, ws_sSeq, ws_sSet, ws_sDrop, ws_sRet, ws_sRetN, ws_sBrk, ws_sCnt, ws_sIf, ws_sAsg, ws_sPar, ws_sSub, ws_sForE, wr_callM, List.getElem?_cons_zero, List.getElem?_cons_succ, List.set_cons_zero, List.set_cons_succ, List.map_cons, List.map_nil, List.length_cons, List.length_nil, List.cons_append, List.nil_append, List.replicate, List.append_nil, addM_i, subM_i, negM_i, cmpM_i, eqM_i, eqM_s, neM_i, neM_s, absM_i, intM_i, intM_b, max2M_i, min2M_i, lenM_t, lenM_l, lenM_r, tupM_ap, lstM_ap, strM_s, truB_b, isBl_b, newM_ap, Nat.reduceLeDiff, seqL_l, seqT_t, isNM_n, isNM_i, wr_eLc, wr_eSl, wr_oN, wr_oI, intO_i, seqA_l, seqA_r, seqA_t, listM_t, listM_l, slM_t, slM_l, ws_sMatch, ws_mcNil, ws_mcAny, ws_mcVal, if_true, if_false, Bool.false_eq_true, Bool.not_true, Bool.not_false, Nat.reduceSub, Nat.reduceAdd, Nat.zero_add, eq_self, and_self, and_true, true_and, gN]
  rw [nums_lc (by omega) fun p μ hp => ?_]
  · try simp only [wr_eVar, wr_eC, wr_e2, wr_e1, wr_eL, wr_eCall, wr_eCallK, wr_eLL, wr_eSeq, wr_lNil, wr_lCons, wr_bTru, wr_bOf, wr_bNot, wr_bAnd, wr_bOr, wr_isBl, wr_eAnd, wr_eOr, wr_eNot, wr_eIf, wr_e3c, wr_ok, wr_exc, ws_sNext, ws_sSeq, ws_sSet, ws_sDrop, ws_sRet, ws_sRetN, ws_sBrk, ws_sCnt, ws_sIf, ws_sAsg, ws_sPar, ws_sSub, ws_sForE, wr_callM, List.getElem?_cons_zero, List.getElem?_cons_succ, List.set_cons_zero, List.set_cons_succ, List.map_cons, List.map_nil, List.length_cons, List.length_nil, List.cons_append, List.nil_append, List.replicate, List.append_nil, addM_i, subM_i, negM_i, cmpM_i, eqM_i, eqM_s, neM_i, neM_s, absM_i, intM_i, intM_b, max2M_i, min2M_i, lenM_t, lenM_l, lenM_r, tupM_ap, lstM_ap, strM_s, truB_b, isBl_b, newM_ap, Nat.reduceLeDiff, seqL_l, seqT_t, isNM_n, isNM_i, wr_eLc, wr_eSl, wr_oN, wr_oI, intO_i, seqA_l, seqA_r, seqA_t, listM_t, listM_l, slM_t, slM_l, ws_sMatch, ws_mcNil, ws_mcAny, ws_mcVal, if_true, if_false, Bool.false_eq_true, Bool.not_true, Bool.not_false, Nat.reduceSub, Nat.reduceAdd, Nat.zero_add, eq_self, and_self, and_true, true_and, gN]
    unfold t__law_half_3
    try simp only [wr_eVar, wr_eC, wr_e2, wr_e1, wr_eL, wr_eCall, wr_eCallK, wr_eLL, wr_eSeq, wr_lNil, wr_lCons, wr_bTru, wr_bOf, wr_bNot, wr_bAnd, wr_bOr, wr_isBl, wr_eAnd, wr_eOr, wr_eNot, wr_eIf, wr_e3c, wr_ok, wr_exc, ws_sNext, ws_sSeq, ws_sSet, ws_sDrop, ws_sRet, ws_sRetN, ws_sBrk, ws_sCnt, ws_sIf, ws_sAsg, ws_sPar, ws_sSub, ws_sForE, wr_callM, List.getElem?_cons_zero, List.getElem?_cons_succ, List.set_cons_zero, List.set_cons_succ, List.map_cons, List.map_nil, List.length_cons, List.length_nil, List.cons_append, List.nil_append, List.replicate, List.append_nil, addM_i, subM_i, negM_i, cmpM_i, eqM_i, eqM_s, neM_i, neM_s, absM_i, intM_i, intM_b, max2M_i, min2M_i, lenM_t, lenM_l, lenM_r, tupM_ap, lstM_ap, strM_s, truB_b, isBl_b, newM_ap, Nat.reduceLeDiff, seqL_l, seqT_t, isNM_n, isNM_i, wr_eLc, wr_eSl, wr_oN, wr_oI, intO_i, seqA_l, seqA_r, seqA_t, listM_t, listM_l, slM_t, slM_l, ws_sMatch, ws_mcNil, ws_mcAny, ws_mcVal, if_true, if_false, Bool.false_eq_true, Bool.not_true, Bool.not_false, Nat.reduceSub, Nat.reduceAdd, Nat.zero_add, eq_self, and_self, and_true, true_and, gN]
    have q0 : ∀ (ns : List (Option Nat)) μ, eqM (.lst (ns.map oD)) (.lst [.int 0]) μ = .ok (.bl (decide (ns = [some 0]))) μ := fun ns μ => eq_nums (k := 0)
    have q1 : ∀ (ns : List (Option Nat)) μ, eqM (.lst (ns.map oD)) (.lst [.int 1]) μ = .ok (.bl (decide (ns = [some 1]))) μ := fun ns μ => eq_nums (k := 1)
    simp only [q0, q1, wr_ok]
    try simp only [wr_eVar, wr_eC, wr_e2, wr_e1, wr_eL, wr_eCall, wr_eCallK, wr_eLL, wr_eSeq, wr_lNil, wr_lCons, wr_bTru, wr_bOf, wr_bNot, wr_bAnd, wr_bOr, wr_isBl, wr_eAnd, wr_eOr, wr_eNot, wr_eIf, wr_e3c, wr_ok, wr_exc, ws_sNext, ws_sSeq, ws_sSet, ws_sDrop, ws_sRet, ws_sRetN, ws_sBrk, ws_sCnt, ws_sIf, ws_sAsg, ws_sPar, ws_sSub, ws_sForE, wr_callM, List.getElem?_cons_zero, List.getElem?_cons_succ, List.set_cons_zero, List.set_cons_succ, List.map_cons, List.map_nil, List.length_cons, List.length_nil, List.cons_append, List.nil_append, List.replicate, List.append_nil, addM_i, subM_i, negM_i, cmpM_i, eqM_i, eqM_s, neM_i, neM_s, absM_i, intM_i, intM_b, max2M_i, min2M_i, lenM_t, lenM_l, lenM_r, tupM_ap, lstM_ap, strM_s, truB_b, isBl_b, newM_ap, Nat.reduceLeDiff, seqL_l, seqT_t, isNM_n, isNM_i, wr_eLc, wr_eSl, wr_oN, wr_oI, intO_i, seqA_l, seqA_r, seqA_t, listM_t, listM_l, slM_t, slM_l, ws_sMatch, ws_mcNil, ws_mcAny, ws_mcVal, if_true, if_false, Bool.false_eq_true, Bool.not_true, Bool.not_false, Nat.reduceSub, Nat.reduceAdd, Nat.zero_add, eq_self, and_self, and_true, true_and, gN]
    unfold t__law_half_2
    try simp only [wr_eVar, wr_eC, wr_e2, wr_e1, wr_eL, wr_eCall, wr_eCallK, wr_eLL, wr_eSeq, wr_lNil, wr_lCons, wr_bTru, wr_bOf, wr_bNot, wr_bAnd, wr_bOr, wr_isBl, wr_eAnd, wr_eOr, wr_eNot, wr_eIf, wr_e3c, wr_ok, wr_exc, ws_sNext, ws_sSeq, ws_sSet, ws_sDrop, ws_sRet, ws_sRetN, ws_sBrk, ws_sCnt, ws_sIf, ws_sAsg, ws_sPar, ws_sSub, ws_sForE, wr_callM, List.getElem?_cons_zero, List.getElem?_cons_succ, List.set_cons_zero, List.set_cons_succ, List.map_cons, List.map_nil, List.length_cons, List.length_nil, List.cons_append, List.nil_append, List.replicate, List.append_nil, addM_i, subM_i, negM_i, cmpM_i, eqM_i, eqM_s, neM_i, neM_s, absM_i, intM_i, intM_b, max2M_i, min2M_i, lenM_t, lenM_l, lenM_r, tupM_ap, lstM_ap, strM_s, truB_b, isBl_b, newM_ap, Nat.reduceLeDiff, seqL_l, seqT_t, isNM_n, isNM_i, wr_eLc, wr_eSl, wr_oN, wr_oI, intO_i, seqA_l, seqA_r, seqA_t, listM_t, listM_l, slM_t, slM_l, ws_sMatch, ws_mcNil, ws_mcAny, ws_mcVal, if_true, if_false, Bool.false_eq_true, Bool.not_true, Bool.not_false, Nat.reduceSub, Nat.reduceAdd, Nat.zero_add, eq_self, and_self, and_true, true_and, gN]
    simp only [none_in, wr_ok]
    try simp only [wr_eVar, wr_eC, wr_e2, wr_e1, wr_eL, wr_eCall, wr_eCallK, wr_eLL, wr_eSeq, wr_lNil, wr_lCons, wr_bTru, wr_bOf, wr_bNot, wr_bAnd, wr_bOr, wr_isBl, wr_eAnd, wr_eOr, wr_eNot, wr_eIf, wr_e3c, wr_ok, wr_exc, ws_sNext, ws_sSeq, ws_sSet, ws_sDrop, ws_sRet, ws_sRetN, ws_sBrk, ws_sCnt, ws_sIf, ws_sAsg, ws_sPar, ws_sSub, ws_sForE, wr_callM, List.getElem?_cons_zero, List.getElem?_cons_succ, List.set_cons_zero, List.set_cons_succ, List.map_cons, List.map_nil, List.length_cons, List.length_nil, List.cons_append, List.nil_append, List.replicate, List.append_nil, addM_i, subM_i, negM_i, cmpM_i, eqM_i, eqM_s, neM_i, neM_s, absM_i, intM_i, intM_b, max2M_i, min2M_i, lenM_t, lenM_l, lenM_r, tupM_ap, lstM_ap, strM_s, truB_b, isBl_b, newM_ap, Nat.reduceLeDiff, seqL_l, seqT_t, isNM_n, isNM_i, wr_eLc, wr_eSl, wr_oN, wr_oI, intO_i, seqA_l, seqA_r, seqA_t, listM_t, listM_l, slM_t, slM_l, ws_sMatch, ws_mcNil, ws_mcAny, ws_mcVal, if_true, if_false, Bool.false_eq_true, Bool.not_true, Bool.not_false, Nat.reduceSub, Nat.reduceAdd, Nat.zero_add, eq_self, and_self, and_true, true_and, gN]
    unfold hfO
    obtain ⟨p, ps, e, f1, f2, f3⟩ := pcs_is a
    rw [e]
    cases ps with
    | nil =>
      simp only [List.map_cons, List.map_nil, List.length_cons, List.length_nil]
      simp only [show (!decide (((0 + 1 : Nat) : Int) = 2)) = true from by decide]
      try simp only [wr_eVar, wr_eC, wr_e2, wr_e1, wr_eL, wr_eCall, wr_eCallK, wr_eLL, wr_eSeq, wr_lNil, wr_lCons, wr_bTru, wr_bOf, wr_bNot, wr_bAnd, wr_bOr, wr_isBl, wr_eAnd, wr_eOr, wr_eNot, wr_eIf, wr_e3c, wr_ok, wr_exc, ws_sNext, ws_sSeq, ws_sSet, ws_sDrop, ws_sRet, ws_sRetN, ws_sBrk, ws_sCnt, ws_sIf, ws_sAsg, ws_sPar, ws_sSub, ws_sForE, wr_callM, List.getElem?_cons_zero, List.getElem?_cons_succ, List.set_cons_zero, List.set_cons_succ, List.map_cons, List.map_nil, List.length_cons, List.length_nil, List.cons_append, List.nil_append, List.replicate, List.append_nil, addM_i, subM_i, negM_i, cmpM_i, eqM_i, eqM_s, neM_i, neM_s, absM_i, intM_i, intM_b, max2M_i, min2M_i, lenM_t, lenM_l, lenM_r, tupM_ap, lstM_ap, strM_s, truB_b, isBl_b, newM_ap, Nat.reduceLeDiff, seqL_l, seqT_t, isNM_n, isNM_i, wr_eLc, wr_eSl, wr_oN, wr_oI, intO_i, seqA_l, seqA_r, seqA_t, listM_t, listM_l, slM_t, slM_l, ws_sMatch, ws_mcNil, ws_mcAny, ws_mcVal, if_true, if_false, Bool.false_eq_true, Bool.not_true, Bool.not_false, Nat.reduceSub, Nat.reduceAdd, Nat.zero_add, eq_self, and_self, and_true, true_and, gN]
      cases hn : numO p with
      | none =>
        have d1 : decide ([(none : Option Nat)] = [some 0]) = false := by decide
        have d2 : decide ([(none : Option Nat)] = [some 1]) = false := by decide
        simp only [d1, d2, Bool.false_eq_true, if_false]
        rfl
      | some n =>
        simp only [oD, lix0, wr_ok]
        try simp only [wr_eVar, wr_eC, wr_e2, wr_e1, wr_eL, wr_eCall, wr_eCallK, wr_eLL, wr_eSeq, wr_lNil, wr_lCons, wr_bTru, wr_bOf, wr_bNot, wr_bAnd, wr_bOr, wr_isBl, wr_eAnd, wr_eOr, wr_eNot, wr_eIf, wr_e3c, wr_ok, wr_exc, ws_sNext, ws_sSeq, ws_sSet, ws_sDrop, ws_sRet, ws_sRetN, ws_sBrk, ws_sCnt, ws_sIf, ws_sAsg, ws_sPar, ws_sSub, ws_sForE, wr_callM, List.getElem?_cons_zero, List.getElem?_cons_succ, List.set_cons_zero, List.set_cons_succ, List.map_cons, List.map_nil, List.length_cons, List.length_nil, List.cons_append, List.nil_append, List.replicate, List.append_nil, addM_i, subM_i, negM_i, cmpM_i, eqM_i, eqM_s, neM_i, neM_s, absM_i, intM_i, intM_b, max2M_i, min2M_i, lenM_t, lenM_l, lenM_r, tupM_ap, lstM_ap, strM_s, truB_b, isBl_b, newM_ap, Nat.reduceLeDiff, seqL_l, seqT_t, isNM_n, isNM_i, wr_eLc, wr_eSl, wr_oN, wr_oI, intO_i, seqA_l, seqA_r, seqA_t, listM_t, listM_l, slM_t, slM_l, ws_sMatch, ws_mcNil, ws_mcAny, ws_mcVal, if_true, if_false, Bool.false_eq_true, Bool.not_true, Bool.not_false, Nat.reduceSub, Nat.reduceAdd, Nat.zero_add, eq_self, and_self, and_true, true_and, gN]
        by_cases z0' : n = 0
        · subst z0'
          simp [hfL, rD]
        · by_cases z1' : n = 1
          · subst z1'
            simp [hfL, rD]
          · have : ¬ n ≤ 1 := by omega
            simp [hfL, rD, z0', z1', this]
    | cons q ps =>
      have d1 : decide ((p :: q :: ps).map numO = [some 0]) = false := decide_eq_false (by simp)
      have d2 : decide ((p :: q :: ps).map numO = [some 1]) = false := decide_eq_false (by simp)
      simp only [d1, d2, Bool.false_eq_true, if_false]
      cases ps with
      | nil =>
        simp only [List.map_cons, List.map_nil, List.length_cons, List.length_nil, List.any_cons, List.any_nil, Bool.or_false]
        simp only [show (!decide (((0 + 1 + 1 : Nat) : Int) = 2)) = false from by decide]
        try simp only [wr_eVar, wr_eC, wr_e2, wr_e1, wr_eL, wr_eCall, wr_eCallK, wr_eLL, wr_eSeq, wr_lNil, wr_lCons, wr_bTru, wr_bOf, wr_bNot, wr_bAnd, wr_bOr, wr_isBl, wr_eAnd, wr_eOr, wr_eNot, wr_eIf, wr_e3c, wr_ok, wr_exc, ws_sNext, ws_sSeq, ws_sSet, ws_sDrop, ws_sRet, ws_sRetN, ws_sBrk, ws_sCnt, ws_sIf, ws_sAsg, ws_sPar, ws_sSub, ws_sForE, wr_callM, List.getElem?_cons_zero, List.getElem?_cons_succ, List.set_cons_zero, List.set_cons_succ, List.map_cons, List.map_nil, List.length_cons, List.length_nil, List.cons_append, List.nil_append, List.replicate, List.append_nil, addM_i, subM_i, negM_i, cmpM_i, eqM_i, eqM_s, neM_i, neM_s, absM_i, intM_i, intM_b, max2M_i, min2M_i, lenM_t, lenM_l, lenM_r, tupM_ap, lstM_ap, strM_s, truB_b, isBl_b, newM_ap, Nat.reduceLeDiff, seqL_l, seqT_t, isNM_n, isNM_i, wr_eLc, wr_eSl, wr_oN, wr_oI, intO_i, seqA_l, seqA_r, seqA_t, listM_t, listM_l, slM_t, slM_l, ws_sMatch, ws_mcNil, ws_mcAny, ws_mcVal, if_true, if_false, Bool.false_eq_true, Bool.not_true, Bool.not_false, Nat.reduceSub, Nat.reduceAdd, Nat.zero_add, eq_self, and_self, and_true, true_and, gN]
        cases hn : numO p with
        | none =>
          simp only [Option.isNone, Bool.true_or]
          try simp only [wr_eVar, wr_eC, wr_e2, wr_e1, wr_eL, wr_eCall, wr_eCallK, wr_eLL, wr_eSeq, wr_lNil, wr_lCons, wr_bTru, wr_bOf, wr_bNot, wr_bAnd, wr_bOr, wr_isBl, wr_eAnd, wr_eOr, wr_eNot, wr_eIf, wr_e3c, wr_ok, wr_exc, ws_sNext, ws_sSeq, ws_sSet, ws_sDrop, ws_sRet, ws_sRetN, ws_sBrk, ws_sCnt, ws_sIf, ws_sAsg, ws_sPar, ws_sSub, ws_sForE, wr_callM, List.getElem?_cons_zero, List.getElem?_cons_succ, List.set_cons_zero, List.set_cons_succ, List.map_cons, List.map_nil, List.length_cons, List.length_nil, List.cons_append, List.nil_append, List.replicate, List.append_nil, addM_i, subM_i, negM_i, cmpM_i, eqM_i, eqM_s, neM_i, neM_s, absM_i, intM_i, intM_b, max2M_i, min2M_i, lenM_t, lenM_l, lenM_r, tupM_ap, lstM_ap, strM_s, truB_b, isBl_b, newM_ap, Nat.reduceLeDiff, seqL_l, seqT_t, isNM_n, isNM_i, wr_eLc, wr_eSl, wr_oN, wr_oI, intO_i, seqA_l, seqA_r, seqA_t, listM_t, listM_l, slM_t, slM_l, ws_sMatch, ws_mcNil, ws_mcAny, ws_mcVal, if_true, if_false, Bool.false_eq_true, Bool.not_true, Bool.not_false, Nat.reduceSub, Nat.reduceAdd, Nat.zero_add, eq_self, and_self, and_true, true_and, gN]
          rfl
        | some n =>
          cases hm : numO q with
          | none =>
            simp only [Option.isNone, Bool.or_true]
            try simp only [wr_eVar, wr_eC, wr_e2, wr_e1, wr_eL, wr_eCall, wr_eCallK, wr_eLL, wr_eSeq, wr_lNil, wr_lCons, wr_bTru, wr_bOf, wr_bNot, wr_bAnd, wr_bOr, wr_isBl, wr_eAnd, wr_eOr, wr_eNot, wr_eIf, wr_e3c, wr_ok, wr_exc, ws_sNext, ws_sSeq, ws_sSet, ws_sDrop, ws_sRet, ws_sRetN, ws_sBrk, ws_sCnt, ws_sIf, ws_sAsg, ws_sPar, ws_sSub, ws_sForE, wr_callM, List.getElem?_cons_zero, List.getElem?_cons_succ, List.set_cons_zero, List.set_cons_succ, List.map_cons, List.map_nil, List.length_cons, List.length_nil, List.cons_append, List.nil_append, List.replicate, List.append_nil, addM_i, subM_i, negM_i, cmpM_i, eqM_i, eqM_s, neM_i, neM_s, absM_i, intM_i, intM_b, max2M_i, min2M_i, lenM_t, lenM_l, lenM_r, tupM_ap, lstM_ap, strM_s, truB_b, isBl_b, newM_ap, Nat.reduceLeDiff, seqL_l, seqT_t, isNM_n, isNM_i, wr_eLc, wr_eSl, wr_oN, wr_oI, intO_i, seqA_l, seqA_r, seqA_t, listM_t, listM_l, slM_t, slM_l, ws_sMatch, ws_mcNil, ws_mcAny, ws_mcVal, if_true, if_false, Bool.false_eq_true, Bool.not_true, Bool.not_false, Nat.reduceSub, Nat.reduceAdd, Nat.zero_add, eq_self, and_self, and_true, true_and, gN]
            rfl
          | some m =>
            have hm2 : m < 10 ^ 75 := numO_lt hm (by
              have := pcs_le (l := a) (p := q) (by rw [e]; simp)
              omega)
            simp only [Option.isNone, Bool.or_false, oD, lix0, lix1, wr_ok]
            try simp only [wr_eVar, wr_eC, wr_e2, wr_e1, wr_eL, wr_eCall, wr_eCallK, wr_eLL, wr_eSeq, wr_lNil, wr_lCons, wr_bTru, wr_bOf, wr_bNot, wr_bAnd, wr_bOr, wr_isBl, wr_eAnd, wr_eOr, wr_eNot, wr_eIf, wr_e3c, wr_ok, wr_exc, ws_sNext, ws_sSeq, ws_sSet, ws_sDrop, ws_sRet, ws_sRetN, ws_sBrk, ws_sCnt, ws_sIf, ws_sAsg, ws_sPar, ws_sSub, ws_sForE, wr_callM, List.getElem?_cons_zero, List.getElem?_cons_succ, List.set_cons_zero, List.set_cons_succ, List.map_cons, List.map_nil, List.length_cons, List.length_nil, List.cons_append, List.nil_append, List.replicate, List.append_nil, addM_i, subM_i, negM_i, cmpM_i, eqM_i, eqM_s, neM_i, neM_s, absM_i, intM_i, intM_b, max2M_i, min2M_i, lenM_t, lenM_l, lenM_r, tupM_ap, lstM_ap, strM_s, truB_b, isBl_b, newM_ap, Nat.reduceLeDiff, seqL_l, seqT_t, isNM_n, isNM_i, wr_eLc, wr_eSl, wr_oN, wr_oI, intO_i, seqA_l, seqA_r, seqA_t, listM_t, listM_l, slM_t, slM_l, ws_sMatch, ws_mcNil, ws_mcAny, ws_mcVal, if_true, if_false, Bool.false_eq_true, Bool.not_true, Bool.not_false, Nat.reduceSub, Nat.reduceAdd, Nat.zero_add, eq_self, and_self, and_true, true_and, gN]
            by_cases z : 0 < n
            · have e1 : decide ((0 : Int) < n) = true := decide_eq_true (by omega)
              simp only [e1, if_true, lix1, wr_ok]
              try simp only [wr_eVar, wr_eC, wr_e2, wr_e1, wr_eL, wr_eCall, wr_eCallK, wr_eLL, wr_eSeq, wr_lNil, wr_lCons, wr_bTru, wr_bOf, wr_bNot, wr_bAnd, wr_bOr, wr_isBl, wr_eAnd, wr_eOr, wr_eNot, wr_eIf, wr_e3c, wr_ok, wr_exc, ws_sNext, ws_sSeq, ws_sSet, ws_sDrop, ws_sRet, ws_sRetN, ws_sBrk, ws_sCnt, ws_sIf, ws_sAsg, ws_sPar, ws_sSub, ws_sForE, wr_callM, List.getElem?_cons_zero, List.getElem?_cons_succ, List.set_cons_zero, List.set_cons_succ, List.map_cons, List.map_nil, List.length_cons, List.length_nil, List.cons_append, List.nil_append, List.replicate, List.append_nil, addM_i, subM_i, negM_i, cmpM_i, eqM_i, eqM_s, neM_i, neM_s, absM_i, intM_i, intM_b, max2M_i, min2M_i, lenM_t, lenM_l, lenM_r, tupM_ap, lstM_ap, strM_s, truB_b, isBl_b, newM_ap, Nat.reduceLeDiff, seqL_l, seqT_t, isNM_n, isNM_i, wr_eLc, wr_eSl, wr_oN, wr_oI, intO_i, seqA_l, seqA_r, seqA_t, listM_t, listM_l, slM_t, slM_l, ws_sMatch, ws_mcNil, ws_mcAny, ws_mcVal, if_true, if_false, Bool.false_eq_true, Bool.not_true, Bool.not_false, Nat.reduceSub, Nat.reduceAdd, Nat.zero_add, eq_self, and_self, and_true, true_and, gN]
              by_cases z2 : n < m
              · have e2 : decide ((n : Int) < m) = true := decide_eq_true (by omega)
                simp only [e2, Bool.not_true]
                try simp only [wr_eVar, wr_eC, wr_e2, wr_e1, wr_eL, wr_eCall, wr_eCallK, wr_eLL, wr_eSeq, wr_lNil, wr_lCons, wr_bTru, wr_bOf, wr_bNot, wr_bAnd, wr_bOr, wr_isBl, wr_eAnd, wr_eOr, wr_eNot, wr_eIf, wr_e3c, wr_ok, wr_exc, ws_sNext, ws_sSeq, ws_sSet, ws_sDrop, ws_sRet, ws_sRetN, ws_sBrk, ws_sCnt, ws_sIf, ws_sAsg, ws_sPar, ws_sSub, ws_sForE, wr_callM, List.getElem?_cons_zero, List.getElem?_cons_succ, List.set_cons_zero, List.set_cons_succ, List.map_cons, List.map_nil, List.length_cons, List.length_nil, List.cons_append, List.nil_append, List.replicate, List.append_nil, addM_i, subM_i, negM_i, cmpM_i, eqM_i, eqM_s, neM_i, neM_s, absM_i, intM_i, intM_b, max2M_i, min2M_i, lenM_t, lenM_l, lenM_r, tupM_ap, lstM_ap, strM_s, truB_b, isBl_b, newM_ap, Nat.reduceLeDiff, seqL_l, seqT_t, isNM_n, isNM_i, wr_eLc, wr_eSl, wr_oN, wr_oI, intO_i, seqA_l, seqA_r, seqA_t, listM_t, listM_l, slM_t, slM_l, ws_sMatch, ws_mcNil, ws_mcAny, ws_mcVal, if_true, if_false, Bool.false_eq_true, Bool.not_true, Bool.not_false, Nat.reduceSub, Nat.reduceAdd, Nat.zero_add, eq_self, and_self, and_true, true_and, gN]
                unfold t__law_half_1
                try simp only [wr_eVar, wr_eC, wr_e2, wr_e1, wr_eL, wr_eCall, wr_eCallK, wr_eLL, wr_eSeq, wr_lNil, wr_lCons, wr_bTru, wr_bOf, wr_bNot, wr_bAnd, wr_bOr, wr_isBl, wr_eAnd, wr_eOr, wr_eNot, wr_eIf, wr_e3c, wr_ok, wr_exc, ws_sNext, ws_sSeq, ws_sSet, ws_sDrop, ws_sRet, ws_sRetN, ws_sBrk, ws_sCnt, ws_sIf, ws_sAsg, ws_sPar, ws_sSub, ws_sForE, wr_callM, List.getElem?_cons_zero, List.getElem?_cons_succ, List.set_cons_zero, List.set_cons_succ, List.map_cons, List.map_nil, List.length_cons, List.length_nil, List.cons_append, List.nil_append, List.replicate, List.append_nil, addM_i, subM_i, negM_i, cmpM_i, eqM_i, eqM_s, neM_i, neM_s, absM_i, intM_i, intM_b, max2M_i, min2M_i, lenM_t, lenM_l, lenM_r, tupM_ap, lstM_ap, strM_s, truB_b, isBl_b, newM_ap, Nat.reduceLeDiff, seqL_l, seqT_t, isNM_n, isNM_i, wr_eLc, wr_eSl, wr_oN, wr_oI, intO_i, seqA_l, seqA_r, seqA_t, listM_t, listM_l, slM_t, slM_l, ws_sMatch, ws_mcNil, ws_mcAny, ws_mcVal, if_true, if_false, Bool.false_eq_true, Bool.not_true, Bool.not_false, Nat.reduceSub, Nat.reduceAdd, Nat.zero_add, eq_self, and_self, and_true, true_and, gN]
                simp only [lix0, lix1, wr_ok]
                have bm : ((m : Int)).natAbs < 2 ^ 8000 := Nat.lt_of_lt_of_le (show ((m : Int)).natAbs < 10 ^ 75 by omega) (by decide +kernel)
                rw [low_v (by omega) bm]
                try simp only [wr_eVar, wr_eC, wr_e2, wr_e1, wr_eL, wr_eCall, wr_eCallK, wr_eLL, wr_eSeq, wr_lNil, wr_lCons, wr_bTru, wr_bOf, wr_bNot, wr_bAnd, wr_bOr, wr_isBl, wr_eAnd, wr_eOr, wr_eNot, wr_eIf, wr_e3c, wr_ok, wr_exc, ws_sNext, ws_sSeq, ws_sSet, ws_sDrop, ws_sRet, ws_sRetN, ws_sBrk, ws_sCnt, ws_sIf, ws_sAsg, ws_sPar, ws_sSub, ws_sForE, wr_callM, List.getElem?_cons_zero, List.getElem?_cons_succ, List.set_cons_zero, List.set_cons_succ, List.map_cons, List.map_nil, List.length_cons, List.length_nil, List.cons_append, List.nil_append, List.replicate, List.append_nil, addM_i, subM_i, negM_i, cmpM_i, eqM_i, eqM_s, neM_i, neM_s, absM_i, intM_i, intM_b, max2M_i, min2M_i, lenM_t, lenM_l, lenM_r, tupM_ap, lstM_ap, strM_s, truB_b, isBl_b, newM_ap, Nat.reduceLeDiff, seqL_l, seqT_t, isNM_n, isNM_i, wr_eLc, wr_eSl, wr_oN, wr_oI, intO_i, seqA_l, seqA_r, seqA_t, listM_t, listM_l, slM_t, slM_l, ws_sMatch, ws_mcNil, ws_mcAny, ws_mcVal, if_true, if_false, Bool.false_eq_true, Bool.not_true, Bool.not_false, Nat.reduceSub, Nat.reduceAdd, Nat.zero_add, eq_self, and_self, and_true, true_and, gN]
                unfold t__law_half_0
                try simp only [wr_eVar, wr_eC, wr_e2, wr_e1, wr_eL, wr_eCall, wr_eCallK, wr_eLL, wr_eSeq, wr_lNil, wr_lCons, wr_bTru, wr_bOf, wr_bNot, wr_bAnd, wr_bOr, wr_isBl, wr_eAnd, wr_eOr, wr_eNot, wr_eIf, wr_e3c, wr_ok, wr_exc, ws_sNext, ws_sSeq, ws_sSet, ws_sDrop, ws_sRet, ws_sRetN, ws_sBrk, ws_sCnt, ws_sIf, ws_sAsg, ws_sPar, ws_sSub, ws_sForE, wr_callM, List.getElem?_cons_zero, List.getElem?_cons_succ, List.set_cons_zero, List.set_cons_succ, List.map_cons, List.map_nil, List.length_cons, List.length_nil, List.cons_append, List.nil_append, List.replicate, List.append_nil, addM_i, subM_i, negM_i, cmpM_i, eqM_i, eqM_s, neM_i, neM_s, absM_i, intM_i, intM_b, max2M_i, min2M_i, lenM_t, lenM_l, lenM_r, tupM_ap, lstM_ap, strM_s, truB_b, isBl_b, newM_ap, Nat.reduceLeDiff, seqL_l, seqT_t, isNM_n, isNM_i, wr_eLc, wr_eSl, wr_oN, wr_oI, intO_i, seqA_l, seqA_r, seqA_t, listM_t, listM_l, slM_t, slM_l, ws_sMatch, ws_mcNil, ws_mcAny, ws_mcVal, if_true, if_false, Bool.false_eq_true, Bool.not_true, Bool.not_false, Nat.reduceSub, Nat.reduceAdd, Nat.zero_add, eq_self, and_self, and_true, true_and, gN]
                simp only [lix0, lix1, wr_ok]
                try simp only [wr_eVar, wr_eC, wr_e2, wr_e1, wr_eL, wr_eCall, wr_eCallK, wr_eLL, wr_eSeq, wr_lNil, wr_lCons, wr_bTru, wr_bOf, wr_bNot, wr_bAnd, wr_bOr, wr_isBl, wr_eAnd, wr_eOr, wr_eNot, wr_eIf, wr_e3c, wr_ok, wr_exc, ws_sNext, ws_sSeq, ws_sSet, ws_sDrop, ws_sRet, ws_sRetN, ws_sBrk, ws_sCnt, ws_sIf, ws_sAsg, ws_sPar, ws_sSub, ws_sForE, wr_callM, List.getElem?_cons_zero, List.getElem?_cons_succ, List.set_cons_zero, List.set_cons_succ, List.map_cons, List.map_nil, List.length_cons, List.length_nil, List.cons_append, List.nil_append, List.replicate, List.append_nil, addM_i, subM_i, negM_i, cmpM_i, eqM_i, eqM_s, neM_i, neM_s, absM_i, intM_i, intM_b, max2M_i, min2M_i, lenM_t, lenM_l, lenM_r, tupM_ap, lstM_ap, strM_s, truB_b, isBl_b, newM_ap, Nat.reduceLeDiff, seqL_l, seqT_t, isNM_n, isNM_i, wr_eLc, wr_eSl, wr_oN, wr_oI, intO_i, seqA_l, seqA_r, seqA_t, listM_t, listM_l, slM_t, slM_l, ws_sMatch, ws_mcNil, ws_mcAny, ws_mcVal, if_true, if_false, Bool.false_eq_true, Bool.not_true, Bool.not_false, Nat.reduceSub, Nat.reduceAdd, Nat.zero_add, eq_self, and_self, and_true, true_and, gN]
                rw [eqM_2]
                try simp only [wr_eVar, wr_eC, wr_e2, wr_e1, wr_eL, wr_eCall, wr_eCallK, wr_eLL, wr_eSeq, wr_lNil, wr_lCons, wr_bTru, wr_bOf, wr_bNot, wr_bAnd, wr_bOr, wr_isBl, wr_eAnd, wr_eOr, wr_eNot, wr_eIf, wr_e3c, wr_ok, wr_exc, ws_sNext, ws_sSeq, ws_sSet, ws_sDrop, ws_sRet, ws_sRetN, ws_sBrk, ws_sCnt, ws_sIf, ws_sAsg, ws_sPar, ws_sSub, ws_sForE, wr_callM, List.getElem?_cons_zero, List.getElem?_cons_succ, List.set_cons_zero, List.set_cons_succ, List.map_cons, List.map_nil, List.length_cons, List.length_nil, List.cons_append, List.nil_append, List.replicate, List.append_nil, addM_i, subM_i, negM_i, cmpM_i, eqM_i, eqM_s, neM_i, neM_s, absM_i, intM_i, intM_b, max2M_i, min2M_i, lenM_t, lenM_l, lenM_r, tupM_ap, lstM_ap, strM_s, truB_b, isBl_b, newM_ap, Nat.reduceLeDiff, seqL_l, seqT_t, isNM_n, isNM_i, wr_eLc, wr_eSl, wr_oN, wr_oI, intO_i, seqA_l, seqA_r, seqA_t, listM_t, listM_l, slM_t, slM_l, ws_sMatch, ws_mcNil, ws_mcAny, ws_mcVal, if_true, if_false, Bool.false_eq_true, Bool.not_true, Bool.not_false, Nat.reduceSub, Nat.reduceAdd, Nat.zero_add, eq_self, and_self, and_true, true_and, gN]
                have g := gcd_one (a := (n : Int)) (b := (m : Int)) (by omega)
                by_cases w : Int.gcd n m = 1
                · have g' := g.mpr w
                  simp only [g'.1, g'.2, decide_true, Bool.and_self, if_true, hfL]
                  rw [if_pos ⟨z, z2, w⟩]
                  rfl
                · have g' : (decide ((n : Int) / (Int.gcd n m : Int) = n) && decide ((m : Int) / (Int.gcd n m : Int) = m)) = false := by
                    cases q : (decide ((n : Int) / (Int.gcd n m : Int) = n) && decide ((m : Int) / (Int.gcd n m : Int) = m)) with
                    | false => rfl
                    | true =>
                      rw [Bool.and_eq_true, decide_eq_true_iff, decide_eq_true_iff] at q
                      exact absurd (g.mp q) w
                  rw [g']
                  simp only [hfL, Bool.false_eq_true, if_false]
                  rw [if_neg (fun h => w h.2.2)]
                  rfl
              · have e2 : decide ((n : Int) < m) = false := decide_eq_false (by omega)
                simp only [e2, Bool.not_false]
                try simp only [wr_eVar, wr_eC, wr_e2, wr_e1, wr_eL, wr_eCall, wr_eCallK, wr_eLL, wr_eSeq, wr_lNil, wr_lCons, wr_bTru, wr_bOf, wr_bNot, wr_bAnd, wr_bOr, wr_isBl, wr_eAnd, wr_eOr, wr_eNot, wr_eIf, wr_e3c, wr_ok, wr_exc, ws_sNext, ws_sSeq, ws_sSet, ws_sDrop, ws_sRet, ws_sRetN, ws_sBrk, ws_sCnt, ws_sIf, ws_sAsg, ws_sPar, ws_sSub, ws_sForE, wr_callM, List.getElem?_cons_zero, List.getElem?_cons_succ, List.set_cons_zero, List.set_cons_succ, List.map_cons, List.map_nil, List.length_cons, List.length_nil, List.cons_append, List.nil_append, List.replicate, List.append_nil, addM_i, subM_i, negM_i, cmpM_i, eqM_i, eqM_s, neM_i, neM_s, absM_i, intM_i, intM_b, max2M_i, min2M_i, lenM_t, lenM_l, lenM_r, tupM_ap, lstM_ap, strM_s, truB_b, isBl_b, newM_ap, Nat.reduceLeDiff, seqL_l, seqT_t, isNM_n, isNM_i, wr_eLc, wr_eSl, wr_oN, wr_oI, intO_i, seqA_l, seqA_r, seqA_t, listM_t, listM_l, slM_t, slM_l, ws_sMatch, ws_mcNil, ws_mcAny, ws_mcVal, if_true, if_false, Bool.false_eq_true, Bool.not_true, Bool.not_false, Nat.reduceSub, Nat.reduceAdd, Nat.zero_add, eq_self, and_self, and_true, true_and, gN]
                simp only [hfL]
                rw [if_neg (fun h => z2 h.2.1)]
                rfl
            · have e1 : decide ((0 : Int) < n) = false := decide_eq_false (by omega)
              simp only [e1, Bool.false_eq_true, if_false, Bool.not_false]
              try simp only [wr_eVar, wr_eC, wr_e2, wr_e1, wr_eL, wr_eCall, wr_eCallK, wr_eLL, wr_eSeq, wr_lNil, wr_lCons, wr_bTru, wr_bOf, wr_bNot, wr_bAnd, wr_bOr, wr_isBl, wr_eAnd, wr_eOr, wr_eNot, wr_eIf, wr_e3c, wr_ok, wr_exc, ws_sNext, ws_sSeq, ws_sSet, ws_sDrop, ws_sRet, ws_sRetN, ws_sBrk, ws_sCnt, ws_sIf, ws_sAsg, ws_sPar, ws_sSub, ws_sForE, wr_callM, List.getElem?_cons_zero, List.getElem?_cons_succ, List.set_cons_zero, List.set_cons_succ, List.map_cons, List.map_nil, List.length_cons, List.length_nil, List.cons_append, List.nil_append, List.replicate, List.append_nil, addM_i, subM_i, negM_i, cmpM_i, eqM_i, eqM_s, neM_i, neM_s, absM_i, intM_i, intM_b, max2M_i, min2M_i, lenM_t, lenM_l, lenM_r, tupM_ap, lstM_ap, strM_s, truB_b, isBl_b, newM_ap, Nat.reduceLeDiff, seqL_l, seqT_t, isNM_n, isNM_i, wr_eLc, wr_eSl, wr_oN, wr_oI, intO_i, seqA_l, seqA_r, seqA_t, listM_t, listM_l, slM_t, slM_l, ws_sMatch, ws_mcNil, ws_mcAny, ws_mcVal, if_true, if_false, Bool.false_eq_true, Bool.not_true, Bool.not_false, Nat.reduceSub, Nat.reduceAdd, Nat.zero_add, eq_self, and_self, and_true, true_and, gN]
              simp only [hfL]
              rw [if_neg (fun h => z h.1)]
              rfl
      | cons r ps =>
        simp only [List.map_cons]
        try simp only [wr_eVar, wr_eC, wr_e2, wr_e1, wr_eL, wr_eCall, wr_eCallK, wr_eLL, wr_eSeq, wr_lNil, wr_lCons, wr_bTru, wr_bOf, wr_bNot, wr_bAnd, wr_bOr, wr_isBl, wr_eAnd, wr_eOr, wr_eNot, wr_eIf, wr_e3c, wr_ok, wr_exc, ws_sNext, ws_sSeq, ws_sSet, ws_sDrop, ws_sRet, ws_sRetN, ws_sBrk, ws_sCnt, ws_sIf, ws_sAsg, ws_sPar, ws_sSub, ws_sForE, wr_callM, List.getElem?_cons_zero, List.getElem?_cons_succ, List.set_cons_zero, List.set_cons_succ, List.map_cons, List.map_nil, List.length_cons, List.length_nil, List.cons_append, List.nil_append, List.replicate, List.append_nil, addM_i, subM_i, negM_i, cmpM_i, eqM_i, eqM_s, neM_i, neM_s, absM_i, intM_i, intM_b, max2M_i, min2M_i, lenM_t, lenM_l, lenM_r, tupM_ap, lstM_ap, strM_s, truB_b, isBl_b, newM_ap, Nat.reduceLeDiff, seqL_l, seqT_t, isNM_n, isNM_i, wr_eLc, wr_eSl, wr_oN, wr_oI, intO_i, seqA_l, seqA_r, seqA_t, listM_t, listM_l, slM_t, slM_l, ws_sMatch, ws_mcNil, ws_mcAny, ws_mcVal, if_true, if_false, Bool.false_eq_true, Bool.not_true, Bool.not_false, Nat.reduceSub, Nat.reduceAdd, Nat.zero_add, eq_self, and_self, and_true, true_and, gN]
        split
        · cases numO p <;> cases numO q <;> rfl
        · rename_i h
          exact absurd (by rw [decide_eq_false (by simp; omega)]; rfl) h
  · refine wr_eq.mp ?_
    try simp only [wr_eVar, wr_eC, wr_e2, wr_e1, wr_eL, wr_eCall, wr_eCallK, wr_eLL, wr_eSeq, wr_lNil, wr_lCons, wr_bTru, wr_bOf, wr_bNot, wr_bAnd, wr_bOr, wr_isBl, wr_eAnd, wr_eOr, wr_eNot, wr_eIf, wr_e3c, wr_ok, wr_exc, ws_sNext, ws_sSeq, ws_sSet, ws_sDrop, ws_sRet, ws_sRetN, ws_sBrk, ws_sCnt, ws_sIf, ws_sAsg, ws_sPar, ws_sSub, ws_sForE, wr_callM, List.getElem?_cons_zero, List.getElem?_cons_succ, List.set_cons_zero, List.set_cons_succ, List.map_cons, List.map_nil, List.length_cons, List.length_nil, List.cons_append, List.nil_append, List.replicate, List.append_nil, addM_i, subM_i, negM_i, cmpM_i, eqM_i, eqM_s, neM_i, neM_s, absM_i, intM_i, intM_b, max2M_i, min2M_i, lenM_t, lenM_l, lenM_r, tupM_ap, lstM_ap, strM_s, truB_b, isBl_b, newM_ap, Nat.reduceLeDiff, seqL_l, seqT_t, isNM_n, isNM_i, wr_eLc, wr_eSl, wr_oN, wr_oI, intO_i, seqA_l, seqA_r, seqA_t, listM_t, listM_l, slM_t, slM_l, ws_sMatch, ws_mcNil, ws_mcAny, ws_mcVal, if_true, if_false, Bool.false_eq_true, Bool.not_true, Bool.not_false, Nat.reduceSub, Nat.reduceAdd, Nat.zero_add, eq_self, and_self, and_true, true_and, gN]
    rw [number_v hp]
    try simp only [wr_eVar, wr_eC, wr_e2, wr_e1, wr_eL, wr_eCall, wr_eCallK, wr_eLL, wr_eSeq, wr_lNil, wr_lCons, wr_bTru, wr_bOf, wr_bNot, wr_bAnd, wr_bOr, wr_isBl, wr_eAnd, wr_eOr, wr_eNot, wr_eIf, wr_e3c, wr_ok, wr_exc, ws_sNext, ws_sSeq, ws_sSet, ws_sDrop, ws_sRet, ws_sRetN, ws_sBrk, ws_sCnt, ws_sIf, ws_sAsg, ws_sPar, ws_sSub, ws_sForE, wr_callM, List.getElem?_cons_zero, List.getElem?_cons_succ, List.set_cons_zero, List.set_cons_succ, List.map_cons, List.map_nil, List.length_cons, List.length_nil, List.cons_append, List.nil_append, List.replicate, List.append_nil, addM_i, subM_i, negM_i, cmpM_i, eqM_i, eqM_s, neM_i, neM_s, absM_i, intM_i, intM_b, max2M_i, min2M_i, lenM_t, lenM_l, lenM_r, tupM_ap, lstM_ap, strM_s, truB_b, isBl_b, newM_ap, Nat.reduceLeDiff, seqL_l, seqT_t, isNM_n, isNM_i, wr_eLc, wr_eSl, wr_oN, wr_oI, intO_i, seqA_l, seqA_r, seqA_t, listM_t, listM_l, slM_t, slM_l, ws_sMatch, ws_mcNil, ws_mcAny, ws_mcVal, if_true, if_false, Bool.false_eq_true, Bool.not_true, Bool.not_false, Nat.reduceSub, Nat.reduceAdd, Nat.zero_add, eq_self, and_self, and_true, true_and, gN]
end
end Zk05
namespace Zk05
open PySem PySem.Spec PyProof.Rows L2 SE SX
/-- the pixel that a text writes -/
def leI (x y : Int × Int) : Bool := decide (x.1 * y.2 ≤ y.1 * x.2)
def rpL : List (Option (Int × Int)) → Option ((Int × Int) × (Int × Int))
  | [some x, some y] => if leI x y = true then some (x, y) else none
  | _ => none
def rpO (a : List Nat) : Option ((Int × Int) × (Int × Int)) := rpL ((pcsC a).map hfO)
def rpD : Option ((Int × Int) × (Int × Int)) → D
  | some (x, y) => .tup [rD (some x), rD (some y)]
  | none => .non
theorem hf_rd {a : List Nat} {x : Int × Int} (h : hfO a = some x) : rdO a = some x := by
  rw [half_rd] at h
  cases q : rdO a with
  | none => rw [q] at h; cases h
  | some p =>
    rw [q] at h
    dsimp only at h
    split at h
    · exact h
    · cases h
theorem shr_rd (a : List Nat) : shr (rD (rdO a)) = (hfO a).isSome := by
  rw [half_rd]
  cases q : rdO a with
  | none => rfl
  | some p =>
    dsimp only
    cases h : shr (rD (some p)) with
    | true => rfl
    | false => rfl
section
variable {μ : Mem}
def hfD : D → D
  | .str x => rD (hfO x.cps.toList)
  | _ => .non
def rdD : D → D
  | .str x => rD (rdO x.cps.toList)
  | _ => .non
theorem zC : (":" : Str) = S [58] := by decide +kernel
theorem splC_S {a : List Nat} (h : a.length ≤ 100000) : splM (.str (S a)) (.str (S [58])) μ = .ok (.lst ((pcsC a).map fun p => .str (S p))) μ := by
  show (if (S [58]).length ≠ 0 ∧ (S a).length ≤ 1000000 then Res.ok (D.lst ((Txt.split (S a) (S [58])).map .str)) μ else .bad) = _
  rw [S_len, S_len, if_pos ⟨by simp, by omega⟩, split_S (by simp) (by decide), List.map_map]
  rfl
theorem pcsC_many {a : List Nat} : (pcsC a).length ≤ a.length + 1 := by
  obtain ⟨p, ps, e, _, _, h⟩ := pcsC_is a
  rw [e, ← h]
  clear e h
  have key : ∀ qs : List (List Nat), qs.length ≤ (TL.joinL [58] qs).length + 1 := by
    intro qs
    induction qs with
    | nil => simp
    | cons q qs ih =>
      cases qs with
      | nil => simp
      | cons r rs =>
        show _ ≤ (q ++ ([58] ++ TL.joinL [58] (r :: rs))).length + 1
        simp only [List.length_append, List.length_cons, List.length_nil] at ih ⊢
        omega
  exact key _
theorem words_lc {f : List Nat → D} {g : D → D} (hg : ∀ p, g (.str (S p)) = f p) {i : Nat} {me : Ev → M D} {ρ : Ev} {a : List Nat} (hw : a.length ≤ 75) (h : ∀ (p : List Nat) μ, p.length ≤ 75 → me ((ρ.set i none).set i (some (.str (S p)))) μ = .ok (f p) μ) : lcF i bYes me ρ ((pcsC a).map fun p => .str (S p)) [] μ = .ok (.lst ((pcsC a).map f)) μ := by
  have hm := pcsC_many (a := a)
  rw [lcF_map (g := g) (fun d hd μ => ?_) (by simp; omega), List.nil_append, List.map_map]
  · congr 2
    apply List.map_congr_left
    intro p _
    exact hg p
  · obtain ⟨p, hp, rfl⟩ := List.mem_map.mp hd
    have := pcsC_le hp
    rw [h p μ (by omega), hg]
theorem none_rd {os : List (Option (Int × Int))} : inM .non (.lst (os.map rD)) μ = .ok (.bl (os.any Option.isNone)) μ := by
  have p : ∀ l : List (Option (Int × Int)), isPL (l.map rD) = true ∧ ((dPL (l.map rD)).any fun z => PyData.eqv z .none) = l.any Option.isNone := by
    intro l
    induction l with
    | nil => exact ⟨rfl, rfl⟩
    | cons o l ih =>
      cases o with
      | none => exact ⟨ih.1, by rw [List.map_cons]; show (PyData.eqv .none .none || _) = _; rw [List.any_cons]; rfl⟩
      | some x => exact ⟨ih.1, by rw [List.map_cons]; show (PyData.eqv (.tuple [.int x.1, .int x.2]) .none || (dPL (l.map rD)).any _) = _; rw [ih.2, List.any_cons]; rfl⟩
  have e : seqIn .non (os.map rD) = some (os.any Option.isNone) := by
    unfold seqIn
    rw [if_pos (by rw [(p os).1]; rfl)]
    exact congrArg some (p os).2
  show (match seqIn .non (os.map rD) with | some k => Res.ok (D.bl k) μ | none => .bad) = _
  rw [e]
theorem hf_lt {a : List Nat} (ha : a.length ≤ 75) {x : Int × Int} (h : hfO a = some x) : x.1.natAbs < 10 ^ 75 ∧ x.2.natAbs < 10 ^ 75 := rd_lt5 ha (t := x.1) (b := x.2) (hf_rd h)
theorem reading_v {a : List Nat} (ha : a.length ≤ 75) : m__law_reading [.str (S a)] μ = .ok (rpD (rpO a)) μ := by
  refine wr_eq.mp ?_
  unfold m__law_reading b__law_reading
  try simp only [wr_eVar, wr_eC, wr_e2, wr_e1, wr_eL, wr_eCall, wr_eCallK, wr_eLL, wr_eSeq, wr_lNil, wr_lCons, wr_bTru, wr_bOf, wr_bNot, wr_bAnd, wr_bOr, wr_isBl, wr_eAnd, wr_eOr, wr_eNot, wr_eIf, wr_e3c, wr_ok, wr_exc, ws_sNext, ws_sSeq, ws_sSet, ws_sDrop, ws_sRet, ws_sRetN, ws_sBrk, ws_sCnt, ws_sIf, ws_sAsg, ws_sPar, ws_sSub, ws_sForE, wr_callM, List.getElem?_cons_zero, List.getElem?_cons_succ, List.set_cons_zero, List.set_cons_succ, List.map_cons, List.map_nil, List.length_cons, List.length_nil, List.cons_append, List.nil_append, List.replicate, List.append_nil, addM_i, subM_i, negM_i, cmpM_i, eqM_i, eqM_s, neM_i, neM_s, absM_i, intM_i, intM_b, max2M_i, min2M_i, lenM_t, lenM_l, lenM_r, tupM_ap, lstM_ap, strM_s, truB_b, isBl_b, newM_ap, Nat.reduceLeDiff, seqL_l, seqT_t, isNM_n, isNM_i, wr_eLc, wr_eSl, wr_oN, wr_oI, intO_i, seqA_l, seqA_r, seqA_t, listM_t, listM_l, slM_t, slM_l, ws_sMatch, ws_mcNil, ws_mcAny, ws_mcVal, if_true, if_false, Bool.false_eq_true, Bool.not_true, Bool.not_false, Nat.reduceSub, Nat.reduceAdd, Nat.zero_add, eq_self, and_self, and_true, true_and, gN]
  simp only [wr_eM1]
  try simp only [wr_eVar, wr_eC, wr_e2, wr_e1, wr_eL, wr_eCall, wr_eCallK, wr_eLL, wr_eSeq, wr_lNil, wr_lCons, wr_bTru, wr_bOf, wr_bNot, wr_bAnd, wr_bOr, wr_isBl, wr_eAnd, wr_eOr, wr_eNot, wr_eIf, wr_e3c, wr_ok, wr_exc, ws_sNext, ws_sSeq, ws_sSet, ws_sDrop, ws_sRet, ws_sRetN, ws_sBrk, ws_sCnt, ws_sIf, ws_sAsg, ws_sPar, ws_sSub, ws_sForE, wr_callM, List.getElem?_cons_zero, List.getElem?_cons_succ, List.set_cons_zero, List.set_cons_succ, List.map_cons, List.map_nil, List.length_cons, List.length_nil, List.cons_append, List.nil_append, List.replicate, List.append_nil, addM_i, subM_i, negM_i, cmpM_i, eqM_i, eqM_s, neM_i, neM_s, absM_i, intM_i, intM_b, max2M_i, min2M_i, lenM_t, lenM_l, lenM_r, tupM_ap, lstM_ap, strM_s, truB_b, isBl_b, newM_ap, Nat.reduceLeDiff, seqL_l, seqT_t, isNM_n, isNM_i, wr_eLc, wr_eSl, wr_oN, wr_oI, intO_i, seqA_l, seqA_r, seqA_t, listM_t, listM_l, slM_t, slM_l, ws_sMatch, ws_mcNil, ws_mcAny, ws_mcVal, if_true, if_false, Bool.false_eq_true, Bool.not_true, Bool.not_false, Nat.reduceSub, Nat.reduceAdd, Nat.zero_add, eq_self, and_self, and_true, true_and, gN]
  simp only [isSt_s, if_true]
  rw [zC, splC_S (by omega)]
  try simp only [wr_eVar, wr_eC, wr_e2, wr_e1, wr_eL, wr_eCall, wr_eCallK, wr_eLL, wr_eSeq, wr_lNil, wr_lCons, wr_bTru, wr_bOf, wr_bNot, wr_bAnd, wr_bOr, wr_isBl, wr_eAnd, wr_eOr, wr_eNot, wr_eIf, wr_e3c, wr_ok, wr_exc, ws_sNext, ws_sSeq, ws_sSet, ws_sDrop, ws_sRet, ws_sRetN, ws_sBrk, ws_sCnt, ws_sIf, ws_sAsg, ws_sPar, ws_sSub, ws_sForE, wr_callM, List.getElem?_cons_zero, List.getElem?_cons_succ, List.set_cons_zero, List.set_cons_succ, List.map_cons, List.map_nil, List.length_cons, List.length_nil, List.cons_append, List.nil_append, List.replicate, List.append_nil, addM_i, subM_i, negM_i, cmpM_i, eqM_i, eqM_s, neM_i, neM_s, absM_i, intM_i, intM_b, max2M_i, min2M_i, lenM_t, lenM_l, lenM_r, tupM_ap, lstM_ap, strM_s, truB_b, isBl_b, newM_ap, Nat.reduceLeDiff, seqL_l, seqT_t, isNM_n, isNM_i, wr_eLc, wr_eSl, wr_oN, wr_oI, intO_i, seqA_l, seqA_r, seqA_t, listM_t, listM_l, slM_t, slM_l, ws_sMatch, ws_mcNil, ws_mcAny, ws_mcVal, if_true, if_false, Bool.false_eq_true, Bool.not_true, Bool.not_false, Nat.reduceSub, Nat.reduceAdd, Nat.zero_add, eq_self, and_self, and_true, true_and, gN]
  rw [words_lc (f := fun p => rD (hfO p)) (g := hfD) (fun p => by simp [hfD]) ha fun p μ hp => ?_]
  · try simp only [wr_eVar, wr_eC, wr_e2, wr_e1, wr_eL, wr_eCall, wr_eCallK, wr_eLL, wr_eSeq, wr_lNil, wr_lCons, wr_bTru, wr_bOf, wr_bNot, wr_bAnd, wr_bOr, wr_isBl, wr_eAnd, wr_eOr, wr_eNot, wr_eIf, wr_e3c, wr_ok, wr_exc, ws_sNext, ws_sSeq, ws_sSet, ws_sDrop, ws_sRet, ws_sRetN, ws_sBrk, ws_sCnt, ws_sIf, ws_sAsg, ws_sPar, ws_sSub, ws_sForE, wr_callM, List.getElem?_cons_zero, List.getElem?_cons_succ, List.set_cons_zero, List.set_cons_succ, List.map_cons, List.map_nil, List.length_cons, List.length_nil, List.cons_append, List.nil_append, List.replicate, List.append_nil, addM_i, subM_i, negM_i, cmpM_i, eqM_i, eqM_s, neM_i, neM_s, absM_i, intM_i, intM_b, max2M_i, min2M_i, lenM_t, lenM_l, lenM_r, tupM_ap, lstM_ap, strM_s, truB_b, isBl_b, newM_ap, Nat.reduceLeDiff, seqL_l, seqT_t, isNM_n, isNM_i, wr_eLc, wr_eSl, wr_oN, wr_oI, intO_i, seqA_l, seqA_r, seqA_t, listM_t, listM_l, slM_t, slM_l, ws_sMatch, ws_mcNil, ws_mcAny, ws_mcVal, if_true, if_false, Bool.false_eq_true, Bool.not_true, Bool.not_false, Nat.reduceSub, Nat.reduceAdd, Nat.zero_add, eq_self, and_self, and_true, true_and, gN]
    rw [show (pcsC a).map (fun p => rD (hfO p)) = ((pcsC a).map hfO).map rD by rw [List.map_map]; rfl]
    unfold t__law_reading_1
    try simp only [wr_eVar, wr_eC, wr_e2, wr_e1, wr_eL, wr_eCall, wr_eCallK, wr_eLL, wr_eSeq, wr_lNil, wr_lCons, wr_bTru, wr_bOf, wr_bNot, wr_bAnd, wr_bOr, wr_isBl, wr_eAnd, wr_eOr, wr_eNot, wr_eIf, wr_e3c, wr_ok, wr_exc, ws_sNext, ws_sSeq, ws_sSet, ws_sDrop, ws_sRet, ws_sRetN, ws_sBrk, ws_sCnt, ws_sIf, ws_sAsg, ws_sPar, ws_sSub, ws_sForE, wr_callM, List.getElem?_cons_zero, List.getElem?_cons_succ, List.set_cons_zero, List.set_cons_succ, List.map_cons, List.map_nil, List.length_cons, List.length_nil, List.cons_append, List.nil_append, List.replicate, List.append_nil, addM_i, subM_i, negM_i, cmpM_i, eqM_i, eqM_s, neM_i, neM_s, absM_i, intM_i, intM_b, max2M_i, min2M_i, lenM_t, lenM_l, lenM_r, tupM_ap, lstM_ap, strM_s, truB_b, isBl_b, newM_ap, Nat.reduceLeDiff, seqL_l, seqT_t, isNM_n, isNM_i, wr_eLc, wr_eSl, wr_oN, wr_oI, intO_i, seqA_l, seqA_r, seqA_t, listM_t, listM_l, slM_t, slM_l, ws_sMatch, ws_mcNil, ws_mcAny, ws_mcVal, if_true, if_false, Bool.false_eq_true, Bool.not_true, Bool.not_false, Nat.reduceSub, Nat.reduceAdd, Nat.zero_add, eq_self, and_self, and_true, true_and, gN]
    simp only [none_rd, wr_ok]
    try simp only [wr_eVar, wr_eC, wr_e2, wr_e1, wr_eL, wr_eCall, wr_eCallK, wr_eLL, wr_eSeq, wr_lNil, wr_lCons, wr_bTru, wr_bOf, wr_bNot, wr_bAnd, wr_bOr, wr_isBl, wr_eAnd, wr_eOr, wr_eNot, wr_eIf, wr_e3c, wr_ok, wr_exc, ws_sNext, ws_sSeq, ws_sSet, ws_sDrop, ws_sRet, ws_sRetN, ws_sBrk, ws_sCnt, ws_sIf, ws_sAsg, ws_sPar, ws_sSub, ws_sForE, wr_callM, List.getElem?_cons_zero, List.getElem?_cons_succ, List.set_cons_zero, List.set_cons_succ, List.map_cons, List.map_nil, List.length_cons, List.length_nil, List.cons_append, List.nil_append, List.replicate, List.append_nil, addM_i, subM_i, negM_i, cmpM_i, eqM_i, eqM_s, neM_i, neM_s, absM_i, intM_i, intM_b, max2M_i, min2M_i, lenM_t, lenM_l, lenM_r, tupM_ap, lstM_ap, strM_s, truB_b, isBl_b, newM_ap, Nat.reduceLeDiff, seqL_l, seqT_t, isNM_n, isNM_i, wr_eLc, wr_eSl, wr_oN, wr_oI, intO_i, seqA_l, seqA_r, seqA_t, listM_t, listM_l, slM_t, slM_l, ws_sMatch, ws_mcNil, ws_mcAny, ws_mcVal, if_true, if_false, Bool.false_eq_true, Bool.not_true, Bool.not_false, Nat.reduceSub, Nat.reduceAdd, Nat.zero_add, eq_self, and_self, and_true, true_and, gN]
    unfold rpO
    obtain ⟨p, ps, e, f1, f2, f3⟩ := pcsC_is a
    have kb : ∀ q ∈ pcsC a, q.length ≤ 75 := fun q hq => by have := pcsC_le hq; omega
    rw [e] at kb ⊢
    cases ps with
    | nil =>
      simp only [List.map_cons, List.map_nil, List.length_cons, List.length_nil]
      simp only [show (!decide (((0 + 1 : Nat) : Int) = 2)) = true from by decide]
      try simp only [wr_eVar, wr_eC, wr_e2, wr_e1, wr_eL, wr_eCall, wr_eCallK, wr_eLL, wr_eSeq, wr_lNil, wr_lCons, wr_bTru, wr_bOf, wr_bNot, wr_bAnd, wr_bOr, wr_isBl, wr_eAnd, wr_eOr, wr_eNot, wr_eIf, wr_e3c, wr_ok, wr_exc, ws_sNext, ws_sSeq, ws_sSet, ws_sDrop, ws_sRet, ws_sRetN, ws_sBrk, ws_sCnt, ws_sIf, ws_sAsg, ws_sPar, ws_sSub, ws_sForE, wr_callM, List.getElem?_cons_zero, List.getElem?_cons_succ, List.set_cons_zero, List.set_cons_succ, List.map_cons, List.map_nil, List.length_cons, List.length_nil, List.cons_append, List.nil_append, List.replicate, List.append_nil, addM_i, subM_i, negM_i, cmpM_i, eqM_i, eqM_s, neM_i, neM_s, absM_i, intM_i, intM_b, max2M_i, min2M_i, lenM_t, lenM_l, lenM_r, tupM_ap, lstM_ap, strM_s, truB_b, isBl_b, newM_ap, Nat.reduceLeDiff, seqL_l, seqT_t, isNM_n, isNM_i, wr_eLc, wr_eSl, wr_oN, wr_oI, intO_i, seqA_l, seqA_r, seqA_t, listM_t, listM_l, slM_t, slM_l, ws_sMatch, ws_mcNil, ws_mcAny, ws_mcVal, if_true, if_false, Bool.false_eq_true, Bool.not_true, Bool.not_false, Nat.reduceSub, Nat.reduceAdd, Nat.zero_add, eq_self, and_self, and_true, true_and, gN]
      cases hfO p <;> rfl
    | cons q ps =>
      cases ps with
      | nil =>
        simp only [List.map_cons, List.map_nil, List.length_cons, List.length_nil, List.any_cons, List.any_nil, Bool.or_false]
        simp only [show (!decide (((0 + 1 + 1 : Nat) : Int) = 2)) = false from by decide]
        try simp only [wr_eVar, wr_eC, wr_e2, wr_e1, wr_eL, wr_eCall, wr_eCallK, wr_eLL, wr_eSeq, wr_lNil, wr_lCons, wr_bTru, wr_bOf, wr_bNot, wr_bAnd, wr_bOr, wr_isBl, wr_eAnd, wr_eOr, wr_eNot, wr_eIf, wr_e3c, wr_ok, wr_exc, ws_sNext, ws_sSeq, ws_sSet, ws_sDrop, ws_sRet, ws_sRetN, ws_sBrk, ws_sCnt, ws_sIf, ws_sAsg, ws_sPar, ws_sSub, ws_sForE, wr_callM, List.getElem?_cons_zero, List.getElem?_cons_succ, List.set_cons_zero, List.set_cons_succ, List.map_cons, List.map_nil, List.length_cons, List.length_nil, List.cons_append, List.nil_append, List.replicate, List.append_nil, addM_i, subM_i, negM_i, cmpM_i, eqM_i, eqM_s, neM_i, neM_s, absM_i, intM_i, intM_b, max2M_i, min2M_i, lenM_t, lenM_l, lenM_r, tupM_ap, lstM_ap, strM_s, truB_b, isBl_b, newM_ap, Nat.reduceLeDiff, seqL_l, seqT_t, isNM_n, isNM_i, wr_eLc, wr_eSl, wr_oN, wr_oI, intO_i, seqA_l, seqA_r, seqA_t, listM_t, listM_l, slM_t, slM_l, ws_sMatch, ws_mcNil, ws_mcAny, ws_mcVal, if_true, if_false, Bool.false_eq_true, Bool.not_true, Bool.not_false, Nat.reduceSub, Nat.reduceAdd, Nat.zero_add, eq_self, and_self, and_true, true_and, gN]
        cases hx : hfO p with
        | none =>
          simp only [Option.isNone, Bool.true_or]
          try simp only [wr_eVar, wr_eC, wr_e2, wr_e1, wr_eL, wr_eCall, wr_eCallK, wr_eLL, wr_eSeq, wr_lNil, wr_lCons, wr_bTru, wr_bOf, wr_bNot, wr_bAnd, wr_bOr, wr_isBl, wr_eAnd, wr_eOr, wr_eNot, wr_eIf, wr_e3c, wr_ok, wr_exc, ws_sNext, ws_sSeq, ws_sSet, ws_sDrop, ws_sRet, ws_sRetN, ws_sBrk, ws_sCnt, ws_sIf, ws_sAsg, ws_sPar, ws_sSub, ws_sForE, wr_callM, List.getElem?_cons_zero, List.getElem?_cons_succ, List.set_cons_zero, List.set_cons_succ, List.map_cons, List.map_nil, List.length_cons, List.length_nil, List.cons_append, List.nil_append, List.replicate, List.append_nil, addM_i, subM_i, negM_i, cmpM_i, eqM_i, eqM_s, neM_i, neM_s, absM_i, intM_i, intM_b, max2M_i, min2M_i, lenM_t, lenM_l, lenM_r, tupM_ap, lstM_ap, strM_s, truB_b, isBl_b, newM_ap, Nat.reduceLeDiff, seqL_l, seqT_t, isNM_n, isNM_i, wr_eLc, wr_eSl, wr_oN, wr_oI, intO_i, seqA_l, seqA_r, seqA_t, listM_t, listM_l, slM_t, slM_l, ws_sMatch, ws_mcNil, ws_mcAny, ws_mcVal, if_true, if_false, Bool.false_eq_true, Bool.not_true, Bool.not_false, Nat.reduceSub, Nat.reduceAdd, Nat.zero_add, eq_self, and_self, and_true, true_and, gN]
          cases hfO q <;> rfl
        | some x =>
          cases hy : hfO q with
          | none =>
            simp only [Option.isNone, Bool.or_true]
            try simp only [wr_eVar, wr_eC, wr_e2, wr_e1, wr_eL, wr_eCall, wr_eCallK, wr_eLL, wr_eSeq, wr_lNil, wr_lCons, wr_bTru, wr_bOf, wr_bNot, wr_bAnd, wr_bOr, wr_isBl, wr_eAnd, wr_eOr, wr_eNot, wr_eIf, wr_e3c, wr_ok, wr_exc, ws_sNext, ws_sSeq, ws_sSet, ws_sDrop, ws_sRet, ws_sRetN, ws_sBrk, ws_sCnt, ws_sIf, ws_sAsg, ws_sPar, ws_sSub, ws_sForE, wr_callM, List.getElem?_cons_zero, List.getElem?_cons_succ, List.set_cons_zero, List.set_cons_succ, List.map_cons, List.map_nil, List.length_cons, List.length_nil, List.cons_append, List.nil_append, List.replicate, List.append_nil, addM_i, subM_i, negM_i, cmpM_i, eqM_i, eqM_s, neM_i, neM_s, absM_i, intM_i, intM_b, max2M_i, min2M_i, lenM_t, lenM_l, lenM_r, tupM_ap, lstM_ap, strM_s, truB_b, isBl_b, newM_ap, Nat.reduceLeDiff, seqL_l, seqT_t, isNM_n, isNM_i, wr_eLc, wr_eSl, wr_oN, wr_oI, intO_i, seqA_l, seqA_r, seqA_t, listM_t, listM_l, slM_t, slM_l, ws_sMatch, ws_mcNil, ws_mcAny, ws_mcVal, if_true, if_false, Bool.false_eq_true, Bool.not_true, Bool.not_false, Nat.reduceSub, Nat.reduceAdd, Nat.zero_add, eq_self, and_self, and_true, true_and, gN]
            rfl
          | some y =>
            obtain ⟨x1, x2⟩ := x
            obtain ⟨y1, y2⟩ := y
            have bx := hf_lt (kb p (by simp)) hx
            have bY := hf_lt (kb q (by simp)) hy
            have m1 := mul_b bx.1 bY.2
            have m2 := mul_b bY.1 bx.2
            simp only [Option.isNone, Bool.or_false, lix0, lix1, wr_ok, rD, ix0, ix1]
            try simp only [wr_eVar, wr_eC, wr_e2, wr_e1, wr_eL, wr_eCall, wr_eCallK, wr_eLL, wr_eSeq, wr_lNil, wr_lCons, wr_bTru, wr_bOf, wr_bNot, wr_bAnd, wr_bOr, wr_isBl, wr_eAnd, wr_eOr, wr_eNot, wr_eIf, wr_e3c, wr_ok, wr_exc, ws_sNext, ws_sSeq, ws_sSet, ws_sDrop, ws_sRet, ws_sRetN, ws_sBrk, ws_sCnt, ws_sIf, ws_sAsg, ws_sPar, ws_sSub, ws_sForE, wr_callM, List.getElem?_cons_zero, List.getElem?_cons_succ, List.set_cons_zero, List.set_cons_succ, List.map_cons, List.map_nil, List.length_cons, List.length_nil, List.cons_append, List.nil_append, List.replicate, List.append_nil, addM_i, subM_i, negM_i, cmpM_i, eqM_i, eqM_s, neM_i, neM_s, absM_i, intM_i, intM_b, max2M_i, min2M_i, lenM_t, lenM_l, lenM_r, tupM_ap, lstM_ap, strM_s, truB_b, isBl_b, newM_ap, Nat.reduceLeDiff, seqL_l, seqT_t, isNM_n, isNM_i, wr_eLc, wr_eSl, wr_oN, wr_oI, intO_i, seqA_l, seqA_r, seqA_t, listM_t, listM_l, slM_t, slM_l, ws_sMatch, ws_mcNil, ws_mcAny, ws_mcVal, if_true, if_false, Bool.false_eq_true, Bool.not_true, Bool.not_false, Nat.reduceSub, Nat.reduceAdd, Nat.zero_add, eq_self, and_self, and_true, true_and, gN]
            simp only [mulM_i m1, mulM_i m2, wr_ok]
            try simp only [wr_eVar, wr_eC, wr_e2, wr_e1, wr_eL, wr_eCall, wr_eCallK, wr_eLL, wr_eSeq, wr_lNil, wr_lCons, wr_bTru, wr_bOf, wr_bNot, wr_bAnd, wr_bOr, wr_isBl, wr_eAnd, wr_eOr, wr_eNot, wr_eIf, wr_e3c, wr_ok, wr_exc, ws_sNext, ws_sSeq, ws_sSet, ws_sDrop, ws_sRet, ws_sRetN, ws_sBrk, ws_sCnt, ws_sIf, ws_sAsg, ws_sPar, ws_sSub, ws_sForE, wr_callM, List.getElem?_cons_zero, List.getElem?_cons_succ, List.set_cons_zero, List.set_cons_succ, List.map_cons, List.map_nil, List.length_cons, List.length_nil, List.cons_append, List.nil_append, List.replicate, List.append_nil, addM_i, subM_i, negM_i, cmpM_i, eqM_i, eqM_s, neM_i, neM_s, absM_i, intM_i, intM_b, max2M_i, min2M_i, lenM_t, lenM_l, lenM_r, tupM_ap, lstM_ap, strM_s, truB_b, isBl_b, newM_ap, Nat.reduceLeDiff, seqL_l, seqT_t, isNM_n, isNM_i, wr_eLc, wr_eSl, wr_oN, wr_oI, intO_i, seqA_l, seqA_r, seqA_t, listM_t, listM_l, slM_t, slM_l, ws_sMatch, ws_mcNil, ws_mcAny, ws_mcVal, if_true, if_false, Bool.false_eq_true, Bool.not_true, Bool.not_false, Nat.reduceSub, Nat.reduceAdd, Nat.zero_add, eq_self, and_self, and_true, true_and, gN]
            unfold t__law_reading_0
            try simp only [wr_eVar, wr_eC, wr_e2, wr_e1, wr_eL, wr_eCall, wr_eCallK, wr_eLL, wr_eSeq, wr_lNil, wr_lCons, wr_bTru, wr_bOf, wr_bNot, wr_bAnd, wr_bOr, wr_isBl, wr_eAnd, wr_eOr, wr_eNot, wr_eIf, wr_e3c, wr_ok, wr_exc, ws_sNext, ws_sSeq, ws_sSet, ws_sDrop, ws_sRet, ws_sRetN, ws_sBrk, ws_sCnt, ws_sIf, ws_sAsg, ws_sPar, ws_sSub, ws_sForE, wr_callM, List.getElem?_cons_zero, List.getElem?_cons_succ, List.set_cons_zero, List.set_cons_succ, List.map_cons, List.map_nil, List.length_cons, List.length_nil, List.cons_append, List.nil_append, List.replicate, List.append_nil, addM_i, subM_i, negM_i, cmpM_i, eqM_i, eqM_s, neM_i, neM_s, absM_i, intM_i, intM_b, max2M_i, min2M_i, lenM_t, lenM_l, lenM_r, tupM_ap, lstM_ap, strM_s, truB_b, isBl_b, newM_ap, Nat.reduceLeDiff, seqL_l, seqT_t, isNM_n, isNM_i, wr_eLc, wr_eSl, wr_oN, wr_oI, intO_i, seqA_l, seqA_r, seqA_t, listM_t, listM_l, slM_t, slM_l, ws_sMatch, ws_mcNil, ws_mcAny, ws_mcVal, if_true, if_false, Bool.false_eq_true, Bool.not_true, Bool.not_false, Nat.reduceSub, Nat.reduceAdd, Nat.zero_add, eq_self, and_self, and_true, true_and, gN]
            simp only [lix0, lix1, wr_ok]
            try simp only [wr_eVar, wr_eC, wr_e2, wr_e1, wr_eL, wr_eCall, wr_eCallK, wr_eLL, wr_eSeq, wr_lNil, wr_lCons, wr_bTru, wr_bOf, wr_bNot, wr_bAnd, wr_bOr, wr_isBl, wr_eAnd, wr_eOr, wr_eNot, wr_eIf, wr_e3c, wr_ok, wr_exc, ws_sNext, ws_sSeq, ws_sSet, ws_sDrop, ws_sRet, ws_sRetN, ws_sBrk, ws_sCnt, ws_sIf, ws_sAsg, ws_sPar, ws_sSub, ws_sForE, wr_callM, List.getElem?_cons_zero, List.getElem?_cons_succ, List.set_cons_zero, List.set_cons_succ, List.map_cons, List.map_nil, List.length_cons, List.length_nil, List.cons_append, List.nil_append, List.replicate, List.append_nil, addM_i, subM_i, negM_i, cmpM_i, eqM_i, eqM_s, neM_i, neM_s, absM_i, intM_i, intM_b, max2M_i, min2M_i, lenM_t, lenM_l, lenM_r, tupM_ap, lstM_ap, strM_s, truB_b, isBl_b, newM_ap, Nat.reduceLeDiff, seqL_l, seqT_t, isNM_n, isNM_i, wr_eLc, wr_eSl, wr_oN, wr_oI, intO_i, seqA_l, seqA_r, seqA_t, listM_t, listM_l, slM_t, slM_l, ws_sMatch, ws_mcNil, ws_mcAny, ws_mcVal, if_true, if_false, Bool.false_eq_true, Bool.not_true, Bool.not_false, Nat.reduceSub, Nat.reduceAdd, Nat.zero_add, eq_self, and_self, and_true, true_and, gN]
            simp only [rpL, leI]
            by_cases z : x1 * y2 ≤ y1 * x2
            · have z2 : ¬ (y1 * x2 < x1 * y2) := by omega
              simp [z, z2, rpD, rD]
            · have z2 : y1 * x2 < x1 * y2 := by omega
              simp [z, z2, rpD]
      | cons r ps =>
        split
        · simp only [List.map_cons]
          cases hfO p <;> cases hfO q <;> rfl
        · rename_i h
          exact absurd (by rw [decide_eq_false (by simp; omega)]; rfl) h
  · refine wr_eq.mp ?_
    try simp only [wr_eVar, wr_eC, wr_e2, wr_e1, wr_eL, wr_eCall, wr_eCallK, wr_eLL, wr_eSeq, wr_lNil, wr_lCons, wr_bTru, wr_bOf, wr_bNot, wr_bAnd, wr_bOr, wr_isBl, wr_eAnd, wr_eOr, wr_eNot, wr_eIf, wr_e3c, wr_ok, wr_exc, ws_sNext, ws_sSeq, ws_sSet, ws_sDrop, ws_sRet, ws_sRetN, ws_sBrk, ws_sCnt, ws_sIf, ws_sAsg, ws_sPar, ws_sSub, ws_sForE, wr_callM, List.getElem?_cons_zero, List.getElem?_cons_succ, List.set_cons_zero, List.set_cons_succ, List.map_cons, List.map_nil, List.length_cons, List.length_nil, List.cons_append, List.nil_append, List.replicate, List.append_nil, addM_i, subM_i, negM_i, cmpM_i, eqM_i, eqM_s, neM_i, neM_s, absM_i, intM_i, intM_b, max2M_i, min2M_i, lenM_t, lenM_l, lenM_r, tupM_ap, lstM_ap, strM_s, truB_b, isBl_b, newM_ap, Nat.reduceLeDiff, seqL_l, seqT_t, isNM_n, isNM_i, wr_eLc, wr_eSl, wr_oN, wr_oI, intO_i, seqA_l, seqA_r, seqA_t, listM_t, listM_l, slM_t, slM_l, ws_sMatch, ws_mcNil, ws_mcAny, ws_mcVal, if_true, if_false, Bool.false_eq_true, Bool.not_true, Bool.not_false, Nat.reduceSub, Nat.reduceAdd, Nat.zero_add, eq_self, and_self, and_true, true_and, gN]
    rw [half_v hp]
    try simp only [wr_eVar, wr_eC, wr_e2, wr_e1, wr_eL, wr_eCall, wr_eCallK, wr_eLL, wr_eSeq, wr_lNil, wr_lCons, wr_bTru, wr_bOf, wr_bNot, wr_bAnd, wr_bOr, wr_isBl, wr_eAnd, wr_eOr, wr_eNot, wr_eIf, wr_e3c, wr_ok, wr_exc, ws_sNext, ws_sSeq, ws_sSet, ws_sDrop, ws_sRet, ws_sRetN, ws_sBrk, ws_sCnt, ws_sIf, ws_sAsg, ws_sPar, ws_sSub, ws_sForE, wr_callM, List.getElem?_cons_zero, List.getElem?_cons_succ, List.set_cons_zero, List.set_cons_succ, List.map_cons, List.map_nil, List.length_cons, List.length_nil, List.cons_append, List.nil_append, List.replicate, List.append_nil, addM_i, subM_i, negM_i, cmpM_i, eqM_i, eqM_s, neM_i, neM_s, absM_i, intM_i, intM_b, max2M_i, min2M_i, lenM_t, lenM_l, lenM_r, tupM_ap, lstM_ap, strM_s, truB_b, isBl_b, newM_ap, Nat.reduceLeDiff, seqL_l, seqT_t, isNM_n, isNM_i, wr_eLc, wr_eSl, wr_oN, wr_oI, intO_i, seqA_l, seqA_r, seqA_t, listM_t, listM_l, slM_t, slM_l, ws_sMatch, ws_mcNil, ws_mcAny, ws_mcVal, if_true, if_false, Bool.false_eq_true, Bool.not_true, Bool.not_false, Nat.reduceSub, Nat.reduceAdd, Nat.zero_add, eq_self, and_self, and_true, true_and, gN]
theorem sm5_rd {a : List Nat} (ha : a.length ≤ 75) : sm5 (rD (rdO a)) = true := by
  cases q : rdO a with
  | none => rfl
  | some p =>
    obtain ⟨t, b⟩ := p
    obtain ⟨h1, h2⟩ := rd_lt5 ha q
    show (decide (t.natAbs < 10 ^ 75) && (decide (b.natAbs < 10 ^ 75) && true)) = true
    rw [decide_eq_true h1, decide_eq_true h2]
    rfl
theorem sm5_all {xs : List D} (h : ∀ x ∈ xs, sm5 x = true) : sm5 (.tup xs) = true := by
  show sm5L xs = true
  induction xs with
  | nil => rfl
  | cons x xs ih =>
    show (sm5 x && sm5L xs) = true
    rw [h x List.mem_cons_self, ih fun y hy => h y (List.mem_cons_of_mem _ hy)]
    rfl
theorem pixel_in_v {a : List Nat} (ha : a.length ≤ 75) : m_pixel_in [.str (S a)] μ = .ok (rpD (rpO a)) μ := by
  refine wr_eq.mp ?_
  unfold m_pixel_in b_pixel_in
  try simp only [wr_eVar, wr_eC, wr_e2, wr_e1, wr_eL, wr_eCall, wr_eCallK, wr_eLL, wr_eSeq, wr_lNil, wr_lCons, wr_bTru, wr_bOf, wr_bNot, wr_bAnd, wr_bOr, wr_isBl, wr_eAnd, wr_eOr, wr_eNot, wr_eIf, wr_e3c, wr_ok, wr_exc, ws_sNext, ws_sSeq, ws_sSet, ws_sDrop, ws_sRet, ws_sRetN, ws_sBrk, ws_sCnt, ws_sIf, ws_sAsg, ws_sPar, ws_sSub, ws_sForE, wr_callM, List.getElem?_cons_zero, List.getElem?_cons_succ, List.set_cons_zero, List.set_cons_succ, List.map_cons, List.map_nil, List.length_cons, List.length_nil, List.cons_append, List.nil_append, List.replicate, List.append_nil, addM_i, subM_i, negM_i, cmpM_i, eqM_i, eqM_s, neM_i, neM_s, absM_i, intM_i, intM_b, max2M_i, min2M_i, lenM_t, lenM_l, lenM_r, tupM_ap, lstM_ap, strM_s, truB_b, isBl_b, newM_ap, Nat.reduceLeDiff, seqL_l, seqT_t, isNM_n, isNM_i, wr_eLc, wr_eSl, wr_oN, wr_oI, intO_i, seqA_l, seqA_r, seqA_t, listM_t, listM_l, slM_t, slM_l, ws_sMatch, ws_mcNil, ws_mcAny, ws_mcVal, if_true, if_false, Bool.false_eq_true, Bool.not_true, Bool.not_false, Nat.reduceSub, Nat.reduceAdd, Nat.zero_add, eq_self, and_self, and_true, true_and, gN]
  simp only [wr_eM1]
  try simp only [wr_eVar, wr_eC, wr_e2, wr_e1, wr_eL, wr_eCall, wr_eCallK, wr_eLL, wr_eSeq, wr_lNil, wr_lCons, wr_bTru, wr_bOf, wr_bNot, wr_bAnd, wr_bOr, wr_isBl, wr_eAnd, wr_eOr, wr_eNot, wr_eIf, wr_e3c, wr_ok, wr_exc, ws_sNext, ws_sSeq, ws_sSet, ws_sDrop, ws_sRet, ws_sRetN, ws_sBrk, ws_sCnt, ws_sIf, ws_sAsg, ws_sPar, ws_sSub, ws_sForE, wr_callM, List.getElem?_cons_zero, List.getElem?_cons_succ, List.set_cons_zero, List.set_cons_succ, List.map_cons, List.map_nil, List.length_cons, List.length_nil, List.cons_append, List.nil_append, List.replicate, List.append_nil, addM_i, subM_i, negM_i, cmpM_i, eqM_i, eqM_s, neM_i, neM_s, absM_i, intM_i, intM_b, max2M_i, min2M_i, lenM_t, lenM_l, lenM_r, tupM_ap, lstM_ap, strM_s, truB_b, isBl_b, newM_ap, Nat.reduceLeDiff, seqL_l, seqT_t, isNM_n, isNM_i, wr_eLc, wr_eSl, wr_oN, wr_oI, intO_i, seqA_l, seqA_r, seqA_t, listM_t, listM_l, slM_t, slM_l, ws_sMatch, ws_mcNil, ws_mcAny, ws_mcVal, if_true, if_false, Bool.false_eq_true, Bool.not_true, Bool.not_false, Nat.reduceSub, Nat.reduceAdd, Nat.zero_add, eq_self, and_self, and_true, true_and, gN]
  simp only [isSt_s, if_true]
  rw [zC, splC_S (by omega)]
  try simp only [wr_eVar, wr_eC, wr_e2, wr_e1, wr_eL, wr_eCall, wr_eCallK, wr_eLL, wr_eSeq, wr_lNil, wr_lCons, wr_bTru, wr_bOf, wr_bNot, wr_bAnd, wr_bOr, wr_isBl, wr_eAnd, wr_eOr, wr_eNot, wr_eIf, wr_e3c, wr_ok, wr_exc, ws_sNext, ws_sSeq, ws_sSet, ws_sDrop, ws_sRet, ws_sRetN, ws_sBrk, ws_sCnt, ws_sIf, ws_sAsg, ws_sPar, ws_sSub, ws_sForE, wr_callM, List.getElem?_cons_zero, List.getElem?_cons_succ, List.set_cons_zero, List.set_cons_succ, List.map_cons, List.map_nil, List.length_cons, List.length_nil, List.cons_append, List.nil_append, List.replicate, List.append_nil, addM_i, subM_i, negM_i, cmpM_i, eqM_i, eqM_s, neM_i, neM_s, absM_i, intM_i, intM_b, max2M_i, min2M_i, lenM_t, lenM_l, lenM_r, tupM_ap, lstM_ap, strM_s, truB_b, isBl_b, newM_ap, Nat.reduceLeDiff, seqL_l, seqT_t, isNM_n, isNM_i, wr_eLc, wr_eSl, wr_oN, wr_oI, intO_i, seqA_l, seqA_r, seqA_t, listM_t, listM_l, slM_t, slM_l, ws_sMatch, ws_mcNil, ws_mcAny, ws_mcVal, if_true, if_false, Bool.false_eq_true, Bool.not_true, Bool.not_false, Nat.reduceSub, Nat.reduceAdd, Nat.zero_add, eq_self, and_self, and_true, true_and, gN]
  rw [words_lc (f := fun p => rD (rdO p)) (g := rdD) (fun p => by simp [rdD]) ha fun p μ hp => ?_]
  · try simp only [wr_eVar, wr_eC, wr_e2, wr_e1, wr_eL, wr_eCall, wr_eCallK, wr_eLL, wr_eSeq, wr_lNil, wr_lCons, wr_bTru, wr_bOf, wr_bNot, wr_bAnd, wr_bOr, wr_isBl, wr_eAnd, wr_eOr, wr_eNot, wr_eIf, wr_e3c, wr_ok, wr_exc, ws_sNext, ws_sSeq, ws_sSet, ws_sDrop, ws_sRet, ws_sRetN, ws_sBrk, ws_sCnt, ws_sIf, ws_sAsg, ws_sPar, ws_sSub, ws_sForE, wr_callM, List.getElem?_cons_zero, List.getElem?_cons_succ, List.set_cons_zero, List.set_cons_succ, List.map_cons, List.map_nil, List.length_cons, List.length_nil, List.cons_append, List.nil_append, List.replicate, List.append_nil, addM_i, subM_i, negM_i, cmpM_i, eqM_i, eqM_s, neM_i, neM_s, absM_i, intM_i, intM_b, max2M_i, min2M_i, lenM_t, lenM_l, lenM_r, tupM_ap, lstM_ap, strM_s, truB_b, isBl_b, newM_ap, Nat.reduceLeDiff, seqL_l, seqT_t, isNM_n, isNM_i, wr_eLc, wr_eSl, wr_oN, wr_oI, intO_i, seqA_l, seqA_r, seqA_t, listM_t, listM_l, slM_t, slM_l, ws_sMatch, ws_mcNil, ws_mcAny, ws_mcVal, if_true, if_false, Bool.false_eq_true, Bool.not_true, Bool.not_false, Nat.reduceSub, Nat.reduceAdd, Nat.zero_add, eq_self, and_self, and_true, true_and, gN]
    have tl : ∀ (xs : List D) μ, tupleM [.lst xs] μ = .ok (.tup xs) μ := fun _ _ => rfl
    simp only [tl, wr_ok]
    try simp only [wr_eVar, wr_eC, wr_e2, wr_e1, wr_eL, wr_eCall, wr_eCallK, wr_eLL, wr_eSeq, wr_lNil, wr_lCons, wr_bTru, wr_bOf, wr_bNot, wr_bAnd, wr_bOr, wr_isBl, wr_eAnd, wr_eOr, wr_eNot, wr_eIf, wr_e3c, wr_ok, wr_exc, ws_sNext, ws_sSeq, ws_sSet, ws_sDrop, ws_sRet, ws_sRetN, ws_sBrk, ws_sCnt, ws_sIf, ws_sAsg, ws_sPar, ws_sSub, ws_sForE, wr_callM, List.getElem?_cons_zero, List.getElem?_cons_succ, List.set_cons_zero, List.set_cons_succ, List.map_cons, List.map_nil, List.length_cons, List.length_nil, List.cons_append, List.nil_append, List.replicate, List.append_nil, addM_i, subM_i, negM_i, cmpM_i, eqM_i, eqM_s, neM_i, neM_s, absM_i, intM_i, intM_b, max2M_i, min2M_i, lenM_t, lenM_l, lenM_r, tupM_ap, lstM_ap, strM_s, truB_b, isBl_b, newM_ap, Nat.reduceLeDiff, seqL_l, seqT_t, isNM_n, isNM_i, wr_eLc, wr_eSl, wr_oN, wr_oI, intO_i, seqA_l, seqA_r, seqA_t, listM_t, listM_l, slM_t, slM_l, ws_sMatch, ws_mcNil, ws_mcAny, ws_mcVal, if_true, if_false, Bool.false_eq_true, Bool.not_true, Bool.not_false, Nat.reduceSub, Nat.reduceAdd, Nat.zero_add, eq_self, and_self, and_true, true_and, gN]
    unfold t_pixel_in_0
    try simp only [wr_eVar, wr_eC, wr_e2, wr_e1, wr_eL, wr_eCall, wr_eCallK, wr_eLL, wr_eSeq, wr_lNil, wr_lCons, wr_bTru, wr_bOf, wr_bNot, wr_bAnd, wr_bOr, wr_isBl, wr_eAnd, wr_eOr, wr_eNot, wr_eIf, wr_e3c, wr_ok, wr_exc, ws_sNext, ws_sSeq, ws_sSet, ws_sDrop, ws_sRet, ws_sRetN, ws_sBrk, ws_sCnt, ws_sIf, ws_sAsg, ws_sPar, ws_sSub, ws_sForE, wr_callM, List.getElem?_cons_zero, List.getElem?_cons_succ, List.set_cons_zero, List.set_cons_succ, List.map_cons, List.map_nil, List.length_cons, List.length_nil, List.cons_append, List.nil_append, List.replicate, List.append_nil, addM_i, subM_i, negM_i, cmpM_i, eqM_i, eqM_s, neM_i, neM_s, absM_i, intM_i, intM_b, max2M_i, min2M_i, lenM_t, lenM_l, lenM_r, tupM_ap, lstM_ap, strM_s, truB_b, isBl_b, newM_ap, Nat.reduceLeDiff, seqL_l, seqT_t, isNM_n, isNM_i, wr_eLc, wr_eSl, wr_oN, wr_oI, intO_i, seqA_l, seqA_r, seqA_t, listM_t, listM_l, slM_t, slM_l, ws_sMatch, ws_mcNil, ws_mcAny, ws_mcVal, if_true, if_false, Bool.false_eq_true, Bool.not_true, Bool.not_false, Nat.reduceSub, Nat.reduceAdd, Nat.zero_add, eq_self, and_self, and_true, true_and, gN]
    have kb : ∀ q ∈ pcsC a, q.length ≤ 75 := fun q hq => by have := pcsC_le hq; omega
    rw [pixel_v (sm5_all fun x hx => by
      obtain ⟨q, hq, rfl⟩ := List.mem_map.mp hx
      exact sm5_rd (kb q hq))]
    try simp only [wr_eVar, wr_eC, wr_e2, wr_e1, wr_eL, wr_eCall, wr_eCallK, wr_eLL, wr_eSeq, wr_lNil, wr_lCons, wr_bTru, wr_bOf, wr_bNot, wr_bAnd, wr_bOr, wr_isBl, wr_eAnd, wr_eOr, wr_eNot, wr_eIf, wr_e3c, wr_ok, wr_exc, ws_sNext, ws_sSeq, ws_sSet, ws_sDrop, ws_sRet, ws_sRetN, ws_sBrk, ws_sCnt, ws_sIf, ws_sAsg, ws_sPar, ws_sSub, ws_sForE, wr_callM, List.getElem?_cons_zero, List.getElem?_cons_succ, List.set_cons_zero, List.set_cons_succ, List.map_cons, List.map_nil, List.length_cons, List.length_nil, List.cons_append, List.nil_append, List.replicate, List.append_nil, addM_i, subM_i, negM_i, cmpM_i, eqM_i, eqM_s, neM_i, neM_s, absM_i, intM_i, intM_b, max2M_i, min2M_i, lenM_t, lenM_l, lenM_r, tupM_ap, lstM_ap, strM_s, truB_b, isBl_b, newM_ap, Nat.reduceLeDiff, seqL_l, seqT_t, isNM_n, isNM_i, wr_eLc, wr_eSl, wr_oN, wr_oI, intO_i, seqA_l, seqA_r, seqA_t, listM_t, listM_l, slM_t, slM_l, ws_sMatch, ws_mcNil, ws_mcAny, ws_mcVal, if_true, if_false, Bool.false_eq_true, Bool.not_true, Bool.not_false, Nat.reduceSub, Nat.reduceAdd, Nat.zero_add, eq_self, and_self, and_true, true_and, gN]
    unfold rpO
    obtain ⟨p, ps, e, f1, f2, f3⟩ := pcsC_is a
    rw [e]
    cases ps with
    | nil =>
      simp only [List.map_cons, List.map_nil]
      have : pix (.tup [rD (rdO p)]) = false := rfl
      rw [this]
      cases hfO p <;> rfl
    | cons q ps =>
      cases ps with
      | nil =>
        simp only [List.map_cons, List.map_nil]
        have hp : pix (.tup [rD (rdO p), rD (rdO q)]) = ((hfO p).isSome && ((hfO q).isSome && leP (rD (rdO p)) (rD (rdO q)))) := by
          rw [← shr_rd, ← shr_rd]
          rfl
        rw [hp]
        cases hx : hfO p with
        | none => cases hfO q <;> rfl
        | some x =>
          cases hy : hfO q with
          | none => rfl
          | some y =>
            rw [hf_rd hx, hf_rd hy]
            obtain ⟨x1, x2⟩ := x
            obtain ⟨y1, y2⟩ := y
            simp only [rpL, leI, rD, leP, Option.isSome]
            by_cases z : x1 * y2 ≤ y1 * x2
            · simp [z, rpD, rD]
            · simp [z, rpD]
      | cons r ps =>
        simp only [List.map_cons]
        have : pix (.tup (rD (rdO p) :: rD (rdO q) :: rD (rdO r) :: ps.map fun p => rD (rdO p))) = false := rfl
        rw [this]
        cases hfO p <;> cases hfO q <;> rfl
  · refine wr_eq.mp ?_
    try simp only [wr_eVar, wr_eC, wr_e2, wr_e1, wr_eL, wr_eCall, wr_eCallK, wr_eLL, wr_eSeq, wr_lNil, wr_lCons, wr_bTru, wr_bOf, wr_bNot, wr_bAnd, wr_bOr, wr_isBl, wr_eAnd, wr_eOr, wr_eNot, wr_eIf, wr_e3c, wr_ok, wr_exc, ws_sNext, ws_sSeq, ws_sSet, ws_sDrop, ws_sRet, ws_sRetN, ws_sBrk, ws_sCnt, ws_sIf, ws_sAsg, ws_sPar, ws_sSub, ws_sForE, wr_callM, List.getElem?_cons_zero, List.getElem?_cons_succ, List.set_cons_zero, List.set_cons_succ, List.map_cons, List.map_nil, List.length_cons, List.length_nil, List.cons_append, List.nil_append, List.replicate, List.append_nil, addM_i, subM_i, negM_i, cmpM_i, eqM_i, eqM_s, neM_i, neM_s, absM_i, intM_i, intM_b, max2M_i, min2M_i, lenM_t, lenM_l, lenM_r, tupM_ap, lstM_ap, strM_s, truB_b, isBl_b, newM_ap, Nat.reduceLeDiff, seqL_l, seqT_t, isNM_n, isNM_i, wr_eLc, wr_eSl, wr_oN, wr_oI, intO_i, seqA_l, seqA_r, seqA_t, listM_t, listM_l, slM_t, slM_l, ws_sMatch, ws_mcNil, ws_mcAny, ws_mcVal, if_true, if_false, Bool.false_eq_true, Bool.not_true, Bool.not_false, Nat.reduceSub, Nat.reduceAdd, Nat.zero_add, eq_self, and_self, and_true, true_and, gN]
    rw [ratio_in_v hp]
    try simp only [wr_eVar, wr_eC, wr_e2, wr_e1, wr_eL, wr_eCall, wr_eCallK, wr_eLL, wr_eSeq, wr_lNil, wr_lCons, wr_bTru, wr_bOf, wr_bNot, wr_bAnd, wr_bOr, wr_isBl, wr_eAnd, wr_eOr, wr_eNot, wr_eIf, wr_e3c, wr_ok, wr_exc, ws_sNext, ws_sSeq, ws_sSet, ws_sDrop, ws_sRet, ws_sRetN, ws_sBrk, ws_sCnt, ws_sIf, ws_sAsg, ws_sPar, ws_sSub, ws_sForE, wr_callM, List.getElem?_cons_zero, List.getElem?_cons_succ, List.set_cons_zero, List.set_cons_succ, List.map_cons, List.map_nil, List.length_cons, List.length_nil, List.cons_append, List.nil_append, List.replicate, List.append_nil, addM_i, subM_i, negM_i, cmpM_i, eqM_i, eqM_s, neM_i, neM_s, absM_i, intM_i, intM_b, max2M_i, min2M_i, lenM_t, lenM_l, lenM_r, tupM_ap, lstM_ap, strM_s, truB_b, isBl_b, newM_ap, Nat.reduceLeDiff, seqL_l, seqT_t, isNM_n, isNM_i, wr_eLc, wr_eSl, wr_oN, wr_oI, intO_i, seqA_l, seqA_r, seqA_t, listM_t, listM_l, slM_t, slM_l, ws_sMatch, ws_mcNil, ws_mcAny, ws_mcVal, if_true, if_false, Bool.false_eq_true, Bool.not_true, Bool.not_false, Nat.reduceSub, Nat.reduceAdd, Nat.zero_add, eq_self, and_self, and_true, true_and, gN]
end
end Zk05
namespace Zk05
open PySem PySem.Spec PyProof.Rows L2 SE SX
section
variable {μ : Mem}
def rpS : D → Option ((Int × Int) × (Int × Int))
  | .str x => rpO x.cps.toList
  | _ => none
/-- what comes as a text -/
structure Tk (d : D) : Prop where
  pl : plD d = true
  len : ∀ x, d = .str x → x.length ≤ 75
  sh : shOk d = true
def isS : D → Bool
  | .str _ => true
  | _ => false
theorem isi_str {d : D} (h : plD d = true) : isiM [d, .ty "str"] μ = .ok (.bl (isS d)) μ := by
  cases d <;> first | exact isiM_of (k := true) rfl (by decide +kernel) | exact isiM_of (k := false) rfl (by decide +kernel) | cases h
theorem read_v {d : D} (h : Tk d) : m_read_pixel [d] μ = (match rpS d with
    | some p => .ok (rpD (some p)) μ
    | none => .exc ⟨"InvalidText", [("text", d)]⟩ μ) := by
  have key : wr (m_read_pixel [d] μ) (fun x μ' => ∃ p, rpS d = some p ∧ x = rpD (some p) ∧ μ' = μ) (fun x μ' => rpS d = none ∧ x = ⟨"InvalidText", [("text", d)]⟩ ∧ μ' = μ) := by
    unfold m_read_pixel b_read_pixel t_read_pixel_1 t_read_pixel_0
    try simp only [wr_eVar, wr_eC, wr_e2, wr_e1, wr_eL, wr_eCall, wr_eCallK, wr_eLL, wr_eSeq, wr_lNil, wr_lCons, wr_bTru, wr_bOf, wr_bNot, wr_bAnd, wr_bOr, wr_isBl, wr_eAnd, wr_eOr, wr_eNot, wr_eIf, wr_e3c, wr_ok, wr_exc, ws_sNext, ws_sSeq, ws_sSet, ws_sDrop, ws_sRet, ws_sRetN, ws_sBrk, ws_sCnt, ws_sIf, ws_sAsg, ws_sPar, ws_sSub, ws_sForE, wr_callM, List.getElem?_cons_zero, List.getElem?_cons_succ, List.set_cons_zero, List.set_cons_succ, List.map_cons, List.map_nil, List.length_cons, List.length_nil, List.cons_append, List.nil_append, List.replicate, List.append_nil, addM_i, subM_i, negM_i, cmpM_i, eqM_i, eqM_s, neM_i, neM_s, absM_i, intM_i, intM_b, max2M_i, min2M_i, lenM_t, lenM_l, lenM_r, tupM_ap, lstM_ap, strM_s, truB_b, isBl_b, newM_ap, Nat.reduceLeDiff, seqL_l, seqT_t, isNM_n, isNM_i, wr_eLc, wr_eSl, wr_oN, wr_oI, intO_i, seqA_l, seqA_r, seqA_t, listM_t, listM_l, slM_t, slM_l, ws_sMatch, ws_mcNil, ws_mcAny, ws_mcVal, if_true, if_false, Bool.false_eq_true, Bool.not_true, Bool.not_false, Nat.reduceSub, Nat.reduceAdd, Nat.zero_add, eq_self, and_self, and_true, true_and, gN]
    simp only [isi_str h.pl, wr_ok]
    try simp only [wr_eVar, wr_eC, wr_e2, wr_e1, wr_eL, wr_eCall, wr_eCallK, wr_eLL, wr_eSeq, wr_lNil, wr_lCons, wr_bTru, wr_bOf, wr_bNot, wr_bAnd, wr_bOr, wr_isBl, wr_eAnd, wr_eOr, wr_eNot, wr_eIf, wr_e3c, wr_ok, wr_exc, ws_sNext, ws_sSeq, ws_sSet, ws_sDrop, ws_sRet, ws_sRetN, ws_sBrk, ws_sCnt, ws_sIf, ws_sAsg, ws_sPar, ws_sSub, ws_sForE, wr_callM, List.getElem?_cons_zero, List.getElem?_cons_succ, List.set_cons_zero, List.set_cons_succ, List.map_cons, List.map_nil, List.length_cons, List.length_nil, List.cons_append, List.nil_append, List.replicate, List.append_nil, addM_i, subM_i, negM_i, cmpM_i, eqM_i, eqM_s, neM_i, neM_s, absM_i, intM_i, intM_b, max2M_i, min2M_i, lenM_t, lenM_l, lenM_r, tupM_ap, lstM_ap, strM_s, truB_b, isBl_b, newM_ap, Nat.reduceLeDiff, seqL_l, seqT_t, isNM_n, isNM_i, wr_eLc, wr_eSl, wr_oN, wr_oI, intO_i, seqA_l, seqA_r, seqA_t, listM_t, listM_l, slM_t, slM_l, ws_sMatch, ws_mcNil, ws_mcAny, ws_mcVal, if_true, if_false, Bool.false_eq_true, Bool.not_true, Bool.not_false, Nat.reduceSub, Nat.reduceAdd, Nat.zero_add, eq_self, and_self, and_true, true_and, gN]
    cases d with
    | str x =>
      have hl := h.len x rfl
      have ex : x = S x.cps.toList := (S_tl x).symm
      have hr : m_pixel_in [.str x] μ = .ok (rpD (rpS (.str x))) μ := by
        have := pixel_in_v (μ := μ) (a := x.cps.toList) (by simpa [Str.length] using hl)
        rw [← ex] at this
        exact this
      simp only [isS]
      try simp only [wr_eVar, wr_eC, wr_e2, wr_e1, wr_eL, wr_eCall, wr_eCallK, wr_eLL, wr_eSeq, wr_lNil, wr_lCons, wr_bTru, wr_bOf, wr_bNot, wr_bAnd, wr_bOr, wr_isBl, wr_eAnd, wr_eOr, wr_eNot, wr_eIf, wr_e3c, wr_ok, wr_exc, ws_sNext, ws_sSeq, ws_sSet, ws_sDrop, ws_sRet, ws_sRetN, ws_sBrk, ws_sCnt, ws_sIf, ws_sAsg, ws_sPar, ws_sSub, ws_sForE, wr_callM, List.getElem?_cons_zero, List.getElem?_cons_succ, List.set_cons_zero, List.set_cons_succ, List.map_cons, List.map_nil, List.length_cons, List.length_nil, List.cons_append, List.nil_append, List.replicate, List.append_nil, addM_i, subM_i, negM_i, cmpM_i, eqM_i, eqM_s, neM_i, neM_s, absM_i, intM_i, intM_b, max2M_i, min2M_i, lenM_t, lenM_l, lenM_r, tupM_ap, lstM_ap, strM_s, truB_b, isBl_b, newM_ap, Nat.reduceLeDiff, seqL_l, seqT_t, isNM_n, isNM_i, wr_eLc, wr_eSl, wr_oN, wr_oI, intO_i, seqA_l, seqA_r, seqA_t, listM_t, listM_l, slM_t, slM_l, ws_sMatch, ws_mcNil, ws_mcAny, ws_mcVal, if_true, if_false, Bool.false_eq_true, Bool.not_true, Bool.not_false, Nat.reduceSub, Nat.reduceAdd, Nat.zero_add, eq_self, and_self, and_true, true_and, gN]
      rw [hr]
      try simp only [wr_eVar, wr_eC, wr_e2, wr_e1, wr_eL, wr_eCall, wr_eCallK, wr_eLL, wr_eSeq, wr_lNil, wr_lCons, wr_bTru, wr_bOf, wr_bNot, wr_bAnd, wr_bOr, wr_isBl, wr_eAnd, wr_eOr, wr_eNot, wr_eIf, wr_e3c, wr_ok, wr_exc, ws_sNext, ws_sSeq, ws_sSet, ws_sDrop, ws_sRet, ws_sRetN, ws_sBrk, ws_sCnt, ws_sIf, ws_sAsg, ws_sPar, ws_sSub, ws_sForE, wr_callM, List.getElem?_cons_zero, List.getElem?_cons_succ, List.set_cons_zero, List.set_cons_succ, List.map_cons, List.map_nil, List.length_cons, List.length_nil, List.cons_append, List.nil_append, List.replicate, List.append_nil, addM_i, subM_i, negM_i, cmpM_i, eqM_i, eqM_s, neM_i, neM_s, absM_i, intM_i, intM_b, max2M_i, min2M_i, lenM_t, lenM_l, lenM_r, tupM_ap, lstM_ap, strM_s, truB_b, isBl_b, newM_ap, Nat.reduceLeDiff, seqL_l, seqT_t, isNM_n, isNM_i, wr_eLc, wr_eSl, wr_oN, wr_oI, intO_i, seqA_l, seqA_r, seqA_t, listM_t, listM_l, slM_t, slM_l, ws_sMatch, ws_mcNil, ws_mcAny, ws_mcVal, if_true, if_false, Bool.false_eq_true, Bool.not_true, Bool.not_false, Nat.reduceSub, Nat.reduceAdd, Nat.zero_add, eq_self, and_self, and_true, true_and, gN]
      cases q : rpS (.str x) with
      | none =>
        simp only [rpD]
        try simp only [wr_eVar, wr_eC, wr_e2, wr_e1, wr_eL, wr_eCall, wr_eCallK, wr_eLL, wr_eSeq, wr_lNil, wr_lCons, wr_bTru, wr_bOf, wr_bNot, wr_bAnd, wr_bOr, wr_isBl, wr_eAnd, wr_eOr, wr_eNot, wr_eIf, wr_e3c, wr_ok, wr_exc, ws_sNext, ws_sSeq, ws_sSet, ws_sDrop, ws_sRet, ws_sRetN, ws_sBrk, ws_sCnt, ws_sIf, ws_sAsg, ws_sPar, ws_sSub, ws_sForE, wr_callM, List.getElem?_cons_zero, List.getElem?_cons_succ, List.set_cons_zero, List.set_cons_succ, List.map_cons, List.map_nil, List.length_cons, List.length_nil, List.cons_append, List.nil_append, List.replicate, List.append_nil, addM_i, subM_i, negM_i, cmpM_i, eqM_i, eqM_s, neM_i, neM_s, absM_i, intM_i, intM_b, max2M_i, min2M_i, lenM_t, lenM_l, lenM_r, tupM_ap, lstM_ap, strM_s, truB_b, isBl_b, newM_ap, Nat.reduceLeDiff, seqL_l, seqT_t, isNM_n, isNM_i, wr_eLc, wr_eSl, wr_oN, wr_oI, intO_i, seqA_l, seqA_r, seqA_t, listM_t, listM_l, slM_t, slM_l, ws_sMatch, ws_mcNil, ws_mcAny, ws_mcVal, if_true, if_false, Bool.false_eq_true, Bool.not_true, Bool.not_false, Nat.reduceSub, Nat.reduceAdd, Nat.zero_add, eq_self, and_self, and_true, true_and, gN]
        simp only [ws_sRaise]
        try simp only [wr_eVar, wr_eC, wr_e2, wr_e1, wr_eL, wr_eCall, wr_eCallK, wr_eLL, wr_eSeq, wr_lNil, wr_lCons, wr_bTru, wr_bOf, wr_bNot, wr_bAnd, wr_bOr, wr_isBl, wr_eAnd, wr_eOr, wr_eNot, wr_eIf, wr_e3c, wr_ok, wr_exc, ws_sNext, ws_sSeq, ws_sSet, ws_sDrop, ws_sRet, ws_sRetN, ws_sBrk, ws_sCnt, ws_sIf, ws_sAsg, ws_sPar, ws_sSub, ws_sForE, wr_callM, List.getElem?_cons_zero, List.getElem?_cons_succ, List.set_cons_zero, List.set_cons_succ, List.map_cons, List.map_nil, List.length_cons, List.length_nil, List.cons_append, List.nil_append, List.replicate, List.append_nil, addM_i, subM_i, negM_i, cmpM_i, eqM_i, eqM_s, neM_i, neM_s, absM_i, intM_i, intM_b, max2M_i, min2M_i, lenM_t, lenM_l, lenM_r, tupM_ap, lstM_ap, strM_s, truB_b, isBl_b, newM_ap, Nat.reduceLeDiff, seqL_l, seqT_t, isNM_n, isNM_i, wr_eLc, wr_eSl, wr_oN, wr_oI, intO_i, seqA_l, seqA_r, seqA_t, listM_t, listM_l, slM_t, slM_l, ws_sMatch, ws_mcNil, ws_mcAny, ws_mcVal, if_true, if_false, Bool.false_eq_true, Bool.not_true, Bool.not_false, Nat.reduceSub, Nat.reduceAdd, Nat.zero_add, eq_self, and_self, and_true, true_and, gN]
        try exact ⟨rfl, rfl⟩
      | some tb =>
        have n1 : ∀ μ, isNM (rpD (some tb)) .non μ = .ok (.bl false) μ := fun _ => rfl
        simp only [n1, wr_ok]
        try simp only [wr_eVar, wr_eC, wr_e2, wr_e1, wr_eL, wr_eCall, wr_eCallK, wr_eLL, wr_eSeq, wr_lNil, wr_lCons, wr_bTru, wr_bOf, wr_bNot, wr_bAnd, wr_bOr, wr_isBl, wr_eAnd, wr_eOr, wr_eNot, wr_eIf, wr_e3c, wr_ok, wr_exc, ws_sNext, ws_sSeq, ws_sSet, ws_sDrop, ws_sRet, ws_sRetN, ws_sBrk, ws_sCnt, ws_sIf, ws_sAsg, ws_sPar, ws_sSub, ws_sForE, wr_callM, List.getElem?_cons_zero, List.getElem?_cons_succ, List.set_cons_zero, List.set_cons_succ, List.map_cons, List.map_nil, List.length_cons, List.length_nil, List.cons_append, List.nil_append, List.replicate, List.append_nil, addM_i, subM_i, negM_i, cmpM_i, eqM_i, eqM_s, neM_i, neM_s, absM_i, intM_i, intM_b, max2M_i, min2M_i, lenM_t, lenM_l, lenM_r, tupM_ap, lstM_ap, strM_s, truB_b, isBl_b, newM_ap, Nat.reduceLeDiff, seqL_l, seqT_t, isNM_n, isNM_i, wr_eLc, wr_eSl, wr_oN, wr_oI, intO_i, seqA_l, seqA_r, seqA_t, listM_t, listM_l, slM_t, slM_l, ws_sMatch, ws_mcNil, ws_mcAny, ws_mcVal, if_true, if_false, Bool.false_eq_true, Bool.not_true, Bool.not_false, Nat.reduceSub, Nat.reduceAdd, Nat.zero_add, eq_self, and_self, and_true, true_and, gN]
        exact ⟨tb, rfl, rfl⟩
    | _ =>
      simp only [isS]
      try simp only [wr_eVar, wr_eC, wr_e2, wr_e1, wr_eL, wr_eCall, wr_eCallK, wr_eLL, wr_eSeq, wr_lNil, wr_lCons, wr_bTru, wr_bOf, wr_bNot, wr_bAnd, wr_bOr, wr_isBl, wr_eAnd, wr_eOr, wr_eNot, wr_eIf, wr_e3c, wr_ok, wr_exc, ws_sNext, ws_sSeq, ws_sSet, ws_sDrop, ws_sRet, ws_sRetN, ws_sBrk, ws_sCnt, ws_sIf, ws_sAsg, ws_sPar, ws_sSub, ws_sForE, wr_callM, List.getElem?_cons_zero, List.getElem?_cons_succ, List.set_cons_zero, List.set_cons_succ, List.map_cons, List.map_nil, List.length_cons, List.length_nil, List.cons_append, List.nil_append, List.replicate, List.append_nil, addM_i, subM_i, negM_i, cmpM_i, eqM_i, eqM_s, neM_i, neM_s, absM_i, intM_i, intM_b, max2M_i, min2M_i, lenM_t, lenM_l, lenM_r, tupM_ap, lstM_ap, strM_s, truB_b, isBl_b, newM_ap, Nat.reduceLeDiff, seqL_l, seqT_t, isNM_n, isNM_i, wr_eLc, wr_eSl, wr_oN, wr_oI, intO_i, seqA_l, seqA_r, seqA_t, listM_t, listM_l, slM_t, slM_l, ws_sMatch, ws_mcNil, ws_mcAny, ws_mcVal, if_true, if_false, Bool.false_eq_true, Bool.not_true, Bool.not_false, Nat.reduceSub, Nat.reduceAdd, Nat.zero_add, eq_self, and_self, and_true, true_and, gN]
      simp only [ws_sRaise]
      try simp only [wr_eVar, wr_eC, wr_e2, wr_e1, wr_eL, wr_eCall, wr_eCallK, wr_eLL, wr_eSeq, wr_lNil, wr_lCons, wr_bTru, wr_bOf, wr_bNot, wr_bAnd, wr_bOr, wr_isBl, wr_eAnd, wr_eOr, wr_eNot, wr_eIf, wr_e3c, wr_ok, wr_exc, ws_sNext, ws_sSeq, ws_sSet, ws_sDrop, ws_sRet, ws_sRetN, ws_sBrk, ws_sCnt, ws_sIf, ws_sAsg, ws_sPar, ws_sSub, ws_sForE, wr_callM, List.getElem?_cons_zero, List.getElem?_cons_succ, List.set_cons_zero, List.set_cons_succ, List.map_cons, List.map_nil, List.length_cons, List.length_nil, List.cons_append, List.nil_append, List.replicate, List.append_nil, addM_i, subM_i, negM_i, cmpM_i, eqM_i, eqM_s, neM_i, neM_s, absM_i, intM_i, intM_b, max2M_i, min2M_i, lenM_t, lenM_l, lenM_r, tupM_ap, lstM_ap, strM_s, truB_b, isBl_b, newM_ap, Nat.reduceLeDiff, seqL_l, seqT_t, isNM_n, isNM_i, wr_eLc, wr_eSl, wr_oN, wr_oI, intO_i, seqA_l, seqA_r, seqA_t, listM_t, listM_l, slM_t, slM_l, ws_sMatch, ws_mcNil, ws_mcAny, ws_mcVal, if_true, if_false, Bool.false_eq_true, Bool.not_true, Bool.not_false, Nat.reduceSub, Nat.reduceAdd, Nat.zero_add, eq_self, and_self, and_true, true_and, gN]
      rfl
  cases q : m_read_pixel [d] μ with
  | ok x μ' =>
    rw [q] at key
    obtain ⟨p, h1, rfl, rfl⟩ := key
    rw [h1]
  | exc x μ' =>
    rw [q] at key
    obtain ⟨h1, rfl, rfl⟩ := key
    rw [h1]
  | bad => rw [q] at key; exact key.elim
/-! ### the lambda's end -/
theorem one_s {fs : List (Str × D)} : m__law_is_one [.err "InvalidPixel" fs, .int 1] μ = .ok (.bl true) μ := by kernel_rfl
theorem one_t {fs : List (Str × D)} : m__law_is_one [.err "InvalidText" fs, .int 18] μ = .ok (.bl true) μ := by kernel_rfl
theorem caught_eq (mb : Ev → M D) : ∃ o1 o2 hs, mL__law_caught mb = callM 2 (sTry (cauB mb) (⟨mt_2, some 1, cauC m__law_is_one 1 "no pixel" atc "value" o1⟩ :: ⟨mt_1, some 1, cauC m__law_is_one 18 "no text" atc "text" o2⟩ :: hs)) := ⟨_, _, _, rfl⟩
theorem caught_ok {mb : Ev → M D} {ρ : Ev} {d : D} {μ1 : Mem} (h : mb ρ μ = .ok d μ1) (hs : shOk d = true) : mL__law_caught mb [.clo ρ] μ = .ok (.lst [.str "told", .str (dP d).shown]) μ1 := by
  obtain ⟨o1, o2, hh, e⟩ := caught_eq mb
  rw [e]
  exact cau_ok h hs
theorem caught_s {mb : Ev → M D} {ρ : Ev} {d : D} {μ1 : Mem} (h : mb ρ μ = .exc ⟨"InvalidPixel", [("value", d)]⟩ μ1) (hs : shOk d = true) : mL__law_caught mb [.clo ρ] μ = .ok (.lst [.str "no pixel", .str (dP d).shown]) μ1 := by
  obtain ⟨o1, o2, hh, e⟩ := caught_eq mb
  rw [e]
  refine cau_exc h ?_
  refine handle_in (by rfl) ?_
  refine suite_rt ?_ ?_
  · dsimp only
    exact cau_cl one_s (by decide) (by rfl) hs
  · rfl
theorem caught_t {mb : Ev → M D} {ρ : Ev} {d : D} {μ1 : Mem} (h : mb ρ μ = .exc ⟨"InvalidText", [("text", d)]⟩ μ1) (hs : shOk d = true) : mL__law_caught mb [.clo ρ] μ = .ok (.lst [.str "no text", .str (dP d).shown]) μ1 := by
  obtain ⟨o1, o2, hh, e⟩ := caught_eq mb
  rw [e]
  refine cau_exc h ?_
  refine handle_out (by rfl) ?_
  refine handle_in (by rfl) ?_
  refine suite_rt ?_ ?_
  · dsimp only
    exact cau_cl one_t (by decide) (by rfl) hs
  · rfl
theorem lt75 {i : Int} (h : i.natAbs < 10 ^ 75) : i.natAbs < 2 ^ 250 := Nat.lt_trans h p75
theorem rpO_is {a : List Nat} (ha : a.length ≤ 75) {p : (Int × Int) × (Int × Int)} (h : rpO a = some p) : Qw 7 (rpD (some p)) := by
  unfold rpO at h
  obtain ⟨w, ws, e, _⟩ := pcsC_is a
  have kb : ∀ q ∈ pcsC a, q.length ≤ 75 := fun q hq => by have := pcsC_le hq; omega
  rw [e] at h kb
  cases ws with
  | nil =>
    simp only [List.map_cons, List.map_nil] at h
    cases hx : hfO w <;> rw [hx] at h <;> cases h
  | cons v ws =>
    cases ws with
    | nil =>
      simp only [List.map_cons, List.map_nil] at h
      cases hx : hfO w with
      | none => rw [hx] at h; cases h
      | some x =>
        cases hy : hfO v with
        | none => rw [hx, hy] at h; cases h
        | some y =>
          rw [hx, hy] at h
          simp only [rpL] at h
          split at h
          · cases h
            have bx := hf_lt (kb w (by simp)) hx
            have bY := hf_lt (kb v (by simp)) hy
            exact ((Qw.i (lt75 bx.1)).t2 (Qw.i (lt75 bx.2))).t2 ((Qw.i (lt75 bY.1)).t2 (Qw.i (lt75 bY.2)))
          · cases h
    | cons u ws =>
      simp only [List.map_cons] at h
      cases hfO w <;> cases hfO v <;> simp [rpL] at h
def dueT (d : D) : D := match rpS d with
  | some p => .lst [.str "told", .str (dP (rpD (some p))).shown]
  | none => .lst [.str "no text", .str (dP d).shown]
theorem rpS_sh {d : D} (h : Tk d) {p : (Int × Int) × (Int × Int)} (e : rpS d = some p) : shOk (rpD (some p)) = true := by
  cases d with
  | str x => exact (rpO_is (a := x.cps.toList) (by simpa [Str.length] using h.len x rfl) e).sh (by omega)
  | _ => cases e
theorem told_t {d : D} (h : Tk d) {mb : Ev → M D} {ρ : Ev} (hb : mb (ρ.map keepE) μ = m_read_pixel [d] μ) : eLam mL__law_caught mb ρ μ = .ok (dueT d) μ := by
  rw [read_v h] at hb
  unfold dueT
  cases q : rpS d with
  | none =>
    rw [q] at hb
    exact eLam_ap (caught_t hb h.sh) rfl
  | some tb =>
    rw [q] at hb
    exact eLam_ap (caught_ok hb (rpS_sh h q)) rfl
theorem eq_self_l {x y : Str} : eqM (.lst [.str x, .str y]) (.lst [.str x, .str y]) μ = .ok (.bl true) μ := by
  unfold eqM eqB
  have h : eqOk (lookD μ (.lst [.str x, .str y])) = true := by simp [eqOk, lookD, isP, isPL, dP, dPL, PyData.depth, PyData.depthAll]
  simp only [lookD] at h ⊢
  simp only [scD, h, and_self, if_true, dP, dPL, PyData.eqv, PyData.eqvAll, Bool.and_true, decide_true, beq_self_eq_true]
theorem ne_of_eq {a b : D} {k : Bool} (h : eqM a b μ = .ok (.bl k) μ) : neM a b μ = .ok (.bl (!k)) μ := by
  unfold eqM at h
  unfold neM
  cases q : eqB μ a b with
  | none => rw [q] at h; cases h
  | some c => rw [q] at h; cases h; rfl
theorem eq_dT {d : D} : eqM (dueT d) (dueT d) μ = .ok (.bl true) μ := by
  unfold dueT
  split <;> exact eq_self_l
theorem ne_dT {d : D} : neM (dueT d) (dueT d) μ = .ok (.bl false) μ := ne_of_eq eq_dT
theorem rd_non {d : D} (h : isS d = false) : rpD (rpS d) = .non := by
  cases d <;> first | rfl | cases h
theorem is_str {d : D} (h : isS d = true) : ∃ x, d = .str x := by
  cases d <;> first | exact ⟨_, rfl⟩ | cases h
theorem tright_v {d : D} (h : Tk d) : m__law_text_right [d] μ = .ok (.bl true) μ := by
  refine wr_eq.mp ?_
  have k0 := keep_some (shOk_no h.sh)
  have fin : ∀ w : Option D, ws (t__law_text_right_1 [some d, some (dueT d), w] μ) (fun _ μ' => D.non = D.bl true ∧ μ' = μ) (fun d μ' => d = .bl true ∧ μ' = μ) (fun _ _ => False) (fun _ _ => False) (fun _ _ => False) := by
    intro w
    unfold t__law_text_right_1 t__law_text_right_0
    try simp only [wr_eVar, wr_eC, wr_e2, wr_e1, wr_eL, wr_eCall, wr_eCallK, wr_eLL, wr_eSeq, wr_lNil, wr_lCons, wr_bTru, wr_bOf, wr_bNot, wr_bAnd, wr_bOr, wr_isBl, wr_eAnd, wr_eOr, wr_eNot, wr_eIf, wr_e3c, wr_ok, wr_exc, ws_sNext, ws_sSeq, ws_sSet, ws_sDrop, ws_sRet, ws_sRetN, ws_sBrk, ws_sCnt, ws_sIf, ws_sAsg, ws_sPar, ws_sSub, ws_sForE, wr_callM, List.getElem?_cons_zero, List.getElem?_cons_succ, List.set_cons_zero, List.set_cons_succ, List.map_cons, List.map_nil, List.length_cons, List.length_nil, List.cons_append, List.nil_append, List.replicate, List.append_nil, addM_i, subM_i, negM_i, cmpM_i, eqM_i, eqM_s, neM_i, neM_s, absM_i, intM_i, intM_b, max2M_i, min2M_i, lenM_t, lenM_l, lenM_r, tupM_ap, lstM_ap, strM_s, truB_b, isBl_b, newM_ap, Nat.reduceLeDiff, seqL_l, seqT_t, isNM_n, isNM_i, wr_eLc, wr_eSl, wr_oN, wr_oI, intO_i, seqA_l, seqA_r, seqA_t, listM_t, listM_l, slM_t, slM_l, ws_sMatch, ws_mcNil, ws_mcAny, ws_mcVal, if_true, if_false, Bool.false_eq_true, Bool.not_true, Bool.not_false, Nat.reduceSub, Nat.reduceAdd, Nat.zero_add, eq_self, and_self, and_true, true_and, gN]
    rw [rng1M_i (by omega)]
    try simp only [wr_eVar, wr_eC, wr_e2, wr_e1, wr_eL, wr_eCall, wr_eCallK, wr_eLL, wr_eSeq, wr_lNil, wr_lCons, wr_bTru, wr_bOf, wr_bNot, wr_bAnd, wr_bOr, wr_isBl, wr_eAnd, wr_eOr, wr_eNot, wr_eIf, wr_e3c, wr_ok, wr_exc, ws_sNext, ws_sSeq, ws_sSet, ws_sDrop, ws_sRet, ws_sRetN, ws_sBrk, ws_sCnt, ws_sIf, ws_sAsg, ws_sPar, ws_sSub, ws_sForE, wr_callM, List.getElem?_cons_zero, List.getElem?_cons_succ, List.set_cons_zero, List.set_cons_succ, List.map_cons, List.map_nil, List.length_cons, List.length_nil, List.cons_append, List.nil_append, List.replicate, List.append_nil, addM_i, subM_i, negM_i, cmpM_i, eqM_i, eqM_s, neM_i, neM_s, absM_i, intM_i, intM_b, max2M_i, min2M_i, lenM_t, lenM_l, lenM_r, tupM_ap, lstM_ap, strM_s, truB_b, isBl_b, newM_ap, Nat.reduceLeDiff, seqL_l, seqT_t, isNM_n, isNM_i, wr_eLc, wr_eSl, wr_oN, wr_oI, intO_i, seqA_l, seqA_r, seqA_t, listM_t, listM_l, slM_t, slM_l, ws_sMatch, ws_mcNil, ws_mcAny, ws_mcVal, if_true, if_false, Bool.false_eq_true, Bool.not_true, Bool.not_false, Nat.reduceSub, Nat.reduceAdd, Nat.zero_add, eq_self, and_self, and_true, true_and, gN]
    refine ws_for (fun _ ρ μ' => μ' = μ ∧ ∃ w, ρ = [some d, some (dueT d), w]) ⟨rfl, _, rfl⟩ ?_ ?_
    · rintro j x ρ μ' _ ⟨rfl, w, rfl⟩
      try simp only [wr_eVar, wr_eC, wr_e2, wr_e1, wr_eL, wr_eCall, wr_eCallK, wr_eLL, wr_eSeq, wr_lNil, wr_lCons, wr_bTru, wr_bOf, wr_bNot, wr_bAnd, wr_bOr, wr_isBl, wr_eAnd, wr_eOr, wr_eNot, wr_eIf, wr_e3c, wr_ok, wr_exc, ws_sNext, ws_sSeq, ws_sSet, ws_sDrop, ws_sRet, ws_sRetN, ws_sBrk, ws_sCnt, ws_sIf, ws_sAsg, ws_sPar, ws_sSub, ws_sForE, wr_callM, List.getElem?_cons_zero, List.getElem?_cons_succ, List.set_cons_zero, List.set_cons_succ, List.map_cons, List.map_nil, List.length_cons, List.length_nil, List.cons_append, List.nil_append, List.replicate, List.append_nil, addM_i, subM_i, negM_i, cmpM_i, eqM_i, eqM_s, neM_i, neM_s, absM_i, intM_i, intM_b, max2M_i, min2M_i, lenM_t, lenM_l, lenM_r, tupM_ap, lstM_ap, strM_s, truB_b, isBl_b, newM_ap, Nat.reduceLeDiff, seqL_l, seqT_t, isNM_n, isNM_i, wr_eLc, wr_eSl, wr_oN, wr_oI, intO_i, seqA_l, seqA_r, seqA_t, listM_t, listM_l, slM_t, slM_l, ws_sMatch, ws_mcNil, ws_mcAny, ws_mcVal, if_true, if_false, Bool.false_eq_true, Bool.not_true, Bool.not_false, Nat.reduceSub, Nat.reduceAdd, Nat.zero_add, eq_self, and_self, and_true, true_and, gN]
      have t1 : eLam mL__law_caught (eCall m_read_pixel (lCons (eVar 0) lNil)) [some d, some (dueT d), some x] μ' = _ := told_t h (by
        rw [eCall_ap]
        simp only [lCons_ap, eVar_ap, lNil_ap, List.map_cons, List.getElem?_cons_zero, k0])
      simp only [t1, wr_ok, ne_dT, wr_isBl]
      try simp only [wr_eVar, wr_eC, wr_e2, wr_e1, wr_eL, wr_eCall, wr_eCallK, wr_eLL, wr_eSeq, wr_lNil, wr_lCons, wr_bTru, wr_bOf, wr_bNot, wr_bAnd, wr_bOr, wr_isBl, wr_eAnd, wr_eOr, wr_eNot, wr_eIf, wr_e3c, wr_ok, wr_exc, ws_sNext, ws_sSeq, ws_sSet, ws_sDrop, ws_sRet, ws_sRetN, ws_sBrk, ws_sCnt, ws_sIf, ws_sAsg, ws_sPar, ws_sSub, ws_sForE, wr_callM, List.getElem?_cons_zero, List.getElem?_cons_succ, List.set_cons_zero, List.set_cons_succ, List.map_cons, List.map_nil, List.length_cons, List.length_nil, List.cons_append, List.nil_append, List.replicate, List.append_nil, addM_i, subM_i, negM_i, cmpM_i, eqM_i, eqM_s, neM_i, neM_s, absM_i, intM_i, intM_b, max2M_i, min2M_i, lenM_t, lenM_l, lenM_r, tupM_ap, lstM_ap, strM_s, truB_b, isBl_b, newM_ap, Nat.reduceLeDiff, seqL_l, seqT_t, isNM_n, isNM_i, wr_eLc, wr_eSl, wr_oN, wr_oI, intO_i, seqA_l, seqA_r, seqA_t, listM_t, listM_l, slM_t, slM_l, ws_sMatch, ws_mcNil, ws_mcAny, ws_mcVal, if_true, if_false, Bool.false_eq_true, Bool.not_true, Bool.not_false, Nat.reduceSub, Nat.reduceAdd, Nat.zero_add, eq_self, and_self, and_true, true_and, gN]
      exact ⟨_, rfl⟩
    · rintro ρ μ' ⟨rfl, w, rfl⟩
      try simp only [wr_eVar, wr_eC, wr_e2, wr_e1, wr_eL, wr_eCall, wr_eCallK, wr_eLL, wr_eSeq, wr_lNil, wr_lCons, wr_bTru, wr_bOf, wr_bNot, wr_bAnd, wr_bOr, wr_isBl, wr_eAnd, wr_eOr, wr_eNot, wr_eIf, wr_e3c, wr_ok, wr_exc, ws_sNext, ws_sSeq, ws_sSet, ws_sDrop, ws_sRet, ws_sRetN, ws_sBrk, ws_sCnt, ws_sIf, ws_sAsg, ws_sPar, ws_sSub, ws_sForE, wr_callM, List.getElem?_cons_zero, List.getElem?_cons_succ, List.set_cons_zero, List.set_cons_succ, List.map_cons, List.map_nil, List.length_cons, List.length_nil, List.cons_append, List.nil_append, List.replicate, List.append_nil, addM_i, subM_i, negM_i, cmpM_i, eqM_i, eqM_s, neM_i, neM_s, absM_i, intM_i, intM_b, max2M_i, min2M_i, lenM_t, lenM_l, lenM_r, tupM_ap, lstM_ap, strM_s, truB_b, isBl_b, newM_ap, Nat.reduceLeDiff, seqL_l, seqT_t, isNM_n, isNM_i, wr_eLc, wr_eSl, wr_oN, wr_oI, intO_i, seqA_l, seqA_r, seqA_t, listM_t, listM_l, slM_t, slM_l, ws_sMatch, ws_mcNil, ws_mcAny, ws_mcVal, if_true, if_false, Bool.false_eq_true, Bool.not_true, Bool.not_false, Nat.reduceSub, Nat.reduceAdd, Nat.zero_add, eq_self, and_self, and_true, true_and, gN]
      have t2 : eLam mL__law_caught (eCallK m_read_pixel gD_read_pixel_0_text lNil (lCons (eVar 0) lNil)) [some d, some (dueT d), w] μ' = _ := told_t h (by
        rw [eCallK_ap]
        simp only [lCons_ap, eVar_ap, lNil_ap, List.map_cons, List.getElem?_cons_zero, k0]
        rfl)
      simp only [t2, wr_ok, eq_dT]
      try simp only [wr_eVar, wr_eC, wr_e2, wr_e1, wr_eL, wr_eCall, wr_eCallK, wr_eLL, wr_eSeq, wr_lNil, wr_lCons, wr_bTru, wr_bOf, wr_bNot, wr_bAnd, wr_bOr, wr_isBl, wr_eAnd, wr_eOr, wr_eNot, wr_eIf, wr_e3c, wr_ok, wr_exc, ws_sNext, ws_sSeq, ws_sSet, ws_sDrop, ws_sRet, ws_sRetN, ws_sBrk, ws_sCnt, ws_sIf, ws_sAsg, ws_sPar, ws_sSub, ws_sForE, wr_callM, List.getElem?_cons_zero, List.getElem?_cons_succ, List.set_cons_zero, List.set_cons_succ, List.map_cons, List.map_nil, List.length_cons, List.length_nil, List.cons_append, List.nil_append, List.replicate, List.append_nil, addM_i, subM_i, negM_i, cmpM_i, eqM_i, eqM_s, neM_i, neM_s, absM_i, intM_i, intM_b, max2M_i, min2M_i, lenM_t, lenM_l, lenM_r, tupM_ap, lstM_ap, strM_s, truB_b, isBl_b, newM_ap, Nat.reduceLeDiff, seqL_l, seqT_t, isNM_n, isNM_i, wr_eLc, wr_eSl, wr_oN, wr_oI, intO_i, seqA_l, seqA_r, seqA_t, listM_t, listM_l, slM_t, slM_l, ws_sMatch, ws_mcNil, ws_mcAny, ws_mcVal, if_true, if_false, Bool.false_eq_true, Bool.not_true, Bool.not_false, Nat.reduceSub, Nat.reduceAdd, Nat.zero_add, eq_self, and_self, and_true, true_and, gN]
  unfold m__law_text_right b__law_text_right
  try simp only [wr_eVar, wr_eC, wr_e2, wr_e1, wr_eL, wr_eCall, wr_eCallK, wr_eLL, wr_eSeq, wr_lNil, wr_lCons, wr_bTru, wr_bOf, wr_bNot, wr_bAnd, wr_bOr, wr_isBl, wr_eAnd, wr_eOr, wr_eNot, wr_eIf, wr_e3c, wr_ok, wr_exc, ws_sNext, ws_sSeq, ws_sSet, ws_sDrop, ws_sRet, ws_sRetN, ws_sBrk, ws_sCnt, ws_sIf, ws_sAsg, ws_sPar, ws_sSub, ws_sForE, wr_callM, List.getElem?_cons_zero, List.getElem?_cons_succ, List.set_cons_zero, List.set_cons_succ, List.map_cons, List.map_nil, List.length_cons, List.length_nil, List.cons_append, List.nil_append, List.replicate, List.append_nil, addM_i, subM_i, negM_i, cmpM_i, eqM_i, eqM_s, neM_i, neM_s, absM_i, intM_i, intM_b, max2M_i, min2M_i, lenM_t, lenM_l, lenM_r, tupM_ap, lstM_ap, strM_s, truB_b, isBl_b, newM_ap, Nat.reduceLeDiff, seqL_l, seqT_t, isNM_n, isNM_i, wr_eLc, wr_eSl, wr_oN, wr_oI, intO_i, seqA_l, seqA_r, seqA_t, listM_t, listM_l, slM_t, slM_l, ws_sMatch, ws_mcNil, ws_mcAny, ws_mcVal, if_true, if_false, Bool.false_eq_true, Bool.not_true, Bool.not_false, Nat.reduceSub, Nat.reduceAdd, Nat.zero_add, eq_self, and_self, and_true, true_and, gN]
  simp only [isi_str h.pl, wr_ok]
  try simp only [wr_eVar, wr_eC, wr_e2, wr_e1, wr_eL, wr_eCall, wr_eCallK, wr_eLL, wr_eSeq, wr_lNil, wr_lCons, wr_bTru, wr_bOf, wr_bNot, wr_bAnd, wr_bOr, wr_isBl, wr_eAnd, wr_eOr, wr_eNot, wr_eIf, wr_e3c, wr_ok, wr_exc, ws_sNext, ws_sSeq, ws_sSet, ws_sDrop, ws_sRet, ws_sRetN, ws_sBrk, ws_sCnt, ws_sIf, ws_sAsg, ws_sPar, ws_sSub, ws_sForE, wr_callM, List.getElem?_cons_zero, List.getElem?_cons_succ, List.set_cons_zero, List.set_cons_succ, List.map_cons, List.map_nil, List.length_cons, List.length_nil, List.cons_append, List.nil_append, List.replicate, List.append_nil, addM_i, subM_i, negM_i, cmpM_i, eqM_i, eqM_s, neM_i, neM_s, absM_i, intM_i, intM_b, max2M_i, min2M_i, lenM_t, lenM_l, lenM_r, tupM_ap, lstM_ap, strM_s, truB_b, isBl_b, newM_ap, Nat.reduceLeDiff, seqL_l, seqT_t, isNM_n, isNM_i, wr_eLc, wr_eSl, wr_oN, wr_oI, intO_i, seqA_l, seqA_r, seqA_t, listM_t, listM_l, slM_t, slM_l, ws_sMatch, ws_mcNil, ws_mcAny, ws_mcVal, if_true, if_false, Bool.false_eq_true, Bool.not_true, Bool.not_false, Nat.reduceSub, Nat.reduceAdd, Nat.zero_add, eq_self, and_self, and_true, true_and, gN]
  have second : ∀ (x : D), (x = rpD (rpS d)) → ws (t__law_text_right_2 [some d, some x, none] μ) (fun _ μ' => D.non = D.bl true ∧ μ' = μ) (fun d μ' => d = .bl true ∧ μ' = μ) (fun _ _ => False) (fun _ _ => False) (fun _ _ => False) := by
    intro x hx
    subst hx
    unfold t__law_text_right_2
    try simp only [wr_eVar, wr_eC, wr_e2, wr_e1, wr_eL, wr_eCall, wr_eCallK, wr_eLL, wr_eSeq, wr_lNil, wr_lCons, wr_bTru, wr_bOf, wr_bNot, wr_bAnd, wr_bOr, wr_isBl, wr_eAnd, wr_eOr, wr_eNot, wr_eIf, wr_e3c, wr_ok, wr_exc, ws_sNext, ws_sSeq, ws_sSet, ws_sDrop, ws_sRet, ws_sRetN, ws_sBrk, ws_sCnt, ws_sIf, ws_sAsg, ws_sPar, ws_sSub, ws_sForE, wr_callM, List.getElem?_cons_zero, List.getElem?_cons_succ, List.set_cons_zero, List.set_cons_succ, List.map_cons, List.map_nil, List.length_cons, List.length_nil, List.cons_append, List.nil_append, List.replicate, List.append_nil, addM_i, subM_i, negM_i, cmpM_i, eqM_i, eqM_s, neM_i, neM_s, absM_i, intM_i, intM_b, max2M_i, min2M_i, lenM_t, lenM_l, lenM_r, tupM_ap, lstM_ap, strM_s, truB_b, isBl_b, newM_ap, Nat.reduceLeDiff, seqL_l, seqT_t, isNM_n, isNM_i, wr_eLc, wr_eSl, wr_oN, wr_oI, intO_i, seqA_l, seqA_r, seqA_t, listM_t, listM_l, slM_t, slM_l, ws_sMatch, ws_mcNil, ws_mcAny, ws_mcVal, if_true, if_false, Bool.false_eq_true, Bool.not_true, Bool.not_false, Nat.reduceSub, Nat.reduceAdd, Nat.zero_add, eq_self, and_self, and_true, true_and, gN]
    have f := fin none
    unfold dueT at f
    cases q : rpS d with
    | none =>
      rw [q] at f
      simp only [rpD]
      try simp only [wr_eVar, wr_eC, wr_e2, wr_e1, wr_eL, wr_eCall, wr_eCallK, wr_eLL, wr_eSeq, wr_lNil, wr_lCons, wr_bTru, wr_bOf, wr_bNot, wr_bAnd, wr_bOr, wr_isBl, wr_eAnd, wr_eOr, wr_eNot, wr_eIf, wr_e3c, wr_ok, wr_exc, ws_sNext, ws_sSeq, ws_sSet, ws_sDrop, ws_sRet, ws_sRetN, ws_sBrk, ws_sCnt, ws_sIf, ws_sAsg, ws_sPar, ws_sSub, ws_sForE, wr_callM, List.getElem?_cons_zero, List.getElem?_cons_succ, List.set_cons_zero, List.set_cons_succ, List.map_cons, List.map_nil, List.length_cons, List.length_nil, List.cons_append, List.nil_append, List.replicate, List.append_nil, addM_i, subM_i, negM_i, cmpM_i, eqM_i, eqM_s, neM_i, neM_s, absM_i, intM_i, intM_b, max2M_i, min2M_i, lenM_t, lenM_l, lenM_r, tupM_ap, lstM_ap, strM_s, truB_b, isBl_b, newM_ap, Nat.reduceLeDiff, seqL_l, seqT_t, isNM_n, isNM_i, wr_eLc, wr_eSl, wr_oN, wr_oI, intO_i, seqA_l, seqA_r, seqA_t, listM_t, listM_l, slM_t, slM_l, ws_sMatch, ws_mcNil, ws_mcAny, ws_mcVal, if_true, if_false, Bool.false_eq_true, Bool.not_true, Bool.not_false, Nat.reduceSub, Nat.reduceAdd, Nat.zero_add, eq_self, and_self, and_true, true_and, gN]
      simp only [reprM_ap h.sh, wr_ok]
      try simp only [wr_eVar, wr_eC, wr_e2, wr_e1, wr_eL, wr_eCall, wr_eCallK, wr_eLL, wr_eSeq, wr_lNil, wr_lCons, wr_bTru, wr_bOf, wr_bNot, wr_bAnd, wr_bOr, wr_isBl, wr_eAnd, wr_eOr, wr_eNot, wr_eIf, wr_e3c, wr_ok, wr_exc, ws_sNext, ws_sSeq, ws_sSet, ws_sDrop, ws_sRet, ws_sRetN, ws_sBrk, ws_sCnt, ws_sIf, ws_sAsg, ws_sPar, ws_sSub, ws_sForE, wr_callM, List.getElem?_cons_zero, List.getElem?_cons_succ, List.set_cons_zero, List.set_cons_succ, List.map_cons, List.map_nil, List.length_cons, List.length_nil, List.cons_append, List.nil_append, List.replicate, List.append_nil, addM_i, subM_i, negM_i, cmpM_i, eqM_i, eqM_s, neM_i, neM_s, absM_i, intM_i, intM_b, max2M_i, min2M_i, lenM_t, lenM_l, lenM_r, tupM_ap, lstM_ap, strM_s, truB_b, isBl_b, newM_ap, Nat.reduceLeDiff, seqL_l, seqT_t, isNM_n, isNM_i, wr_eLc, wr_eSl, wr_oN, wr_oI, intO_i, seqA_l, seqA_r, seqA_t, listM_t, listM_l, slM_t, slM_l, ws_sMatch, ws_mcNil, ws_mcAny, ws_mcVal, if_true, if_false, Bool.false_eq_true, Bool.not_true, Bool.not_false, Nat.reduceSub, Nat.reduceAdd, Nat.zero_add, eq_self, and_self, and_true, true_and, gN]
      exact f
    | some tb =>
      rw [q] at f
      have n1 : ∀ μ, isNM (rpD (some tb)) .non μ = .ok (.bl false) μ := fun _ => rfl
      simp only [n1, wr_ok]
      try simp only [wr_eVar, wr_eC, wr_e2, wr_e1, wr_eL, wr_eCall, wr_eCallK, wr_eLL, wr_eSeq, wr_lNil, wr_lCons, wr_bTru, wr_bOf, wr_bNot, wr_bAnd, wr_bOr, wr_isBl, wr_eAnd, wr_eOr, wr_eNot, wr_eIf, wr_e3c, wr_ok, wr_exc, ws_sNext, ws_sSeq, ws_sSet, ws_sDrop, ws_sRet, ws_sRetN, ws_sBrk, ws_sCnt, ws_sIf, ws_sAsg, ws_sPar, ws_sSub, ws_sForE, wr_callM, List.getElem?_cons_zero, List.getElem?_cons_succ, List.set_cons_zero, List.set_cons_succ, List.map_cons, List.map_nil, List.length_cons, List.length_nil, List.cons_append, List.nil_append, List.replicate, List.append_nil, addM_i, subM_i, negM_i, cmpM_i, eqM_i, eqM_s, neM_i, neM_s, absM_i, intM_i, intM_b, max2M_i, min2M_i, lenM_t, lenM_l, lenM_r, tupM_ap, lstM_ap, strM_s, truB_b, isBl_b, newM_ap, Nat.reduceLeDiff, seqL_l, seqT_t, isNM_n, isNM_i, wr_eLc, wr_eSl, wr_oN, wr_oI, intO_i, seqA_l, seqA_r, seqA_t, listM_t, listM_l, slM_t, slM_l, ws_sMatch, ws_mcNil, ws_mcAny, ws_mcVal, if_true, if_false, Bool.false_eq_true, Bool.not_true, Bool.not_false, Nat.reduceSub, Nat.reduceAdd, Nat.zero_add, eq_self, and_self, and_true, true_and, gN]
      simp only [reprM_ap (rpS_sh h q), wr_ok]
      try simp only [wr_eVar, wr_eC, wr_e2, wr_e1, wr_eL, wr_eCall, wr_eCallK, wr_eLL, wr_eSeq, wr_lNil, wr_lCons, wr_bTru, wr_bOf, wr_bNot, wr_bAnd, wr_bOr, wr_isBl, wr_eAnd, wr_eOr, wr_eNot, wr_eIf, wr_e3c, wr_ok, wr_exc, ws_sNext, ws_sSeq, ws_sSet, ws_sDrop, ws_sRet, ws_sRetN, ws_sBrk, ws_sCnt, ws_sIf, ws_sAsg, ws_sPar, ws_sSub, ws_sForE, wr_callM, List.getElem?_cons_zero, List.getElem?_cons_succ, List.set_cons_zero, List.set_cons_succ, List.map_cons, List.map_nil, List.length_cons, List.length_nil, List.cons_append, List.nil_append, List.replicate, List.append_nil, addM_i, subM_i, negM_i, cmpM_i, eqM_i, eqM_s, neM_i, neM_s, absM_i, intM_i, intM_b, max2M_i, min2M_i, lenM_t, lenM_l, lenM_r, tupM_ap, lstM_ap, strM_s, truB_b, isBl_b, newM_ap, Nat.reduceLeDiff, seqL_l, seqT_t, isNM_n, isNM_i, wr_eLc, wr_eSl, wr_oN, wr_oI, intO_i, seqA_l, seqA_r, seqA_t, listM_t, listM_l, slM_t, slM_l, ws_sMatch, ws_mcNil, ws_mcAny, ws_mcVal, if_true, if_false, Bool.false_eq_true, Bool.not_true, Bool.not_false, Nat.reduceSub, Nat.reduceAdd, Nat.zero_add, eq_self, and_self, and_true, true_and, gN]
      exact f
  cases qs : isS d with
  | true =>
    have hr : m__law_reading [d] μ = .ok (rpD (rpS d)) μ := by
      obtain ⟨x, rfl⟩ := is_str qs
      have ex : x = S x.cps.toList := (S_tl x).symm
      have := reading_v (μ := μ) (a := x.cps.toList) (by simpa [Str.length] using h.len x rfl)
      rw [← ex] at this
      exact this
    have sec := second _ rfl
    clear second fin
    try simp only [wr_eVar, wr_eC, wr_e2, wr_e1, wr_eL, wr_eCall, wr_eCallK, wr_eLL, wr_eSeq, wr_lNil, wr_lCons, wr_bTru, wr_bOf, wr_bNot, wr_bAnd, wr_bOr, wr_isBl, wr_eAnd, wr_eOr, wr_eNot, wr_eIf, wr_e3c, wr_ok, wr_exc, ws_sNext, ws_sSeq, ws_sSet, ws_sDrop, ws_sRet, ws_sRetN, ws_sBrk, ws_sCnt, ws_sIf, ws_sAsg, ws_sPar, ws_sSub, ws_sForE, wr_callM, List.getElem?_cons_zero, List.getElem?_cons_succ, List.set_cons_zero, List.set_cons_succ, List.map_cons, List.map_nil, List.length_cons, List.length_nil, List.cons_append, List.nil_append, List.replicate, List.append_nil, addM_i, subM_i, negM_i, cmpM_i, eqM_i, eqM_s, neM_i, neM_s, absM_i, intM_i, intM_b, max2M_i, min2M_i, lenM_t, lenM_l, lenM_r, tupM_ap, lstM_ap, strM_s, truB_b, isBl_b, newM_ap, Nat.reduceLeDiff, seqL_l, seqT_t, isNM_n, isNM_i, wr_eLc, wr_eSl, wr_oN, wr_oI, intO_i, seqA_l, seqA_r, seqA_t, listM_t, listM_l, slM_t, slM_l, ws_sMatch, ws_mcNil, ws_mcAny, ws_mcVal, if_true, if_false, Bool.false_eq_true, Bool.not_true, Bool.not_false, Nat.reduceSub, Nat.reduceAdd, Nat.zero_add, eq_self, and_self, and_true, true_and, gN]
    rw [hr]
    try simp only [wr_eVar, wr_eC, wr_e2, wr_e1, wr_eL, wr_eCall, wr_eCallK, wr_eLL, wr_eSeq, wr_lNil, wr_lCons, wr_bTru, wr_bOf, wr_bNot, wr_bAnd, wr_bOr, wr_isBl, wr_eAnd, wr_eOr, wr_eNot, wr_eIf, wr_e3c, wr_ok, wr_exc, ws_sNext, ws_sSeq, ws_sSet, ws_sDrop, ws_sRet, ws_sRetN, ws_sBrk, ws_sCnt, ws_sIf, ws_sAsg, ws_sPar, ws_sSub, ws_sForE, wr_callM, List.getElem?_cons_zero, List.getElem?_cons_succ, List.set_cons_zero, List.set_cons_succ, List.map_cons, List.map_nil, List.length_cons, List.length_nil, List.cons_append, List.nil_append, List.replicate, List.append_nil, addM_i, subM_i, negM_i, cmpM_i, eqM_i, eqM_s, neM_i, neM_s, absM_i, intM_i, intM_b, max2M_i, min2M_i, lenM_t, lenM_l, lenM_r, tupM_ap, lstM_ap, strM_s, truB_b, isBl_b, newM_ap, Nat.reduceLeDiff, seqL_l, seqT_t, isNM_n, isNM_i, wr_eLc, wr_eSl, wr_oN, wr_oI, intO_i, seqA_l, seqA_r, seqA_t, listM_t, listM_l, slM_t, slM_l, ws_sMatch, ws_mcNil, ws_mcAny, ws_mcVal, if_true, if_false, Bool.false_eq_true, Bool.not_true, Bool.not_false, Nat.reduceSub, Nat.reduceAdd, Nat.zero_add, eq_self, and_self, and_true, true_and, gN]
    exact sec
  | false =>
    have sec := second _ (rd_non qs).symm
    clear second fin
    try simp only [wr_eVar, wr_eC, wr_e2, wr_e1, wr_eL, wr_eCall, wr_eCallK, wr_eLL, wr_eSeq, wr_lNil, wr_lCons, wr_bTru, wr_bOf, wr_bNot, wr_bAnd, wr_bOr, wr_isBl, wr_eAnd, wr_eOr, wr_eNot, wr_eIf, wr_e3c, wr_ok, wr_exc, ws_sNext, ws_sSeq, ws_sSet, ws_sDrop, ws_sRet, ws_sRetN, ws_sBrk, ws_sCnt, ws_sIf, ws_sAsg, ws_sPar, ws_sSub, ws_sForE, wr_callM, List.getElem?_cons_zero, List.getElem?_cons_succ, List.set_cons_zero, List.set_cons_succ, List.map_cons, List.map_nil, List.length_cons, List.length_nil, List.cons_append, List.nil_append, List.replicate, List.append_nil, addM_i, subM_i, negM_i, cmpM_i, eqM_i, eqM_s, neM_i, neM_s, absM_i, intM_i, intM_b, max2M_i, min2M_i, lenM_t, lenM_l, lenM_r, tupM_ap, lstM_ap, strM_s, truB_b, isBl_b, newM_ap, Nat.reduceLeDiff, seqL_l, seqT_t, isNM_n, isNM_i, wr_eLc, wr_eSl, wr_oN, wr_oI, intO_i, seqA_l, seqA_r, seqA_t, listM_t, listM_l, slM_t, slM_l, ws_sMatch, ws_mcNil, ws_mcAny, ws_mcVal, if_true, if_false, Bool.false_eq_true, Bool.not_true, Bool.not_false, Nat.reduceSub, Nat.reduceAdd, Nat.zero_add, eq_self, and_self, and_true, true_and, gN]
    exact sec
end
end Zk05
namespace Zk05
open PySem PySem.Spec PyProof.Rows L2 SE SX
section
variable {μ : Mem}
theorem wr_exq {α : Type} {r : Res α} {e : Ex} (h : wr r (fun _ _ => False) (fun x μ' => x = e ∧ μ' = μ)) : r = .exc e μ := by
  cases r with
  | ok x μ' => exact h.elim
  | exc x μ' => obtain ⟨rfl, rfl⟩ := h; rfl
  | bad => exact h.elim
theorem ckp_ok {d : D} (h : sm5 d = true) (q : pix d = true) : m_check_pixel [d] μ = .ok .non μ := by
  refine wr_eq.mp ?_
  unfold m_check_pixel b_check_pixel
  try simp only [wr_eVar, wr_eC, wr_e2, wr_e1, wr_eL, wr_eCall, wr_eCallK, wr_eLL, wr_eSeq, wr_lNil, wr_lCons, wr_bTru, wr_bOf, wr_bNot, wr_bAnd, wr_bOr, wr_isBl, wr_eAnd, wr_eOr, wr_eNot, wr_eIf, wr_e3c, wr_ok, wr_exc, ws_sNext, ws_sSeq, ws_sSet, ws_sDrop, ws_sRet, ws_sRetN, ws_sBrk, ws_sCnt, ws_sIf, ws_sAsg, ws_sPar, ws_sSub, ws_sForE, wr_callM, List.getElem?_cons_zero, List.getElem?_cons_succ, List.set_cons_zero, List.set_cons_succ, List.map_cons, List.map_nil, List.length_cons, List.length_nil, List.cons_append, List.nil_append, List.replicate, List.append_nil, addM_i, subM_i, negM_i, cmpM_i, eqM_i, eqM_s, neM_i, neM_s, absM_i, intM_i, intM_b, max2M_i, min2M_i, lenM_t, lenM_l, lenM_r, tupM_ap, lstM_ap, strM_s, truB_b, isBl_b, newM_ap, Nat.reduceLeDiff, seqL_l, seqT_t, isNM_n, isNM_i, if_true, if_false, Bool.false_eq_true, Bool.not_true, Bool.not_false, Nat.reduceSub, Nat.reduceAdd, Nat.zero_add, eq_self, and_self, and_true, true_and, gN]
  rw [pixel_v h, q]
  try simp only [wr_eVar, wr_eC, wr_e2, wr_e1, wr_eL, wr_eCall, wr_eCallK, wr_eLL, wr_eSeq, wr_lNil, wr_lCons, wr_bTru, wr_bOf, wr_bNot, wr_bAnd, wr_bOr, wr_isBl, wr_eAnd, wr_eOr, wr_eNot, wr_eIf, wr_e3c, wr_ok, wr_exc, ws_sNext, ws_sSeq, ws_sSet, ws_sDrop, ws_sRet, ws_sRetN, ws_sBrk, ws_sCnt, ws_sIf, ws_sAsg, ws_sPar, ws_sSub, ws_sForE, wr_callM, List.getElem?_cons_zero, List.getElem?_cons_succ, List.set_cons_zero, List.set_cons_succ, List.map_cons, List.map_nil, List.length_cons, List.length_nil, List.cons_append, List.nil_append, List.replicate, List.append_nil, addM_i, subM_i, negM_i, cmpM_i, eqM_i, eqM_s, neM_i, neM_s, absM_i, intM_i, intM_b, max2M_i, min2M_i, lenM_t, lenM_l, lenM_r, tupM_ap, lstM_ap, strM_s, truB_b, isBl_b, newM_ap, Nat.reduceLeDiff, seqL_l, seqT_t, isNM_n, isNM_i, if_true, if_false, Bool.false_eq_true, Bool.not_true, Bool.not_false, Nat.reduceSub, Nat.reduceAdd, Nat.zero_add, eq_self, and_self, and_true, true_and, gN]
theorem ckp_no {d : D} (h : sm5 d = true) (q : pix d = false) : m_check_pixel [d] μ = .exc ⟨"InvalidPixel", [("value", d)]⟩ μ := by
  refine wr_exq ?_
  unfold m_check_pixel b_check_pixel
  try simp only [wr_eVar, wr_eC, wr_e2, wr_e1, wr_eL, wr_eCall, wr_eCallK, wr_eLL, wr_eSeq, wr_lNil, wr_lCons, wr_bTru, wr_bOf, wr_bNot, wr_bAnd, wr_bOr, wr_isBl, wr_eAnd, wr_eOr, wr_eNot, wr_eIf, wr_e3c, wr_ok, wr_exc, ws_sNext, ws_sSeq, ws_sSet, ws_sDrop, ws_sRet, ws_sRetN, ws_sBrk, ws_sCnt, ws_sIf, ws_sAsg, ws_sPar, ws_sSub, ws_sForE, wr_callM, List.getElem?_cons_zero, List.getElem?_cons_succ, List.set_cons_zero, List.set_cons_succ, List.map_cons, List.map_nil, List.length_cons, List.length_nil, List.cons_append, List.nil_append, List.replicate, List.append_nil, addM_i, subM_i, negM_i, cmpM_i, eqM_i, eqM_s, neM_i, neM_s, absM_i, intM_i, intM_b, max2M_i, min2M_i, lenM_t, lenM_l, lenM_r, tupM_ap, lstM_ap, strM_s, truB_b, isBl_b, newM_ap, Nat.reduceLeDiff, seqL_l, seqT_t, isNM_n, isNM_i, if_true, if_false, Bool.false_eq_true, Bool.not_true, Bool.not_false, Nat.reduceSub, Nat.reduceAdd, Nat.zero_add, eq_self, and_self, and_true, true_and, gN]
  rw [pixel_v h, q]
  try simp only [wr_eVar, wr_eC, wr_e2, wr_e1, wr_eL, wr_eCall, wr_eCallK, wr_eLL, wr_eSeq, wr_lNil, wr_lCons, wr_bTru, wr_bOf, wr_bNot, wr_bAnd, wr_bOr, wr_isBl, wr_eAnd, wr_eOr, wr_eNot, wr_eIf, wr_e3c, wr_ok, wr_exc, ws_sNext, ws_sSeq, ws_sSet, ws_sDrop, ws_sRet, ws_sRetN, ws_sBrk, ws_sCnt, ws_sIf, ws_sAsg, ws_sPar, ws_sSub, ws_sForE, wr_callM, List.getElem?_cons_zero, List.getElem?_cons_succ, List.set_cons_zero, List.set_cons_succ, List.map_cons, List.map_nil, List.length_cons, List.length_nil, List.cons_append, List.nil_append, List.replicate, List.append_nil, addM_i, subM_i, negM_i, cmpM_i, eqM_i, eqM_s, neM_i, neM_s, absM_i, intM_i, intM_b, max2M_i, min2M_i, lenM_t, lenM_l, lenM_r, tupM_ap, lstM_ap, strM_s, truB_b, isBl_b, newM_ap, Nat.reduceLeDiff, seqL_l, seqT_t, isNM_n, isNM_i, if_true, if_false, Bool.false_eq_true, Bool.not_true, Bool.not_false, Nat.reduceSub, Nat.reduceAdd, Nat.zero_add, eq_self, and_self, and_true, true_and, gN]
  simp only [ws_sRaise]
  try simp only [wr_eVar, wr_eC, wr_e2, wr_e1, wr_eL, wr_eCall, wr_eCallK, wr_eLL, wr_eSeq, wr_lNil, wr_lCons, wr_bTru, wr_bOf, wr_bNot, wr_bAnd, wr_bOr, wr_isBl, wr_eAnd, wr_eOr, wr_eNot, wr_eIf, wr_e3c, wr_ok, wr_exc, ws_sNext, ws_sSeq, ws_sSet, ws_sDrop, ws_sRet, ws_sRetN, ws_sBrk, ws_sCnt, ws_sIf, ws_sAsg, ws_sPar, ws_sSub, ws_sForE, wr_callM, List.getElem?_cons_zero, List.getElem?_cons_succ, List.set_cons_zero, List.set_cons_succ, List.map_cons, List.map_nil, List.length_cons, List.length_nil, List.cons_append, List.nil_append, List.replicate, List.append_nil, addM_i, subM_i, negM_i, cmpM_i, eqM_i, eqM_s, neM_i, neM_s, absM_i, intM_i, intM_b, max2M_i, min2M_i, lenM_t, lenM_l, lenM_r, tupM_ap, lstM_ap, strM_s, truB_b, isBl_b, newM_ap, Nat.reduceLeDiff, seqL_l, seqT_t, isNM_n, isNM_i, if_true, if_false, Bool.false_eq_true, Bool.not_true, Bool.not_false, Nat.reduceSub, Nat.reduceAdd, Nat.zero_add, eq_self, and_self, and_true, true_and, gN]
theorem add_S {x y : List Nat} (hx : x.length ≤ 5000) (hy : y.length ≤ 5000) : addM (.str (S x)) (.str (S y)) μ = .ok (.str (S (x ++ y))) μ := by
  rw [addM_s (by rw [S_len, S_len]; omega), S_cat]
theorem tx_len {t b : Int} (ht : t.natAbs < 2 ^ 250) (hb : b.natAbs < 2 ^ 250) : (tx t b).length ≤ 3900 := by
  have := num_len ht
  have := num_len hb
  unfold tx
  split
  · omega
  · simp only [List.length_append, List.length_cons]
    omega
/-- a share as it is drawn -/
structure Sh (B a b : Int) : Prop where
  b1 : 1 ≤ b
  g : Int.gcd a b = 1
  a0 : 0 ≤ a
  ab : a ≤ b
  bB : b ≤ B
theorem Sh.mono {B C a b : Int} (h : Sh B a b) (w : B ≤ C) : Sh C a b := ⟨h.b1, h.g, h.a0, h.ab, by have := h.bB; omega⟩
theorem Sh.rat {B a b : Int} (h : Sh B a b) : rat (.tup [.int a, .int b]) = true := by
  show (decide (1 ≤ b) && decide (Int.gcd a b = 1)) = true
  rw [decide_eq_true h.b1, decide_eq_true h.g]
  rfl
theorem Sh.shr {B a b : Int} (h : Sh B a b) : shr (.tup [.int a, .int b]) = true := by
  show (decide (1 ≤ b) && decide (Int.gcd a b = 1) && (decide (0 ≤ a) && decide (a ≤ b))) = true
  rw [decide_eq_true h.b1, decide_eq_true h.g, decide_eq_true h.a0, decide_eq_true h.ab]
  rfl
theorem B75 : (10 : Nat) ^ 75 = 1000000000000000000000000000000000000000000000000000000000000000000000000000 := by decide
theorem Sh.lt {B a b : Int} (h : Sh B a b) (hB : B ≤ 1000000000000000000000000) : a.natAbs < 10 ^ 75 ∧ b.natAbs < 10 ^ 75 := by
  obtain ⟨b1, _, a0, ab, bB⟩ := h
  have := B75
  omega
def pxT (a b c e : Int) : List Nat := tx a b ++ 58 :: tx c e
theorem sm5_i {i : Int} (h : i.natAbs < 10 ^ 75) : sm5 (.int i) = true := decide_eq_true h
theorem sm5_t2 {x y : D} (hx : sm5 x = true) (hy : sm5 y = true) : sm5 (.tup [x, y]) = true := by
  show (sm5 x && (sm5 y && true)) = true
  rw [hx, hy]
  rfl
theorem text_v {B a b c e : Int} (hB : B ≤ 1000000000000000000000000) (h1 : Sh B a b) (h2 : Sh B c e) (hp : pix (.tup [.tup [.int a, .int b], .tup [.int c, .int e]]) = true) :
    m_pixel_text [.tup [.tup [.int a, .int b], .tup [.int c, .int e]]] μ = .ok (.str (S (pxT a b c e))) μ := by
  have l1 := h1.lt hB
  have l2 := h2.lt hB
  have n1 := tx_len (lt75 l1.1) (lt75 l1.2)
  have n2 := tx_len (lt75 l2.1) (lt75 l2.2)
  have sm : sm5 (.tup [.tup [.int a, .int b], .tup [.int c, .int e]]) = true := sm5_t2 (sm5_t2 (sm5_i l1.1) (sm5_i l1.2)) (sm5_t2 (sm5_i l2.1) (sm5_i l2.2))
  refine wr_eq.mp ?_
  unfold m_pixel_text b_pixel_text
  try simp only [wr_eVar, wr_eC, wr_e2, wr_e1, wr_eL, wr_eCall, wr_eCallK, wr_eLL, wr_eSeq, wr_lNil, wr_lCons, wr_bTru, wr_bOf, wr_bNot, wr_bAnd, wr_bOr, wr_isBl, wr_eAnd, wr_eOr, wr_eNot, wr_eIf, wr_e3c, wr_ok, wr_exc, ws_sNext, ws_sSeq, ws_sSet, ws_sDrop, ws_sRet, ws_sRetN, ws_sBrk, ws_sCnt, ws_sIf, ws_sAsg, ws_sPar, ws_sSub, ws_sForE, wr_callM, List.getElem?_cons_zero, List.getElem?_cons_succ, List.set_cons_zero, List.set_cons_succ, List.map_cons, List.map_nil, List.length_cons, List.length_nil, List.cons_append, List.nil_append, List.replicate, List.append_nil, addM_i, subM_i, negM_i, cmpM_i, eqM_i, eqM_s, neM_i, neM_s, absM_i, intM_i, intM_b, max2M_i, min2M_i, lenM_t, lenM_l, lenM_r, tupM_ap, lstM_ap, strM_s, truB_b, isBl_b, newM_ap, Nat.reduceLeDiff, seqL_l, seqT_t, isNM_n, isNM_i, wr_eLc, wr_eSl, wr_oN, wr_oI, intO_i, seqA_l, seqA_r, seqA_t, listM_t, listM_l, slM_t, slM_l, ws_sMatch, ws_mcNil, ws_mcAny, ws_mcVal, if_true, if_false, Bool.false_eq_true, Bool.not_true, Bool.not_false, Nat.reduceSub, Nat.reduceAdd, Nat.zero_add, eq_self, and_self, and_true, true_and, gN]
  rw [ckp_ok sm hp]
  try simp only [wr_eVar, wr_eC, wr_e2, wr_e1, wr_eL, wr_eCall, wr_eCallK, wr_eLL, wr_eSeq, wr_lNil, wr_lCons, wr_bTru, wr_bOf, wr_bNot, wr_bAnd, wr_bOr, wr_isBl, wr_eAnd, wr_eOr, wr_eNot, wr_eIf, wr_e3c, wr_ok, wr_exc, ws_sNext, ws_sSeq, ws_sSet, ws_sDrop, ws_sRet, ws_sRetN, ws_sBrk, ws_sCnt, ws_sIf, ws_sAsg, ws_sPar, ws_sSub, ws_sForE, wr_callM, List.getElem?_cons_zero, List.getElem?_cons_succ, List.set_cons_zero, List.set_cons_succ, List.map_cons, List.map_nil, List.length_cons, List.length_nil, List.cons_append, List.nil_append, List.replicate, List.append_nil, addM_i, subM_i, negM_i, cmpM_i, eqM_i, eqM_s, neM_i, neM_s, absM_i, intM_i, intM_b, max2M_i, min2M_i, lenM_t, lenM_l, lenM_r, tupM_ap, lstM_ap, strM_s, truB_b, isBl_b, newM_ap, Nat.reduceLeDiff, seqL_l, seqT_t, isNM_n, isNM_i, wr_eLc, wr_eSl, wr_oN, wr_oI, intO_i, seqA_l, seqA_r, seqA_t, listM_t, listM_l, slM_t, slM_l, ws_sMatch, ws_mcNil, ws_mcAny, ws_mcVal, if_true, if_false, Bool.false_eq_true, Bool.not_true, Bool.not_false, Nat.reduceSub, Nat.reduceAdd, Nat.zero_add, eq_self, and_self, and_true, true_and, gN]
  unfold t_pixel_text_0
  try simp only [wr_eVar, wr_eC, wr_e2, wr_e1, wr_eL, wr_eCall, wr_eCallK, wr_eLL, wr_eSeq, wr_lNil, wr_lCons, wr_bTru, wr_bOf, wr_bNot, wr_bAnd, wr_bOr, wr_isBl, wr_eAnd, wr_eOr, wr_eNot, wr_eIf, wr_e3c, wr_ok, wr_exc, ws_sNext, ws_sSeq, ws_sSet, ws_sDrop, ws_sRet, ws_sRetN, ws_sBrk, ws_sCnt, ws_sIf, ws_sAsg, ws_sPar, ws_sSub, ws_sForE, wr_callM, List.getElem?_cons_zero, List.getElem?_cons_succ, List.set_cons_zero, List.set_cons_succ, List.map_cons, List.map_nil, List.length_cons, List.length_nil, List.cons_append, List.nil_append, List.replicate, List.append_nil, addM_i, subM_i, negM_i, cmpM_i, eqM_i, eqM_s, neM_i, neM_s, absM_i, intM_i, intM_b, max2M_i, min2M_i, lenM_t, lenM_l, lenM_r, tupM_ap, lstM_ap, strM_s, truB_b, isBl_b, newM_ap, Nat.reduceLeDiff, seqL_l, seqT_t, isNM_n, isNM_i, wr_eLc, wr_eSl, wr_oN, wr_oI, intO_i, seqA_l, seqA_r, seqA_t, listM_t, listM_l, slM_t, slM_l, ws_sMatch, ws_mcNil, ws_mcAny, ws_mcVal, if_true, if_false, Bool.false_eq_true, Bool.not_true, Bool.not_false, Nat.reduceSub, Nat.reduceAdd, Nat.zero_add, eq_self, and_self, and_true, true_and, gN]
  simp only [ix0, ix1, wr_ok]
  rw [text_ok (lt75 l1.1) (lt75 l1.2) h1.rat]
  try simp only [wr_eVar, wr_eC, wr_e2, wr_e1, wr_eL, wr_eCall, wr_eCallK, wr_eLL, wr_eSeq, wr_lNil, wr_lCons, wr_bTru, wr_bOf, wr_bNot, wr_bAnd, wr_bOr, wr_isBl, wr_eAnd, wr_eOr, wr_eNot, wr_eIf, wr_e3c, wr_ok, wr_exc, ws_sNext, ws_sSeq, ws_sSet, ws_sDrop, ws_sRet, ws_sRetN, ws_sBrk, ws_sCnt, ws_sIf, ws_sAsg, ws_sPar, ws_sSub, ws_sForE, wr_callM, List.getElem?_cons_zero, List.getElem?_cons_succ, List.set_cons_zero, List.set_cons_succ, List.map_cons, List.map_nil, List.length_cons, List.length_nil, List.cons_append, List.nil_append, List.replicate, List.append_nil, addM_i, subM_i, negM_i, cmpM_i, eqM_i, eqM_s, neM_i, neM_s, absM_i, intM_i, intM_b, max2M_i, min2M_i, lenM_t, lenM_l, lenM_r, tupM_ap, lstM_ap, strM_s, truB_b, isBl_b, newM_ap, Nat.reduceLeDiff, seqL_l, seqT_t, isNM_n, isNM_i, wr_eLc, wr_eSl, wr_oN, wr_oI, intO_i, seqA_l, seqA_r, seqA_t, listM_t, listM_l, slM_t, slM_l, ws_sMatch, ws_mcNil, ws_mcAny, ws_mcVal, if_true, if_false, Bool.false_eq_true, Bool.not_true, Bool.not_false, Nat.reduceSub, Nat.reduceAdd, Nat.zero_add, eq_self, and_self, and_true, true_and, gN]
  rw [zC, add_S (by omega) (by simp)]
  try simp only [wr_eVar, wr_eC, wr_e2, wr_e1, wr_eL, wr_eCall, wr_eCallK, wr_eLL, wr_eSeq, wr_lNil, wr_lCons, wr_bTru, wr_bOf, wr_bNot, wr_bAnd, wr_bOr, wr_isBl, wr_eAnd, wr_eOr, wr_eNot, wr_eIf, wr_e3c, wr_ok, wr_exc, ws_sNext, ws_sSeq, ws_sSet, ws_sDrop, ws_sRet, ws_sRetN, ws_sBrk, ws_sCnt, ws_sIf, ws_sAsg, ws_sPar, ws_sSub, ws_sForE, wr_callM, List.getElem?_cons_zero, List.getElem?_cons_succ, List.set_cons_zero, List.set_cons_succ, List.map_cons, List.map_nil, List.length_cons, List.length_nil, List.cons_append, List.nil_append, List.replicate, List.append_nil, addM_i, subM_i, negM_i, cmpM_i, eqM_i, eqM_s, neM_i, neM_s, absM_i, intM_i, intM_b, max2M_i, min2M_i, lenM_t, lenM_l, lenM_r, tupM_ap, lstM_ap, strM_s, truB_b, isBl_b, newM_ap, Nat.reduceLeDiff, seqL_l, seqT_t, isNM_n, isNM_i, wr_eLc, wr_eSl, wr_oN, wr_oI, intO_i, seqA_l, seqA_r, seqA_t, listM_t, listM_l, slM_t, slM_l, ws_sMatch, ws_mcNil, ws_mcAny, ws_mcVal, if_true, if_false, Bool.false_eq_true, Bool.not_true, Bool.not_false, Nat.reduceSub, Nat.reduceAdd, Nat.zero_add, eq_self, and_self, and_true, true_and, gN]
  rw [text_ok (lt75 l2.1) (lt75 l2.2) h2.rat]
  try simp only [wr_eVar, wr_eC, wr_e2, wr_e1, wr_eL, wr_eCall, wr_eCallK, wr_eLL, wr_eSeq, wr_lNil, wr_lCons, wr_bTru, wr_bOf, wr_bNot, wr_bAnd, wr_bOr, wr_isBl, wr_eAnd, wr_eOr, wr_eNot, wr_eIf, wr_e3c, wr_ok, wr_exc, ws_sNext, ws_sSeq, ws_sSet, ws_sDrop, ws_sRet, ws_sRetN, ws_sBrk, ws_sCnt, ws_sIf, ws_sAsg, ws_sPar, ws_sSub, ws_sForE, wr_callM, List.getElem?_cons_zero, List.getElem?_cons_succ, List.set_cons_zero, List.set_cons_succ, List.map_cons, List.map_nil, List.length_cons, List.length_nil, List.cons_append, List.nil_append, List.replicate, List.append_nil, addM_i, subM_i, negM_i, cmpM_i, eqM_i, eqM_s, neM_i, neM_s, absM_i, intM_i, intM_b, max2M_i, min2M_i, lenM_t, lenM_l, lenM_r, tupM_ap, lstM_ap, strM_s, truB_b, isBl_b, newM_ap, Nat.reduceLeDiff, seqL_l, seqT_t, isNM_n, isNM_i, wr_eLc, wr_eSl, wr_oN, wr_oI, intO_i, seqA_l, seqA_r, seqA_t, listM_t, listM_l, slM_t, slM_l, ws_sMatch, ws_mcNil, ws_mcAny, ws_mcVal, if_true, if_false, Bool.false_eq_true, Bool.not_true, Bool.not_false, Nat.reduceSub, Nat.reduceAdd, Nat.zero_add, eq_self, and_self, and_true, true_and, gN]
  rw [add_S (by simp; omega) (by omega)]
  exact ⟨by simp [pxT], rfl⟩
theorem text_no {d : D} (h : sm5 d = true) (q : pix d = false) : m_pixel_text [d] μ = .exc ⟨"InvalidPixel", [("value", d)]⟩ μ := by
  refine wr_exq ?_
  unfold m_pixel_text b_pixel_text
  try simp only [wr_eVar, wr_eC, wr_e2, wr_e1, wr_eL, wr_eCall, wr_eCallK, wr_eLL, wr_eSeq, wr_lNil, wr_lCons, wr_bTru, wr_bOf, wr_bNot, wr_bAnd, wr_bOr, wr_isBl, wr_eAnd, wr_eOr, wr_eNot, wr_eIf, wr_e3c, wr_ok, wr_exc, ws_sNext, ws_sSeq, ws_sSet, ws_sDrop, ws_sRet, ws_sRetN, ws_sBrk, ws_sCnt, ws_sIf, ws_sAsg, ws_sPar, ws_sSub, ws_sForE, wr_callM, List.getElem?_cons_zero, List.getElem?_cons_succ, List.set_cons_zero, List.set_cons_succ, List.map_cons, List.map_nil, List.length_cons, List.length_nil, List.cons_append, List.nil_append, List.replicate, List.append_nil, addM_i, subM_i, negM_i, cmpM_i, eqM_i, eqM_s, neM_i, neM_s, absM_i, intM_i, intM_b, max2M_i, min2M_i, lenM_t, lenM_l, lenM_r, tupM_ap, lstM_ap, strM_s, truB_b, isBl_b, newM_ap, Nat.reduceLeDiff, seqL_l, seqT_t, isNM_n, isNM_i, wr_eLc, wr_eSl, wr_oN, wr_oI, intO_i, seqA_l, seqA_r, seqA_t, listM_t, listM_l, slM_t, slM_l, ws_sMatch, ws_mcNil, ws_mcAny, ws_mcVal, if_true, if_false, Bool.false_eq_true, Bool.not_true, Bool.not_false, Nat.reduceSub, Nat.reduceAdd, Nat.zero_add, eq_self, and_self, and_true, true_and, gN]
  rw [ckp_no h q]
  try simp only [wr_eVar, wr_eC, wr_e2, wr_e1, wr_eL, wr_eCall, wr_eCallK, wr_eLL, wr_eSeq, wr_lNil, wr_lCons, wr_bTru, wr_bOf, wr_bNot, wr_bAnd, wr_bOr, wr_isBl, wr_eAnd, wr_eOr, wr_eNot, wr_eIf, wr_e3c, wr_ok, wr_exc, ws_sNext, ws_sSeq, ws_sSet, ws_sDrop, ws_sRet, ws_sRetN, ws_sBrk, ws_sCnt, ws_sIf, ws_sAsg, ws_sPar, ws_sSub, ws_sForE, wr_callM, List.getElem?_cons_zero, List.getElem?_cons_succ, List.set_cons_zero, List.set_cons_succ, List.map_cons, List.map_nil, List.length_cons, List.length_nil, List.cons_append, List.nil_append, List.replicate, List.append_nil, addM_i, subM_i, negM_i, cmpM_i, eqM_i, eqM_s, neM_i, neM_s, absM_i, intM_i, intM_b, max2M_i, min2M_i, lenM_t, lenM_l, lenM_r, tupM_ap, lstM_ap, strM_s, truB_b, isBl_b, newM_ap, Nat.reduceLeDiff, seqL_l, seqT_t, isNM_n, isNM_i, wr_eLc, wr_eSl, wr_oN, wr_oI, intO_i, seqA_l, seqA_r, seqA_t, listM_t, listM_l, slM_t, slM_l, ws_sMatch, ws_mcNil, ws_mcAny, ws_mcVal, if_true, if_false, Bool.false_eq_true, Bool.not_true, Bool.not_false, Nat.reduceSub, Nat.reduceAdd, Nat.zero_add, eq_self, and_self, and_true, true_and, gN]
def txD : D → D
  | .tup [.int a, .int b] => .str (S (tx a b))
  | _ => .non
theorem written_v {B a b c e : Int} (hB : B ≤ 1000000000000000000000000) (h1 : Sh B a b) (h2 : Sh B c e) :
    m__law_written [.tup [.tup [.int a, .int b], .tup [.int c, .int e]]] μ = .ok (.str (S (pxT a b c e))) μ := by
  have l1 := h1.lt hB
  have l2 := h2.lt hB
  have n1 := tx_len (lt75 l1.1) (lt75 l1.2)
  have n2 := tx_len (lt75 l2.1) (lt75 l2.2)
  have one : ∀ (t b : Int) (ρ : Ev) (μ : Mem), t.natAbs < 10 ^ 75 → b.natAbs < 10 ^ 75 → ρ[2]? = some (some (.tup [.int t, .int b])) → (eIf (bOf (e2 eqM (e2 ixM (eVar 2) (eC (.int 1))) (eC (.int 1)))) (eL strM (lCons (e2 ixM (eVar 2) (eC (.int 0))) lNil)) (e2 addM (e2 addM (eL strM (lCons (e2 ixM (eVar 2) (eC (.int 0))) lNil)) (eC (.str "/"))) (eL strM (lCons (e2 ixM (eVar 2) (eC (.int 1))) lNil)))) ρ μ = .ok (.str (S (tx t b))) μ := by
    intro t b ρ μ ht hb hρ
    refine wr_eq.mp ?_
    try simp only [wr_eVar, wr_eC, wr_e2, wr_e1, wr_eL, wr_eCall, wr_eCallK, wr_eLL, wr_eSeq, wr_lNil, wr_lCons, wr_bTru, wr_bOf, wr_bNot, wr_bAnd, wr_bOr, wr_isBl, wr_eAnd, wr_eOr, wr_eNot, wr_eIf, wr_e3c, wr_ok, wr_exc, ws_sNext, ws_sSeq, ws_sSet, ws_sDrop, ws_sRet, ws_sRetN, ws_sBrk, ws_sCnt, ws_sIf, ws_sAsg, ws_sPar, ws_sSub, ws_sForE, wr_callM, List.getElem?_cons_zero, List.getElem?_cons_succ, List.set_cons_zero, List.set_cons_succ, List.map_cons, List.map_nil, List.length_cons, List.length_nil, List.cons_append, List.nil_append, List.replicate, List.append_nil, addM_i, subM_i, negM_i, cmpM_i, eqM_i, eqM_s, neM_i, neM_s, absM_i, intM_i, intM_b, max2M_i, min2M_i, lenM_t, lenM_l, lenM_r, tupM_ap, lstM_ap, strM_s, truB_b, isBl_b, newM_ap, Nat.reduceLeDiff, seqL_l, seqT_t, isNM_n, isNM_i, wr_eLc, wr_eSl, wr_oN, wr_oI, intO_i, seqA_l, seqA_r, seqA_t, listM_t, listM_l, slM_t, slM_l, ws_sMatch, ws_mcNil, ws_mcAny, ws_mcVal, if_true, if_false, Bool.false_eq_true, Bool.not_true, Bool.not_false, Nat.reduceSub, Nat.reduceAdd, Nat.zero_add, eq_self, and_self, and_true, true_and, gN]
    try simp only [hρ, wr_ok]
    try simp only [wr_eVar, wr_eC, wr_e2, wr_e1, wr_eL, wr_eCall, wr_eCallK, wr_eLL, wr_eSeq, wr_lNil, wr_lCons, wr_bTru, wr_bOf, wr_bNot, wr_bAnd, wr_bOr, wr_isBl, wr_eAnd, wr_eOr, wr_eNot, wr_eIf, wr_e3c, wr_ok, wr_exc, ws_sNext, ws_sSeq, ws_sSet, ws_sDrop, ws_sRet, ws_sRetN, ws_sBrk, ws_sCnt, ws_sIf, ws_sAsg, ws_sPar, ws_sSub, ws_sForE, wr_callM, List.getElem?_cons_zero, List.getElem?_cons_succ, List.set_cons_zero, List.set_cons_succ, List.map_cons, List.map_nil, List.length_cons, List.length_nil, List.cons_append, List.nil_append, List.replicate, List.append_nil, addM_i, subM_i, negM_i, cmpM_i, eqM_i, eqM_s, neM_i, neM_s, absM_i, intM_i, intM_b, max2M_i, min2M_i, lenM_t, lenM_l, lenM_r, tupM_ap, lstM_ap, strM_s, truB_b, isBl_b, newM_ap, Nat.reduceLeDiff, seqL_l, seqT_t, isNM_n, isNM_i, wr_eLc, wr_eSl, wr_oN, wr_oI, intO_i, seqA_l, seqA_r, seqA_t, listM_t, listM_l, slM_t, slM_l, ws_sMatch, ws_mcNil, ws_mcAny, ws_mcVal, if_true, if_false, Bool.false_eq_true, Bool.not_true, Bool.not_false, Nat.reduceSub, Nat.reduceAdd, Nat.zero_add, eq_self, and_self, and_true, true_and, gN]
    simp only [ix0, ix1, wr_ok]
    try simp only [wr_eVar, wr_eC, wr_e2, wr_e1, wr_eL, wr_eCall, wr_eCallK, wr_eLL, wr_eSeq, wr_lNil, wr_lCons, wr_bTru, wr_bOf, wr_bNot, wr_bAnd, wr_bOr, wr_isBl, wr_eAnd, wr_eOr, wr_eNot, wr_eIf, wr_e3c, wr_ok, wr_exc, ws_sNext, ws_sSeq, ws_sSet, ws_sDrop, ws_sRet, ws_sRetN, ws_sBrk, ws_sCnt, ws_sIf, ws_sAsg, ws_sPar, ws_sSub, ws_sForE, wr_callM, List.getElem?_cons_zero, List.getElem?_cons_succ, List.set_cons_zero, List.set_cons_succ, List.map_cons, List.map_nil, List.length_cons, List.length_nil, List.cons_append, List.nil_append, List.replicate, List.append_nil, addM_i, subM_i, negM_i, cmpM_i, eqM_i, eqM_s, neM_i, neM_s, absM_i, intM_i, intM_b, max2M_i, min2M_i, lenM_t, lenM_l, lenM_r, tupM_ap, lstM_ap, strM_s, truB_b, isBl_b, newM_ap, Nat.reduceLeDiff, seqL_l, seqT_t, isNM_n, isNM_i, wr_eLc, wr_eSl, wr_oN, wr_oI, intO_i, seqA_l, seqA_r, seqA_t, listM_t, listM_l, slM_t, slM_l, ws_sMatch, ws_mcNil, ws_mcAny, ws_mcVal, if_true, if_false, Bool.false_eq_true, Bool.not_true, Bool.not_false, Nat.reduceSub, Nat.reduceAdd, Nat.zero_add, eq_self, and_self, and_true, true_and, gN]
    have l1 := num_len (lt75 ht)
    have l2 := num_len (lt75 hb)
    unfold tx
    by_cases z : b = 1
    · simp only [z, decide_true, if_true]
      try simp only [wr_eVar, wr_eC, wr_e2, wr_e1, wr_eL, wr_eCall, wr_eCallK, wr_eLL, wr_eSeq, wr_lNil, wr_lCons, wr_bTru, wr_bOf, wr_bNot, wr_bAnd, wr_bOr, wr_isBl, wr_eAnd, wr_eOr, wr_eNot, wr_eIf, wr_e3c, wr_ok, wr_exc, ws_sNext, ws_sSeq, ws_sSet, ws_sDrop, ws_sRet, ws_sRetN, ws_sBrk, ws_sCnt, ws_sIf, ws_sAsg, ws_sPar, ws_sSub, ws_sForE, wr_callM, List.getElem?_cons_zero, List.getElem?_cons_succ, List.set_cons_zero, List.set_cons_succ, List.map_cons, List.map_nil, List.length_cons, List.length_nil, List.cons_append, List.nil_append, List.replicate, List.append_nil, addM_i, subM_i, negM_i, cmpM_i, eqM_i, eqM_s, neM_i, neM_s, absM_i, intM_i, intM_b, max2M_i, min2M_i, lenM_t, lenM_l, lenM_r, tupM_ap, lstM_ap, strM_s, truB_b, isBl_b, newM_ap, Nat.reduceLeDiff, seqL_l, seqT_t, isNM_n, isNM_i, wr_eLc, wr_eSl, wr_oN, wr_oI, intO_i, seqA_l, seqA_r, seqA_t, listM_t, listM_l, slM_t, slM_l, ws_sMatch, ws_mcNil, ws_mcAny, ws_mcVal, if_true, if_false, Bool.false_eq_true, Bool.not_true, Bool.not_false, Nat.reduceSub, Nat.reduceAdd, Nat.zero_add, eq_self, and_self, and_true, true_and, gN]
      try simp only [hρ, wr_ok]
      try simp only [wr_eVar, wr_eC, wr_e2, wr_e1, wr_eL, wr_eCall, wr_eCallK, wr_eLL, wr_eSeq, wr_lNil, wr_lCons, wr_bTru, wr_bOf, wr_bNot, wr_bAnd, wr_bOr, wr_isBl, wr_eAnd, wr_eOr, wr_eNot, wr_eIf, wr_e3c, wr_ok, wr_exc, ws_sNext, ws_sSeq, ws_sSet, ws_sDrop, ws_sRet, ws_sRetN, ws_sBrk, ws_sCnt, ws_sIf, ws_sAsg, ws_sPar, ws_sSub, ws_sForE, wr_callM, List.getElem?_cons_zero, List.getElem?_cons_succ, List.set_cons_zero, List.set_cons_succ, List.map_cons, List.map_nil, List.length_cons, List.length_nil, List.cons_append, List.nil_append, List.replicate, List.append_nil, addM_i, subM_i, negM_i, cmpM_i, eqM_i, eqM_s, neM_i, neM_s, absM_i, intM_i, intM_b, max2M_i, min2M_i, lenM_t, lenM_l, lenM_r, tupM_ap, lstM_ap, strM_s, truB_b, isBl_b, newM_ap, Nat.reduceLeDiff, seqL_l, seqT_t, isNM_n, isNM_i, wr_eLc, wr_eSl, wr_oN, wr_oI, intO_i, seqA_l, seqA_r, seqA_t, listM_t, listM_l, slM_t, slM_l, ws_sMatch, ws_mcNil, ws_mcAny, ws_mcVal, if_true, if_false, Bool.false_eq_true, Bool.not_true, Bool.not_false, Nat.reduceSub, Nat.reduceAdd, Nat.zero_add, eq_self, and_self, and_true, true_and, gN]
      try simp only [ix0, ix1, wr_ok]
      rw [str_v (lt75 ht)]
      exact ⟨rfl, rfl⟩
    · simp only [decide_eq_false z, Bool.false_eq_true, if_false, z]
      try simp only [wr_eVar, wr_eC, wr_e2, wr_e1, wr_eL, wr_eCall, wr_eCallK, wr_eLL, wr_eSeq, wr_lNil, wr_lCons, wr_bTru, wr_bOf, wr_bNot, wr_bAnd, wr_bOr, wr_isBl, wr_eAnd, wr_eOr, wr_eNot, wr_eIf, wr_e3c, wr_ok, wr_exc, ws_sNext, ws_sSeq, ws_sSet, ws_sDrop, ws_sRet, ws_sRetN, ws_sBrk, ws_sCnt, ws_sIf, ws_sAsg, ws_sPar, ws_sSub, ws_sForE, wr_callM, List.getElem?_cons_zero, List.getElem?_cons_succ, List.set_cons_zero, List.set_cons_succ, List.map_cons, List.map_nil, List.length_cons, List.length_nil, List.cons_append, List.nil_append, List.replicate, List.append_nil, addM_i, subM_i, negM_i, cmpM_i, eqM_i, eqM_s, neM_i, neM_s, absM_i, intM_i, intM_b, max2M_i, min2M_i, lenM_t, lenM_l, lenM_r, tupM_ap, lstM_ap, strM_s, truB_b, isBl_b, newM_ap, Nat.reduceLeDiff, seqL_l, seqT_t, isNM_n, isNM_i, wr_eLc, wr_eSl, wr_oN, wr_oI, intO_i, seqA_l, seqA_r, seqA_t, listM_t, listM_l, slM_t, slM_l, ws_sMatch, ws_mcNil, ws_mcAny, ws_mcVal, if_true, if_false, Bool.false_eq_true, Bool.not_true, Bool.not_false, Nat.reduceSub, Nat.reduceAdd, Nat.zero_add, eq_self, and_self, and_true, true_and, gN]
      try simp only [hρ, wr_ok]
      try simp only [wr_eVar, wr_eC, wr_e2, wr_e1, wr_eL, wr_eCall, wr_eCallK, wr_eLL, wr_eSeq, wr_lNil, wr_lCons, wr_bTru, wr_bOf, wr_bNot, wr_bAnd, wr_bOr, wr_isBl, wr_eAnd, wr_eOr, wr_eNot, wr_eIf, wr_e3c, wr_ok, wr_exc, ws_sNext, ws_sSeq, ws_sSet, ws_sDrop, ws_sRet, ws_sRetN, ws_sBrk, ws_sCnt, ws_sIf, ws_sAsg, ws_sPar, ws_sSub, ws_sForE, wr_callM, List.getElem?_cons_zero, List.getElem?_cons_succ, List.set_cons_zero, List.set_cons_succ, List.map_cons, List.map_nil, List.length_cons, List.length_nil, List.cons_append, List.nil_append, List.replicate, List.append_nil, addM_i, subM_i, negM_i, cmpM_i, eqM_i, eqM_s, neM_i, neM_s, absM_i, intM_i, intM_b, max2M_i, min2M_i, lenM_t, lenM_l, lenM_r, tupM_ap, lstM_ap, strM_s, truB_b, isBl_b, newM_ap, Nat.reduceLeDiff, seqL_l, seqT_t, isNM_n, isNM_i, wr_eLc, wr_eSl, wr_oN, wr_oI, intO_i, seqA_l, seqA_r, seqA_t, listM_t, listM_l, slM_t, slM_l, ws_sMatch, ws_mcNil, ws_mcAny, ws_mcVal, if_true, if_false, Bool.false_eq_true, Bool.not_true, Bool.not_false, Nat.reduceSub, Nat.reduceAdd, Nat.zero_add, eq_self, and_self, and_true, true_and, gN]
      try simp only [ix0, ix1, wr_ok]
      simp only [str_v (lt75 ht), str_v (lt75 hb), wr_ok]
      rw [zS, addM_s (by rw [S_len, S_len]; simp; omega)]
      try simp only [wr_eVar, wr_eC, wr_e2, wr_e1, wr_eL, wr_eCall, wr_eCallK, wr_eLL, wr_eSeq, wr_lNil, wr_lCons, wr_bTru, wr_bOf, wr_bNot, wr_bAnd, wr_bOr, wr_isBl, wr_eAnd, wr_eOr, wr_eNot, wr_eIf, wr_e3c, wr_ok, wr_exc, ws_sNext, ws_sSeq, ws_sSet, ws_sDrop, ws_sRet, ws_sRetN, ws_sBrk, ws_sCnt, ws_sIf, ws_sAsg, ws_sPar, ws_sSub, ws_sForE, wr_callM, List.getElem?_cons_zero, List.getElem?_cons_succ, List.set_cons_zero, List.set_cons_succ, List.map_cons, List.map_nil, List.length_cons, List.length_nil, List.cons_append, List.nil_append, List.replicate, List.append_nil, addM_i, subM_i, negM_i, cmpM_i, eqM_i, eqM_s, neM_i, neM_s, absM_i, intM_i, intM_b, max2M_i, min2M_i, lenM_t, lenM_l, lenM_r, tupM_ap, lstM_ap, strM_s, truB_b, isBl_b, newM_ap, Nat.reduceLeDiff, seqL_l, seqT_t, isNM_n, isNM_i, wr_eLc, wr_eSl, wr_oN, wr_oI, intO_i, seqA_l, seqA_r, seqA_t, listM_t, listM_l, slM_t, slM_l, ws_sMatch, ws_mcNil, ws_mcAny, ws_mcVal, if_true, if_false, Bool.false_eq_true, Bool.not_true, Bool.not_false, Nat.reduceSub, Nat.reduceAdd, Nat.zero_add, eq_self, and_self, and_true, true_and, gN]
      rw [addM_s (by rw [S_cat, S_len, S_len]; simp; omega)]
      rw [S_cat, S_cat]
      exact ⟨by simp, rfl⟩
  refine wr_eq.mp ?_
  unfold m__law_written b__law_written
  try simp only [wr_eVar, wr_eC, wr_e2, wr_e1, wr_eL, wr_eCall, wr_eCallK, wr_eLL, wr_eSeq, wr_lNil, wr_lCons, wr_bTru, wr_bOf, wr_bNot, wr_bAnd, wr_bOr, wr_isBl, wr_eAnd, wr_eOr, wr_eNot, wr_eIf, wr_e3c, wr_ok, wr_exc, ws_sNext, ws_sSeq, ws_sSet, ws_sDrop, ws_sRet, ws_sRetN, ws_sBrk, ws_sCnt, ws_sIf, ws_sAsg, ws_sPar, ws_sSub, ws_sForE, wr_callM, List.getElem?_cons_zero, List.getElem?_cons_succ, List.set_cons_zero, List.set_cons_succ, List.map_cons, List.map_nil, List.length_cons, List.length_nil, List.cons_append, List.nil_append, List.replicate, List.append_nil, addM_i, subM_i, negM_i, cmpM_i, eqM_i, eqM_s, neM_i, neM_s, absM_i, intM_i, intM_b, max2M_i, min2M_i, lenM_t, lenM_l, lenM_r, tupM_ap, lstM_ap, strM_s, truB_b, isBl_b, newM_ap, Nat.reduceLeDiff, seqL_l, seqT_t, isNM_n, isNM_i, wr_eLc, wr_eSl, wr_oN, wr_oI, intO_i, seqA_l, seqA_r, seqA_t, listM_t, listM_l, slM_t, slM_l, ws_sMatch, ws_mcNil, ws_mcAny, ws_mcVal, if_true, if_false, Bool.false_eq_true, Bool.not_true, Bool.not_false, Nat.reduceSub, Nat.reduceAdd, Nat.zero_add, eq_self, and_self, and_true, true_and, gN]
  try simp only [wr_eLc]
  try simp only [wr_eVar, wr_eC, wr_e2, wr_e1, wr_eL, wr_eCall, wr_eCallK, wr_eLL, wr_eSeq, wr_lNil, wr_lCons, wr_bTru, wr_bOf, wr_bNot, wr_bAnd, wr_bOr, wr_isBl, wr_eAnd, wr_eOr, wr_eNot, wr_eIf, wr_e3c, wr_ok, wr_exc, ws_sNext, ws_sSeq, ws_sSet, ws_sDrop, ws_sRet, ws_sRetN, ws_sBrk, ws_sCnt, ws_sIf, ws_sAsg, ws_sPar, ws_sSub, ws_sForE, wr_callM, List.getElem?_cons_zero, List.getElem?_cons_succ, List.set_cons_zero, List.set_cons_succ, List.map_cons, List.map_nil, List.length_cons, List.length_nil, List.cons_append, List.nil_append, List.replicate, List.append_nil, addM_i, subM_i, negM_i, cmpM_i, eqM_i, eqM_s, neM_i, neM_s, absM_i, intM_i, intM_b, max2M_i, min2M_i, lenM_t, lenM_l, lenM_r, tupM_ap, lstM_ap, strM_s, truB_b, isBl_b, newM_ap, Nat.reduceLeDiff, seqL_l, seqT_t, isNM_n, isNM_i, wr_eLc, wr_eSl, wr_oN, wr_oI, intO_i, seqA_l, seqA_r, seqA_t, listM_t, listM_l, slM_t, slM_l, ws_sMatch, ws_mcNil, ws_mcAny, ws_mcVal, if_true, if_false, Bool.false_eq_true, Bool.not_true, Bool.not_false, Nat.reduceSub, Nat.reduceAdd, Nat.zero_add, eq_self, and_self, and_true, true_and, gN]
  rw [lcF_map (g := txD) (fun d hd μ => by
    simp only [List.mem_cons, List.not_mem_nil, or_false] at hd
    rcases hd with rfl | rfl
    · exact one _ _ _ _ l1.1 l1.2 rfl
    · exact one _ _ _ _ l2.1 l2.2 rfl) (by simp)]
  try simp only [wr_eVar, wr_eC, wr_e2, wr_e1, wr_eL, wr_eCall, wr_eCallK, wr_eLL, wr_eSeq, wr_lNil, wr_lCons, wr_bTru, wr_bOf, wr_bNot, wr_bAnd, wr_bOr, wr_isBl, wr_eAnd, wr_eOr, wr_eNot, wr_eIf, wr_e3c, wr_ok, wr_exc, ws_sNext, ws_sSeq, ws_sSet, ws_sDrop, ws_sRet, ws_sRetN, ws_sBrk, ws_sCnt, ws_sIf, ws_sAsg, ws_sPar, ws_sSub, ws_sForE, wr_callM, List.getElem?_cons_zero, List.getElem?_cons_succ, List.set_cons_zero, List.set_cons_succ, List.map_cons, List.map_nil, List.length_cons, List.length_nil, List.cons_append, List.nil_append, List.replicate, List.append_nil, addM_i, subM_i, negM_i, cmpM_i, eqM_i, eqM_s, neM_i, neM_s, absM_i, intM_i, intM_b, max2M_i, min2M_i, lenM_t, lenM_l, lenM_r, tupM_ap, lstM_ap, strM_s, truB_b, isBl_b, newM_ap, Nat.reduceLeDiff, seqL_l, seqT_t, isNM_n, isNM_i, wr_eLc, wr_eSl, wr_oN, wr_oI, intO_i, seqA_l, seqA_r, seqA_t, listM_t, listM_l, slM_t, slM_l, ws_sMatch, ws_mcNil, ws_mcAny, ws_mcVal, if_true, if_false, Bool.false_eq_true, Bool.not_true, Bool.not_false, Nat.reduceSub, Nat.reduceAdd, Nat.zero_add, eq_self, and_self, and_true, true_and, gN]
  unfold t__law_written_0
  try simp only [wr_eVar, wr_eC, wr_e2, wr_e1, wr_eL, wr_eCall, wr_eCallK, wr_eLL, wr_eSeq, wr_lNil, wr_lCons, wr_bTru, wr_bOf, wr_bNot, wr_bAnd, wr_bOr, wr_isBl, wr_eAnd, wr_eOr, wr_eNot, wr_eIf, wr_e3c, wr_ok, wr_exc, ws_sNext, ws_sSeq, ws_sSet, ws_sDrop, ws_sRet, ws_sRetN, ws_sBrk, ws_sCnt, ws_sIf, ws_sAsg, ws_sPar, ws_sSub, ws_sForE, wr_callM, List.getElem?_cons_zero, List.getElem?_cons_succ, List.set_cons_zero, List.set_cons_succ, List.map_cons, List.map_nil, List.length_cons, List.length_nil, List.cons_append, List.nil_append, List.replicate, List.append_nil, addM_i, subM_i, negM_i, cmpM_i, eqM_i, eqM_s, neM_i, neM_s, absM_i, intM_i, intM_b, max2M_i, min2M_i, lenM_t, lenM_l, lenM_r, tupM_ap, lstM_ap, strM_s, truB_b, isBl_b, newM_ap, Nat.reduceLeDiff, seqL_l, seqT_t, isNM_n, isNM_i, wr_eLc, wr_eSl, wr_oN, wr_oI, intO_i, seqA_l, seqA_r, seqA_t, listM_t, listM_l, slM_t, slM_l, ws_sMatch, ws_mcNil, ws_mcAny, ws_mcVal, if_true, if_false, Bool.false_eq_true, Bool.not_true, Bool.not_false, Nat.reduceSub, Nat.reduceAdd, Nat.zero_add, eq_self, and_self, and_true, true_and, gN]
  try simp only [wr_eM1]
  try simp only [wr_eVar, wr_eC, wr_e2, wr_e1, wr_eL, wr_eCall, wr_eCallK, wr_eLL, wr_eSeq, wr_lNil, wr_lCons, wr_bTru, wr_bOf, wr_bNot, wr_bAnd, wr_bOr, wr_isBl, wr_eAnd, wr_eOr, wr_eNot, wr_eIf, wr_e3c, wr_ok, wr_exc, ws_sNext, ws_sSeq, ws_sSet, ws_sDrop, ws_sRet, ws_sRetN, ws_sBrk, ws_sCnt, ws_sIf, ws_sAsg, ws_sPar, ws_sSub, ws_sForE, wr_callM, List.getElem?_cons_zero, List.getElem?_cons_succ, List.set_cons_zero, List.set_cons_succ, List.map_cons, List.map_nil, List.length_cons, List.length_nil, List.cons_append, List.nil_append, List.replicate, List.append_nil, addM_i, subM_i, negM_i, cmpM_i, eqM_i, eqM_s, neM_i, neM_s, absM_i, intM_i, intM_b, max2M_i, min2M_i, lenM_t, lenM_l, lenM_r, tupM_ap, lstM_ap, strM_s, truB_b, isBl_b, newM_ap, Nat.reduceLeDiff, seqL_l, seqT_t, isNM_n, isNM_i, wr_eLc, wr_eSl, wr_oN, wr_oI, intO_i, seqA_l, seqA_r, seqA_t, listM_t, listM_l, slM_t, slM_l, ws_sMatch, ws_mcNil, ws_mcAny, ws_mcVal, if_true, if_false, Bool.false_eq_true, Bool.not_true, Bool.not_false, Nat.reduceSub, Nat.reduceAdd, Nat.zero_add, eq_self, and_self, and_true, true_and, gN]
  have ej : ∀ μ, joinM (.str ":") (.lst [txD (.tup [.int a, .int b]), txD (.tup [.int c, .int e])]) μ = .ok (.str (S (pxT a b c e))) μ := by
    intro μ
    have e1 : joinS ":" [.str (S (tx a b)), .str (S (tx c e))] = some (S (pxT a b c e)) := by
      unfold joinS
      simp only [strsOf]
      rw [if_pos (by simp only [List.map_cons, List.map_nil, List.sum_cons, List.sum_nil, List.length_cons, List.length_nil, S_len]; rw [zC, S_len]; simp; omega)]
      congr 1
      show S (tx a b) ++ ":" ++ S (tx c e) = _
      rw [zC, S_cat, S_cat]
      simp [pxT]
    show (match joinS ":" [.str (S (tx a b)), .str (S (tx c e))] with | some z => Res.ok (D.str z) μ | none => .bad) = _
    rw [e1]
  rw [if_pos isSt_s, ej]
  exact ⟨rfl, rfl⟩
/-! through the lambda -/
theorem told_p {B a b c e : Int} (hB : B ≤ 1000000000000000000000000) (h1 : Sh B a b) (h2 : Sh B c e) (hp : pix (.tup [.tup [.int a, .int b], .tup [.int c, .int e]]) = true) (hs : shOk (.str (S (pxT a b c e))) = true)
    {mb : Ev → M D} {ρ : Ev} (hb : mb (ρ.map keepE) μ = m_pixel_text [.tup [.tup [.int a, .int b], .tup [.int c, .int e]]] μ) : eLam mL__law_caught mb ρ μ = .ok (.lst [.str "told", .str (dP (.str (S (pxT a b c e)))).shown]) μ := by
  rw [text_v hB h1 h2 hp] at hb
  exact eLam_ap (caught_ok hb hs) rfl
theorem told_n {d : D} (h : sm5 d = true) (q : pix d = false) (hs : shOk d = true) {mb : Ev → M D} {ρ : Ev} (hb : mb (ρ.map keepE) μ = m_pixel_text [d] μ) : eLam mL__law_caught mb ρ μ = .ok (.lst [.str "no pixel", .str (dP d).shown]) μ := by
  rw [text_no h q] at hb
  exact eLam_ap (caught_s hb hs) rfl
end
end Zk05
namespace Zk05
open PySem PySem.Spec PyProof.Rows L2 SE
section
variable {μ : Mem}
theorem draw_l {l : Nat} {n many : Int} {μ : Mem} (hs : Sd l n μ) (hn : n < 1000000000) (h0 : 0 < many) (h1 : many.natAbs ≤ 10 ^ 60) :
    wr (m__law_draw [.loc l, .int many] μ) (fun d μ' => ∃ k, d = .int k ∧ 0 ≤ k ∧ k < many ∧ Sd l (n + 1) μ' ∧ Fr l μ μ') (fun _ _ => False) := draw_ok hs hn h0 (lt_big h1 (by decide +kernel))
theorem p6 : powM (.int 10) (.int 6) μ = .ok (.int 1000000) μ := by
  rw [powM_i ⟨by omega, by omega, by decide +kernel⟩]
  rfl
theorem div_gcd {a b : Int} (hb : 1 ≤ b) : ∃ x y g : Int, a / (Int.gcd a b : Int) = x ∧ b / (Int.gcd a b : Int) = y ∧ a = g * x ∧ b = g * y ∧ 1 ≤ g ∧ 1 ≤ y ∧ y ≤ b ∧ Int.gcd x y = 1 := by
  have g := gcd_le (a := a) hb
  have h3 : 1 ≤ b / (Int.gcd a b : Int) := Int.le_ediv_of_mul_le (a := 1) (b := b) g.1 (by omega)
  have d1 : (Int.gcd a b : Int) ∣ a := Int.gcd_dvd_left ..
  have d2 : (Int.gcd a b : Int) ∣ b := Int.gcd_dvd_right ..
  have e1 := (Int.mul_ediv_cancel' d1).symm
  have e2 := (Int.mul_ediv_cancel' d2).symm
  have hg : Int.gcd (a / (Int.gcd a b : Int)) (b / (Int.gcd a b : Int)) = 1 := Int.gcd_ediv_gcd_ediv_gcd (by omega)
  refine ⟨_, _, (Int.gcd a b : Int), rfl, rfl, e1, e2, g.1, h3, ?_, hg⟩
  have := Int.natAbs_ediv_le_natAbs b (Int.gcd a b)
  omega
/-- a share made low -/
theorem low_sh {a b B : Int} (hb : 1 ≤ b) (hB : b ≤ B) (a0 : 0 ≤ a) (ab : a ≤ b) : Sh B (a / (Int.gcd a b : Int)) (b / (Int.gcd a b : Int)) := by
  obtain ⟨x, y, g, e1, e2, ea, eb, g1, y1, yb, hg⟩ := div_gcd (a := a) hb
  rw [e1, e2]
  refine ⟨y1, hg, ?_, ?_, by omega⟩
  · rcases Int.lt_or_le x 0 with z | z
    · have := Int.mul_neg_of_pos_of_neg (show 0 < g by omega) z
      omega
    · exact z
  · rcases Int.lt_or_le y x with z | z
    · have := Int.mul_lt_mul_of_pos_left z (show 0 < g by omega)
      omega
    · exact z
def PtS (B : Int) (d : D) : Prop := ∃ a b : Int, d = .tup [.int a, .int b] ∧ Sh B a b
theorem part_ok {l : Nat} {n : Int} (hs : Sd l n μ) (hn : n < 900000000) : wr (m__law_part [.loc l] μ) (fun d μ' => PtS 1000000 d ∧ Sd l (n + 3) μ' ∧ Fr l μ μ') (fun _ _ => False) := by
  unfold m__law_part b__law_part
  try simp only [wr_eVar, wr_eC, wr_e2, wr_e1, wr_eL, wr_eCall, wr_eCallK, wr_eLL, wr_eSeq, wr_lNil, wr_lCons, wr_bTru, wr_bOf, wr_bNot, wr_bAnd, wr_bOr, wr_isBl, wr_eAnd, wr_eOr, wr_eNot, wr_eIf, wr_e3c, wr_ok, wr_exc, ws_sNext, ws_sSeq, ws_sSet, ws_sDrop, ws_sRet, ws_sRetN, ws_sBrk, ws_sCnt, ws_sIf, ws_sAsg, ws_sPar, ws_sSub, ws_sForE, wr_callM, List.getElem?_cons_zero, List.getElem?_cons_succ, List.set_cons_zero, List.set_cons_succ, List.map_cons, List.map_nil, List.length_cons, List.length_nil, List.cons_append, List.nil_append, List.replicate, List.append_nil, addM_i, subM_i, negM_i, cmpM_i, eqM_i, eqM_s, neM_i, neM_s, absM_i, intM_i, intM_b, max2M_i, min2M_i, lenM_t, lenM_l, lenM_r, tupM_ap, lstM_ap, strM_s, truB_b, isBl_b, newM_ap, Nat.reduceLeDiff, seqL_l, seqT_t, isNM_n, isNM_i, if_true, if_false, Bool.false_eq_true, Bool.not_true, Bool.not_false, Nat.reduceSub, Nat.reduceAdd, Nat.zero_add, eq_self, and_self, and_true, true_and, gN]
  refine wr_to (draw_l hs (by omega) (by omega) (by decide +kernel)) ?_
  intro x μ1 hx
  obtain ⟨w, hw, w0, w1, s1, f1⟩ := hx
  rw [hw]
  try simp only [wr_eVar, wr_eC, wr_e2, wr_e1, wr_eL, wr_eCall, wr_eCallK, wr_eLL, wr_eSeq, wr_lNil, wr_lCons, wr_bTru, wr_bOf, wr_bNot, wr_bAnd, wr_bOr, wr_isBl, wr_eAnd, wr_eOr, wr_eNot, wr_eIf, wr_e3c, wr_ok, wr_exc, ws_sNext, ws_sSeq, ws_sSet, ws_sDrop, ws_sRet, ws_sRetN, ws_sBrk, ws_sCnt, ws_sIf, ws_sAsg, ws_sPar, ws_sSub, ws_sForE, wr_callM, List.getElem?_cons_zero, List.getElem?_cons_succ, List.set_cons_zero, List.set_cons_succ, List.map_cons, List.map_nil, List.length_cons, List.length_nil, List.cons_append, List.nil_append, List.replicate, List.append_nil, addM_i, subM_i, negM_i, cmpM_i, eqM_i, eqM_s, neM_i, neM_s, absM_i, intM_i, intM_b, max2M_i, min2M_i, lenM_t, lenM_l, lenM_r, tupM_ap, lstM_ap, strM_s, truB_b, isBl_b, newM_ap, Nat.reduceLeDiff, seqL_l, seqT_t, isNM_n, isNM_i, if_true, if_false, Bool.false_eq_true, Bool.not_true, Bool.not_false, Nat.reduceSub, Nat.reduceAdd, Nat.zero_add, eq_self, and_self, and_true, true_and, gN]
  unfold t__law_part_2
  try simp only [wr_eVar, wr_eC, wr_e2, wr_e1, wr_eL, wr_eCall, wr_eCallK, wr_eLL, wr_eSeq, wr_lNil, wr_lCons, wr_bTru, wr_bOf, wr_bNot, wr_bAnd, wr_bOr, wr_isBl, wr_eAnd, wr_eOr, wr_eNot, wr_eIf, wr_e3c, wr_ok, wr_exc, ws_sNext, ws_sSeq, ws_sSet, ws_sDrop, ws_sRet, ws_sRetN, ws_sBrk, ws_sCnt, ws_sIf, ws_sAsg, ws_sPar, ws_sSub, ws_sForE, wr_callM, List.getElem?_cons_zero, List.getElem?_cons_succ, List.set_cons_zero, List.set_cons_succ, List.map_cons, List.map_nil, List.length_cons, List.length_nil, List.cons_append, List.nil_append, List.replicate, List.append_nil, addM_i, subM_i, negM_i, cmpM_i, eqM_i, eqM_s, neM_i, neM_s, absM_i, intM_i, intM_b, max2M_i, min2M_i, lenM_t, lenM_l, lenM_r, tupM_ap, lstM_ap, strM_s, truB_b, isBl_b, newM_ap, Nat.reduceLeDiff, seqL_l, seqT_t, isNM_n, isNM_i, if_true, if_false, Bool.false_eq_true, Bool.not_true, Bool.not_false, Nat.reduceSub, Nat.reduceAdd, Nat.zero_add, eq_self, and_self, and_true, true_and, gN]
  by_cases z : w < 2
  · simp only [decide_eq_true z, if_true]
    have : w = 0 ∨ w = 1 := by omega
    refine ⟨⟨w, 1, rfl, ⟨by omega, ?_, by omega, by omega, by omega⟩⟩, s1.mono (by omega), f1⟩
    rcases this with rfl | rfl <;> decide
  simp only [decide_eq_false z, Bool.false_eq_true, if_false]
  unfold t__law_part_1
  try simp only [wr_eVar, wr_eC, wr_e2, wr_e1, wr_eL, wr_eCall, wr_eCallK, wr_eLL, wr_eSeq, wr_lNil, wr_lCons, wr_bTru, wr_bOf, wr_bNot, wr_bAnd, wr_bOr, wr_isBl, wr_eAnd, wr_eOr, wr_eNot, wr_eIf, wr_e3c, wr_ok, wr_exc, ws_sNext, ws_sSeq, ws_sSet, ws_sDrop, ws_sRet, ws_sRetN, ws_sBrk, ws_sCnt, ws_sIf, ws_sAsg, ws_sPar, ws_sSub, ws_sForE, wr_callM, List.getElem?_cons_zero, List.getElem?_cons_succ, List.set_cons_zero, List.set_cons_succ, List.map_cons, List.map_nil, List.length_cons, List.length_nil, List.cons_append, List.nil_append, List.replicate, List.append_nil, addM_i, subM_i, negM_i, cmpM_i, eqM_i, eqM_s, neM_i, neM_s, absM_i, intM_i, intM_b, max2M_i, min2M_i, lenM_t, lenM_l, lenM_r, tupM_ap, lstM_ap, strM_s, truB_b, isBl_b, newM_ap, Nat.reduceLeDiff, seqL_l, seqT_t, isNM_n, isNM_i, if_true, if_false, Bool.false_eq_true, Bool.not_true, Bool.not_false, Nat.reduceSub, Nat.reduceAdd, Nat.zero_add, eq_self, and_self, and_true, true_and, gN]
  simp only [p6, wr_ok]
  try simp only [wr_eVar, wr_eC, wr_e2, wr_e1, wr_eL, wr_eCall, wr_eCallK, wr_eLL, wr_eSeq, wr_lNil, wr_lCons, wr_bTru, wr_bOf, wr_bNot, wr_bAnd, wr_bOr, wr_isBl, wr_eAnd, wr_eOr, wr_eNot, wr_eIf, wr_e3c, wr_ok, wr_exc, ws_sNext, ws_sSeq, ws_sSet, ws_sDrop, ws_sRet, ws_sRetN, ws_sBrk, ws_sCnt, ws_sIf, ws_sAsg, ws_sPar, ws_sSub, ws_sForE, wr_callM, List.getElem?_cons_zero, List.getElem?_cons_succ, List.set_cons_zero, List.set_cons_succ, List.map_cons, List.map_nil, List.length_cons, List.length_nil, List.cons_append, List.nil_append, List.replicate, List.append_nil, addM_i, subM_i, negM_i, cmpM_i, eqM_i, eqM_s, neM_i, neM_s, absM_i, intM_i, intM_b, max2M_i, min2M_i, lenM_t, lenM_l, lenM_r, tupM_ap, lstM_ap, strM_s, truB_b, isBl_b, newM_ap, Nat.reduceLeDiff, seqL_l, seqT_t, isNM_n, isNM_i, if_true, if_false, Bool.false_eq_true, Bool.not_true, Bool.not_false, Nat.reduceSub, Nat.reduceAdd, Nat.zero_add, eq_self, and_self, and_true, true_and, gN]
  refine wr_ix (by omega) (by simp; omega) fun e he => ?_
  obtain ⟨m, rfl, m0, m1⟩ : ∃ m : Int, e = .int m ∧ 1 ≤ m ∧ m ≤ 1000000 := by
    simp only [List.mem_cons, List.not_mem_nil, or_false] at he
    rcases he with rfl | rfl | rfl | rfl | rfl | rfl <;> exact ⟨_, rfl, by omega, by omega⟩
  refine wr_to (draw_l s1 (by omega) (by omega) (by omega)) ?_
  intro x μ2 hx
  obtain ⟨b, hb, b0, b1, s2, f2⟩ := hx
  rw [hb]
  try simp only [wr_eVar, wr_eC, wr_e2, wr_e1, wr_eL, wr_eCall, wr_eCallK, wr_eLL, wr_eSeq, wr_lNil, wr_lCons, wr_bTru, wr_bOf, wr_bNot, wr_bAnd, wr_bOr, wr_isBl, wr_eAnd, wr_eOr, wr_eNot, wr_eIf, wr_e3c, wr_ok, wr_exc, ws_sNext, ws_sSeq, ws_sSet, ws_sDrop, ws_sRet, ws_sRetN, ws_sBrk, ws_sCnt, ws_sIf, ws_sAsg, ws_sPar, ws_sSub, ws_sForE, wr_callM, List.getElem?_cons_zero, List.getElem?_cons_succ, List.set_cons_zero, List.set_cons_succ, List.map_cons, List.map_nil, List.length_cons, List.length_nil, List.cons_append, List.nil_append, List.replicate, List.append_nil, addM_i, subM_i, negM_i, cmpM_i, eqM_i, eqM_s, neM_i, neM_s, absM_i, intM_i, intM_b, max2M_i, min2M_i, lenM_t, lenM_l, lenM_r, tupM_ap, lstM_ap, strM_s, truB_b, isBl_b, newM_ap, Nat.reduceLeDiff, seqL_l, seqT_t, isNM_n, isNM_i, if_true, if_false, Bool.false_eq_true, Bool.not_true, Bool.not_false, Nat.reduceSub, Nat.reduceAdd, Nat.zero_add, eq_self, and_self, and_true, true_and, gN]
  unfold t__law_part_0
  try simp only [wr_eVar, wr_eC, wr_e2, wr_e1, wr_eL, wr_eCall, wr_eCallK, wr_eLL, wr_eSeq, wr_lNil, wr_lCons, wr_bTru, wr_bOf, wr_bNot, wr_bAnd, wr_bOr, wr_isBl, wr_eAnd, wr_eOr, wr_eNot, wr_eIf, wr_e3c, wr_ok, wr_exc, ws_sNext, ws_sSeq, ws_sSet, ws_sDrop, ws_sRet, ws_sRetN, ws_sBrk, ws_sCnt, ws_sIf, ws_sAsg, ws_sPar, ws_sSub, ws_sForE, wr_callM, List.getElem?_cons_zero, List.getElem?_cons_succ, List.set_cons_zero, List.set_cons_succ, List.map_cons, List.map_nil, List.length_cons, List.length_nil, List.cons_append, List.nil_append, List.replicate, List.append_nil, addM_i, subM_i, negM_i, cmpM_i, eqM_i, eqM_s, neM_i, neM_s, absM_i, intM_i, intM_b, max2M_i, min2M_i, lenM_t, lenM_l, lenM_r, tupM_ap, lstM_ap, strM_s, truB_b, isBl_b, newM_ap, Nat.reduceLeDiff, seqL_l, seqT_t, isNM_n, isNM_i, if_true, if_false, Bool.false_eq_true, Bool.not_true, Bool.not_false, Nat.reduceSub, Nat.reduceAdd, Nat.zero_add, eq_self, and_self, and_true, true_and, gN]
  refine wr_to (draw_l s2 (by omega) (by omega) (by omega)) ?_
  intro x μ3 hx
  obtain ⟨a, ha, a0, a1, s3, f3⟩ := hx
  rw [ha]
  try simp only [wr_eVar, wr_eC, wr_e2, wr_e1, wr_eL, wr_eCall, wr_eCallK, wr_eLL, wr_eSeq, wr_lNil, wr_lCons, wr_bTru, wr_bOf, wr_bNot, wr_bAnd, wr_bOr, wr_isBl, wr_eAnd, wr_eOr, wr_eNot, wr_eIf, wr_e3c, wr_ok, wr_exc, ws_sNext, ws_sSeq, ws_sSet, ws_sDrop, ws_sRet, ws_sRetN, ws_sBrk, ws_sCnt, ws_sIf, ws_sAsg, ws_sPar, ws_sSub, ws_sForE, wr_callM, List.getElem?_cons_zero, List.getElem?_cons_succ, List.set_cons_zero, List.set_cons_succ, List.map_cons, List.map_nil, List.length_cons, List.length_nil, List.cons_append, List.nil_append, List.replicate, List.append_nil, addM_i, subM_i, negM_i, cmpM_i, eqM_i, eqM_s, neM_i, neM_s, absM_i, intM_i, intM_b, max2M_i, min2M_i, lenM_t, lenM_l, lenM_r, tupM_ap, lstM_ap, strM_s, truB_b, isBl_b, newM_ap, Nat.reduceLeDiff, seqL_l, seqT_t, isNM_n, isNM_i, if_true, if_false, Bool.false_eq_true, Bool.not_true, Bool.not_false, Nat.reduceSub, Nat.reduceAdd, Nat.zero_add, eq_self, and_self, and_true, true_and, gN]
  rw [low_v (by omega) (lt_big (B := 10 ^ 60) (by omega) (by decide +kernel))]
  try simp only [wr_eVar, wr_eC, wr_e2, wr_e1, wr_eL, wr_eCall, wr_eCallK, wr_eLL, wr_eSeq, wr_lNil, wr_lCons, wr_bTru, wr_bOf, wr_bNot, wr_bAnd, wr_bOr, wr_isBl, wr_eAnd, wr_eOr, wr_eNot, wr_eIf, wr_e3c, wr_ok, wr_exc, ws_sNext, ws_sSeq, ws_sSet, ws_sDrop, ws_sRet, ws_sRetN, ws_sBrk, ws_sCnt, ws_sIf, ws_sAsg, ws_sPar, ws_sSub, ws_sForE, wr_callM, List.getElem?_cons_zero, List.getElem?_cons_succ, List.set_cons_zero, List.set_cons_succ, List.map_cons, List.map_nil, List.length_cons, List.length_nil, List.cons_append, List.nil_append, List.replicate, List.append_nil, addM_i, subM_i, negM_i, cmpM_i, eqM_i, eqM_s, neM_i, neM_s, absM_i, intM_i, intM_b, max2M_i, min2M_i, lenM_t, lenM_l, lenM_r, tupM_ap, lstM_ap, strM_s, truB_b, isBl_b, newM_ap, Nat.reduceLeDiff, seqL_l, seqT_t, isNM_n, isNM_i, if_true, if_false, Bool.false_eq_true, Bool.not_true, Bool.not_false, Nat.reduceSub, Nat.reduceAdd, Nat.zero_add, eq_self, and_self, and_true, true_and, gN]
  exact ⟨⟨_, _, rfl, low_sh (by omega) (by omega) a0 (by omega)⟩, s3.mono (by omega), (f1.trans f2).trans f3⟩
/-- the product of two shares is below the second -/
theorem mul_sh {a b c e : Int} (h1 : Sh 1000000 a b) (h2 : Sh 1000000 c e) : ∃ x y : Int, (a * c) / (Int.gcd (a * c) (b * e) : Int) = x ∧ (b * e) / (Int.gcd (a * c) (b * e) : Int) = y ∧ Sh 1000000000000 x y ∧ x * e ≤ c * y ∧ 1 ≤ b * e ∧ b * e ≤ 1000000000000 := by
  obtain ⟨b1, _, a0, ab, bB⟩ := h1
  obtain ⟨e1, _, c0, ce, eB⟩ := h2
  have n3 : 1 ≤ b * e := by
    have := Int.mul_le_mul b1 e1 (by omega) (by omega)
    omega
  have n4 : b * e ≤ 1000000000000 := by
    have := Int.mul_le_mul bB eB (by omega) (by omega)
    omega
  have n5 : 0 ≤ a * c := Int.mul_nonneg a0 c0
  have n6 : a * c ≤ b * e := Int.mul_le_mul ab ce c0 (by omega)
  refine ⟨_, _, rfl, rfl, low_sh n3 n4 n5 n6, ?_, n3, n4⟩
  obtain ⟨x, y, g, ex, ey, ea, eb, g1, y1, yb, hg⟩ := div_gcd (a := a * c) n3
  rw [ex, ey]
  -- g x = a c, g y = b e: g x e = a c e ≤ c b e = g c y
  have k1 : g * (x * e) ≤ g * (c * y) := by
    have l1 : g * (x * e) = a * (c * e) := by rw [← Int.mul_assoc, ← ea, Int.mul_assoc]
    have l2 : g * (c * y) = b * (c * e) := by
      rw [show g * (c * y) = c * (g * y) by rw [← Int.mul_assoc, Int.mul_comm g c, Int.mul_assoc], ← eb, ← Int.mul_assoc, Int.mul_comm c b, Int.mul_assoc]
    rw [l1, l2]
    exact Int.mul_le_mul_of_nonneg_right ab (Int.mul_nonneg c0 (by omega))
  exact Int.le_of_mul_le_mul_left k1 (by omega)
theorem mul_v {a b c e : Int} (h1 : Sh 1000000 a b) (h2 : Sh 1000000 c e) :
    ∃ x y : Int, m__law_mul [.tup [.int a, .int b], .tup [.int c, .int e]] μ = .ok (.tup [.int x, .int y]) μ ∧ Sh 1000000000000 x y ∧ x * e ≤ c * y := by
  obtain ⟨x, y, ex, ey, hs, hle, n3, n4⟩ := mul_sh h1 h2
  have la := (h1.lt (by omega)).1
  have lb := (h1.lt (by omega)).2
  have lc := (h2.lt (by omega)).1
  have le := (h2.lt (by omega)).2
  refine ⟨x, y, wr_eq.mp ?_, hs, hle⟩
  unfold m__law_mul b__law_mul
  try simp only [wr_eVar, wr_eC, wr_e2, wr_e1, wr_eL, wr_eCall, wr_eCallK, wr_eLL, wr_eSeq, wr_lNil, wr_lCons, wr_bTru, wr_bOf, wr_bNot, wr_bAnd, wr_bOr, wr_isBl, wr_eAnd, wr_eOr, wr_eNot, wr_eIf, wr_e3c, wr_ok, wr_exc, ws_sNext, ws_sSeq, ws_sSet, ws_sDrop, ws_sRet, ws_sRetN, ws_sBrk, ws_sCnt, ws_sIf, ws_sAsg, ws_sPar, ws_sSub, ws_sForE, wr_callM, List.getElem?_cons_zero, List.getElem?_cons_succ, List.set_cons_zero, List.set_cons_succ, List.map_cons, List.map_nil, List.length_cons, List.length_nil, List.cons_append, List.nil_append, List.replicate, List.append_nil, addM_i, subM_i, negM_i, cmpM_i, eqM_i, eqM_s, neM_i, neM_s, absM_i, intM_i, intM_b, max2M_i, min2M_i, lenM_t, lenM_l, lenM_r, tupM_ap, lstM_ap, strM_s, truB_b, isBl_b, newM_ap, Nat.reduceLeDiff, seqL_l, seqT_t, isNM_n, isNM_i, if_true, if_false, Bool.false_eq_true, Bool.not_true, Bool.not_false, Nat.reduceSub, Nat.reduceAdd, Nat.zero_add, eq_self, and_self, and_true, true_and, gN]
  have k1 : mulOk a c = true := mul_b la lc
  have k2 : mulOk b e = true := mul_b lb le
  simp only [ix0, ix1, wr_ok, mulM_i k1, mulM_i k2]
  rw [low_v n3 (lt_big (B := 10 ^ 60) (by omega) (by decide +kernel)), ex, ey]
  try simp only [wr_eVar, wr_eC, wr_e2, wr_e1, wr_eL, wr_eCall, wr_eCallK, wr_eLL, wr_eSeq, wr_lNil, wr_lCons, wr_bTru, wr_bOf, wr_bNot, wr_bAnd, wr_bOr, wr_isBl, wr_eAnd, wr_eOr, wr_eNot, wr_eIf, wr_e3c, wr_ok, wr_exc, ws_sNext, ws_sSeq, ws_sSet, ws_sDrop, ws_sRet, ws_sRetN, ws_sBrk, ws_sCnt, ws_sIf, ws_sAsg, ws_sPar, ws_sSub, ws_sForE, wr_callM, List.getElem?_cons_zero, List.getElem?_cons_succ, List.set_cons_zero, List.set_cons_succ, List.map_cons, List.map_nil, List.length_cons, List.length_nil, List.cons_append, List.nil_append, List.replicate, List.append_nil, addM_i, subM_i, negM_i, cmpM_i, eqM_i, eqM_s, neM_i, neM_s, absM_i, intM_i, intM_b, max2M_i, min2M_i, lenM_t, lenM_l, lenM_r, tupM_ap, lstM_ap, strM_s, truB_b, isBl_b, newM_ap, Nat.reduceLeDiff, seqL_l, seqT_t, isNM_n, isNM_i, if_true, if_false, Bool.false_eq_true, Bool.not_true, Bool.not_false, Nat.reduceSub, Nat.reduceAdd, Nat.zero_add, eq_self, and_self, and_true, true_and, gN]
/-- a pixel as it is drawn -/
structure Dt (d : D) : Prop where
  is : ∃ a b c e : Int, d = .tup [.tup [.int a, .int b], .tup [.int c, .int e]] ∧ Sh 1000000000000 a b ∧ Sh 1000000 c e ∧ a * e ≤ c * b
theorem mul_p {x y : D} (hx : PtS 1000000 x) (hy : PtS 1000000 y) : ∃ d, m__law_mul [x, y] μ = .ok d μ ∧ Dt (.tup [d, y]) := by
  obtain ⟨a, b, rfl, h1⟩ := hx
  obtain ⟨c, e, rfl, h2⟩ := hy
  obtain ⟨x, y, h, hs, hle⟩ := mul_v (μ := μ) h1 h2
  exact ⟨_, h, ⟨_, _, _, _, rfl, hs, h2, hle⟩⟩
theorem dot_ok {l : Nat} {n : Int} (hs : Sd l n μ) (hn : n < 800000000) : wr (m__law_dot [.loc l] μ) (fun d μ' => Dt d ∧ Sd l (n + 8) μ' ∧ Fr l μ μ') (fun _ _ => False) := by
  unfold m__law_dot b__law_dot
  try simp only [wr_eVar, wr_eC, wr_e2, wr_e1, wr_eL, wr_eCall, wr_eCallK, wr_eLL, wr_eSeq, wr_lNil, wr_lCons, wr_bTru, wr_bOf, wr_bNot, wr_bAnd, wr_bOr, wr_isBl, wr_eAnd, wr_eOr, wr_eNot, wr_eIf, wr_e3c, wr_ok, wr_exc, ws_sNext, ws_sSeq, ws_sSet, ws_sDrop, ws_sRet, ws_sRetN, ws_sBrk, ws_sCnt, ws_sIf, ws_sAsg, ws_sPar, ws_sSub, ws_sForE, wr_callM, List.getElem?_cons_zero, List.getElem?_cons_succ, List.set_cons_zero, List.set_cons_succ, List.map_cons, List.map_nil, List.length_cons, List.length_nil, List.cons_append, List.nil_append, List.replicate, List.append_nil, addM_i, subM_i, negM_i, cmpM_i, eqM_i, eqM_s, neM_i, neM_s, absM_i, intM_i, intM_b, max2M_i, min2M_i, lenM_t, lenM_l, lenM_r, tupM_ap, lstM_ap, strM_s, truB_b, isBl_b, newM_ap, Nat.reduceLeDiff, seqL_l, seqT_t, isNM_n, isNM_i, if_true, if_false, Bool.false_eq_true, Bool.not_true, Bool.not_false, Nat.reduceSub, Nat.reduceAdd, Nat.zero_add, eq_self, and_self, and_true, true_and, gN]
  refine wr_to (draw_l hs (by omega) (by omega) (by decide +kernel)) ?_
  intro x μ1 hx
  obtain ⟨w, hw, w0, w1, s1, f1⟩ := hx
  rw [hw]
  try simp only [wr_eVar, wr_eC, wr_e2, wr_e1, wr_eL, wr_eCall, wr_eCallK, wr_eLL, wr_eSeq, wr_lNil, wr_lCons, wr_bTru, wr_bOf, wr_bNot, wr_bAnd, wr_bOr, wr_isBl, wr_eAnd, wr_eOr, wr_eNot, wr_eIf, wr_e3c, wr_ok, wr_exc, ws_sNext, ws_sSeq, ws_sSet, ws_sDrop, ws_sRet, ws_sRetN, ws_sBrk, ws_sCnt, ws_sIf, ws_sAsg, ws_sPar, ws_sSub, ws_sForE, wr_callM, List.getElem?_cons_zero, List.getElem?_cons_succ, List.set_cons_zero, List.set_cons_succ, List.map_cons, List.map_nil, List.length_cons, List.length_nil, List.cons_append, List.nil_append, List.replicate, List.append_nil, addM_i, subM_i, negM_i, cmpM_i, eqM_i, eqM_s, neM_i, neM_s, absM_i, intM_i, intM_b, max2M_i, min2M_i, lenM_t, lenM_l, lenM_r, tupM_ap, lstM_ap, strM_s, truB_b, isBl_b, newM_ap, Nat.reduceLeDiff, seqL_l, seqT_t, isNM_n, isNM_i, if_true, if_false, Bool.false_eq_true, Bool.not_true, Bool.not_false, Nat.reduceSub, Nat.reduceAdd, Nat.zero_add, eq_self, and_self, and_true, true_and, gN]
  unfold t__law_dot_3
  try simp only [wr_eVar, wr_eC, wr_e2, wr_e1, wr_eL, wr_eCall, wr_eCallK, wr_eLL, wr_eSeq, wr_lNil, wr_lCons, wr_bTru, wr_bOf, wr_bNot, wr_bAnd, wr_bOr, wr_isBl, wr_eAnd, wr_eOr, wr_eNot, wr_eIf, wr_e3c, wr_ok, wr_exc, ws_sNext, ws_sSeq, ws_sSet, ws_sDrop, ws_sRet, ws_sRetN, ws_sBrk, ws_sCnt, ws_sIf, ws_sAsg, ws_sPar, ws_sSub, ws_sForE, wr_callM, List.getElem?_cons_zero, List.getElem?_cons_succ, List.set_cons_zero, List.set_cons_succ, List.map_cons, List.map_nil, List.length_cons, List.length_nil, List.cons_append, List.nil_append, List.replicate, List.append_nil, addM_i, subM_i, negM_i, cmpM_i, eqM_i, eqM_s, neM_i, neM_s, absM_i, intM_i, intM_b, max2M_i, min2M_i, lenM_t, lenM_l, lenM_r, tupM_ap, lstM_ap, strM_s, truB_b, isBl_b, newM_ap, Nat.reduceLeDiff, seqL_l, seqT_t, isNM_n, isNM_i, if_true, if_false, Bool.false_eq_true, Bool.not_true, Bool.not_false, Nat.reduceSub, Nat.reduceAdd, Nat.zero_add, eq_self, and_self, and_true, true_and, gN]
  by_cases z : w < 3
  · simp only [decide_eq_true z, if_true]
    refine wr_ix (by omega) (by simp; omega) fun e he => ?_
    simp only [List.mem_cons, List.not_mem_nil, or_false] at he
    have c0 : ∀ B : Int, 1 ≤ B → Sh B 0 1 := fun B h => ⟨by omega, by decide, by omega, by omega, h⟩
    have c1 : ∀ B : Int, 1 ≤ B → Sh B 1 1 := fun B h => ⟨by omega, by decide, by omega, by omega, h⟩
    refine ⟨?_, s1.mono (by omega), f1⟩
    rcases he with rfl | rfl | rfl
    · exact ⟨_, _, _, _, rfl, c0 _ (by omega), c0 _ (by omega), by omega⟩
    · exact ⟨_, _, _, _, rfl, c0 _ (by omega), c1 _ (by omega), by omega⟩
    · exact ⟨_, _, _, _, rfl, c1 _ (by omega), c1 _ (by omega), by omega⟩
  simp only [decide_eq_false z, Bool.false_eq_true, if_false]
  -- with a cover
  have rest : ∀ (c e : Int) (μ2 : Mem) (m : Int), Sh 1000000 c e → Sd l m μ2 → m ≤ n + 4 → Fr l μ μ2 → ws (t__law_dot_1 [some (.loc l), some (.int w), some (.tup [.int c, .int e]), none] μ2) (fun _ μ1 => Dt D.non ∧ Sd l (n + 8) μ1 ∧ Fr l μ μ1) (fun d μ' => Dt d ∧ Sd l (n + 8) μ' ∧ Fr l μ μ') (fun _ _ => False) (fun _ _ => False) (fun _ _ => False) := by
    intro c e μ2 m hce s2 hm f2
    have hy : PtS 1000000 (.tup [.int c, .int e]) := ⟨c, e, rfl, hce⟩
    unfold t__law_dot_1
    try simp only [wr_eVar, wr_eC, wr_e2, wr_e1, wr_eL, wr_eCall, wr_eCallK, wr_eLL, wr_eSeq, wr_lNil, wr_lCons, wr_bTru, wr_bOf, wr_bNot, wr_bAnd, wr_bOr, wr_isBl, wr_eAnd, wr_eOr, wr_eNot, wr_eIf, wr_e3c, wr_ok, wr_exc, ws_sNext, ws_sSeq, ws_sSet, ws_sDrop, ws_sRet, ws_sRetN, ws_sBrk, ws_sCnt, ws_sIf, ws_sAsg, ws_sPar, ws_sSub, ws_sForE, wr_callM, List.getElem?_cons_zero, List.getElem?_cons_succ, List.set_cons_zero, List.set_cons_succ, List.map_cons, List.map_nil, List.length_cons, List.length_nil, List.cons_append, List.nil_append, List.replicate, List.append_nil, addM_i, subM_i, negM_i, cmpM_i, eqM_i, eqM_s, neM_i, neM_s, absM_i, intM_i, intM_b, max2M_i, min2M_i, lenM_t, lenM_l, lenM_r, tupM_ap, lstM_ap, strM_s, truB_b, isBl_b, newM_ap, Nat.reduceLeDiff, seqL_l, seqT_t, isNM_n, isNM_i, if_true, if_false, Bool.false_eq_true, Bool.not_true, Bool.not_false, Nat.reduceSub, Nat.reduceAdd, Nat.zero_add, eq_self, and_self, and_true, true_and, gN]
    by_cases z4 : w = 4
    · simp only [decide_eq_true z4, if_true]
      unfold t__law_dot_0
      try simp only [wr_eVar, wr_eC, wr_e2, wr_e1, wr_eL, wr_eCall, wr_eCallK, wr_eLL, wr_eSeq, wr_lNil, wr_lCons, wr_bTru, wr_bOf, wr_bNot, wr_bAnd, wr_bOr, wr_isBl, wr_eAnd, wr_eOr, wr_eNot, wr_eIf, wr_e3c, wr_ok, wr_exc, ws_sNext, ws_sSeq, ws_sSet, ws_sDrop, ws_sRet, ws_sRetN, ws_sBrk, ws_sCnt, ws_sIf, ws_sAsg, ws_sPar, ws_sSub, ws_sForE, wr_callM, List.getElem?_cons_zero, List.getElem?_cons_succ, List.set_cons_zero, List.set_cons_succ, List.map_cons, List.map_nil, List.length_cons, List.length_nil, List.cons_append, List.nil_append, List.replicate, List.append_nil, addM_i, subM_i, negM_i, cmpM_i, eqM_i, eqM_s, neM_i, neM_s, absM_i, intM_i, intM_b, max2M_i, min2M_i, lenM_t, lenM_l, lenM_r, tupM_ap, lstM_ap, strM_s, truB_b, isBl_b, newM_ap, Nat.reduceLeDiff, seqL_l, seqT_t, isNM_n, isNM_i, if_true, if_false, Bool.false_eq_true, Bool.not_true, Bool.not_false, Nat.reduceSub, Nat.reduceAdd, Nat.zero_add, eq_self, and_self, and_true, true_and, gN]
      exact ⟨⟨_, _, _, _, rfl, hce.mono (by omega), hce, Int.le_refl _⟩, s2.mono (by omega), f2⟩
    · simp only [decide_eq_false z4, Bool.false_eq_true, if_false]
      try simp only [wr_eVar, wr_eC, wr_e2, wr_e1, wr_eL, wr_eCall, wr_eCallK, wr_eLL, wr_eSeq, wr_lNil, wr_lCons, wr_bTru, wr_bOf, wr_bNot, wr_bAnd, wr_bOr, wr_isBl, wr_eAnd, wr_eOr, wr_eNot, wr_eIf, wr_e3c, wr_ok, wr_exc, ws_sNext, ws_sSeq, ws_sSet, ws_sDrop, ws_sRet, ws_sRetN, ws_sBrk, ws_sCnt, ws_sIf, ws_sAsg, ws_sPar, ws_sSub, ws_sForE, wr_callM, List.getElem?_cons_zero, List.getElem?_cons_succ, List.set_cons_zero, List.set_cons_succ, List.map_cons, List.map_nil, List.length_cons, List.length_nil, List.cons_append, List.nil_append, List.replicate, List.append_nil, addM_i, subM_i, negM_i, cmpM_i, eqM_i, eqM_s, neM_i, neM_s, absM_i, intM_i, intM_b, max2M_i, min2M_i, lenM_t, lenM_l, lenM_r, tupM_ap, lstM_ap, strM_s, truB_b, isBl_b, newM_ap, Nat.reduceLeDiff, seqL_l, seqT_t, isNM_n, isNM_i, if_true, if_false, Bool.false_eq_true, Bool.not_true, Bool.not_false, Nat.reduceSub, Nat.reduceAdd, Nat.zero_add, eq_self, and_self, and_true, true_and, gN]
      refine wr_to (part_ok s2 (by omega)) ?_
      intro x μ3 hx
      obtain ⟨hp, s3, f3⟩ := hx
      refine Exists.elim (mul_p (μ := μ3) hp hy) fun d hM => ?_
      have hd := hM.1
      have hdt := hM.2
      try simp only [wr_eVar, wr_eC, wr_e2, wr_e1, wr_eL, wr_eCall, wr_eCallK, wr_eLL, wr_eSeq, wr_lNil, wr_lCons, wr_bTru, wr_bOf, wr_bNot, wr_bAnd, wr_bOr, wr_isBl, wr_eAnd, wr_eOr, wr_eNot, wr_eIf, wr_e3c, wr_ok, wr_exc, ws_sNext, ws_sSeq, ws_sSet, ws_sDrop, ws_sRet, ws_sRetN, ws_sBrk, ws_sCnt, ws_sIf, ws_sAsg, ws_sPar, ws_sSub, ws_sForE, wr_callM, List.getElem?_cons_zero, List.getElem?_cons_succ, List.set_cons_zero, List.set_cons_succ, List.map_cons, List.map_nil, List.length_cons, List.length_nil, List.cons_append, List.nil_append, List.replicate, List.append_nil, addM_i, subM_i, negM_i, cmpM_i, eqM_i, eqM_s, neM_i, neM_s, absM_i, intM_i, intM_b, max2M_i, min2M_i, lenM_t, lenM_l, lenM_r, tupM_ap, lstM_ap, strM_s, truB_b, isBl_b, newM_ap, Nat.reduceLeDiff, seqL_l, seqT_t, isNM_n, isNM_i, if_true, if_false, Bool.false_eq_true, Bool.not_true, Bool.not_false, Nat.reduceSub, Nat.reduceAdd, Nat.zero_add, eq_self, and_self, and_true, true_and, gN]
      rw [hd]
      try simp only [wr_eVar, wr_eC, wr_e2, wr_e1, wr_eL, wr_eCall, wr_eCallK, wr_eLL, wr_eSeq, wr_lNil, wr_lCons, wr_bTru, wr_bOf, wr_bNot, wr_bAnd, wr_bOr, wr_isBl, wr_eAnd, wr_eOr, wr_eNot, wr_eIf, wr_e3c, wr_ok, wr_exc, ws_sNext, ws_sSeq, ws_sSet, ws_sDrop, ws_sRet, ws_sRetN, ws_sBrk, ws_sCnt, ws_sIf, ws_sAsg, ws_sPar, ws_sSub, ws_sForE, wr_callM, List.getElem?_cons_zero, List.getElem?_cons_succ, List.set_cons_zero, List.set_cons_succ, List.map_cons, List.map_nil, List.length_cons, List.length_nil, List.cons_append, List.nil_append, List.replicate, List.append_nil, addM_i, subM_i, negM_i, cmpM_i, eqM_i, eqM_s, neM_i, neM_s, absM_i, intM_i, intM_b, max2M_i, min2M_i, lenM_t, lenM_l, lenM_r, tupM_ap, lstM_ap, strM_s, truB_b, isBl_b, newM_ap, Nat.reduceLeDiff, seqL_l, seqT_t, isNM_n, isNM_i, if_true, if_false, Bool.false_eq_true, Bool.not_true, Bool.not_false, Nat.reduceSub, Nat.reduceAdd, Nat.zero_add, eq_self, and_self, and_true, true_and, gN]
      unfold t__law_dot_0
      try simp only [wr_eVar, wr_eC, wr_e2, wr_e1, wr_eL, wr_eCall, wr_eCallK, wr_eLL, wr_eSeq, wr_lNil, wr_lCons, wr_bTru, wr_bOf, wr_bNot, wr_bAnd, wr_bOr, wr_isBl, wr_eAnd, wr_eOr, wr_eNot, wr_eIf, wr_e3c, wr_ok, wr_exc, ws_sNext, ws_sSeq, ws_sSet, ws_sDrop, ws_sRet, ws_sRetN, ws_sBrk, ws_sCnt, ws_sIf, ws_sAsg, ws_sPar, ws_sSub, ws_sForE, wr_callM, List.getElem?_cons_zero, List.getElem?_cons_succ, List.set_cons_zero, List.set_cons_succ, List.map_cons, List.map_nil, List.length_cons, List.length_nil, List.cons_append, List.nil_append, List.replicate, List.append_nil, addM_i, subM_i, negM_i, cmpM_i, eqM_i, eqM_s, neM_i, neM_s, absM_i, intM_i, intM_b, max2M_i, min2M_i, lenM_t, lenM_l, lenM_r, tupM_ap, lstM_ap, strM_s, truB_b, isBl_b, newM_ap, Nat.reduceLeDiff, seqL_l, seqT_t, isNM_n, isNM_i, if_true, if_false, Bool.false_eq_true, Bool.not_true, Bool.not_false, Nat.reduceSub, Nat.reduceAdd, Nat.zero_add, eq_self, and_self, and_true, true_and, gN]
      exact ⟨hdt, s3.mono (by omega), f2.trans f3⟩
  unfold t__law_dot_2
  try simp only [wr_eVar, wr_eC, wr_e2, wr_e1, wr_eL, wr_eCall, wr_eCallK, wr_eLL, wr_eSeq, wr_lNil, wr_lCons, wr_bTru, wr_bOf, wr_bNot, wr_bAnd, wr_bOr, wr_isBl, wr_eAnd, wr_eOr, wr_eNot, wr_eIf, wr_e3c, wr_ok, wr_exc, ws_sNext, ws_sSeq, ws_sSet, ws_sDrop, ws_sRet, ws_sRetN, ws_sBrk, ws_sCnt, ws_sIf, ws_sAsg, ws_sPar, ws_sSub, ws_sForE, wr_callM, List.getElem?_cons_zero, List.getElem?_cons_succ, List.set_cons_zero, List.set_cons_succ, List.map_cons, List.map_nil, List.length_cons, List.length_nil, List.cons_append, List.nil_append, List.replicate, List.append_nil, addM_i, subM_i, negM_i, cmpM_i, eqM_i, eqM_s, neM_i, neM_s, absM_i, intM_i, intM_b, max2M_i, min2M_i, lenM_t, lenM_l, lenM_r, tupM_ap, lstM_ap, strM_s, truB_b, isBl_b, newM_ap, Nat.reduceLeDiff, seqL_l, seqT_t, isNM_n, isNM_i, if_true, if_false, Bool.false_eq_true, Bool.not_true, Bool.not_false, Nat.reduceSub, Nat.reduceAdd, Nat.zero_add, eq_self, and_self, and_true, true_and, gN]
  by_cases z3 : 3 < w
  · simp only [decide_eq_true z3, if_true]
    try simp only [wr_eVar, wr_eC, wr_e2, wr_e1, wr_eL, wr_eCall, wr_eCallK, wr_eLL, wr_eSeq, wr_lNil, wr_lCons, wr_bTru, wr_bOf, wr_bNot, wr_bAnd, wr_bOr, wr_isBl, wr_eAnd, wr_eOr, wr_eNot, wr_eIf, wr_e3c, wr_ok, wr_exc, ws_sNext, ws_sSeq, ws_sSet, ws_sDrop, ws_sRet, ws_sRetN, ws_sBrk, ws_sCnt, ws_sIf, ws_sAsg, ws_sPar, ws_sSub, ws_sForE, wr_callM, List.getElem?_cons_zero, List.getElem?_cons_succ, List.set_cons_zero, List.set_cons_succ, List.map_cons, List.map_nil, List.length_cons, List.length_nil, List.cons_append, List.nil_append, List.replicate, List.append_nil, addM_i, subM_i, negM_i, cmpM_i, eqM_i, eqM_s, neM_i, neM_s, absM_i, intM_i, intM_b, max2M_i, min2M_i, lenM_t, lenM_l, lenM_r, tupM_ap, lstM_ap, strM_s, truB_b, isBl_b, newM_ap, Nat.reduceLeDiff, seqL_l, seqT_t, isNM_n, isNM_i, if_true, if_false, Bool.false_eq_true, Bool.not_true, Bool.not_false, Nat.reduceSub, Nat.reduceAdd, Nat.zero_add, eq_self, and_self, and_true, true_and, gN]
    refine wr_to (part_ok s1 (by omega)) ?_
    intro x μ2 hx
    obtain ⟨hp, s2, f2⟩ := hx
    obtain ⟨c, e, rfl, hce⟩ := hp
    exact rest c e μ2 _ hce s2 (by omega) (f1.trans f2)
  · simp only [decide_eq_false z3, Bool.false_eq_true, if_false]
    try simp only [wr_eVar, wr_eC, wr_e2, wr_e1, wr_eL, wr_eCall, wr_eCallK, wr_eLL, wr_eSeq, wr_lNil, wr_lCons, wr_bTru, wr_bOf, wr_bNot, wr_bAnd, wr_bOr, wr_isBl, wr_eAnd, wr_eOr, wr_eNot, wr_eIf, wr_e3c, wr_ok, wr_exc, ws_sNext, ws_sSeq, ws_sSet, ws_sDrop, ws_sRet, ws_sRetN, ws_sBrk, ws_sCnt, ws_sIf, ws_sAsg, ws_sPar, ws_sSub, ws_sForE, wr_callM, List.getElem?_cons_zero, List.getElem?_cons_succ, List.set_cons_zero, List.set_cons_succ, List.map_cons, List.map_nil, List.length_cons, List.length_nil, List.cons_append, List.nil_append, List.replicate, List.append_nil, addM_i, subM_i, negM_i, cmpM_i, eqM_i, eqM_s, neM_i, neM_s, absM_i, intM_i, intM_b, max2M_i, min2M_i, lenM_t, lenM_l, lenM_r, tupM_ap, lstM_ap, strM_s, truB_b, isBl_b, newM_ap, Nat.reduceLeDiff, seqL_l, seqT_t, isNM_n, isNM_i, if_true, if_false, Bool.false_eq_true, Bool.not_true, Bool.not_false, Nat.reduceSub, Nat.reduceAdd, Nat.zero_add, eq_self, and_self, and_true, true_and, gN]
    exact rest 1 1 μ1 _ ⟨by omega, by decide, by omega, by omega, by omega⟩ s1 (by omega) f1
end
end Zk05
namespace Zk05
open PySem PySem.Spec PyProof.Rows L2 SE SX
section
variable {μ : Mem}
theorem numI_lt {t : Int} : ∀ c ∈ numI t, c < 58 := by
  intro c h
  have d : ∀ n : Nat, ∀ c ∈ TL.numL n, c < 58 := fun n c hc => by
    have := TL.numL_digits n c hc
    omega
  unfold numI at h
  split at h
  · rcases List.mem_cons.mp h with z | z
    · omega
    · exact d _ c z
  · exact d _ c h
theorem tx_lt {t b : Int} : ∀ c ∈ tx t b, c < 58 := by
  intro c h
  unfold tx at h
  split at h
  · exact numI_lt c h
  · rcases List.mem_append.mp h with z | z
    · exact numI_lt c z
    · rcases List.mem_cons.mp z with z | z
      · omega
      · exact numI_lt c z
theorem okS_S {l : List Nat} (h : ∀ c ∈ l, c < 128) : okS (S l) := fun c hc => Nat.lt_of_lt_of_le (h c hc) (by decide)
def ok7 (l : List Nat) : Prop := ∀ c ∈ l, c < 128
theorem ok7.app {a b : List Nat} (ha : ok7 a) (hb : ok7 b) : ok7 (a ++ b) := fun c h => (List.mem_append.mp h).elim (ha c) (hb c)
theorem ok7.nil : ok7 [] := fun c h => nomatch h
theorem ok7.cons {c : Nat} {a : List Nat} (hc : c < 128) (ha : ok7 a) : ok7 (c :: a) := fun x h => (List.mem_cons.mp h).elim (fun e => e ▸ hc) (ha x)
theorem ok7.take {a : List Nat} {n : Nat} (ha : ok7 a) : ok7 (a.take n) := fun c h => ha c (List.mem_of_mem_take h)
theorem ok7.drop {a : List Nat} {n : Nat} (ha : ok7 a) : ok7 (a.drop n) := fun c h => ha c (List.mem_of_mem_drop h)
theorem tx_ok7 {t b : Int} : ok7 (tx t b) := fun c h => by have := tx_lt c h; omega
theorem tk_S {l : List Nat} (h : l.length ≤ 75) (ho : ok7 l) : Tk (.str (S l)) := ⟨rfl, fun x e => by cases e; rw [S_len]; exact h, (Pw.s (c := 1) (okS_S ho) (by rw [S_len]; omega)).sh (by omega)⟩
theorem tk_by {d : D} (h : (plD d && ((match d with | .str x => decide (x.length ≤ 75) | _ => true) && shOk d)) = true) : Tk d := by
  obtain ⟨h1, h⟩ := andB h
  obtain ⟨h2, h3⟩ := andB h
  refine ⟨h1, fun x e => ?_, h3⟩
  subst e
  exact of_decide_eq_true h2
theorem to_S {a : List Nat} {k : Int} (h : a.length ≤ 100000) (h0 : 0 ≤ k) : slM (.str (S a)) none (some k) μ = .ok (.str (S (a.take k.toNat))) μ := by
  show (if (S a).length ≤ 1000000 then Res.ok (D.str (cutS (S a) none (some k))) μ else .bad) = _
  rw [S_len, if_pos (by omega), C8.cutS_slice, slice_to h0]
def sigL : List Nat := [48, 49, 50, 51, 52, 53, 54, 55, 56, 57, 45, 47, 32, 58, 43, 46, 95, 44, 59, 40, 41, 101, 69, 120, 88, 97, 65, 111, 79, 39, 34, 35, 42, 61, 60, 62, 91, 93, 123, 125, 124, 126, 94, 38, 64, 33, 63, 92, 10]
theorem sig_S : ("0123456789-/ :+._,;()eExXaAoO'\"#*=<>[]{}|~^&@!?\\\n" : Str) = S sigL := by decide +kernel
theorem sig_ok : ok7 sigL := by
  have : (sigL.all fun c => decide (c < 128)) = true := by decide
  exact fun c h => of_decide_eq_true (List.all_eq_true.mp this c h)
theorem ix_str {l : List Nat} {k : Int} (h0 : 0 ≤ k) (h1 : k < l.length) (hl : l.length ≤ 1000) : ∃ c ∈ l, ∀ μ, ixM (.str (S l)) (.int k) μ = .ok (.str (S [c])) μ := by
  have hk : k.toNat < l.length := by omega
  refine ⟨l[k.toNat], List.getElem_mem hk, fun μ => ?_⟩
  have e : atI (S l).cps.toList k = some l[k.toNat] := by
    show atI l k = _
    unfold atI ixN
    rw [if_pos h0, if_pos h1]
    simp [hk]
  show (if (S l).length ≤ 1000000 then (match atI (S l).cps.toList k with | some c => Res.ok (D.str ⟨#[c]⟩) μ | none => .bad) else .bad) = _
  rw [S_len, if_pos (by omega), e]
theorem k1 : (" : " : Str) = S [32, 58, 32] := by decide +kernel
theorem k2 : ("::" : Str) = S [58, 58] := by decide +kernel
theorem k3 : (":0" : Str) = S [58, 48] := by decide +kernel
theorem k4 : ("/1:" : Str) = S [47, 49, 58] := by decide +kernel
theorem k5 : (";" : Str) = S [59] := by decide +kernel
theorem two_pcs {p q : List Nat} (hp : 58 ∉ p) (hq : 58 ∉ q) : pcsC (p ++ 58 :: q) = [p, q] := by
  have := TL.spl_join (s := 58) (S := []) (parts := [p, q]) (by simp) (fun r hr => by
    simp only [List.mem_cons, List.not_mem_nil, or_false] at hr
    rcases hr with rfl | rfl
    · exact hp
    · exact hq)
  have e : TL.joinL [58] [p, q] = p ++ 58 :: q := by show p ++ ([58] ++ q) = _; rfl
  rw [e] at this
  exact this
theorem bent_ok {l : Nat} {n : Int} {p q : List Nat} (hp : p.length ≤ 27) (hq : q.length ≤ 15) (op : ok7 p) (oq : ok7 q) (np : 58 ∉ p) (nq : 58 ∉ q) (hs : Sd l n μ) (hn : n < 900000000) : wr (m__law_bent [.loc l, .str (S (p ++ 58 :: q))] μ) (fun r μ' => Tk r ∧ Sd l (n + 3) μ' ∧ Fr l μ μ') (fun _ _ => False) := by
  have hpc := two_pcs np nq
  have ha : (p ++ 58 :: q).length ≤ 43 := by simp only [List.length_append, List.length_cons]; omega
  have hok : ok7 (p ++ 58 :: q) := op.app (oq.cons (by omega))
  have spl : ∀ μ, splM (.str (S (p ++ 58 :: q))) (.str (S [58])) μ = .ok (.lst [.str (S p), .str (S q)]) μ := fun μ => by
    rw [splC_S (by omega), hpc]
    rfl
  generalize p ++ 58 :: q = a at ha hok spl
  unfold m__law_bent b__law_bent
  try simp only [wr_eVar, wr_eC, wr_e2, wr_e1, wr_eL, wr_eCall, wr_eCallK, wr_eLL, wr_eSeq, wr_lNil, wr_lCons, wr_bTru, wr_bOf, wr_bNot, wr_bAnd, wr_bOr, wr_isBl, wr_eAnd, wr_eOr, wr_eNot, wr_eIf, wr_e3c, wr_ok, wr_exc, ws_sNext, ws_sSeq, ws_sSet, ws_sDrop, ws_sRet, ws_sRetN, ws_sBrk, ws_sCnt, ws_sIf, ws_sAsg, ws_sPar, ws_sSub, ws_sForE, wr_callM, List.getElem?_cons_zero, List.getElem?_cons_succ, List.set_cons_zero, List.set_cons_succ, List.map_cons, List.map_nil, List.length_cons, List.length_nil, List.cons_append, List.nil_append, List.replicate, List.append_nil, addM_i, subM_i, negM_i, cmpM_i, eqM_i, eqM_s, neM_i, neM_s, absM_i, intM_i, intM_b, max2M_i, min2M_i, lenM_t, lenM_l, lenM_r, tupM_ap, lstM_ap, strM_s, truB_b, isBl_b, newM_ap, Nat.reduceLeDiff, seqL_l, seqT_t, isNM_n, isNM_i, wr_eLc, wr_eSl, wr_oN, wr_oI, intO_i, seqA_l, seqA_r, seqA_t, listM_t, listM_l, slM_t, slM_l, ws_sMatch, ws_mcNil, ws_mcAny, ws_mcVal, if_true, if_false, Bool.false_eq_true, Bool.not_true, Bool.not_false, Nat.reduceSub, Nat.reduceAdd, Nat.zero_add, eq_self, and_self, and_true, true_and, gN]
  unfold t__law_bent_6
  rw [sig_S]
  try simp only [wr_eVar, wr_eC, wr_e2, wr_e1, wr_eL, wr_eCall, wr_eCallK, wr_eLL, wr_eSeq, wr_lNil, wr_lCons, wr_bTru, wr_bOf, wr_bNot, wr_bAnd, wr_bOr, wr_isBl, wr_eAnd, wr_eOr, wr_eNot, wr_eIf, wr_e3c, wr_ok, wr_exc, ws_sNext, ws_sSeq, ws_sSet, ws_sDrop, ws_sRet, ws_sRetN, ws_sBrk, ws_sCnt, ws_sIf, ws_sAsg, ws_sPar, ws_sSub, ws_sForE, wr_callM, List.getElem?_cons_zero, List.getElem?_cons_succ, List.set_cons_zero, List.set_cons_succ, List.map_cons, List.map_nil, List.length_cons, List.length_nil, List.cons_append, List.nil_append, List.replicate, List.append_nil, addM_i, subM_i, negM_i, cmpM_i, eqM_i, eqM_s, neM_i, neM_s, absM_i, intM_i, intM_b, max2M_i, min2M_i, lenM_t, lenM_l, lenM_r, tupM_ap, lstM_ap, strM_s, truB_b, isBl_b, newM_ap, Nat.reduceLeDiff, seqL_l, seqT_t, isNM_n, isNM_i, wr_eLc, wr_eSl, wr_oN, wr_oI, intO_i, seqA_l, seqA_r, seqA_t, listM_t, listM_l, slM_t, slM_l, ws_sMatch, ws_mcNil, ws_mcAny, ws_mcVal, if_true, if_false, Bool.false_eq_true, Bool.not_true, Bool.not_false, Nat.reduceSub, Nat.reduceAdd, Nat.zero_add, eq_self, and_self, and_true, true_and, gN]
  have l1 : ∀ μ, lenM [.str (S a)] μ = .ok (.int a.length) μ := fun μ => len_S (by omega)
  have l2 : ∀ μ, lenM [.str (S sigL)] μ = .ok (.int 49) μ := fun μ => len_S (by decide)
  simp only [l1, wr_ok]
  try simp only [wr_eVar, wr_eC, wr_e2, wr_e1, wr_eL, wr_eCall, wr_eCallK, wr_eLL, wr_eSeq, wr_lNil, wr_lCons, wr_bTru, wr_bOf, wr_bNot, wr_bAnd, wr_bOr, wr_isBl, wr_eAnd, wr_eOr, wr_eNot, wr_eIf, wr_e3c, wr_ok, wr_exc, ws_sNext, ws_sSeq, ws_sSet, ws_sDrop, ws_sRet, ws_sRetN, ws_sBrk, ws_sCnt, ws_sIf, ws_sAsg, ws_sPar, ws_sSub, ws_sForE, wr_callM, List.getElem?_cons_zero, List.getElem?_cons_succ, List.set_cons_zero, List.set_cons_succ, List.map_cons, List.map_nil, List.length_cons, List.length_nil, List.cons_append, List.nil_append, List.replicate, List.append_nil, addM_i, subM_i, negM_i, cmpM_i, eqM_i, eqM_s, neM_i, neM_s, absM_i, intM_i, intM_b, max2M_i, min2M_i, lenM_t, lenM_l, lenM_r, tupM_ap, lstM_ap, strM_s, truB_b, isBl_b, newM_ap, Nat.reduceLeDiff, seqL_l, seqT_t, isNM_n, isNM_i, wr_eLc, wr_eSl, wr_oN, wr_oI, intO_i, seqA_l, seqA_r, seqA_t, listM_t, listM_l, slM_t, slM_l, ws_sMatch, ws_mcNil, ws_mcAny, ws_mcVal, if_true, if_false, Bool.false_eq_true, Bool.not_true, Bool.not_false, Nat.reduceSub, Nat.reduceAdd, Nat.zero_add, eq_self, and_self, and_true, true_and, gN]
  refine wr_to (draw_l hs (by omega) (by omega) (by omega)) ?_
  rintro _ μ1 ⟨k, rfl, k0, k1', s1, f1⟩
  try simp only [wr_eVar, wr_eC, wr_e2, wr_e1, wr_eL, wr_eCall, wr_eCallK, wr_eLL, wr_eSeq, wr_lNil, wr_lCons, wr_bTru, wr_bOf, wr_bNot, wr_bAnd, wr_bOr, wr_isBl, wr_eAnd, wr_eOr, wr_eNot, wr_eIf, wr_e3c, wr_ok, wr_exc, ws_sNext, ws_sSeq, ws_sSet, ws_sDrop, ws_sRet, ws_sRetN, ws_sBrk, ws_sCnt, ws_sIf, ws_sAsg, ws_sPar, ws_sSub, ws_sForE, wr_callM, List.getElem?_cons_zero, List.getElem?_cons_succ, List.set_cons_zero, List.set_cons_succ, List.map_cons, List.map_nil, List.length_cons, List.length_nil, List.cons_append, List.nil_append, List.replicate, List.append_nil, addM_i, subM_i, negM_i, cmpM_i, eqM_i, eqM_s, neM_i, neM_s, absM_i, intM_i, intM_b, max2M_i, min2M_i, lenM_t, lenM_l, lenM_r, tupM_ap, lstM_ap, strM_s, truB_b, isBl_b, newM_ap, Nat.reduceLeDiff, seqL_l, seqT_t, isNM_n, isNM_i, wr_eLc, wr_eSl, wr_oN, wr_oI, intO_i, seqA_l, seqA_r, seqA_t, listM_t, listM_l, slM_t, slM_l, ws_sMatch, ws_mcNil, ws_mcAny, ws_mcVal, if_true, if_false, Bool.false_eq_true, Bool.not_true, Bool.not_false, Nat.reduceSub, Nat.reduceAdd, Nat.zero_add, eq_self, and_self, and_true, true_and, gN]
  simp only [l2, wr_ok]
  refine wr_to (draw_l s1 (by omega) (by omega) (by decide +kernel)) ?_
  rintro _ μ2 ⟨j, rfl, j0, j1, s2, f2⟩
  obtain ⟨c, hc, hx⟩ := ix_str (l := sigL) j0 (by simpa [sigL] using j1) (by decide)
  rw [hx]
  try simp only [wr_eVar, wr_eC, wr_e2, wr_e1, wr_eL, wr_eCall, wr_eCallK, wr_eLL, wr_eSeq, wr_lNil, wr_lCons, wr_bTru, wr_bOf, wr_bNot, wr_bAnd, wr_bOr, wr_isBl, wr_eAnd, wr_eOr, wr_eNot, wr_eIf, wr_e3c, wr_ok, wr_exc, ws_sNext, ws_sSeq, ws_sSet, ws_sDrop, ws_sRet, ws_sRetN, ws_sBrk, ws_sCnt, ws_sIf, ws_sAsg, ws_sPar, ws_sSub, ws_sForE, wr_callM, List.getElem?_cons_zero, List.getElem?_cons_succ, List.set_cons_zero, List.set_cons_succ, List.map_cons, List.map_nil, List.length_cons, List.length_nil, List.cons_append, List.nil_append, List.replicate, List.append_nil, addM_i, subM_i, negM_i, cmpM_i, eqM_i, eqM_s, neM_i, neM_s, absM_i, intM_i, intM_b, max2M_i, min2M_i, lenM_t, lenM_l, lenM_r, tupM_ap, lstM_ap, strM_s, truB_b, isBl_b, newM_ap, Nat.reduceLeDiff, seqL_l, seqT_t, isNM_n, isNM_i, wr_eLc, wr_eSl, wr_oN, wr_oI, intO_i, seqA_l, seqA_r, seqA_t, listM_t, listM_l, slM_t, slM_l, ws_sMatch, ws_mcNil, ws_mcAny, ws_mcVal, if_true, if_false, Bool.false_eq_true, Bool.not_true, Bool.not_false, Nat.reduceSub, Nat.reduceAdd, Nat.zero_add, eq_self, and_self, and_true, true_and, gN]
  have okc : c < 128 := sig_ok c hc
  clear hx hc
  have sP : ∀ μ, slM (.str (S a)) none (some k) μ = .ok (.str (S (a.take k.toNat))) μ := fun μ => to_S (by omega) k0
  have sQ : ∀ μ, slM (.str (S a)) (some k) none μ = .ok (.str (S (a.drop k.toNat))) μ := fun μ => sl_from (by omega) k0
  have sR : ∀ μ, slM (.str (S a)) (some (k + 1)) none μ = .ok (.str (S (a.drop (k + 1).toNat))) μ := fun μ => sl_from (by omega) (by omega)
  have hP : (a.take k.toNat).length ≤ 43 := by rw [List.length_take]; omega
  have hQ : (a.drop k.toNat).length ≤ 43 := by rw [List.length_drop]; omega
  have hR : (a.drop (k + 1).toNat).length ≤ 43 := by rw [List.length_drop]; omega
  have hPQ : (a.take k.toNat).length + (a.drop k.toNat).length ≤ 43 := by rw [List.length_take, List.length_drop]; omega
  have hPR : (a.take k.toNat).length + (a.drop (k + 1).toNat).length ≤ 43 := by rw [List.length_take, List.length_drop]; omega
  have oP : ok7 (a.take k.toNat) := hok.take
  have oQ : ok7 (a.drop k.toNat) := hok.drop
  have oR : ok7 (a.drop (k + 1).toNat) := hok.drop
  generalize a.take k.toNat = P at *
  generalize a.drop k.toNat = Q at *
  generalize a.drop (k + 1).toNat = R at *
  unfold t__law_bent_5
  try simp only [wr_eVar, wr_eC, wr_e2, wr_e1, wr_eL, wr_eCall, wr_eCallK, wr_eLL, wr_eSeq, wr_lNil, wr_lCons, wr_bTru, wr_bOf, wr_bNot, wr_bAnd, wr_bOr, wr_isBl, wr_eAnd, wr_eOr, wr_eNot, wr_eIf, wr_e3c, wr_ok, wr_exc, ws_sNext, ws_sSeq, ws_sSet, ws_sDrop, ws_sRet, ws_sRetN, ws_sBrk, ws_sCnt, ws_sIf, ws_sAsg, ws_sPar, ws_sSub, ws_sForE, wr_callM, List.getElem?_cons_zero, List.getElem?_cons_succ, List.set_cons_zero, List.set_cons_succ, List.map_cons, List.map_nil, List.length_cons, List.length_nil, List.cons_append, List.nil_append, List.replicate, List.append_nil, addM_i, subM_i, negM_i, cmpM_i, eqM_i, eqM_s, neM_i, neM_s, absM_i, intM_i, intM_b, max2M_i, min2M_i, lenM_t, lenM_l, lenM_r, tupM_ap, lstM_ap, strM_s, truB_b, isBl_b, newM_ap, Nat.reduceLeDiff, seqL_l, seqT_t, isNM_n, isNM_i, wr_eLc, wr_eSl, wr_oN, wr_oI, intO_i, seqA_l, seqA_r, seqA_t, listM_t, listM_l, slM_t, slM_l, ws_sMatch, ws_mcNil, ws_mcAny, ws_mcVal, if_true, if_false, Bool.false_eq_true, Bool.not_true, Bool.not_false, Nat.reduceSub, Nat.reduceAdd, Nat.zero_add, eq_self, and_self, and_true, true_and, gN]
  simp only [wr_eM1]
  try simp only [wr_eVar, wr_eC, wr_e2, wr_e1, wr_eL, wr_eCall, wr_eCallK, wr_eLL, wr_eSeq, wr_lNil, wr_lCons, wr_bTru, wr_bOf, wr_bNot, wr_bAnd, wr_bOr, wr_isBl, wr_eAnd, wr_eOr, wr_eNot, wr_eIf, wr_e3c, wr_ok, wr_exc, ws_sNext, ws_sSeq, ws_sSet, ws_sDrop, ws_sRet, ws_sRetN, ws_sBrk, ws_sCnt, ws_sIf, ws_sAsg, ws_sPar, ws_sSub, ws_sForE, wr_callM, List.getElem?_cons_zero, List.getElem?_cons_succ, List.set_cons_zero, List.set_cons_succ, List.map_cons, List.map_nil, List.length_cons, List.length_nil, List.cons_append, List.nil_append, List.replicate, List.append_nil, addM_i, subM_i, negM_i, cmpM_i, eqM_i, eqM_s, neM_i, neM_s, absM_i, intM_i, intM_b, max2M_i, min2M_i, lenM_t, lenM_l, lenM_r, tupM_ap, lstM_ap, strM_s, truB_b, isBl_b, newM_ap, Nat.reduceLeDiff, seqL_l, seqT_t, isNM_n, isNM_i, wr_eLc, wr_eSl, wr_oN, wr_oI, intO_i, seqA_l, seqA_r, seqA_t, listM_t, listM_l, slM_t, slM_l, ws_sMatch, ws_mcNil, ws_mcAny, ws_mcVal, if_true, if_false, Bool.false_eq_true, Bool.not_true, Bool.not_false, Nat.reduceSub, Nat.reduceAdd, Nat.zero_add, eq_self, and_self, and_true, true_and, gN]
  simp only [isSt_s, if_true]
  simp only [zC, spl, wr_ok, gL, gsCons, gsNil, gN, List.length_cons, List.length_nil, Nat.reduceAdd, if_true]
  try simp only [wr_eVar, wr_eC, wr_e2, wr_e1, wr_eL, wr_eCall, wr_eCallK, wr_eLL, wr_eSeq, wr_lNil, wr_lCons, wr_bTru, wr_bOf, wr_bNot, wr_bAnd, wr_bOr, wr_isBl, wr_eAnd, wr_eOr, wr_eNot, wr_eIf, wr_e3c, wr_ok, wr_exc, ws_sNext, ws_sSeq, ws_sSet, ws_sDrop, ws_sRet, ws_sRetN, ws_sBrk, ws_sCnt, ws_sIf, ws_sAsg, ws_sPar, ws_sSub, ws_sForE, wr_callM, List.getElem?_cons_zero, List.getElem?_cons_succ, List.set_cons_zero, List.set_cons_succ, List.map_cons, List.map_nil, List.length_cons, List.length_nil, List.cons_append, List.nil_append, List.replicate, List.append_nil, addM_i, subM_i, negM_i, cmpM_i, eqM_i, eqM_s, neM_i, neM_s, absM_i, intM_i, intM_b, max2M_i, min2M_i, lenM_t, lenM_l, lenM_r, tupM_ap, lstM_ap, strM_s, truB_b, isBl_b, newM_ap, Nat.reduceLeDiff, seqL_l, seqT_t, isNM_n, isNM_i, wr_eLc, wr_eSl, wr_oN, wr_oI, intO_i, seqA_l, seqA_r, seqA_t, listM_t, listM_l, slM_t, slM_l, ws_sMatch, ws_mcNil, ws_mcAny, ws_mcVal, if_true, if_false, Bool.false_eq_true, Bool.not_true, Bool.not_false, Nat.reduceSub, Nat.reduceAdd, Nat.zero_add, eq_self, and_self, and_true, true_and, gN]
  try simp only [gL, gsCons, gsNil, gN, List.length_cons, List.length_nil, Nat.reduceAdd, if_true]
  try simp only [wr_eVar, wr_eC, wr_e2, wr_e1, wr_eL, wr_eCall, wr_eCallK, wr_eLL, wr_eSeq, wr_lNil, wr_lCons, wr_bTru, wr_bOf, wr_bNot, wr_bAnd, wr_bOr, wr_isBl, wr_eAnd, wr_eOr, wr_eNot, wr_eIf, wr_e3c, wr_ok, wr_exc, ws_sNext, ws_sSeq, ws_sSet, ws_sDrop, ws_sRet, ws_sRetN, ws_sBrk, ws_sCnt, ws_sIf, ws_sAsg, ws_sPar, ws_sSub, ws_sForE, wr_callM, List.getElem?_cons_zero, List.getElem?_cons_succ, List.set_cons_zero, List.set_cons_succ, List.map_cons, List.map_nil, List.length_cons, List.length_nil, List.cons_append, List.nil_append, List.replicate, List.append_nil, addM_i, subM_i, negM_i, cmpM_i, eqM_i, eqM_s, neM_i, neM_s, absM_i, intM_i, intM_b, max2M_i, min2M_i, lenM_t, lenM_l, lenM_r, tupM_ap, lstM_ap, strM_s, truB_b, isBl_b, newM_ap, Nat.reduceLeDiff, seqL_l, seqT_t, isNM_n, isNM_i, wr_eLc, wr_eSl, wr_oN, wr_oI, intO_i, seqA_l, seqA_r, seqA_t, listM_t, listM_l, slM_t, slM_l, ws_sMatch, ws_mcNil, ws_mcAny, ws_mcVal, if_true, if_false, Bool.false_eq_true, Bool.not_true, Bool.not_false, Nat.reduceSub, Nat.reduceAdd, Nat.zero_add, eq_self, and_self, and_true, true_and, gN]
  unfold t__law_bent_4
  try simp only [wr_eVar, wr_eC, wr_e2, wr_e1, wr_eL, wr_eCall, wr_eCallK, wr_eLL, wr_eSeq, wr_lNil, wr_lCons, wr_bTru, wr_bOf, wr_bNot, wr_bAnd, wr_bOr, wr_isBl, wr_eAnd, wr_eOr, wr_eNot, wr_eIf, wr_e3c, wr_ok, wr_exc, ws_sNext, ws_sSeq, ws_sSet, ws_sDrop, ws_sRet, ws_sRetN, ws_sBrk, ws_sCnt, ws_sIf, ws_sAsg, ws_sPar, ws_sSub, ws_sForE, wr_callM, List.getElem?_cons_zero, List.getElem?_cons_succ, List.set_cons_zero, List.set_cons_succ, List.map_cons, List.map_nil, List.length_cons, List.length_nil, List.cons_append, List.nil_append, List.replicate, List.append_nil, addM_i, subM_i, negM_i, cmpM_i, eqM_i, eqM_s, neM_i, neM_s, absM_i, intM_i, intM_b, max2M_i, min2M_i, lenM_t, lenM_l, lenM_r, tupM_ap, lstM_ap, strM_s, truB_b, isBl_b, newM_ap, Nat.reduceLeDiff, seqL_l, seqT_t, isNM_n, isNM_i, wr_eLc, wr_eSl, wr_oN, wr_oI, intO_i, seqA_l, seqA_r, seqA_t, listM_t, listM_l, slM_t, slM_l, ws_sMatch, ws_mcNil, ws_mcAny, ws_mcVal, if_true, if_false, Bool.false_eq_true, Bool.not_true, Bool.not_false, Nat.reduceSub, Nat.reduceAdd, Nat.zero_add, eq_self, and_self, and_true, true_and, gN]
  try simp only [sP, sQ, sR, wr_ok, zC]
  try simp (disch := (first | omega | (simp only [List.length_append, List.length_cons, List.length_nil]; omega))) only [add_S, wr_ok]
  try simp only [wr_eVar, wr_eC, wr_e2, wr_e1, wr_eL, wr_eCall, wr_eCallK, wr_eLL, wr_eSeq, wr_lNil, wr_lCons, wr_bTru, wr_bOf, wr_bNot, wr_bAnd, wr_bOr, wr_isBl, wr_eAnd, wr_eOr, wr_eNot, wr_eIf, wr_e3c, wr_ok, wr_exc, ws_sNext, ws_sSeq, ws_sSet, ws_sDrop, ws_sRet, ws_sRetN, ws_sBrk, ws_sCnt, ws_sIf, ws_sAsg, ws_sPar, ws_sSub, ws_sForE, wr_callM, List.getElem?_cons_zero, List.getElem?_cons_succ, List.set_cons_zero, List.set_cons_succ, List.map_cons, List.map_nil, List.length_cons, List.length_nil, List.cons_append, List.nil_append, List.replicate, List.append_nil, addM_i, subM_i, negM_i, cmpM_i, eqM_i, eqM_s, neM_i, neM_s, absM_i, intM_i, intM_b, max2M_i, min2M_i, lenM_t, lenM_l, lenM_r, tupM_ap, lstM_ap, strM_s, truB_b, isBl_b, newM_ap, Nat.reduceLeDiff, seqL_l, seqT_t, isNM_n, isNM_i, wr_eLc, wr_eSl, wr_oN, wr_oI, intO_i, seqA_l, seqA_r, seqA_t, listM_t, listM_l, slM_t, slM_l, ws_sMatch, ws_mcNil, ws_mcAny, ws_mcVal, if_true, if_false, Bool.false_eq_true, Bool.not_true, Bool.not_false, Nat.reduceSub, Nat.reduceAdd, Nat.zero_add, eq_self, and_self, and_true, true_and, gN]
  try simp (disch := (first | omega | (simp only [List.length_append, List.length_cons, List.length_nil]; omega))) only [sP, sQ, sR, add_S, wr_ok]
  try simp only [wr_eVar, wr_eC, wr_e2, wr_e1, wr_eL, wr_eCall, wr_eCallK, wr_eLL, wr_eSeq, wr_lNil, wr_lCons, wr_bTru, wr_bOf, wr_bNot, wr_bAnd, wr_bOr, wr_isBl, wr_eAnd, wr_eOr, wr_eNot, wr_eIf, wr_e3c, wr_ok, wr_exc, ws_sNext, ws_sSeq, ws_sSet, ws_sDrop, ws_sRet, ws_sRetN, ws_sBrk, ws_sCnt, ws_sIf, ws_sAsg, ws_sPar, ws_sSub, ws_sForE, wr_callM, List.getElem?_cons_zero, List.getElem?_cons_succ, List.set_cons_zero, List.set_cons_succ, List.map_cons, List.map_nil, List.length_cons, List.length_nil, List.cons_append, List.nil_append, List.replicate, List.append_nil, addM_i, subM_i, negM_i, cmpM_i, eqM_i, eqM_s, neM_i, neM_s, absM_i, intM_i, intM_b, max2M_i, min2M_i, lenM_t, lenM_l, lenM_r, tupM_ap, lstM_ap, strM_s, truB_b, isBl_b, newM_ap, Nat.reduceLeDiff, seqL_l, seqT_t, isNM_n, isNM_i, wr_eLc, wr_eSl, wr_oN, wr_oI, intO_i, seqA_l, seqA_r, seqA_t, listM_t, listM_l, slM_t, slM_l, ws_sMatch, ws_mcNil, ws_mcAny, ws_mcVal, if_true, if_false, Bool.false_eq_true, Bool.not_true, Bool.not_false, Nat.reduceSub, Nat.reduceAdd, Nat.zero_add, eq_self, and_self, and_true, true_and, gN]
  unfold t__law_bent_3
  try simp only [wr_eVar, wr_eC, wr_e2, wr_e1, wr_eL, wr_eCall, wr_eCallK, wr_eLL, wr_eSeq, wr_lNil, wr_lCons, wr_bTru, wr_bOf, wr_bNot, wr_bAnd, wr_bOr, wr_isBl, wr_eAnd, wr_eOr, wr_eNot, wr_eIf, wr_e3c, wr_ok, wr_exc, ws_sNext, ws_sSeq, ws_sSet, ws_sDrop, ws_sRet, ws_sRetN, ws_sBrk, ws_sCnt, ws_sIf, ws_sAsg, ws_sPar, ws_sSub, ws_sForE, wr_callM, List.getElem?_cons_zero, List.getElem?_cons_succ, List.set_cons_zero, List.set_cons_succ, List.map_cons, List.map_nil, List.length_cons, List.length_nil, List.cons_append, List.nil_append, List.replicate, List.append_nil, addM_i, subM_i, negM_i, cmpM_i, eqM_i, eqM_s, neM_i, neM_s, absM_i, intM_i, intM_b, max2M_i, min2M_i, lenM_t, lenM_l, lenM_r, tupM_ap, lstM_ap, strM_s, truB_b, isBl_b, newM_ap, Nat.reduceLeDiff, seqL_l, seqT_t, isNM_n, isNM_i, wr_eLc, wr_eSl, wr_oN, wr_oI, intO_i, seqA_l, seqA_r, seqA_t, listM_t, listM_l, slM_t, slM_l, ws_sMatch, ws_mcNil, ws_mcAny, ws_mcVal, if_true, if_false, Bool.false_eq_true, Bool.not_true, Bool.not_false, Nat.reduceSub, Nat.reduceAdd, Nat.zero_add, eq_self, and_self, and_true, true_and, gN]
  try simp only [sP, sQ, sR, wr_ok, zC, k1]
  try simp (disch := (first | omega | (simp only [List.length_append, List.length_cons, List.length_nil]; omega))) only [sP, sQ, sR, add_S, wr_ok]
  try simp only [wr_eVar, wr_eC, wr_e2, wr_e1, wr_eL, wr_eCall, wr_eCallK, wr_eLL, wr_eSeq, wr_lNil, wr_lCons, wr_bTru, wr_bOf, wr_bNot, wr_bAnd, wr_bOr, wr_isBl, wr_eAnd, wr_eOr, wr_eNot, wr_eIf, wr_e3c, wr_ok, wr_exc, ws_sNext, ws_sSeq, ws_sSet, ws_sDrop, ws_sRet, ws_sRetN, ws_sBrk, ws_sCnt, ws_sIf, ws_sAsg, ws_sPar, ws_sSub, ws_sForE, wr_callM, List.getElem?_cons_zero, List.getElem?_cons_succ, List.set_cons_zero, List.set_cons_succ, List.map_cons, List.map_nil, List.length_cons, List.length_nil, List.cons_append, List.nil_append, List.replicate, List.append_nil, addM_i, subM_i, negM_i, cmpM_i, eqM_i, eqM_s, neM_i, neM_s, absM_i, intM_i, intM_b, max2M_i, min2M_i, lenM_t, lenM_l, lenM_r, tupM_ap, lstM_ap, strM_s, truB_b, isBl_b, newM_ap, Nat.reduceLeDiff, seqL_l, seqT_t, isNM_n, isNM_i, wr_eLc, wr_eSl, wr_oN, wr_oI, intO_i, seqA_l, seqA_r, seqA_t, listM_t, listM_l, slM_t, slM_l, ws_sMatch, ws_mcNil, ws_mcAny, ws_mcVal, if_true, if_false, Bool.false_eq_true, Bool.not_true, Bool.not_false, Nat.reduceSub, Nat.reduceAdd, Nat.zero_add, eq_self, and_self, and_true, true_and, gN]
  rw [addM_l (by simp)]
  try simp only [wr_eVar, wr_eC, wr_e2, wr_e1, wr_eL, wr_eCall, wr_eCallK, wr_eLL, wr_eSeq, wr_lNil, wr_lCons, wr_bTru, wr_bOf, wr_bNot, wr_bAnd, wr_bOr, wr_isBl, wr_eAnd, wr_eOr, wr_eNot, wr_eIf, wr_e3c, wr_ok, wr_exc, ws_sNext, ws_sSeq, ws_sSet, ws_sDrop, ws_sRet, ws_sRetN, ws_sBrk, ws_sCnt, ws_sIf, ws_sAsg, ws_sPar, ws_sSub, ws_sForE, wr_callM, List.getElem?_cons_zero, List.getElem?_cons_succ, List.set_cons_zero, List.set_cons_succ, List.map_cons, List.map_nil, List.length_cons, List.length_nil, List.cons_append, List.nil_append, List.replicate, List.append_nil, addM_i, subM_i, negM_i, cmpM_i, eqM_i, eqM_s, neM_i, neM_s, absM_i, intM_i, intM_b, max2M_i, min2M_i, lenM_t, lenM_l, lenM_r, tupM_ap, lstM_ap, strM_s, truB_b, isBl_b, newM_ap, Nat.reduceLeDiff, seqL_l, seqT_t, isNM_n, isNM_i, wr_eLc, wr_eSl, wr_oN, wr_oI, intO_i, seqA_l, seqA_r, seqA_t, listM_t, listM_l, slM_t, slM_l, ws_sMatch, ws_mcNil, ws_mcAny, ws_mcVal, if_true, if_false, Bool.false_eq_true, Bool.not_true, Bool.not_false, Nat.reduceSub, Nat.reduceAdd, Nat.zero_add, eq_self, and_self, and_true, true_and, gN]
  unfold t__law_bent_2
  try simp only [wr_eVar, wr_eC, wr_e2, wr_e1, wr_eL, wr_eCall, wr_eCallK, wr_eLL, wr_eSeq, wr_lNil, wr_lCons, wr_bTru, wr_bOf, wr_bNot, wr_bAnd, wr_bOr, wr_isBl, wr_eAnd, wr_eOr, wr_eNot, wr_eIf, wr_e3c, wr_ok, wr_exc, ws_sNext, ws_sSeq, ws_sSet, ws_sDrop, ws_sRet, ws_sRetN, ws_sBrk, ws_sCnt, ws_sIf, ws_sAsg, ws_sPar, ws_sSub, ws_sForE, wr_callM, List.getElem?_cons_zero, List.getElem?_cons_succ, List.set_cons_zero, List.set_cons_succ, List.map_cons, List.map_nil, List.length_cons, List.length_nil, List.cons_append, List.nil_append, List.replicate, List.append_nil, addM_i, subM_i, negM_i, cmpM_i, eqM_i, eqM_s, neM_i, neM_s, absM_i, intM_i, intM_b, max2M_i, min2M_i, lenM_t, lenM_l, lenM_r, tupM_ap, lstM_ap, strM_s, truB_b, isBl_b, newM_ap, Nat.reduceLeDiff, seqL_l, seqT_t, isNM_n, isNM_i, wr_eLc, wr_eSl, wr_oN, wr_oI, intO_i, seqA_l, seqA_r, seqA_t, listM_t, listM_l, slM_t, slM_l, ws_sMatch, ws_mcNil, ws_mcAny, ws_mcVal, if_true, if_false, Bool.false_eq_true, Bool.not_true, Bool.not_false, Nat.reduceSub, Nat.reduceAdd, Nat.zero_add, eq_self, and_self, and_true, true_and, gN]
  try simp only [k2, z0, zM, k3, k4, wr_ok]
  try simp (disch := (first | omega | (simp only [List.length_append, List.length_cons, List.length_nil]; omega))) only [sP, sQ, sR, add_S, wr_ok]
  try simp only [wr_eVar, wr_eC, wr_e2, wr_e1, wr_eL, wr_eCall, wr_eCallK, wr_eLL, wr_eSeq, wr_lNil, wr_lCons, wr_bTru, wr_bOf, wr_bNot, wr_bAnd, wr_bOr, wr_isBl, wr_eAnd, wr_eOr, wr_eNot, wr_eIf, wr_e3c, wr_ok, wr_exc, ws_sNext, ws_sSeq, ws_sSet, ws_sDrop, ws_sRet, ws_sRetN, ws_sBrk, ws_sCnt, ws_sIf, ws_sAsg, ws_sPar, ws_sSub, ws_sForE, wr_callM, List.getElem?_cons_zero, List.getElem?_cons_succ, List.set_cons_zero, List.set_cons_succ, List.map_cons, List.map_nil, List.length_cons, List.length_nil, List.cons_append, List.nil_append, List.replicate, List.append_nil, addM_i, subM_i, negM_i, cmpM_i, eqM_i, eqM_s, neM_i, neM_s, absM_i, intM_i, intM_b, max2M_i, min2M_i, lenM_t, lenM_l, lenM_r, tupM_ap, lstM_ap, strM_s, truB_b, isBl_b, newM_ap, Nat.reduceLeDiff, seqL_l, seqT_t, isNM_n, isNM_i, wr_eLc, wr_eSl, wr_oN, wr_oI, intO_i, seqA_l, seqA_r, seqA_t, listM_t, listM_l, slM_t, slM_l, ws_sMatch, ws_mcNil, ws_mcAny, ws_mcVal, if_true, if_false, Bool.false_eq_true, Bool.not_true, Bool.not_false, Nat.reduceSub, Nat.reduceAdd, Nat.zero_add, eq_self, and_self, and_true, true_and, gN]
  rw [addM_l (by simp)]
  try simp only [wr_eVar, wr_eC, wr_e2, wr_e1, wr_eL, wr_eCall, wr_eCallK, wr_eLL, wr_eSeq, wr_lNil, wr_lCons, wr_bTru, wr_bOf, wr_bNot, wr_bAnd, wr_bOr, wr_isBl, wr_eAnd, wr_eOr, wr_eNot, wr_eIf, wr_e3c, wr_ok, wr_exc, ws_sNext, ws_sSeq, ws_sSet, ws_sDrop, ws_sRet, ws_sRetN, ws_sBrk, ws_sCnt, ws_sIf, ws_sAsg, ws_sPar, ws_sSub, ws_sForE, wr_callM, List.getElem?_cons_zero, List.getElem?_cons_succ, List.set_cons_zero, List.set_cons_succ, List.map_cons, List.map_nil, List.length_cons, List.length_nil, List.cons_append, List.nil_append, List.replicate, List.append_nil, addM_i, subM_i, negM_i, cmpM_i, eqM_i, eqM_s, neM_i, neM_s, absM_i, intM_i, intM_b, max2M_i, min2M_i, lenM_t, lenM_l, lenM_r, tupM_ap, lstM_ap, strM_s, truB_b, isBl_b, newM_ap, Nat.reduceLeDiff, seqL_l, seqT_t, isNM_n, isNM_i, wr_eLc, wr_eSl, wr_oN, wr_oI, intO_i, seqA_l, seqA_r, seqA_t, listM_t, listM_l, slM_t, slM_l, ws_sMatch, ws_mcNil, ws_mcAny, ws_mcVal, if_true, if_false, Bool.false_eq_true, Bool.not_true, Bool.not_false, Nat.reduceSub, Nat.reduceAdd, Nat.zero_add, eq_self, and_self, and_true, true_and, gN]
  unfold t__law_bent_1
  try simp only [wr_eVar, wr_eC, wr_e2, wr_e1, wr_eL, wr_eCall, wr_eCallK, wr_eLL, wr_eSeq, wr_lNil, wr_lCons, wr_bTru, wr_bOf, wr_bNot, wr_bAnd, wr_bOr, wr_isBl, wr_eAnd, wr_eOr, wr_eNot, wr_eIf, wr_e3c, wr_ok, wr_exc, ws_sNext, ws_sSeq, ws_sSet, ws_sDrop, ws_sRet, ws_sRetN, ws_sBrk, ws_sCnt, ws_sIf, ws_sAsg, ws_sPar, ws_sSub, ws_sForE, wr_callM, List.getElem?_cons_zero, List.getElem?_cons_succ, List.set_cons_zero, List.set_cons_succ, List.map_cons, List.map_nil, List.length_cons, List.length_nil, List.cons_append, List.nil_append, List.replicate, List.append_nil, addM_i, subM_i, negM_i, cmpM_i, eqM_i, eqM_s, neM_i, neM_s, absM_i, intM_i, intM_b, max2M_i, min2M_i, lenM_t, lenM_l, lenM_r, tupM_ap, lstM_ap, strM_s, truB_b, isBl_b, newM_ap, Nat.reduceLeDiff, seqL_l, seqT_t, isNM_n, isNM_i, wr_eLc, wr_eSl, wr_oN, wr_oI, intO_i, seqA_l, seqA_r, seqA_t, listM_t, listM_l, slM_t, slM_l, ws_sMatch, ws_mcNil, ws_mcAny, ws_mcVal, if_true, if_false, Bool.false_eq_true, Bool.not_true, Bool.not_false, Nat.reduceSub, Nat.reduceAdd, Nat.zero_add, eq_self, and_self, and_true, true_and, gN]
  rw [addM_l (by simp)]
  try simp only [wr_eVar, wr_eC, wr_e2, wr_e1, wr_eL, wr_eCall, wr_eCallK, wr_eLL, wr_eSeq, wr_lNil, wr_lCons, wr_bTru, wr_bOf, wr_bNot, wr_bAnd, wr_bOr, wr_isBl, wr_eAnd, wr_eOr, wr_eNot, wr_eIf, wr_e3c, wr_ok, wr_exc, ws_sNext, ws_sSeq, ws_sSet, ws_sDrop, ws_sRet, ws_sRetN, ws_sBrk, ws_sCnt, ws_sIf, ws_sAsg, ws_sPar, ws_sSub, ws_sForE, wr_callM, List.getElem?_cons_zero, List.getElem?_cons_succ, List.set_cons_zero, List.set_cons_succ, List.map_cons, List.map_nil, List.length_cons, List.length_nil, List.cons_append, List.nil_append, List.replicate, List.append_nil, addM_i, subM_i, negM_i, cmpM_i, eqM_i, eqM_s, neM_i, neM_s, absM_i, intM_i, intM_b, max2M_i, min2M_i, lenM_t, lenM_l, lenM_r, tupM_ap, lstM_ap, strM_s, truB_b, isBl_b, newM_ap, Nat.reduceLeDiff, seqL_l, seqT_t, isNM_n, isNM_i, wr_eLc, wr_eSl, wr_oN, wr_oI, intO_i, seqA_l, seqA_r, seqA_t, listM_t, listM_l, slM_t, slM_l, ws_sMatch, ws_mcNil, ws_mcAny, ws_mcVal, if_true, if_false, Bool.false_eq_true, Bool.not_true, Bool.not_false, Nat.reduceSub, Nat.reduceAdd, Nat.zero_add, eq_self, and_self, and_true, true_and, gN]
  unfold t__law_bent_0
  try simp only [wr_eVar, wr_eC, wr_e2, wr_e1, wr_eL, wr_eCall, wr_eCallK, wr_eLL, wr_eSeq, wr_lNil, wr_lCons, wr_bTru, wr_bOf, wr_bNot, wr_bAnd, wr_bOr, wr_isBl, wr_eAnd, wr_eOr, wr_eNot, wr_eIf, wr_e3c, wr_ok, wr_exc, ws_sNext, ws_sSeq, ws_sSet, ws_sDrop, ws_sRet, ws_sRetN, ws_sBrk, ws_sCnt, ws_sIf, ws_sAsg, ws_sPar, ws_sSub, ws_sForE, wr_callM, List.getElem?_cons_zero, List.getElem?_cons_succ, List.set_cons_zero, List.set_cons_succ, List.map_cons, List.map_nil, List.length_cons, List.length_nil, List.cons_append, List.nil_append, List.replicate, List.append_nil, addM_i, subM_i, negM_i, cmpM_i, eqM_i, eqM_s, neM_i, neM_s, absM_i, intM_i, intM_b, max2M_i, min2M_i, lenM_t, lenM_l, lenM_r, tupM_ap, lstM_ap, strM_s, truB_b, isBl_b, newM_ap, Nat.reduceLeDiff, seqL_l, seqT_t, isNM_n, isNM_i, wr_eLc, wr_eSl, wr_oN, wr_oI, intO_i, seqA_l, seqA_r, seqA_t, listM_t, listM_l, slM_t, slM_l, ws_sMatch, ws_mcNil, ws_mcAny, ws_mcVal, if_true, if_false, Bool.false_eq_true, Bool.not_true, Bool.not_false, Nat.reduceSub, Nat.reduceAdd, Nat.zero_add, eq_self, and_self, and_true, true_and, gN]
  try simp only [k5]
  try simp (disch := (first | omega | (simp only [List.length_append, List.length_cons, List.length_nil]; omega))) only [sP, sQ, sR, add_S, wr_ok]
  try simp only [wr_eVar, wr_eC, wr_e2, wr_e1, wr_eL, wr_eCall, wr_eCallK, wr_eLL, wr_eSeq, wr_lNil, wr_lCons, wr_bTru, wr_bOf, wr_bNot, wr_bAnd, wr_bOr, wr_isBl, wr_eAnd, wr_eOr, wr_eNot, wr_eIf, wr_e3c, wr_ok, wr_exc, ws_sNext, ws_sSeq, ws_sSet, ws_sDrop, ws_sRet, ws_sRetN, ws_sBrk, ws_sCnt, ws_sIf, ws_sAsg, ws_sPar, ws_sSub, ws_sForE, wr_callM, List.getElem?_cons_zero, List.getElem?_cons_succ, List.set_cons_zero, List.set_cons_succ, List.map_cons, List.map_nil, List.length_cons, List.length_nil, List.cons_append, List.nil_append, List.replicate, List.append_nil, addM_i, subM_i, negM_i, cmpM_i, eqM_i, eqM_s, neM_i, neM_s, absM_i, intM_i, intM_b, max2M_i, min2M_i, lenM_t, lenM_l, lenM_r, tupM_ap, lstM_ap, strM_s, truB_b, isBl_b, newM_ap, Nat.reduceLeDiff, seqL_l, seqT_t, isNM_n, isNM_i, wr_eLc, wr_eSl, wr_oN, wr_oI, intO_i, seqA_l, seqA_r, seqA_t, listM_t, listM_l, slM_t, slM_l, ws_sMatch, ws_mcNil, ws_mcAny, ws_mcVal, if_true, if_false, Bool.false_eq_true, Bool.not_true, Bool.not_false, Nat.reduceSub, Nat.reduceAdd, Nat.zero_add, eq_self, and_self, and_true, true_and, gN]
  rw [addM_l (by simp)]
  try simp only [wr_eVar, wr_eC, wr_e2, wr_e1, wr_eL, wr_eCall, wr_eCallK, wr_eLL, wr_eSeq, wr_lNil, wr_lCons, wr_bTru, wr_bOf, wr_bNot, wr_bAnd, wr_bOr, wr_isBl, wr_eAnd, wr_eOr, wr_eNot, wr_eIf, wr_e3c, wr_ok, wr_exc, ws_sNext, ws_sSeq, ws_sSet, ws_sDrop, ws_sRet, ws_sRetN, ws_sBrk, ws_sCnt, ws_sIf, ws_sAsg, ws_sPar, ws_sSub, ws_sForE, wr_callM, List.getElem?_cons_zero, List.getElem?_cons_succ, List.set_cons_zero, List.set_cons_succ, List.map_cons, List.map_nil, List.length_cons, List.length_nil, List.cons_append, List.nil_append, List.replicate, List.append_nil, addM_i, subM_i, negM_i, cmpM_i, eqM_i, eqM_s, neM_i, neM_s, absM_i, intM_i, intM_b, max2M_i, min2M_i, lenM_t, lenM_l, lenM_r, tupM_ap, lstM_ap, strM_s, truB_b, isBl_b, newM_ap, Nat.reduceLeDiff, seqL_l, seqT_t, isNM_n, isNM_i, wr_eLc, wr_eSl, wr_oN, wr_oI, intO_i, seqA_l, seqA_r, seqA_t, listM_t, listM_l, slM_t, slM_l, ws_sMatch, ws_mcNil, ws_mcAny, ws_mcVal, if_true, if_false, Bool.false_eq_true, Bool.not_true, Bool.not_false, Nat.reduceSub, Nat.reduceAdd, Nat.zero_add, eq_self, and_self, and_true, true_and, gN]
  refine wr_to (draw_l s2 (by omega) (by omega) (by decide +kernel)) ?_
  rintro _ μ3 ⟨i, rfl, i0, i1, s3, f3⟩
  refine wr_ix i0 (by simpa using i1) fun r hr => ?_
  refine ⟨?_, s3.mono (by omega), (f1.trans f2).trans f3⟩
  simp only [List.cons_append, List.nil_append, List.mem_cons, List.not_mem_nil, or_false] at hr
  clear spl sP sQ sR l1 l2 s1 s2 s3 f1 f2 f3 hs hpc
  repeat' (rcases hr with rfl | hr)
  all_goals (try subst hr)
  all_goals first
    | exact tk_S (by first | omega | (simp only [List.length_append, List.length_cons, List.length_nil]; omega)) (by
        repeat' (first | assumption | apply ok7.app | exact ok7.nil | refine ok7.cons (by first | assumption | omega) ?_))
    | exact tk_by (by decide +kernel)
end
end Zk05
namespace Zk05
open PySem PySem.Spec PyProof.Rows L2 SE SX
section
variable {μ : Mem}
theorem th2 {c : Nat} {x y : D} (hx : sm5 x = true ∧ Qw c x) (hy : sm5 y = true ∧ Qw c y) : sm5 (.tup [x, y]) = true ∧ Qw (2 * c + 1) (.tup [x, y]) := ⟨sm5_t2 hx.1 hy.1, hx.2.t2 hy.2⟩
theorem thn {c n : Nat} {xs : List D} (h : ∀ x ∈ xs, sm5 x = true ∧ Qw c x) (hn : xs.length ≤ n) (h2 : n ≤ 1000) : sm5 (.tup xs) = true ∧ Qw (n * c + 1) (.tup xs) := by
  refine ⟨?_, Qw.tn (fun x hx => (h x hx).2) hn h2⟩
  have : ∀ ys : List D, (∀ y ∈ ys, sm5 y = true) → sm5L ys = true := by
    intro ys
    induction ys with
    | nil => intro _; rfl
    | cons y ys ih =>
      intro hy
      show (sm5 y && sm5L ys) = true
      rw [hy y List.mem_cons_self, ih fun z hz => hy z (List.mem_cons_of_mem _ hz)]
      rfl
  exact this xs fun x hx => (h x hx).1
theorem q_int {i : Int} (h : i.natAbs ≤ (1000000000000000000000000000000 : Int)) : sm5 (.int i) = true ∧ Qw 1 (.int i) := by
  have := B75
  have h2 : i.natAbs < 10 ^ 75 := by omega
  exact ⟨sm5_i h2, Qw.i (lt75 h2)⟩
theorem Sh.q {B a b : Int} (h : Sh B a b) (hB : B ≤ 1000000000000000000000000) : sm5 (.tup [.int a, .int b]) = true ∧ Qw 3 (.tup [.int a, .int b]) := by
  obtain ⟨b1, _, a0, ab, bB⟩ := h
  exact th2 (q_int (by omega)) (q_int (by omega))
theorem dt_pix {a b c e : Int} (h1 : Sh 1000000000000 a b) (h2 : Sh 1000000 c e) (hle : a * e ≤ c * b) : pix (.tup [.tup [.int a, .int b], .tup [.int c, .int e]]) = true := by
  show (shr (.tup [.int a, .int b]) && (shr (.tup [.int c, .int e]) && decide (a * e ≤ c * b))) = true
  rw [h1.shr, h2.shr, decide_eq_true hle]
  rfl
/-- what is no pixel -/
structure Od (d : D) : Prop where
  sm : sm5 d = true
  no : pix d = false
  sh : shOk d = true
theorem od_by {d : D} (h : (sm5 d && ((!pix d) && shOk d)) = true) : Od d := by
  obtain ⟨h1, h⟩ := andB h
  obtain ⟨h2, h3⟩ := andB h
  exact ⟨h1, by simpa using h2, h3⟩
theorem od_q {c : Nat} {d : D} (h : sm5 d = true ∧ Qw c d) (hc : c ≤ 60) (no : pix d = false) : Od d := ⟨h.1, no, h.2.sh hc⟩
theorem dbl_no {c e : Int} : shr (.tup [.int (2 * c), .int (2 * e)]) = false := by
  show (decide (1 ≤ 2 * e) && decide (Int.gcd (2 * c) (2 * e) = 1) && (decide (0 ≤ 2 * c) && decide (2 * c ≤ 2 * e))) = false
  have : Int.gcd (2 * c) (2 * e) ≠ 1 := by
    rw [Int.gcd_mul_left, show (2 : Int).natAbs = 2 from rfl]
    omega
  rw [decide_eq_false this]
  simp
theorem pix_l {x y : D} (h : shr x = false) : pix (.tup [x, y]) = false := by
  show (shr x && (shr y && leP x y)) = false
  rw [h]
  rfl
theorem pix_r {x y : D} (h : shr y = false) : pix (.tup [x, y]) = false := by
  show (shr x && (shr y && leP x y)) = false
  rw [h]
  simp
def odd26 (x y : D) (xs ys : List D) (m : D) : List D := [.non, .bl true, .int 0, .str "0:1", .tup [], .lst [], .dct [], .lst [x, y], .tup [x], .tup [x, y, y], .tup [.tup [x, y]], .tup [x, m], .tup [.non, y]]
  ++ [.tup [x, .lst ys], .tup [x, .bl true], .tup [.tup [.bl true, .int 1], .tup [.int 1, .int 1]], .tup [.tup [.int 1, .int 1], .tup [.int 1, .bl true]], .tup [.lst [], .lst []]]
  ++ [.tup [.tup [.int 1, .int 1], .tup [.int 0, .int 1]], .tup [.tup [.int 0, .int 1], .tup [.int 2, .int 1]], .tup [.tup [.int (-1), .int 2], y], .tup [.tup [.int 0, .int 2], .tup [.int 1, .int 1]], .tup [.tup [.int 1, .int 2], .tup [.int 1, .int 3]]]
  ++ [.tup [.tup [.int 0, .int 0], .tup [.int 1, .int 1]], .tup [.tup [.int 1, .int 0], .tup [.int 1, .int 1]], .tup [.tup [.int 0, .int 1], .tup [.int (-1), .int (-1)]]]
theorem odd_all {x y : D} {a b c e : Int} (hx : x = .tup [.int a, .int b]) (hy : y = .tup [.int c, .int e]) (h1 : Sh 1000000000000 a b) (h2 : Sh 1000000 c e) :
    ∀ d ∈ odd26 x y [.int a, .int b] [.int c, .int e] (.tup [.int (2 * c), .int (2 * e)]), Od d := by
  have qx := h1.q (by omega)
  have qy := h2.q (by omega)
  have qc : sm5 (.int c) = true ∧ Qw 1 (.int c) := q_int (by have := h2.a0; have := h2.ab; have := h2.bB; omega)
  have qe : sm5 (.int e) = true ∧ Qw 1 (.int e) := q_int (by have := h2.a0; have := h2.ab; have := h2.bB; omega)
  have qm : sm5 (.tup [.int (2 * c), .int (2 * e)]) = true ∧ Qw 3 (.tup [.int (2 * c), .int (2 * e)]) := th2 (q_int (by have := h2.a0; have := h2.ab; have := h2.bB; omega)) (q_int (by have := h2.a0; have := h2.ab; have := h2.bB; omega))
  rw [← hx] at qx
  rw [← hy] at qy
  have sy : ∀ {zs}, y ≠ .tup [.tup zs] := by rw [hy]; intro zs h; cases h
  have xy := th2 qx qy
  have qn : sm5 .non = true ∧ Qw 3 .non := ⟨rfl, Qw.by (by decide +kernel)⟩
  have qt : sm5 (.bl true) = true ∧ Qw 3 (.bl true) := ⟨rfl, Qw.by (by decide +kernel)⟩
  have qn1 : sm5 (.tup [.int (-1), .int 2]) = true ∧ Qw 3 (.tup [.int (-1), .int 2]) := ⟨by decide +kernel, Qw.by (by decide +kernel)⟩
  have ql : sm5 (.lst [.int c, .int e]) = true ∧ Qw 3 (.lst [.int c, .int e]) := by
    have := Qw.ln (c := 1) (n := 2) (xs := [.int c, .int e]) (fun z hz => by
      simp only [List.mem_cons, List.not_mem_nil, or_false] at hz
      rcases hz with rfl | rfl
      · exact qc.2
      · exact qe.2) (by simp) (by omega)
    exact ⟨rfl, this⟩
  intro d hd
  simp only [odd26, List.cons_append, List.nil_append, List.mem_cons, List.not_mem_nil, or_false] at hd
  rcases hd with rfl | rfl | rfl | rfl | rfl | rfl | rfl | rfl | rfl | rfl | rfl | rfl | rfl | rfl | rfl | rfl | rfl | rfl | rfl | rfl | rfl | rfl | rfl | rfl | rfl | rfl
  · exact od_by (by decide +kernel)
  · exact od_by (by decide +kernel)
  · exact od_by (by decide +kernel)
  · exact od_by (by decide +kernel)
  · exact od_by (by decide +kernel)
  · exact od_by (by decide +kernel)
  · exact od_by (by decide +kernel)
  · refine od_q (c := 7) ⟨rfl, (Qw.ln (c := 3) (n := 2) (fun z hz => ?_) (by simp) (by omega))⟩ (by omega) rfl
    simp only [List.mem_cons, List.not_mem_nil, or_false] at hz
    rcases hz with rfl | rfl
    · exact qx.2
    · exact qy.2
  · refine od_q (thn (c := 3) (n := 1) (fun z hz => ?_) (by simp) (by omega)) (by omega) rfl
    rw [List.mem_singleton.mp hz]
    exact qx
  · refine od_q (thn (c := 3) (n := 3) (fun z hz => ?_) (by simp) (by omega)) (by omega) rfl
    simp only [List.mem_cons, List.not_mem_nil, or_false] at hz
    rcases hz with rfl | rfl | rfl
    · exact qx
    · exact qy
    · exact qy
  · refine od_q (thn (c := 7) (n := 1) (fun z hz => ?_) (by simp) (by omega)) (by omega) rfl
    rw [List.mem_singleton.mp hz]
    exact xy
  · exact od_q (th2 qx qm) (by omega) (pix_r dbl_no)
  · exact od_q (th2 qn qy) (by omega) (pix_l rfl)
  · exact od_q (th2 qx ql) (by omega) (pix_r rfl)
  · exact od_q (th2 qx qt) (by omega) (pix_r rfl)
  · exact od_by (by decide +kernel)
  · exact od_by (by decide +kernel)
  · exact od_by (by decide +kernel)
  · exact od_by (by decide +kernel)
  · exact od_by (by decide +kernel)
  · exact od_q (th2 qn1 qy) (by omega) (pix_l (by decide +kernel))
  · exact od_by (by decide +kernel)
  · exact od_by (by decide +kernel)
  · exact od_by (by decide +kernel)
  · exact od_by (by decide +kernel)
  · exact od_by (by decide +kernel)
theorem ne_self_l {x y : Str} : neM (.lst [.str x, .str y]) (.lst [.str x, .str y]) μ = .ok (.bl false) μ := ne_of_eq eq_self_l
theorem for_odd {L : List D} {d0 : D} {w1 w2 w3 w4 w5 w6 : Option D} (h : ∀ d ∈ L, Od d) :
    ws (sFor (gN 5) (sSeq (sSet 6 (eL lstM (lCons (eC (.str "no pixel")) (lCons (eL reprM (lCons (eVar 5) lNil)) lNil)))) t__law_odd_right_1) L [some d0, w1, w2, w3, w4, w5, w6] μ)
      (fun ρ' μ' => ws (t__law_odd_right_2 ρ' μ') (fun _ μ1 => D.non = D.bl true ∧ μ1 = μ) (fun d μ' => d = D.bl true ∧ μ' = μ) (fun _ _ => False) (fun _ _ => False) fun _ _ => False)
      (fun d μ' => d = D.bl true ∧ μ' = μ) (fun _ _ => False) (fun _ _ => False) (fun _ _ => False) := by
  refine ws_for (fun _ ρ μ' => μ' = μ ∧ ∃ v5 v6, ρ = [some d0, w1, w2, w3, w4, v5, v6]) ⟨rfl, _, _, rfl⟩ ?_ ?_
  · rintro j x ρ μ' hx ⟨rfl, v5, v6, rfl⟩
    have ox := h x (List.mem_of_getElem? hx)
    have k0 := keep_some (shOk_no ox.sh)
    try simp only [wr_eVar, wr_eC, wr_e2, wr_e1, wr_eL, wr_eCall, wr_eCallK, wr_eLL, wr_eSeq, wr_lNil, wr_lCons, wr_bTru, wr_bOf, wr_bNot, wr_bAnd, wr_bOr, wr_isBl, wr_eAnd, wr_eOr, wr_eNot, wr_eIf, wr_e3c, wr_ok, wr_exc, ws_sNext, ws_sSeq, ws_sSet, ws_sDrop, ws_sRet, ws_sRetN, ws_sBrk, ws_sCnt, ws_sIf, ws_sAsg, ws_sPar, ws_sSub, ws_sForE, wr_callM, List.getElem?_cons_zero, List.getElem?_cons_succ, List.set_cons_zero, List.set_cons_succ, List.map_cons, List.map_nil, List.length_cons, List.length_nil, List.cons_append, List.nil_append, List.replicate, List.append_nil, addM_i, subM_i, negM_i, cmpM_i, eqM_i, eqM_s, neM_i, neM_s, absM_i, intM_i, intM_b, max2M_i, min2M_i, lenM_t, lenM_l, lenM_r, tupM_ap, lstM_ap, strM_s, truB_b, isBl_b, newM_ap, Nat.reduceLeDiff, seqL_l, seqT_t, isNM_n, isNM_i, wr_eLc, wr_eSl, wr_oN, wr_oI, intO_i, seqA_l, seqA_r, seqA_t, listM_t, listM_l, slM_t, slM_l, ws_sMatch, ws_mcNil, ws_mcAny, ws_mcVal, if_true, if_false, Bool.false_eq_true, Bool.not_true, Bool.not_false, Nat.reduceSub, Nat.reduceAdd, Nat.zero_add, eq_self, and_self, and_true, true_and, gN]
    simp only [reprM_ap ox.sh, wr_ok]
    try simp only [wr_eVar, wr_eC, wr_e2, wr_e1, wr_eL, wr_eCall, wr_eCallK, wr_eLL, wr_eSeq, wr_lNil, wr_lCons, wr_bTru, wr_bOf, wr_bNot, wr_bAnd, wr_bOr, wr_isBl, wr_eAnd, wr_eOr, wr_eNot, wr_eIf, wr_e3c, wr_ok, wr_exc, ws_sNext, ws_sSeq, ws_sSet, ws_sDrop, ws_sRet, ws_sRetN, ws_sBrk, ws_sCnt, ws_sIf, ws_sAsg, ws_sPar, ws_sSub, ws_sForE, wr_callM, List.getElem?_cons_zero, List.getElem?_cons_succ, List.set_cons_zero, List.set_cons_succ, List.map_cons, List.map_nil, List.length_cons, List.length_nil, List.cons_append, List.nil_append, List.replicate, List.append_nil, addM_i, subM_i, negM_i, cmpM_i, eqM_i, eqM_s, neM_i, neM_s, absM_i, intM_i, intM_b, max2M_i, min2M_i, lenM_t, lenM_l, lenM_r, tupM_ap, lstM_ap, strM_s, truB_b, isBl_b, newM_ap, Nat.reduceLeDiff, seqL_l, seqT_t, isNM_n, isNM_i, wr_eLc, wr_eSl, wr_oN, wr_oI, intO_i, seqA_l, seqA_r, seqA_t, listM_t, listM_l, slM_t, slM_l, ws_sMatch, ws_mcNil, ws_mcAny, ws_mcVal, if_true, if_false, Bool.false_eq_true, Bool.not_true, Bool.not_false, Nat.reduceSub, Nat.reduceAdd, Nat.zero_add, eq_self, and_self, and_true, true_and, gN]
    unfold t__law_odd_right_1
    try simp only [wr_eVar, wr_eC, wr_e2, wr_e1, wr_eL, wr_eCall, wr_eCallK, wr_eLL, wr_eSeq, wr_lNil, wr_lCons, wr_bTru, wr_bOf, wr_bNot, wr_bAnd, wr_bOr, wr_isBl, wr_eAnd, wr_eOr, wr_eNot, wr_eIf, wr_e3c, wr_ok, wr_exc, ws_sNext, ws_sSeq, ws_sSet, ws_sDrop, ws_sRet, ws_sRetN, ws_sBrk, ws_sCnt, ws_sIf, ws_sAsg, ws_sPar, ws_sSub, ws_sForE, wr_callM, List.getElem?_cons_zero, List.getElem?_cons_succ, List.set_cons_zero, List.set_cons_succ, List.map_cons, List.map_nil, List.length_cons, List.length_nil, List.cons_append, List.nil_append, List.replicate, List.append_nil, addM_i, subM_i, negM_i, cmpM_i, eqM_i, eqM_s, neM_i, neM_s, absM_i, intM_i, intM_b, max2M_i, min2M_i, lenM_t, lenM_l, lenM_r, tupM_ap, lstM_ap, strM_s, truB_b, isBl_b, newM_ap, Nat.reduceLeDiff, seqL_l, seqT_t, isNM_n, isNM_i, wr_eLc, wr_eSl, wr_oN, wr_oI, intO_i, seqA_l, seqA_r, seqA_t, listM_t, listM_l, slM_t, slM_l, ws_sMatch, ws_mcNil, ws_mcAny, ws_mcVal, if_true, if_false, Bool.false_eq_true, Bool.not_true, Bool.not_false, Nat.reduceSub, Nat.reduceAdd, Nat.zero_add, eq_self, and_self, and_true, true_and, gN]
    have t1 : ∀ due, eLam mL__law_caught (eCall m_pixel_text (lCons (eVar 5) lNil)) [some d0, w1, w2, w3, w4, some x, some due] μ' = _ := fun due => told_n ox.sm ox.no ox.sh (by
      rw [eCall_ap]
      simp only [lCons_ap, eVar_ap, lNil_ap, List.map_cons, List.getElem?_cons_zero, List.getElem?_cons_succ, k0])
    simp only [t1, wr_ok, ne_self_l, wr_isBl]
    try simp only [wr_eVar, wr_eC, wr_e2, wr_e1, wr_eL, wr_eCall, wr_eCallK, wr_eLL, wr_eSeq, wr_lNil, wr_lCons, wr_bTru, wr_bOf, wr_bNot, wr_bAnd, wr_bOr, wr_isBl, wr_eAnd, wr_eOr, wr_eNot, wr_eIf, wr_e3c, wr_ok, wr_exc, ws_sNext, ws_sSeq, ws_sSet, ws_sDrop, ws_sRet, ws_sRetN, ws_sBrk, ws_sCnt, ws_sIf, ws_sAsg, ws_sPar, ws_sSub, ws_sForE, wr_callM, List.getElem?_cons_zero, List.getElem?_cons_succ, List.set_cons_zero, List.set_cons_succ, List.map_cons, List.map_nil, List.length_cons, List.length_nil, List.cons_append, List.nil_append, List.replicate, List.append_nil, addM_i, subM_i, negM_i, cmpM_i, eqM_i, eqM_s, neM_i, neM_s, absM_i, intM_i, intM_b, max2M_i, min2M_i, lenM_t, lenM_l, lenM_r, tupM_ap, lstM_ap, strM_s, truB_b, isBl_b, newM_ap, Nat.reduceLeDiff, seqL_l, seqT_t, isNM_n, isNM_i, wr_eLc, wr_eSl, wr_oN, wr_oI, intO_i, seqA_l, seqA_r, seqA_t, listM_t, listM_l, slM_t, slM_l, ws_sMatch, ws_mcNil, ws_mcAny, ws_mcVal, if_true, if_false, Bool.false_eq_true, Bool.not_true, Bool.not_false, Nat.reduceSub, Nat.reduceAdd, Nat.zero_add, eq_self, and_self, and_true, true_and, gN]
    unfold t__law_odd_right_0
    try simp only [wr_eVar, wr_eC, wr_e2, wr_e1, wr_eL, wr_eCall, wr_eCallK, wr_eLL, wr_eSeq, wr_lNil, wr_lCons, wr_bTru, wr_bOf, wr_bNot, wr_bAnd, wr_bOr, wr_isBl, wr_eAnd, wr_eOr, wr_eNot, wr_eIf, wr_e3c, wr_ok, wr_exc, ws_sNext, ws_sSeq, ws_sSet, ws_sDrop, ws_sRet, ws_sRetN, ws_sBrk, ws_sCnt, ws_sIf, ws_sAsg, ws_sPar, ws_sSub, ws_sForE, wr_callM, List.getElem?_cons_zero, List.getElem?_cons_succ, List.set_cons_zero, List.set_cons_succ, List.map_cons, List.map_nil, List.length_cons, List.length_nil, List.cons_append, List.nil_append, List.replicate, List.append_nil, addM_i, subM_i, negM_i, cmpM_i, eqM_i, eqM_s, neM_i, neM_s, absM_i, intM_i, intM_b, max2M_i, min2M_i, lenM_t, lenM_l, lenM_r, tupM_ap, lstM_ap, strM_s, truB_b, isBl_b, newM_ap, Nat.reduceLeDiff, seqL_l, seqT_t, isNM_n, isNM_i, wr_eLc, wr_eSl, wr_oN, wr_oI, intO_i, seqA_l, seqA_r, seqA_t, listM_t, listM_l, slM_t, slM_l, ws_sMatch, ws_mcNil, ws_mcAny, ws_mcVal, if_true, if_false, Bool.false_eq_true, Bool.not_true, Bool.not_false, Nat.reduceSub, Nat.reduceAdd, Nat.zero_add, eq_self, and_self, and_true, true_and, gN]
    have t2 : ∀ due, eLam mL__law_caught (eCallK m_pixel_text gD_pixel_text_0_pixel lNil (lCons (eVar 5) lNil)) [some d0, w1, w2, w3, w4, some x, some due] μ' = _ := fun due => told_n ox.sm ox.no ox.sh (by
      rw [eCallK_ap]
      simp only [lCons_ap, eVar_ap, lNil_ap, List.map_cons, List.getElem?_cons_zero, List.getElem?_cons_succ, k0]
      rfl)
    simp only [t2, wr_ok, ne_self_l, wr_isBl]
    try simp only [wr_eVar, wr_eC, wr_e2, wr_e1, wr_eL, wr_eCall, wr_eCallK, wr_eLL, wr_eSeq, wr_lNil, wr_lCons, wr_bTru, wr_bOf, wr_bNot, wr_bAnd, wr_bOr, wr_isBl, wr_eAnd, wr_eOr, wr_eNot, wr_eIf, wr_e3c, wr_ok, wr_exc, ws_sNext, ws_sSeq, ws_sSet, ws_sDrop, ws_sRet, ws_sRetN, ws_sBrk, ws_sCnt, ws_sIf, ws_sAsg, ws_sPar, ws_sSub, ws_sForE, wr_callM, List.getElem?_cons_zero, List.getElem?_cons_succ, List.set_cons_zero, List.set_cons_succ, List.map_cons, List.map_nil, List.length_cons, List.length_nil, List.cons_append, List.nil_append, List.replicate, List.append_nil, addM_i, subM_i, negM_i, cmpM_i, eqM_i, eqM_s, neM_i, neM_s, absM_i, intM_i, intM_b, max2M_i, min2M_i, lenM_t, lenM_l, lenM_r, tupM_ap, lstM_ap, strM_s, truB_b, isBl_b, newM_ap, Nat.reduceLeDiff, seqL_l, seqT_t, isNM_n, isNM_i, wr_eLc, wr_eSl, wr_oN, wr_oI, intO_i, seqA_l, seqA_r, seqA_t, listM_t, listM_l, slM_t, slM_l, ws_sMatch, ws_mcNil, ws_mcAny, ws_mcVal, if_true, if_false, Bool.false_eq_true, Bool.not_true, Bool.not_false, Nat.reduceSub, Nat.reduceAdd, Nat.zero_add, eq_self, and_self, and_true, true_and, gN]
    exact ⟨_, _, rfl⟩
  · rintro ρ μ' ⟨rfl, v5, v6, rfl⟩
    unfold t__law_odd_right_2
    try simp only [wr_eVar, wr_eC, wr_e2, wr_e1, wr_eL, wr_eCall, wr_eCallK, wr_eLL, wr_eSeq, wr_lNil, wr_lCons, wr_bTru, wr_bOf, wr_bNot, wr_bAnd, wr_bOr, wr_isBl, wr_eAnd, wr_eOr, wr_eNot, wr_eIf, wr_e3c, wr_ok, wr_exc, ws_sNext, ws_sSeq, ws_sSet, ws_sDrop, ws_sRet, ws_sRetN, ws_sBrk, ws_sCnt, ws_sIf, ws_sAsg, ws_sPar, ws_sSub, ws_sForE, wr_callM, List.getElem?_cons_zero, List.getElem?_cons_succ, List.set_cons_zero, List.set_cons_succ, List.map_cons, List.map_nil, List.length_cons, List.length_nil, List.cons_append, List.nil_append, List.replicate, List.append_nil, addM_i, subM_i, negM_i, cmpM_i, eqM_i, eqM_s, neM_i, neM_s, absM_i, intM_i, intM_b, max2M_i, min2M_i, lenM_t, lenM_l, lenM_r, tupM_ap, lstM_ap, strM_s, truB_b, isBl_b, newM_ap, Nat.reduceLeDiff, seqL_l, seqT_t, isNM_n, isNM_i, wr_eLc, wr_eSl, wr_oN, wr_oI, intO_i, seqA_l, seqA_r, seqA_t, listM_t, listM_l, slM_t, slM_l, ws_sMatch, ws_mcNil, ws_mcAny, ws_mcVal, if_true, if_false, Bool.false_eq_true, Bool.not_true, Bool.not_false, Nat.reduceSub, Nat.reduceAdd, Nat.zero_add, eq_self, and_self, and_true, true_and, gN]
theorem odd_ok {x y : D} {a b c e : Int} (hx : x = .tup [.int a, .int b]) (hy : y = .tup [.int c, .int e]) (h1 : Sh 1000000000000 a b) (h2 : Sh 1000000 c e) :
    m__law_odd_right [.tup [x, y]] μ = .ok (.bl true) μ := by
  have all := odd_all hx hy h1 h2
  have ly : ∀ μ, listM [y] μ = .ok (.lst [.int c, .int e]) μ := fun μ => by rw [hy]; rfl
  have y0 : ∀ μ, ixM y (.int 0) μ = .ok (.int c) μ := fun μ => by rw [hy]; exact ix0
  have y1 : ∀ μ, ixM y (.int 1) μ = .ok (.int e) μ := fun μ => by rw [hy]; exact ix1
  have l2 := h2.lt (by omega)
  have two : (2 : Int).natAbs < 10 ^ 75 := by have := B75; omega
  have mc := mul_b two l2.1
  have me := mul_b two l2.2
  clear hx hy h1 h2 l2 two
  refine wr_eq.mp ?_
  unfold m__law_odd_right b__law_odd_right
  try simp only [wr_eVar, wr_eC, wr_e2, wr_e1, wr_eL, wr_eCall, wr_eCallK, wr_eLL, wr_eSeq, wr_lNil, wr_lCons, wr_bTru, wr_bOf, wr_bNot, wr_bAnd, wr_bOr, wr_isBl, wr_eAnd, wr_eOr, wr_eNot, wr_eIf, wr_e3c, wr_ok, wr_exc, ws_sNext, ws_sSeq, ws_sSet, ws_sDrop, ws_sRet, ws_sRetN, ws_sBrk, ws_sCnt, ws_sIf, ws_sAsg, ws_sPar, ws_sSub, ws_sForE, wr_callM, List.getElem?_cons_zero, List.getElem?_cons_succ, List.set_cons_zero, List.set_cons_succ, List.map_cons, List.map_nil, List.length_cons, List.length_nil, List.cons_append, List.nil_append, List.replicate, List.append_nil, addM_i, subM_i, negM_i, cmpM_i, eqM_i, eqM_s, neM_i, neM_s, absM_i, intM_i, intM_b, max2M_i, min2M_i, lenM_t, lenM_l, lenM_r, tupM_ap, lstM_ap, strM_s, truB_b, isBl_b, newM_ap, Nat.reduceLeDiff, seqL_l, seqT_t, isNM_n, isNM_i, wr_eLc, wr_eSl, wr_oN, wr_oI, intO_i, seqA_l, seqA_r, seqA_t, listM_t, listM_l, slM_t, slM_l, ws_sMatch, ws_mcNil, ws_mcAny, ws_mcVal, if_true, if_false, Bool.false_eq_true, Bool.not_true, Bool.not_false, Nat.reduceSub, Nat.reduceAdd, Nat.zero_add, eq_self, and_self, and_true, true_and, gN]
  simp only [gT, gsCons, gsNil, gN, List.length_cons, List.length_nil, Nat.reduceAdd, if_true]
  try simp only [wr_eVar, wr_eC, wr_e2, wr_e1, wr_eL, wr_eCall, wr_eCallK, wr_eLL, wr_eSeq, wr_lNil, wr_lCons, wr_bTru, wr_bOf, wr_bNot, wr_bAnd, wr_bOr, wr_isBl, wr_eAnd, wr_eOr, wr_eNot, wr_eIf, wr_e3c, wr_ok, wr_exc, ws_sNext, ws_sSeq, ws_sSet, ws_sDrop, ws_sRet, ws_sRetN, ws_sBrk, ws_sCnt, ws_sIf, ws_sAsg, ws_sPar, ws_sSub, ws_sForE, wr_callM, List.getElem?_cons_zero, List.getElem?_cons_succ, List.set_cons_zero, List.set_cons_succ, List.map_cons, List.map_nil, List.length_cons, List.length_nil, List.cons_append, List.nil_append, List.replicate, List.append_nil, addM_i, subM_i, negM_i, cmpM_i, eqM_i, eqM_s, neM_i, neM_s, absM_i, intM_i, intM_b, max2M_i, min2M_i, lenM_t, lenM_l, lenM_r, tupM_ap, lstM_ap, strM_s, truB_b, isBl_b, newM_ap, Nat.reduceLeDiff, seqL_l, seqT_t, isNM_n, isNM_i, wr_eLc, wr_eSl, wr_oN, wr_oI, intO_i, seqA_l, seqA_r, seqA_t, listM_t, listM_l, slM_t, slM_l, ws_sMatch, ws_mcNil, ws_mcAny, ws_mcVal, if_true, if_false, Bool.false_eq_true, Bool.not_true, Bool.not_false, Nat.reduceSub, Nat.reduceAdd, Nat.zero_add, eq_self, and_self, and_true, true_and, gN]
  unfold t__law_odd_right_7
  try simp only [wr_eVar, wr_eC, wr_e2, wr_e1, wr_eL, wr_eCall, wr_eCallK, wr_eLL, wr_eSeq, wr_lNil, wr_lCons, wr_bTru, wr_bOf, wr_bNot, wr_bAnd, wr_bOr, wr_isBl, wr_eAnd, wr_eOr, wr_eNot, wr_eIf, wr_e3c, wr_ok, wr_exc, ws_sNext, ws_sSeq, ws_sSet, ws_sDrop, ws_sRet, ws_sRetN, ws_sBrk, ws_sCnt, ws_sIf, ws_sAsg, ws_sPar, ws_sSub, ws_sForE, wr_callM, List.getElem?_cons_zero, List.getElem?_cons_succ, List.set_cons_zero, List.set_cons_succ, List.map_cons, List.map_nil, List.length_cons, List.length_nil, List.cons_append, List.nil_append, List.replicate, List.append_nil, addM_i, subM_i, negM_i, cmpM_i, eqM_i, eqM_s, neM_i, neM_s, absM_i, intM_i, intM_b, max2M_i, min2M_i, lenM_t, lenM_l, lenM_r, tupM_ap, lstM_ap, strM_s, truB_b, isBl_b, newM_ap, Nat.reduceLeDiff, seqL_l, seqT_t, isNM_n, isNM_i, wr_eLc, wr_eSl, wr_oN, wr_oI, intO_i, seqA_l, seqA_r, seqA_t, listM_t, listM_l, slM_t, slM_l, ws_sMatch, ws_mcNil, ws_mcAny, ws_mcVal, if_true, if_false, Bool.false_eq_true, Bool.not_true, Bool.not_false, Nat.reduceSub, Nat.reduceAdd, Nat.zero_add, eq_self, and_self, and_true, true_and, gN]
  simp only [y0, y1, wr_ok, mulM_i mc, mulM_i me]
  try simp only [wr_eVar, wr_eC, wr_e2, wr_e1, wr_eL, wr_eCall, wr_eCallK, wr_eLL, wr_eSeq, wr_lNil, wr_lCons, wr_bTru, wr_bOf, wr_bNot, wr_bAnd, wr_bOr, wr_isBl, wr_eAnd, wr_eOr, wr_eNot, wr_eIf, wr_e3c, wr_ok, wr_exc, ws_sNext, ws_sSeq, ws_sSet, ws_sDrop, ws_sRet, ws_sRetN, ws_sBrk, ws_sCnt, ws_sIf, ws_sAsg, ws_sPar, ws_sSub, ws_sForE, wr_callM, List.getElem?_cons_zero, List.getElem?_cons_succ, List.set_cons_zero, List.set_cons_succ, List.map_cons, List.map_nil, List.length_cons, List.length_nil, List.cons_append, List.nil_append, List.replicate, List.append_nil, addM_i, subM_i, negM_i, cmpM_i, eqM_i, eqM_s, neM_i, neM_s, absM_i, intM_i, intM_b, max2M_i, min2M_i, lenM_t, lenM_l, lenM_r, tupM_ap, lstM_ap, strM_s, truB_b, isBl_b, newM_ap, Nat.reduceLeDiff, seqL_l, seqT_t, isNM_n, isNM_i, wr_eLc, wr_eSl, wr_oN, wr_oI, intO_i, seqA_l, seqA_r, seqA_t, listM_t, listM_l, slM_t, slM_l, ws_sMatch, ws_mcNil, ws_mcAny, ws_mcVal, if_true, if_false, Bool.false_eq_true, Bool.not_true, Bool.not_false, Nat.reduceSub, Nat.reduceAdd, Nat.zero_add, eq_self, and_self, and_true, true_and, gN]
  unfold t__law_odd_right_6
  try simp only [wr_eVar, wr_eC, wr_e2, wr_e1, wr_eL, wr_eCall, wr_eCallK, wr_eLL, wr_eSeq, wr_lNil, wr_lCons, wr_bTru, wr_bOf, wr_bNot, wr_bAnd, wr_bOr, wr_isBl, wr_eAnd, wr_eOr, wr_eNot, wr_eIf, wr_e3c, wr_ok, wr_exc, ws_sNext, ws_sSeq, ws_sSet, ws_sDrop, ws_sRet, ws_sRetN, ws_sBrk, ws_sCnt, ws_sIf, ws_sAsg, ws_sPar, ws_sSub, ws_sForE, wr_callM, List.getElem?_cons_zero, List.getElem?_cons_succ, List.set_cons_zero, List.set_cons_succ, List.map_cons, List.map_nil, List.length_cons, List.length_nil, List.cons_append, List.nil_append, List.replicate, List.append_nil, addM_i, subM_i, negM_i, cmpM_i, eqM_i, eqM_s, neM_i, neM_s, absM_i, intM_i, intM_b, max2M_i, min2M_i, lenM_t, lenM_l, lenM_r, tupM_ap, lstM_ap, strM_s, truB_b, isBl_b, newM_ap, Nat.reduceLeDiff, seqL_l, seqT_t, isNM_n, isNM_i, wr_eLc, wr_eSl, wr_oN, wr_oI, intO_i, seqA_l, seqA_r, seqA_t, listM_t, listM_l, slM_t, slM_l, ws_sMatch, ws_mcNil, ws_mcAny, ws_mcVal, if_true, if_false, Bool.false_eq_true, Bool.not_true, Bool.not_false, Nat.reduceSub, Nat.reduceAdd, Nat.zero_add, eq_self, and_self, and_true, true_and, gN]
  rw [addM_t (by simp)]
  try simp only [wr_eVar, wr_eC, wr_e2, wr_e1, wr_eL, wr_eCall, wr_eCallK, wr_eLL, wr_eSeq, wr_lNil, wr_lCons, wr_bTru, wr_bOf, wr_bNot, wr_bAnd, wr_bOr, wr_isBl, wr_eAnd, wr_eOr, wr_eNot, wr_eIf, wr_e3c, wr_ok, wr_exc, ws_sNext, ws_sSeq, ws_sSet, ws_sDrop, ws_sRet, ws_sRetN, ws_sBrk, ws_sCnt, ws_sIf, ws_sAsg, ws_sPar, ws_sSub, ws_sForE, wr_callM, List.getElem?_cons_zero, List.getElem?_cons_succ, List.set_cons_zero, List.set_cons_succ, List.map_cons, List.map_nil, List.length_cons, List.length_nil, List.cons_append, List.nil_append, List.replicate, List.append_nil, addM_i, subM_i, negM_i, cmpM_i, eqM_i, eqM_s, neM_i, neM_s, absM_i, intM_i, intM_b, max2M_i, min2M_i, lenM_t, lenM_l, lenM_r, tupM_ap, lstM_ap, strM_s, truB_b, isBl_b, newM_ap, Nat.reduceLeDiff, seqL_l, seqT_t, isNM_n, isNM_i, wr_eLc, wr_eSl, wr_oN, wr_oI, intO_i, seqA_l, seqA_r, seqA_t, listM_t, listM_l, slM_t, slM_l, ws_sMatch, ws_mcNil, ws_mcAny, ws_mcVal, if_true, if_false, Bool.false_eq_true, Bool.not_true, Bool.not_false, Nat.reduceSub, Nat.reduceAdd, Nat.zero_add, eq_self, and_self, and_true, true_and, gN]
  unfold t__law_odd_right_5
  try simp only [wr_eVar, wr_eC, wr_e2, wr_e1, wr_eL, wr_eCall, wr_eCallK, wr_eLL, wr_eSeq, wr_lNil, wr_lCons, wr_bTru, wr_bOf, wr_bNot, wr_bAnd, wr_bOr, wr_isBl, wr_eAnd, wr_eOr, wr_eNot, wr_eIf, wr_e3c, wr_ok, wr_exc, ws_sNext, ws_sSeq, ws_sSet, ws_sDrop, ws_sRet, ws_sRetN, ws_sBrk, ws_sCnt, ws_sIf, ws_sAsg, ws_sPar, ws_sSub, ws_sForE, wr_callM, List.getElem?_cons_zero, List.getElem?_cons_succ, List.set_cons_zero, List.set_cons_succ, List.map_cons, List.map_nil, List.length_cons, List.length_nil, List.cons_append, List.nil_append, List.replicate, List.append_nil, addM_i, subM_i, negM_i, cmpM_i, eqM_i, eqM_s, neM_i, neM_s, absM_i, intM_i, intM_b, max2M_i, min2M_i, lenM_t, lenM_l, lenM_r, tupM_ap, lstM_ap, strM_s, truB_b, isBl_b, newM_ap, Nat.reduceLeDiff, seqL_l, seqT_t, isNM_n, isNM_i, wr_eLc, wr_eSl, wr_oN, wr_oI, intO_i, seqA_l, seqA_r, seqA_t, listM_t, listM_l, slM_t, slM_l, ws_sMatch, ws_mcNil, ws_mcAny, ws_mcVal, if_true, if_false, Bool.false_eq_true, Bool.not_true, Bool.not_false, Nat.reduceSub, Nat.reduceAdd, Nat.zero_add, eq_self, and_self, and_true, true_and, gN]
  simp only [ly, wr_ok]
  try simp only [wr_eVar, wr_eC, wr_e2, wr_e1, wr_eL, wr_eCall, wr_eCallK, wr_eLL, wr_eSeq, wr_lNil, wr_lCons, wr_bTru, wr_bOf, wr_bNot, wr_bAnd, wr_bOr, wr_isBl, wr_eAnd, wr_eOr, wr_eNot, wr_eIf, wr_e3c, wr_ok, wr_exc, ws_sNext, ws_sSeq, ws_sSet, ws_sDrop, ws_sRet, ws_sRetN, ws_sBrk, ws_sCnt, ws_sIf, ws_sAsg, ws_sPar, ws_sSub, ws_sForE, wr_callM, List.getElem?_cons_zero, List.getElem?_cons_succ, List.set_cons_zero, List.set_cons_succ, List.map_cons, List.map_nil, List.length_cons, List.length_nil, List.cons_append, List.nil_append, List.replicate, List.append_nil, addM_i, subM_i, negM_i, cmpM_i, eqM_i, eqM_s, neM_i, neM_s, absM_i, intM_i, intM_b, max2M_i, min2M_i, lenM_t, lenM_l, lenM_r, tupM_ap, lstM_ap, strM_s, truB_b, isBl_b, newM_ap, Nat.reduceLeDiff, seqL_l, seqT_t, isNM_n, isNM_i, wr_eLc, wr_eSl, wr_oN, wr_oI, intO_i, seqA_l, seqA_r, seqA_t, listM_t, listM_l, slM_t, slM_l, ws_sMatch, ws_mcNil, ws_mcAny, ws_mcVal, if_true, if_false, Bool.false_eq_true, Bool.not_true, Bool.not_false, Nat.reduceSub, Nat.reduceAdd, Nat.zero_add, eq_self, and_self, and_true, true_and, gN]
  rw [addM_l (by simp)]
  try simp only [wr_eVar, wr_eC, wr_e2, wr_e1, wr_eL, wr_eCall, wr_eCallK, wr_eLL, wr_eSeq, wr_lNil, wr_lCons, wr_bTru, wr_bOf, wr_bNot, wr_bAnd, wr_bOr, wr_isBl, wr_eAnd, wr_eOr, wr_eNot, wr_eIf, wr_e3c, wr_ok, wr_exc, ws_sNext, ws_sSeq, ws_sSet, ws_sDrop, ws_sRet, ws_sRetN, ws_sBrk, ws_sCnt, ws_sIf, ws_sAsg, ws_sPar, ws_sSub, ws_sForE, wr_callM, List.getElem?_cons_zero, List.getElem?_cons_succ, List.set_cons_zero, List.set_cons_succ, List.map_cons, List.map_nil, List.length_cons, List.length_nil, List.cons_append, List.nil_append, List.replicate, List.append_nil, addM_i, subM_i, negM_i, cmpM_i, eqM_i, eqM_s, neM_i, neM_s, absM_i, intM_i, intM_b, max2M_i, min2M_i, lenM_t, lenM_l, lenM_r, tupM_ap, lstM_ap, strM_s, truB_b, isBl_b, newM_ap, Nat.reduceLeDiff, seqL_l, seqT_t, isNM_n, isNM_i, wr_eLc, wr_eSl, wr_oN, wr_oI, intO_i, seqA_l, seqA_r, seqA_t, listM_t, listM_l, slM_t, slM_l, ws_sMatch, ws_mcNil, ws_mcAny, ws_mcVal, if_true, if_false, Bool.false_eq_true, Bool.not_true, Bool.not_false, Nat.reduceSub, Nat.reduceAdd, Nat.zero_add, eq_self, and_self, and_true, true_and, gN]
  unfold t__law_odd_right_4
  try simp only [wr_eVar, wr_eC, wr_e2, wr_e1, wr_eL, wr_eCall, wr_eCallK, wr_eLL, wr_eSeq, wr_lNil, wr_lCons, wr_bTru, wr_bOf, wr_bNot, wr_bAnd, wr_bOr, wr_isBl, wr_eAnd, wr_eOr, wr_eNot, wr_eIf, wr_e3c, wr_ok, wr_exc, ws_sNext, ws_sSeq, ws_sSet, ws_sDrop, ws_sRet, ws_sRetN, ws_sBrk, ws_sCnt, ws_sIf, ws_sAsg, ws_sPar, ws_sSub, ws_sForE, wr_callM, List.getElem?_cons_zero, List.getElem?_cons_succ, List.set_cons_zero, List.set_cons_succ, List.map_cons, List.map_nil, List.length_cons, List.length_nil, List.cons_append, List.nil_append, List.replicate, List.append_nil, addM_i, subM_i, negM_i, cmpM_i, eqM_i, eqM_s, neM_i, neM_s, absM_i, intM_i, intM_b, max2M_i, min2M_i, lenM_t, lenM_l, lenM_r, tupM_ap, lstM_ap, strM_s, truB_b, isBl_b, newM_ap, Nat.reduceLeDiff, seqL_l, seqT_t, isNM_n, isNM_i, wr_eLc, wr_eSl, wr_oN, wr_oI, intO_i, seqA_l, seqA_r, seqA_t, listM_t, listM_l, slM_t, slM_l, ws_sMatch, ws_mcNil, ws_mcAny, ws_mcVal, if_true, if_false, Bool.false_eq_true, Bool.not_true, Bool.not_false, Nat.reduceSub, Nat.reduceAdd, Nat.zero_add, eq_self, and_self, and_true, true_and, gN]
  rw [addM_l (by simp)]
  try simp only [wr_eVar, wr_eC, wr_e2, wr_e1, wr_eL, wr_eCall, wr_eCallK, wr_eLL, wr_eSeq, wr_lNil, wr_lCons, wr_bTru, wr_bOf, wr_bNot, wr_bAnd, wr_bOr, wr_isBl, wr_eAnd, wr_eOr, wr_eNot, wr_eIf, wr_e3c, wr_ok, wr_exc, ws_sNext, ws_sSeq, ws_sSet, ws_sDrop, ws_sRet, ws_sRetN, ws_sBrk, ws_sCnt, ws_sIf, ws_sAsg, ws_sPar, ws_sSub, ws_sForE, wr_callM, List.getElem?_cons_zero, List.getElem?_cons_succ, List.set_cons_zero, List.set_cons_succ, List.map_cons, List.map_nil, List.length_cons, List.length_nil, List.cons_append, List.nil_append, List.replicate, List.append_nil, addM_i, subM_i, negM_i, cmpM_i, eqM_i, eqM_s, neM_i, neM_s, absM_i, intM_i, intM_b, max2M_i, min2M_i, lenM_t, lenM_l, lenM_r, tupM_ap, lstM_ap, strM_s, truB_b, isBl_b, newM_ap, Nat.reduceLeDiff, seqL_l, seqT_t, isNM_n, isNM_i, wr_eLc, wr_eSl, wr_oN, wr_oI, intO_i, seqA_l, seqA_r, seqA_t, listM_t, listM_l, slM_t, slM_l, ws_sMatch, ws_mcNil, ws_mcAny, ws_mcVal, if_true, if_false, Bool.false_eq_true, Bool.not_true, Bool.not_false, Nat.reduceSub, Nat.reduceAdd, Nat.zero_add, eq_self, and_self, and_true, true_and, gN]
  unfold t__law_odd_right_3
  try simp only [wr_eVar, wr_eC, wr_e2, wr_e1, wr_eL, wr_eCall, wr_eCallK, wr_eLL, wr_eSeq, wr_lNil, wr_lCons, wr_bTru, wr_bOf, wr_bNot, wr_bAnd, wr_bOr, wr_isBl, wr_eAnd, wr_eOr, wr_eNot, wr_eIf, wr_e3c, wr_ok, wr_exc, ws_sNext, ws_sSeq, ws_sSet, ws_sDrop, ws_sRet, ws_sRetN, ws_sBrk, ws_sCnt, ws_sIf, ws_sAsg, ws_sPar, ws_sSub, ws_sForE, wr_callM, List.getElem?_cons_zero, List.getElem?_cons_succ, List.set_cons_zero, List.set_cons_succ, List.map_cons, List.map_nil, List.length_cons, List.length_nil, List.cons_append, List.nil_append, List.replicate, List.append_nil, addM_i, subM_i, negM_i, cmpM_i, eqM_i, eqM_s, neM_i, neM_s, absM_i, intM_i, intM_b, max2M_i, min2M_i, lenM_t, lenM_l, lenM_r, tupM_ap, lstM_ap, strM_s, truB_b, isBl_b, newM_ap, Nat.reduceLeDiff, seqL_l, seqT_t, isNM_n, isNM_i, wr_eLc, wr_eSl, wr_oN, wr_oI, intO_i, seqA_l, seqA_r, seqA_t, listM_t, listM_l, slM_t, slM_l, ws_sMatch, ws_mcNil, ws_mcAny, ws_mcVal, if_true, if_false, Bool.false_eq_true, Bool.not_true, Bool.not_false, Nat.reduceSub, Nat.reduceAdd, Nat.zero_add, eq_self, and_self, and_true, true_and, gN]
  rw [addM_l (by simp)]
  try simp only [wr_eVar, wr_eC, wr_e2, wr_e1, wr_eL, wr_eCall, wr_eCallK, wr_eLL, wr_eSeq, wr_lNil, wr_lCons, wr_bTru, wr_bOf, wr_bNot, wr_bAnd, wr_bOr, wr_isBl, wr_eAnd, wr_eOr, wr_eNot, wr_eIf, wr_e3c, wr_ok, wr_exc, ws_sNext, ws_sSeq, ws_sSet, ws_sDrop, ws_sRet, ws_sRetN, ws_sBrk, ws_sCnt, ws_sIf, ws_sAsg, ws_sPar, ws_sSub, ws_sForE, wr_callM, List.getElem?_cons_zero, List.getElem?_cons_succ, List.set_cons_zero, List.set_cons_succ, List.map_cons, List.map_nil, List.length_cons, List.length_nil, List.cons_append, List.nil_append, List.replicate, List.append_nil, addM_i, subM_i, negM_i, cmpM_i, eqM_i, eqM_s, neM_i, neM_s, absM_i, intM_i, intM_b, max2M_i, min2M_i, lenM_t, lenM_l, lenM_r, tupM_ap, lstM_ap, strM_s, truB_b, isBl_b, newM_ap, Nat.reduceLeDiff, seqL_l, seqT_t, isNM_n, isNM_i, wr_eLc, wr_eSl, wr_oN, wr_oI, intO_i, seqA_l, seqA_r, seqA_t, listM_t, listM_l, slM_t, slM_l, ws_sMatch, ws_mcNil, ws_mcAny, ws_mcVal, if_true, if_false, Bool.false_eq_true, Bool.not_true, Bool.not_false, Nat.reduceSub, Nat.reduceAdd, Nat.zero_add, eq_self, and_self, and_true, true_and, gN]
  exact for_odd all
end
end Zk05
namespace Zk05
open PySem PySem.Spec PyProof.Rows L2 SE SX
section
variable {μ : Mem}
theorem ws_mono {r : RS} {N N' : Ev → Mem → Prop} {R R' : D → Mem → Prop} {B B' C C' : Ev → Mem → Prop} {E E' : Ex → Mem → Prop} (h : ws r N R B C E) (hn : ∀ ρ μ, N ρ μ → N' ρ μ) (hr : ∀ d μ, R d μ → R' d μ) (hb : ∀ ρ μ, B ρ μ → B' ρ μ) (hc : ∀ ρ μ, C ρ μ → C' ρ μ) (he : ∀ e μ, E e μ → E' e μ) : ws r N' R' B' C' E' := by
  cases r with
  | ok f μ =>
    cases f with
    | nx ρ => exact hn _ _ h
    | rt d => exact hr _ _ h
    | bk ρ => exact hb _ _ h
    | ct ρ => exact hc _ _ h
  | exc e ρ μ => exact he _ _ h
  | bad => exact h
theorem num_len0 {t : Int} {k : Nat} (hk : 0 < k) (h0 : 0 ≤ t) (h : t.natAbs < 10 ^ k) : (numI t).length ≤ k := by
  have := TL.numL_len hk h
  unfold numI
  rw [if_neg (by omega)]
  exact this
theorem tx_n {B a b : Int} {k : Nat} (hk : 0 < k) (h : Sh B a b) (hB : B < ((10 ^ k : Nat) : Int)) : (tx a b).length ≤ 2 * k + 1 := by
  obtain ⟨b1, _, a0, ab, bB⟩ := h
  have h1 := num_len0 (t := a) hk a0 (by omega)
  have h2 := num_len0 (t := b) hk (by omega) (by omega)
  unfold tx
  split
  · omega
  · simp only [List.length_append, List.length_cons]
    omega
/-- a drawn pixel and the two halves of its text -/
structure Dw (d : D) (p q : List Nat) : Prop where
  wr : ∀ μ, m__law_written [d] μ = .ok (.str (S (p ++ 58 :: q))) μ
  tx : ∀ μ, m_pixel_text [d] μ = .ok (.str (S (p ++ 58 :: q))) μ
  odd : ∀ μ, m__law_odd_right [d] μ = .ok (.bl true) μ
  sh : shOk d = true
  tk : Tk d
  lp : p.length ≤ 27
  lq : q.length ≤ 15
  op : ok7 p
  oq : ok7 q
  np : 58 ∉ p
  nq : 58 ∉ q
theorem dt_w {d : D} (h : Dt d) : ∃ p q, Dw d p q := by
  obtain ⟨⟨a, b, c, e, rfl, h1, h2, hle⟩⟩ := h
  have h2' : Sh 1000000000000 c e := h2.mono (by omega)
  have qd := th2 (h1.q (by omega)) (h2.q (by omega))
  have sh : shOk (.tup [.tup [.int a, .int b], .tup [.int c, .int e]]) = true := qd.2.sh (by omega)
  exact ⟨tx a b, tx c e, fun μ => written_v (by omega) h1 h2', fun μ => text_v (by omega) h1 h2' (dt_pix h1 h2 hle), fun μ => odd_ok rfl rfl h1 h2, sh, ⟨rfl, (fun _ z => by cases z), sh⟩,
    tx_n (k := 13) (by omega) h1 (by omega), by have := tx_n (k := 7) (by omega) h2 (by omega); omega, tx_ok7, tx_ok7, (fun z => by have := tx_lt _ z; omega), (fun z => by have := tx_lt _ z; omega)⟩
theorem wrong_tk {d : D} {a : List Nat} (ha : a.length ≤ 43) (hok : ok7 a) (hd : Tk d) : ∀ z ∈ [D.non, .bl true, .int 1, d, .lst [], .dct [], .tup [.str (S a)], .lst [.str (S a)], .tup [.lst []]], Tk z := by
  intro z hz
  have qs : Qw 1 (.str (S a)) := by
    have := Pw.s (c := 1) (okS_S hok) (by rw [S_len]; omega)
    exact ⟨rfl, this.2⟩
  simp only [List.mem_cons, List.not_mem_nil, or_false] at hz
  rcases hz with rfl | rfl | rfl | rfl | rfl | rfl | rfl | rfl | rfl
  · exact tk_by (by decide +kernel)
  · exact tk_by (by decide +kernel)
  · exact tk_by (by decide +kernel)
  · exact hd
  · exact tk_by (by decide +kernel)
  · exact tk_by (by decide +kernel)
  · exact ⟨rfl, (fun _ e => by cases e), (Qw.tn (c := 1) (n := 1) (xs := [.str (S a)]) (fun z hz => by rw [List.mem_singleton.mp hz]; exact qs) (by simp) (by omega)).sh (by omega)⟩
  · exact ⟨rfl, (fun _ e => by cases e), (Qw.ln (c := 1) (n := 1) (xs := [.str (S a)]) (fun z hz => by rw [List.mem_singleton.mp hz]; exact qs) (by simp) (by omega)).sh (by omega)⟩
  · exact tk_by (by decide +kernel)
theorem turn_ok {r0 : D} {l : Nat} {j : Nat} {d : D} {p q : List Nat} {n : Int} {w3 w5 w6 w7 w8 : Option D} (hs : Sd l n μ) (hn : n < 800000000) (hd : Dw d p q) :
    ws (t_law_6 [some r0, some (.int j), some (.loc l), w3, some d, w5, w6, w7, w8] μ)
      (fun ρ' μ' => (∃ a b c d e f, ρ' = [some r0, some (.int j), some (.loc l), a, b, c, d, e, f]) ∧ Sd l (n + 12) μ') (fun _ _ => False) (fun _ _ => False) (fun _ _ => False) (fun _ _ => False) := by
  have k0 := keep_some (shOk_no hd.sh)
  have la : (p ++ 58 :: q).length ≤ 43 := by have := hd.lp; have := hd.lq; simp only [List.length_append, List.length_cons]; omega
  have oa : ok7 (p ++ 58 :: q) := hd.op.app (hd.oq.cons (by omega))
  have ta := tk_S (by omega) oa
  have wk := wrong_tk la oa hd.tk
  unfold t_law_6
  try simp only [wr_eVar, wr_eC, wr_e2, wr_e1, wr_eL, wr_eCall, wr_eCallK, wr_eLL, wr_eSeq, wr_lNil, wr_lCons, wr_bTru, wr_bOf, wr_bNot, wr_bAnd, wr_bOr, wr_isBl, wr_eAnd, wr_eOr, wr_eNot, wr_eIf, wr_e3c, wr_ok, wr_exc, ws_sNext, ws_sSeq, ws_sSet, ws_sDrop, ws_sRet, ws_sRetN, ws_sBrk, ws_sCnt, ws_sIf, ws_sAsg, ws_sPar, ws_sSub, ws_sForE, wr_callM, List.getElem?_cons_zero, List.getElem?_cons_succ, List.set_cons_zero, List.set_cons_succ, List.map_cons, List.map_nil, List.length_cons, List.length_nil, List.cons_append, List.nil_append, List.replicate, List.append_nil, addM_i, subM_i, negM_i, cmpM_i, eqM_i, eqM_s, neM_i, neM_s, absM_i, intM_i, intM_b, max2M_i, min2M_i, lenM_t, lenM_l, lenM_r, tupM_ap, lstM_ap, strM_s, truB_b, isBl_b, newM_ap, Nat.reduceLeDiff, seqL_l, seqT_t, isNM_n, isNM_i, wr_eLc, wr_eSl, wr_oN, wr_oI, intO_i, seqA_l, seqA_r, seqA_t, listM_t, listM_l, slM_t, slM_l, ws_sMatch, ws_mcNil, ws_mcAny, ws_mcVal, if_true, if_false, Bool.false_eq_true, Bool.not_true, Bool.not_false, Nat.reduceSub, Nat.reduceAdd, Nat.zero_add, eq_self, and_self, and_true, true_and, gN]
  rw [hd.wr]
  try simp only [wr_eVar, wr_eC, wr_e2, wr_e1, wr_eL, wr_eCall, wr_eCallK, wr_eLL, wr_eSeq, wr_lNil, wr_lCons, wr_bTru, wr_bOf, wr_bNot, wr_bAnd, wr_bOr, wr_isBl, wr_eAnd, wr_eOr, wr_eNot, wr_eIf, wr_e3c, wr_ok, wr_exc, ws_sNext, ws_sSeq, ws_sSet, ws_sDrop, ws_sRet, ws_sRetN, ws_sBrk, ws_sCnt, ws_sIf, ws_sAsg, ws_sPar, ws_sSub, ws_sForE, wr_callM, List.getElem?_cons_zero, List.getElem?_cons_succ, List.set_cons_zero, List.set_cons_succ, List.map_cons, List.map_nil, List.length_cons, List.length_nil, List.cons_append, List.nil_append, List.replicate, List.append_nil, addM_i, subM_i, negM_i, cmpM_i, eqM_i, eqM_s, neM_i, neM_s, absM_i, intM_i, intM_b, max2M_i, min2M_i, lenM_t, lenM_l, lenM_r, tupM_ap, lstM_ap, strM_s, truB_b, isBl_b, newM_ap, Nat.reduceLeDiff, seqL_l, seqT_t, isNM_n, isNM_i, wr_eLc, wr_eSl, wr_oN, wr_oI, intO_i, seqA_l, seqA_r, seqA_t, listM_t, listM_l, slM_t, slM_l, ws_sMatch, ws_mcNil, ws_mcAny, ws_mcVal, if_true, if_false, Bool.false_eq_true, Bool.not_true, Bool.not_false, Nat.reduceSub, Nat.reduceAdd, Nat.zero_add, eq_self, and_self, and_true, true_and, gN]
  unfold t_law_5
  try simp only [wr_eVar, wr_eC, wr_e2, wr_e1, wr_eL, wr_eCall, wr_eCallK, wr_eLL, wr_eSeq, wr_lNil, wr_lCons, wr_bTru, wr_bOf, wr_bNot, wr_bAnd, wr_bOr, wr_isBl, wr_eAnd, wr_eOr, wr_eNot, wr_eIf, wr_e3c, wr_ok, wr_exc, ws_sNext, ws_sSeq, ws_sSet, ws_sDrop, ws_sRet, ws_sRetN, ws_sBrk, ws_sCnt, ws_sIf, ws_sAsg, ws_sPar, ws_sSub, ws_sForE, wr_callM, List.getElem?_cons_zero, List.getElem?_cons_succ, List.set_cons_zero, List.set_cons_succ, List.map_cons, List.map_nil, List.length_cons, List.length_nil, List.cons_append, List.nil_append, List.replicate, List.append_nil, addM_i, subM_i, negM_i, cmpM_i, eqM_i, eqM_s, neM_i, neM_s, absM_i, intM_i, intM_b, max2M_i, min2M_i, lenM_t, lenM_l, lenM_r, tupM_ap, lstM_ap, strM_s, truB_b, isBl_b, newM_ap, Nat.reduceLeDiff, seqL_l, seqT_t, isNM_n, isNM_i, wr_eLc, wr_eSl, wr_oN, wr_oI, intO_i, seqA_l, seqA_r, seqA_t, listM_t, listM_l, slM_t, slM_l, ws_sMatch, ws_mcNil, ws_mcAny, ws_mcVal, if_true, if_false, Bool.false_eq_true, Bool.not_true, Bool.not_false, Nat.reduceSub, Nat.reduceAdd, Nat.zero_add, eq_self, and_self, and_true, true_and, gN]
  simp only [reprM_ap ta.sh, wr_ok]
  try simp only [wr_eVar, wr_eC, wr_e2, wr_e1, wr_eL, wr_eCall, wr_eCallK, wr_eLL, wr_eSeq, wr_lNil, wr_lCons, wr_bTru, wr_bOf, wr_bNot, wr_bAnd, wr_bOr, wr_isBl, wr_eAnd, wr_eOr, wr_eNot, wr_eIf, wr_e3c, wr_ok, wr_exc, ws_sNext, ws_sSeq, ws_sSet, ws_sDrop, ws_sRet, ws_sRetN, ws_sBrk, ws_sCnt, ws_sIf, ws_sAsg, ws_sPar, ws_sSub, ws_sForE, wr_callM, List.getElem?_cons_zero, List.getElem?_cons_succ, List.set_cons_zero, List.set_cons_succ, List.map_cons, List.map_nil, List.length_cons, List.length_nil, List.cons_append, List.nil_append, List.replicate, List.append_nil, addM_i, subM_i, negM_i, cmpM_i, eqM_i, eqM_s, neM_i, neM_s, absM_i, intM_i, intM_b, max2M_i, min2M_i, lenM_t, lenM_l, lenM_r, tupM_ap, lstM_ap, strM_s, truB_b, isBl_b, newM_ap, Nat.reduceLeDiff, seqL_l, seqT_t, isNM_n, isNM_i, wr_eLc, wr_eSl, wr_oN, wr_oI, intO_i, seqA_l, seqA_r, seqA_t, listM_t, listM_l, slM_t, slM_l, ws_sMatch, ws_mcNil, ws_mcAny, ws_mcVal, if_true, if_false, Bool.false_eq_true, Bool.not_true, Bool.not_false, Nat.reduceSub, Nat.reduceAdd, Nat.zero_add, eq_self, and_self, and_true, true_and, gN]
  unfold t_law_4
  try simp only [wr_eVar, wr_eC, wr_e2, wr_e1, wr_eL, wr_eCall, wr_eCallK, wr_eLL, wr_eSeq, wr_lNil, wr_lCons, wr_bTru, wr_bOf, wr_bNot, wr_bAnd, wr_bOr, wr_isBl, wr_eAnd, wr_eOr, wr_eNot, wr_eIf, wr_e3c, wr_ok, wr_exc, ws_sNext, ws_sSeq, ws_sSet, ws_sDrop, ws_sRet, ws_sRetN, ws_sBrk, ws_sCnt, ws_sIf, ws_sAsg, ws_sPar, ws_sSub, ws_sForE, wr_callM, List.getElem?_cons_zero, List.getElem?_cons_succ, List.set_cons_zero, List.set_cons_succ, List.map_cons, List.map_nil, List.length_cons, List.length_nil, List.cons_append, List.nil_append, List.replicate, List.append_nil, addM_i, subM_i, negM_i, cmpM_i, eqM_i, eqM_s, neM_i, neM_s, absM_i, intM_i, intM_b, max2M_i, min2M_i, lenM_t, lenM_l, lenM_r, tupM_ap, lstM_ap, strM_s, truB_b, isBl_b, newM_ap, Nat.reduceLeDiff, seqL_l, seqT_t, isNM_n, isNM_i, wr_eLc, wr_eSl, wr_oN, wr_oI, intO_i, seqA_l, seqA_r, seqA_t, listM_t, listM_l, slM_t, slM_l, ws_sMatch, ws_mcNil, ws_mcAny, ws_mcVal, if_true, if_false, Bool.false_eq_true, Bool.not_true, Bool.not_false, Nat.reduceSub, Nat.reduceAdd, Nat.zero_add, eq_self, and_self, and_true, true_and, gN]
  have t1 : ∀ wr due, eLam mL__law_caught (eCall m_pixel_text (lCons (eVar 4) lNil)) [some r0, some (.int j), some (.loc l), w3, some d, some wr, some due, w7, w8] μ = _ := fun wr due => eLam_ap (caught_ok (by
      rw [eCall_ap]
      simp only [lCons_ap, eVar_ap, lNil_ap, List.map_cons, List.getElem?_cons_zero, List.getElem?_cons_succ, k0]
      exact hd.tx μ) ta.sh) rfl
  simp only [t1, wr_ok, ne_self_l, wr_isBl]
  try simp only [wr_eVar, wr_eC, wr_e2, wr_e1, wr_eL, wr_eCall, wr_eCallK, wr_eLL, wr_eSeq, wr_lNil, wr_lCons, wr_bTru, wr_bOf, wr_bNot, wr_bAnd, wr_bOr, wr_isBl, wr_eAnd, wr_eOr, wr_eNot, wr_eIf, wr_e3c, wr_ok, wr_exc, ws_sNext, ws_sSeq, ws_sSet, ws_sDrop, ws_sRet, ws_sRetN, ws_sBrk, ws_sCnt, ws_sIf, ws_sAsg, ws_sPar, ws_sSub, ws_sForE, wr_callM, List.getElem?_cons_zero, List.getElem?_cons_succ, List.set_cons_zero, List.set_cons_succ, List.map_cons, List.map_nil, List.length_cons, List.length_nil, List.cons_append, List.nil_append, List.replicate, List.append_nil, addM_i, subM_i, negM_i, cmpM_i, eqM_i, eqM_s, neM_i, neM_s, absM_i, intM_i, intM_b, max2M_i, min2M_i, lenM_t, lenM_l, lenM_r, tupM_ap, lstM_ap, strM_s, truB_b, isBl_b, newM_ap, Nat.reduceLeDiff, seqL_l, seqT_t, isNM_n, isNM_i, wr_eLc, wr_eSl, wr_oN, wr_oI, intO_i, seqA_l, seqA_r, seqA_t, listM_t, listM_l, slM_t, slM_l, ws_sMatch, ws_mcNil, ws_mcAny, ws_mcVal, if_true, if_false, Bool.false_eq_true, Bool.not_true, Bool.not_false, Nat.reduceSub, Nat.reduceAdd, Nat.zero_add, eq_self, and_self, and_true, true_and, gN]
  unfold t_law_3
  try simp only [wr_eVar, wr_eC, wr_e2, wr_e1, wr_eL, wr_eCall, wr_eCallK, wr_eLL, wr_eSeq, wr_lNil, wr_lCons, wr_bTru, wr_bOf, wr_bNot, wr_bAnd, wr_bOr, wr_isBl, wr_eAnd, wr_eOr, wr_eNot, wr_eIf, wr_e3c, wr_ok, wr_exc, ws_sNext, ws_sSeq, ws_sSet, ws_sDrop, ws_sRet, ws_sRetN, ws_sBrk, ws_sCnt, ws_sIf, ws_sAsg, ws_sPar, ws_sSub, ws_sForE, wr_callM, List.getElem?_cons_zero, List.getElem?_cons_succ, List.set_cons_zero, List.set_cons_succ, List.map_cons, List.map_nil, List.length_cons, List.length_nil, List.cons_append, List.nil_append, List.replicate, List.append_nil, addM_i, subM_i, negM_i, cmpM_i, eqM_i, eqM_s, neM_i, neM_s, absM_i, intM_i, intM_b, max2M_i, min2M_i, lenM_t, lenM_l, lenM_r, tupM_ap, lstM_ap, strM_s, truB_b, isBl_b, newM_ap, Nat.reduceLeDiff, seqL_l, seqT_t, isNM_n, isNM_i, wr_eLc, wr_eSl, wr_oN, wr_oI, intO_i, seqA_l, seqA_r, seqA_t, listM_t, listM_l, slM_t, slM_l, ws_sMatch, ws_mcNil, ws_mcAny, ws_mcVal, if_true, if_false, Bool.false_eq_true, Bool.not_true, Bool.not_false, Nat.reduceSub, Nat.reduceAdd, Nat.zero_add, eq_self, and_self, and_true, true_and, gN]
  have t2 : ∀ wr due, eLam mL__law_caught (eCallK m_pixel_text gD_pixel_text_0_pixel lNil (lCons (eVar 4) lNil)) [some r0, some (.int j), some (.loc l), w3, some d, some wr, some due, w7, w8] μ = _ := fun wr due => eLam_ap (caught_ok (by
      rw [eCallK_ap]
      simp only [lCons_ap, eVar_ap, lNil_ap, List.map_cons, List.getElem?_cons_zero, List.getElem?_cons_succ, k0]
      exact hd.tx μ) ta.sh) rfl
  simp only [t2, wr_ok, ne_self_l, wr_isBl]
  try simp only [wr_eVar, wr_eC, wr_e2, wr_e1, wr_eL, wr_eCall, wr_eCallK, wr_eLL, wr_eSeq, wr_lNil, wr_lCons, wr_bTru, wr_bOf, wr_bNot, wr_bAnd, wr_bOr, wr_isBl, wr_eAnd, wr_eOr, wr_eNot, wr_eIf, wr_e3c, wr_ok, wr_exc, ws_sNext, ws_sSeq, ws_sSet, ws_sDrop, ws_sRet, ws_sRetN, ws_sBrk, ws_sCnt, ws_sIf, ws_sAsg, ws_sPar, ws_sSub, ws_sForE, wr_callM, List.getElem?_cons_zero, List.getElem?_cons_succ, List.set_cons_zero, List.set_cons_succ, List.map_cons, List.map_nil, List.length_cons, List.length_nil, List.cons_append, List.nil_append, List.replicate, List.append_nil, addM_i, subM_i, negM_i, cmpM_i, eqM_i, eqM_s, neM_i, neM_s, absM_i, intM_i, intM_b, max2M_i, min2M_i, lenM_t, lenM_l, lenM_r, tupM_ap, lstM_ap, strM_s, truB_b, isBl_b, newM_ap, Nat.reduceLeDiff, seqL_l, seqT_t, isNM_n, isNM_i, wr_eLc, wr_eSl, wr_oN, wr_oI, intO_i, seqA_l, seqA_r, seqA_t, listM_t, listM_l, slM_t, slM_l, ws_sMatch, ws_mcNil, ws_mcAny, ws_mcVal, if_true, if_false, Bool.false_eq_true, Bool.not_true, Bool.not_false, Nat.reduceSub, Nat.reduceAdd, Nat.zero_add, eq_self, and_self, and_true, true_and, gN]
  unfold t_law_2
  try simp only [wr_eVar, wr_eC, wr_e2, wr_e1, wr_eL, wr_eCall, wr_eCallK, wr_eLL, wr_eSeq, wr_lNil, wr_lCons, wr_bTru, wr_bOf, wr_bNot, wr_bAnd, wr_bOr, wr_isBl, wr_eAnd, wr_eOr, wr_eNot, wr_eIf, wr_e3c, wr_ok, wr_exc, ws_sNext, ws_sSeq, ws_sSet, ws_sDrop, ws_sRet, ws_sRetN, ws_sBrk, ws_sCnt, ws_sIf, ws_sAsg, ws_sPar, ws_sSub, ws_sForE, wr_callM, List.getElem?_cons_zero, List.getElem?_cons_succ, List.set_cons_zero, List.set_cons_succ, List.map_cons, List.map_nil, List.length_cons, List.length_nil, List.cons_append, List.nil_append, List.replicate, List.append_nil, addM_i, subM_i, negM_i, cmpM_i, eqM_i, eqM_s, neM_i, neM_s, absM_i, intM_i, intM_b, max2M_i, min2M_i, lenM_t, lenM_l, lenM_r, tupM_ap, lstM_ap, strM_s, truB_b, isBl_b, newM_ap, Nat.reduceLeDiff, seqL_l, seqT_t, isNM_n, isNM_i, wr_eLc, wr_eSl, wr_oN, wr_oI, intO_i, seqA_l, seqA_r, seqA_t, listM_t, listM_l, slM_t, slM_l, ws_sMatch, ws_mcNil, ws_mcAny, ws_mcVal, if_true, if_false, Bool.false_eq_true, Bool.not_true, Bool.not_false, Nat.reduceSub, Nat.reduceAdd, Nat.zero_add, eq_self, and_self, and_true, true_and, gN]
  refine wr_to (draw_l hs (by omega) (by omega) (by decide +kernel)) ?_
  rintro _ μ1 ⟨k, rfl, k0', k1', s1, f1⟩
  refine wr_ix k0' (by simpa using k1') fun o ho => ?_
  have oh := wk o ho
  clear ho wk t1 t2
  unfold t_law_1
  try simp only [wr_eVar, wr_eC, wr_e2, wr_e1, wr_eL, wr_eCall, wr_eCallK, wr_eLL, wr_eSeq, wr_lNil, wr_lCons, wr_bTru, wr_bOf, wr_bNot, wr_bAnd, wr_bOr, wr_isBl, wr_eAnd, wr_eOr, wr_eNot, wr_eIf, wr_e3c, wr_ok, wr_exc, ws_sNext, ws_sSeq, ws_sSet, ws_sDrop, ws_sRet, ws_sRetN, ws_sBrk, ws_sCnt, ws_sIf, ws_sAsg, ws_sPar, ws_sSub, ws_sForE, wr_callM, List.getElem?_cons_zero, List.getElem?_cons_succ, List.set_cons_zero, List.set_cons_succ, List.map_cons, List.map_nil, List.length_cons, List.length_nil, List.cons_append, List.nil_append, List.replicate, List.append_nil, addM_i, subM_i, negM_i, cmpM_i, eqM_i, eqM_s, neM_i, neM_s, absM_i, intM_i, intM_b, max2M_i, min2M_i, lenM_t, lenM_l, lenM_r, tupM_ap, lstM_ap, strM_s, truB_b, isBl_b, newM_ap, Nat.reduceLeDiff, seqL_l, seqT_t, isNM_n, isNM_i, wr_eLc, wr_eSl, wr_oN, wr_oI, intO_i, seqA_l, seqA_r, seqA_t, listM_t, listM_l, slM_t, slM_l, ws_sMatch, ws_mcNil, ws_mcAny, ws_mcVal, if_true, if_false, Bool.false_eq_true, Bool.not_true, Bool.not_false, Nat.reduceSub, Nat.reduceAdd, Nat.zero_add, eq_self, and_self, and_true, true_and, gN]
  rw [tright_v ta]
  try simp only [wr_eVar, wr_eC, wr_e2, wr_e1, wr_eL, wr_eCall, wr_eCallK, wr_eLL, wr_eSeq, wr_lNil, wr_lCons, wr_bTru, wr_bOf, wr_bNot, wr_bAnd, wr_bOr, wr_isBl, wr_eAnd, wr_eOr, wr_eNot, wr_eIf, wr_e3c, wr_ok, wr_exc, ws_sNext, ws_sSeq, ws_sSet, ws_sDrop, ws_sRet, ws_sRetN, ws_sBrk, ws_sCnt, ws_sIf, ws_sAsg, ws_sPar, ws_sSub, ws_sForE, wr_callM, List.getElem?_cons_zero, List.getElem?_cons_succ, List.set_cons_zero, List.set_cons_succ, List.map_cons, List.map_nil, List.length_cons, List.length_nil, List.cons_append, List.nil_append, List.replicate, List.append_nil, addM_i, subM_i, negM_i, cmpM_i, eqM_i, eqM_s, neM_i, neM_s, absM_i, intM_i, intM_b, max2M_i, min2M_i, lenM_t, lenM_l, lenM_r, tupM_ap, lstM_ap, strM_s, truB_b, isBl_b, newM_ap, Nat.reduceLeDiff, seqL_l, seqT_t, isNM_n, isNM_i, wr_eLc, wr_eSl, wr_oN, wr_oI, intO_i, seqA_l, seqA_r, seqA_t, listM_t, listM_l, slM_t, slM_l, ws_sMatch, ws_mcNil, ws_mcAny, ws_mcVal, if_true, if_false, Bool.false_eq_true, Bool.not_true, Bool.not_false, Nat.reduceSub, Nat.reduceAdd, Nat.zero_add, eq_self, and_self, and_true, true_and, gN]
  rw [tright_v oh]
  try simp only [wr_eVar, wr_eC, wr_e2, wr_e1, wr_eL, wr_eCall, wr_eCallK, wr_eLL, wr_eSeq, wr_lNil, wr_lCons, wr_bTru, wr_bOf, wr_bNot, wr_bAnd, wr_bOr, wr_isBl, wr_eAnd, wr_eOr, wr_eNot, wr_eIf, wr_e3c, wr_ok, wr_exc, ws_sNext, ws_sSeq, ws_sSet, ws_sDrop, ws_sRet, ws_sRetN, ws_sBrk, ws_sCnt, ws_sIf, ws_sAsg, ws_sPar, ws_sSub, ws_sForE, wr_callM, List.getElem?_cons_zero, List.getElem?_cons_succ, List.set_cons_zero, List.set_cons_succ, List.map_cons, List.map_nil, List.length_cons, List.length_nil, List.cons_append, List.nil_append, List.replicate, List.append_nil, addM_i, subM_i, negM_i, cmpM_i, eqM_i, eqM_s, neM_i, neM_s, absM_i, intM_i, intM_b, max2M_i, min2M_i, lenM_t, lenM_l, lenM_r, tupM_ap, lstM_ap, strM_s, truB_b, isBl_b, newM_ap, Nat.reduceLeDiff, seqL_l, seqT_t, isNM_n, isNM_i, wr_eLc, wr_eSl, wr_oN, wr_oI, intO_i, seqA_l, seqA_r, seqA_t, listM_t, listM_l, slM_t, slM_l, ws_sMatch, ws_mcNil, ws_mcAny, ws_mcVal, if_true, if_false, Bool.false_eq_true, Bool.not_true, Bool.not_false, Nat.reduceSub, Nat.reduceAdd, Nat.zero_add, eq_self, and_self, and_true, true_and, gN]
  rw [hd.odd]
  try simp only [wr_eVar, wr_eC, wr_e2, wr_e1, wr_eL, wr_eCall, wr_eCallK, wr_eLL, wr_eSeq, wr_lNil, wr_lCons, wr_bTru, wr_bOf, wr_bNot, wr_bAnd, wr_bOr, wr_isBl, wr_eAnd, wr_eOr, wr_eNot, wr_eIf, wr_e3c, wr_ok, wr_exc, ws_sNext, ws_sSeq, ws_sSet, ws_sDrop, ws_sRet, ws_sRetN, ws_sBrk, ws_sCnt, ws_sIf, ws_sAsg, ws_sPar, ws_sSub, ws_sForE, wr_callM, List.getElem?_cons_zero, List.getElem?_cons_succ, List.set_cons_zero, List.set_cons_succ, List.map_cons, List.map_nil, List.length_cons, List.length_nil, List.cons_append, List.nil_append, List.replicate, List.append_nil, addM_i, subM_i, negM_i, cmpM_i, eqM_i, eqM_s, neM_i, neM_s, absM_i, intM_i, intM_b, max2M_i, min2M_i, lenM_t, lenM_l, lenM_r, tupM_ap, lstM_ap, strM_s, truB_b, isBl_b, newM_ap, Nat.reduceLeDiff, seqL_l, seqT_t, isNM_n, isNM_i, wr_eLc, wr_eSl, wr_oN, wr_oI, intO_i, seqA_l, seqA_r, seqA_t, listM_t, listM_l, slM_t, slM_l, ws_sMatch, ws_mcNil, ws_mcAny, ws_mcVal, if_true, if_false, Bool.false_eq_true, Bool.not_true, Bool.not_false, Nat.reduceSub, Nat.reduceAdd, Nat.zero_add, eq_self, and_self, and_true, true_and, gN]
  unfold t_law_0
  try simp only [wr_eVar, wr_eC, wr_e2, wr_e1, wr_eL, wr_eCall, wr_eCallK, wr_eLL, wr_eSeq, wr_lNil, wr_lCons, wr_bTru, wr_bOf, wr_bNot, wr_bAnd, wr_bOr, wr_isBl, wr_eAnd, wr_eOr, wr_eNot, wr_eIf, wr_e3c, wr_ok, wr_exc, ws_sNext, ws_sSeq, ws_sSet, ws_sDrop, ws_sRet, ws_sRetN, ws_sBrk, ws_sCnt, ws_sIf, ws_sAsg, ws_sPar, ws_sSub, ws_sForE, wr_callM, List.getElem?_cons_zero, List.getElem?_cons_succ, List.set_cons_zero, List.set_cons_succ, List.map_cons, List.map_nil, List.length_cons, List.length_nil, List.cons_append, List.nil_append, List.replicate, List.append_nil, addM_i, subM_i, negM_i, cmpM_i, eqM_i, eqM_s, neM_i, neM_s, absM_i, intM_i, intM_b, max2M_i, min2M_i, lenM_t, lenM_l, lenM_r, tupM_ap, lstM_ap, strM_s, truB_b, isBl_b, newM_ap, Nat.reduceLeDiff, seqL_l, seqT_t, isNM_n, isNM_i, wr_eLc, wr_eSl, wr_oN, wr_oI, intO_i, seqA_l, seqA_r, seqA_t, listM_t, listM_l, slM_t, slM_l, ws_sMatch, ws_mcNil, ws_mcAny, ws_mcVal, if_true, if_false, Bool.false_eq_true, Bool.not_true, Bool.not_false, Nat.reduceSub, Nat.reduceAdd, Nat.zero_add, eq_self, and_self, and_true, true_and, gN]
  rw [rng1M_i (by omega)]
  try simp only [wr_eVar, wr_eC, wr_e2, wr_e1, wr_eL, wr_eCall, wr_eCallK, wr_eLL, wr_eSeq, wr_lNil, wr_lCons, wr_bTru, wr_bOf, wr_bNot, wr_bAnd, wr_bOr, wr_isBl, wr_eAnd, wr_eOr, wr_eNot, wr_eIf, wr_e3c, wr_ok, wr_exc, ws_sNext, ws_sSeq, ws_sSet, ws_sDrop, ws_sRet, ws_sRetN, ws_sBrk, ws_sCnt, ws_sIf, ws_sAsg, ws_sPar, ws_sSub, ws_sForE, wr_callM, List.getElem?_cons_zero, List.getElem?_cons_succ, List.set_cons_zero, List.set_cons_succ, List.map_cons, List.map_nil, List.length_cons, List.length_nil, List.cons_append, List.nil_append, List.replicate, List.append_nil, addM_i, subM_i, negM_i, cmpM_i, eqM_i, eqM_s, neM_i, neM_s, absM_i, intM_i, intM_b, max2M_i, min2M_i, lenM_t, lenM_l, lenM_r, tupM_ap, lstM_ap, strM_s, truB_b, isBl_b, newM_ap, Nat.reduceLeDiff, seqL_l, seqT_t, isNM_n, isNM_i, wr_eLc, wr_eSl, wr_oN, wr_oI, intO_i, seqA_l, seqA_r, seqA_t, listM_t, listM_l, slM_t, slM_l, ws_sMatch, ws_mcNil, ws_mcAny, ws_mcVal, if_true, if_false, Bool.false_eq_true, Bool.not_true, Bool.not_false, Nat.reduceSub, Nat.reduceAdd, Nat.zero_add, eq_self, and_self, and_true, true_and, gN]
  refine ws_for (fun q' ρ μ' => (∃ a b c e f, ρ = [some r0, some (.int j), some (.loc l), a, b, some (.str (S (p ++ 58 :: q))), c, e, f]) ∧ Sd l (n + 1 + 3 * q') μ') ⟨⟨_, _, _, _, _, rfl⟩, s1.mono (by omega)⟩ ?_ ?_
  · rintro q' x ρ μ' hx ⟨⟨a, b, c, e, f, rfl⟩, s4⟩
    have hq : q' < 3 := by
      have := (List.getElem?_eq_some_iff.mp hx).1
      simpa [rngL] using this
    try simp only [wr_eVar, wr_eC, wr_e2, wr_e1, wr_eL, wr_eCall, wr_eCallK, wr_eLL, wr_eSeq, wr_lNil, wr_lCons, wr_bTru, wr_bOf, wr_bNot, wr_bAnd, wr_bOr, wr_isBl, wr_eAnd, wr_eOr, wr_eNot, wr_eIf, wr_e3c, wr_ok, wr_exc, ws_sNext, ws_sSeq, ws_sSet, ws_sDrop, ws_sRet, ws_sRetN, ws_sBrk, ws_sCnt, ws_sIf, ws_sAsg, ws_sPar, ws_sSub, ws_sForE, wr_callM, List.getElem?_cons_zero, List.getElem?_cons_succ, List.set_cons_zero, List.set_cons_succ, List.map_cons, List.map_nil, List.length_cons, List.length_nil, List.cons_append, List.nil_append, List.replicate, List.append_nil, addM_i, subM_i, negM_i, cmpM_i, eqM_i, eqM_s, neM_i, neM_s, absM_i, intM_i, intM_b, max2M_i, min2M_i, lenM_t, lenM_l, lenM_r, tupM_ap, lstM_ap, strM_s, truB_b, isBl_b, newM_ap, Nat.reduceLeDiff, seqL_l, seqT_t, isNM_n, isNM_i, wr_eLc, wr_eSl, wr_oN, wr_oI, intO_i, seqA_l, seqA_r, seqA_t, listM_t, listM_l, slM_t, slM_l, ws_sMatch, ws_mcNil, ws_mcAny, ws_mcVal, if_true, if_false, Bool.false_eq_true, Bool.not_true, Bool.not_false, Nat.reduceSub, Nat.reduceAdd, Nat.zero_add, eq_self, and_self, and_true, true_and, gN]
    refine wr_to (bent_ok hd.lp hd.lq hd.op hd.oq hd.np hd.nq s4 (by omega)) ?_
    rintro r μ5 ⟨hr, s5, f5⟩
    rw [tright_v hr]
    try simp only [wr_eVar, wr_eC, wr_e2, wr_e1, wr_eL, wr_eCall, wr_eCallK, wr_eLL, wr_eSeq, wr_lNil, wr_lCons, wr_bTru, wr_bOf, wr_bNot, wr_bAnd, wr_bOr, wr_isBl, wr_eAnd, wr_eOr, wr_eNot, wr_eIf, wr_e3c, wr_ok, wr_exc, ws_sNext, ws_sSeq, ws_sSet, ws_sDrop, ws_sRet, ws_sRetN, ws_sBrk, ws_sCnt, ws_sIf, ws_sAsg, ws_sPar, ws_sSub, ws_sForE, wr_callM, List.getElem?_cons_zero, List.getElem?_cons_succ, List.set_cons_zero, List.set_cons_succ, List.map_cons, List.map_nil, List.length_cons, List.length_nil, List.cons_append, List.nil_append, List.replicate, List.append_nil, addM_i, subM_i, negM_i, cmpM_i, eqM_i, eqM_s, neM_i, neM_s, absM_i, intM_i, intM_b, max2M_i, min2M_i, lenM_t, lenM_l, lenM_r, tupM_ap, lstM_ap, strM_s, truB_b, isBl_b, newM_ap, Nat.reduceLeDiff, seqL_l, seqT_t, isNM_n, isNM_i, wr_eLc, wr_eSl, wr_oN, wr_oI, intO_i, seqA_l, seqA_r, seqA_t, listM_t, listM_l, slM_t, slM_l, ws_sMatch, ws_mcNil, ws_mcAny, ws_mcVal, if_true, if_false, Bool.false_eq_true, Bool.not_true, Bool.not_false, Nat.reduceSub, Nat.reduceAdd, Nat.zero_add, eq_self, and_self, and_true, true_and, gN]
    exact ⟨⟨_, _, _, _, _, rfl⟩, s5.mono (by omega)⟩
  · rintro ρ μ' ⟨⟨a, b, c, e, f, rfl⟩, s4⟩
    exact ⟨⟨_, _, _, _, _, _, rfl⟩, s4.mono (by simp [rngL]; omega)⟩
theorem law_true : ∀ ns : List Int, ns.length ≤ 63 → (∀ z ∈ ns, Builtin.Int.intBits z ≤ 1048576) → ∃ μ', m_law [.ro (ns.map .int)] [] = .ok (.bl true) μ' := by
  intro ns hl _
  refine wr_ex ?_
  unfold m_law b_law
  try simp only [wr_eVar, wr_eC, wr_e2, wr_e1, wr_eL, wr_eCall, wr_eCallK, wr_eLL, wr_eSeq, wr_lNil, wr_lCons, wr_bTru, wr_bOf, wr_bNot, wr_bAnd, wr_bOr, wr_isBl, wr_eAnd, wr_eOr, wr_eNot, wr_eIf, wr_e3c, wr_ok, wr_exc, ws_sNext, ws_sSeq, ws_sSet, ws_sDrop, ws_sRet, ws_sRetN, ws_sBrk, ws_sCnt, ws_sIf, ws_sAsg, ws_sPar, ws_sSub, ws_sForE, wr_callM, List.getElem?_cons_zero, List.getElem?_cons_succ, List.set_cons_zero, List.set_cons_succ, List.map_cons, List.map_nil, List.length_cons, List.length_nil, List.cons_append, List.nil_append, List.replicate, List.append_nil, addM_i, subM_i, negM_i, cmpM_i, eqM_i, eqM_s, neM_i, neM_s, absM_i, intM_i, intM_b, max2M_i, min2M_i, lenM_t, lenM_l, lenM_r, tupM_ap, lstM_ap, strM_s, truB_b, isBl_b, newM_ap, Nat.reduceLeDiff, seqL_l, seqT_t, isNM_n, isNM_i, wr_eLc, wr_eSl, wr_oN, wr_oI, intO_i, seqA_l, seqA_r, seqA_t, listM_t, listM_l, slM_t, slM_l, ws_sMatch, ws_mcNil, ws_mcAny, ws_mcVal, if_true, if_false, Bool.false_eq_true, Bool.not_true, Bool.not_false, Nat.reduceSub, Nat.reduceAdd, Nat.zero_add, eq_self, and_self, and_true, true_and, gN]
  have e : ((ns.map D.int).length : Int) = ns.length := by simp
  rw [e]
  rw [rng1M_i (by split <;> split <;> omega)]
  try simp only [wr_eVar, wr_eC, wr_e2, wr_e1, wr_eL, wr_eCall, wr_eCallK, wr_eLL, wr_eSeq, wr_lNil, wr_lCons, wr_bTru, wr_bOf, wr_bNot, wr_bAnd, wr_bOr, wr_isBl, wr_eAnd, wr_eOr, wr_eNot, wr_eIf, wr_e3c, wr_ok, wr_exc, ws_sNext, ws_sSeq, ws_sSet, ws_sDrop, ws_sRet, ws_sRetN, ws_sBrk, ws_sCnt, ws_sIf, ws_sAsg, ws_sPar, ws_sSub, ws_sForE, wr_callM, List.getElem?_cons_zero, List.getElem?_cons_succ, List.set_cons_zero, List.set_cons_succ, List.map_cons, List.map_nil, List.length_cons, List.length_nil, List.cons_append, List.nil_append, List.replicate, List.append_nil, addM_i, subM_i, negM_i, cmpM_i, eqM_i, eqM_s, neM_i, neM_s, absM_i, intM_i, intM_b, max2M_i, min2M_i, lenM_t, lenM_l, lenM_r, tupM_ap, lstM_ap, strM_s, truB_b, isBl_b, newM_ap, Nat.reduceLeDiff, seqL_l, seqT_t, isNM_n, isNM_i, wr_eLc, wr_eSl, wr_oN, wr_oI, intO_i, seqA_l, seqA_r, seqA_t, listM_t, listM_l, slM_t, slM_l, ws_sMatch, ws_mcNil, ws_mcAny, ws_mcVal, if_true, if_false, Bool.false_eq_true, Bool.not_true, Bool.not_false, Nat.reduceSub, Nat.reduceAdd, Nat.zero_add, eq_self, and_self, and_true, true_and, gN]
  have hj : (if (if (8 : Int) < ns.length then (8 : Int) else ns.length) > 1 then (if (8 : Int) < ns.length then (8 : Int) else ns.length) else 1).toNat ≤ 8 := by
    split <;> split <;> omega
  generalize (if (if (8 : Int) < ns.length then (8 : Int) else ns.length) > 1 then (if (8 : Int) < ns.length then (8 : Int) else ns.length) else 1).toNat = N at hj
  refine ws_for (fun _ ρ _ => ∃ a b c d e f g h, ρ = [some (.ro (ns.map .int)), a, b, c, d, e, f, g, h]) ⟨_, _, _, _, _, _, _, _, rfl⟩ ?_ ?_
  · rintro j x ρ μ hx ⟨a, b, c, d, e, f, g, h, rfl⟩
    have hj2 : j < N := by
      have := (List.getElem?_eq_some_iff.mp hx).1
      simpa [rngL] using this
    have ex : x = .int j := by
      unfold rngL at hx
      rw [List.getElem?_map, List.getElem?_range hj2] at hx
      have := (Option.some.inj hx).symm
      simpa using this
    subst ex
    try simp only [wr_eVar, wr_eC, wr_e2, wr_e1, wr_eL, wr_eCall, wr_eCallK, wr_eLL, wr_eSeq, wr_lNil, wr_lCons, wr_bTru, wr_bOf, wr_bNot, wr_bAnd, wr_bOr, wr_isBl, wr_eAnd, wr_eOr, wr_eNot, wr_eIf, wr_e3c, wr_ok, wr_exc, ws_sNext, ws_sSeq, ws_sSet, ws_sDrop, ws_sRet, ws_sRetN, ws_sBrk, ws_sCnt, ws_sIf, ws_sAsg, ws_sPar, ws_sSub, ws_sForE, wr_callM, List.getElem?_cons_zero, List.getElem?_cons_succ, List.set_cons_zero, List.set_cons_succ, List.map_cons, List.map_nil, List.length_cons, List.length_nil, List.cons_append, List.nil_append, List.replicate, List.append_nil, addM_i, subM_i, negM_i, cmpM_i, eqM_i, eqM_s, neM_i, neM_s, absM_i, intM_i, intM_b, max2M_i, min2M_i, lenM_t, lenM_l, lenM_r, tupM_ap, lstM_ap, strM_s, truB_b, isBl_b, newM_ap, Nat.reduceLeDiff, seqL_l, seqT_t, isNM_n, isNM_i, wr_eLc, wr_eSl, wr_oN, wr_oI, intO_i, seqA_l, seqA_r, seqA_t, listM_t, listM_l, slM_t, slM_l, ws_sMatch, ws_mcNil, ws_mcAny, ws_mcVal, if_true, if_false, Bool.false_eq_true, Bool.not_true, Bool.not_false, Nat.reduceSub, Nat.reduceAdd, Nat.zero_add, eq_self, and_self, and_true, true_and, gN]
    refine wr_to (seed_ok (ns := ns) (k := j) (μ := μ) (by omega) (by omega)) ?_
    rintro _ μ1 ⟨rfl, s1, l1, _⟩
    generalize μ.length = l at s1
    unfold t_law_7
    try simp only [wr_eVar, wr_eC, wr_e2, wr_e1, wr_eL, wr_eCall, wr_eCallK, wr_eLL, wr_eSeq, wr_lNil, wr_lCons, wr_bTru, wr_bOf, wr_bNot, wr_bAnd, wr_bOr, wr_isBl, wr_eAnd, wr_eOr, wr_eNot, wr_eIf, wr_e3c, wr_ok, wr_exc, ws_sNext, ws_sSeq, ws_sSet, ws_sDrop, ws_sRet, ws_sRetN, ws_sBrk, ws_sCnt, ws_sIf, ws_sAsg, ws_sPar, ws_sSub, ws_sForE, wr_callM, List.getElem?_cons_zero, List.getElem?_cons_succ, List.set_cons_zero, List.set_cons_succ, List.map_cons, List.map_nil, List.length_cons, List.length_nil, List.cons_append, List.nil_append, List.replicate, List.append_nil, addM_i, subM_i, negM_i, cmpM_i, eqM_i, eqM_s, neM_i, neM_s, absM_i, intM_i, intM_b, max2M_i, min2M_i, lenM_t, lenM_l, lenM_r, tupM_ap, lstM_ap, strM_s, truB_b, isBl_b, newM_ap, Nat.reduceLeDiff, seqL_l, seqT_t, isNM_n, isNM_i, wr_eLc, wr_eSl, wr_oN, wr_oI, intO_i, seqA_l, seqA_r, seqA_t, listM_t, listM_l, slM_t, slM_l, ws_sMatch, ws_mcNil, ws_mcAny, ws_mcVal, if_true, if_false, Bool.false_eq_true, Bool.not_true, Bool.not_false, Nat.reduceSub, Nat.reduceAdd, Nat.zero_add, eq_self, and_self, and_true, true_and, gN]
    rw [rng1M_i (by omega)]
    try simp only [wr_eVar, wr_eC, wr_e2, wr_e1, wr_eL, wr_eCall, wr_eCallK, wr_eLL, wr_eSeq, wr_lNil, wr_lCons, wr_bTru, wr_bOf, wr_bNot, wr_bAnd, wr_bOr, wr_isBl, wr_eAnd, wr_eOr, wr_eNot, wr_eIf, wr_e3c, wr_ok, wr_exc, ws_sNext, ws_sSeq, ws_sSet, ws_sDrop, ws_sRet, ws_sRetN, ws_sBrk, ws_sCnt, ws_sIf, ws_sAsg, ws_sPar, ws_sSub, ws_sForE, wr_callM, List.getElem?_cons_zero, List.getElem?_cons_succ, List.set_cons_zero, List.set_cons_succ, List.map_cons, List.map_nil, List.length_cons, List.length_nil, List.cons_append, List.nil_append, List.replicate, List.append_nil, addM_i, subM_i, negM_i, cmpM_i, eqM_i, eqM_s, neM_i, neM_s, absM_i, intM_i, intM_b, max2M_i, min2M_i, lenM_t, lenM_l, lenM_r, tupM_ap, lstM_ap, strM_s, truB_b, isBl_b, newM_ap, Nat.reduceLeDiff, seqL_l, seqT_t, isNM_n, isNM_i, wr_eLc, wr_eSl, wr_oN, wr_oI, intO_i, seqA_l, seqA_r, seqA_t, listM_t, listM_l, slM_t, slM_l, ws_sMatch, ws_mcNil, ws_mcAny, ws_mcVal, if_true, if_false, Bool.false_eq_true, Bool.not_true, Bool.not_false, Nat.reduceSub, Nat.reduceAdd, Nat.zero_add, eq_self, and_self, and_true, true_and, gN]
    refine ws_for (fun i ρ μ => (∃ a b c d e f, ρ = [some (.ro (ns.map .int)), some (.int j), some (.loc l), a, b, c, d, e, f]) ∧ Sd l (40 * i) μ) ⟨⟨_, _, _, _, _, _, rfl⟩, s1.mono (by omega)⟩ ?_ ?_
    · rintro i x ρ μ hx ⟨⟨a, b, c, d, e, f, rfl⟩, s1⟩
      have hi : i < 4 := by
        have := (List.getElem?_eq_some_iff.mp hx).1
        simpa [rngL] using this
      try simp only [wr_eVar, wr_eC, wr_e2, wr_e1, wr_eL, wr_eCall, wr_eCallK, wr_eLL, wr_eSeq, wr_lNil, wr_lCons, wr_bTru, wr_bOf, wr_bNot, wr_bAnd, wr_bOr, wr_isBl, wr_eAnd, wr_eOr, wr_eNot, wr_eIf, wr_e3c, wr_ok, wr_exc, ws_sNext, ws_sSeq, ws_sSet, ws_sDrop, ws_sRet, ws_sRetN, ws_sBrk, ws_sCnt, ws_sIf, ws_sAsg, ws_sPar, ws_sSub, ws_sForE, wr_callM, List.getElem?_cons_zero, List.getElem?_cons_succ, List.set_cons_zero, List.set_cons_succ, List.map_cons, List.map_nil, List.length_cons, List.length_nil, List.cons_append, List.nil_append, List.replicate, List.append_nil, addM_i, subM_i, negM_i, cmpM_i, eqM_i, eqM_s, neM_i, neM_s, absM_i, intM_i, intM_b, max2M_i, min2M_i, lenM_t, lenM_l, lenM_r, tupM_ap, lstM_ap, strM_s, truB_b, isBl_b, newM_ap, Nat.reduceLeDiff, seqL_l, seqT_t, isNM_n, isNM_i, wr_eLc, wr_eSl, wr_oN, wr_oI, intO_i, seqA_l, seqA_r, seqA_t, listM_t, listM_l, slM_t, slM_l, ws_sMatch, ws_mcNil, ws_mcAny, ws_mcVal, if_true, if_false, Bool.false_eq_true, Bool.not_true, Bool.not_false, Nat.reduceSub, Nat.reduceAdd, Nat.zero_add, eq_self, and_self, and_true, true_and, gN]
      refine wr_to (dot_ok s1 (by omega)) ?_
      rintro o μ2 ⟨ho, s2, f2⟩
      obtain ⟨p, q, hd⟩ := dt_w ho
      clear ho
      try simp only [wr_eVar, wr_eC, wr_e2, wr_e1, wr_eL, wr_eCall, wr_eCallK, wr_eLL, wr_eSeq, wr_lNil, wr_lCons, wr_bTru, wr_bOf, wr_bNot, wr_bAnd, wr_bOr, wr_isBl, wr_eAnd, wr_eOr, wr_eNot, wr_eIf, wr_e3c, wr_ok, wr_exc, ws_sNext, ws_sSeq, ws_sSet, ws_sDrop, ws_sRet, ws_sRetN, ws_sBrk, ws_sCnt, ws_sIf, ws_sAsg, ws_sPar, ws_sSub, ws_sForE, wr_callM, List.getElem?_cons_zero, List.getElem?_cons_succ, List.set_cons_zero, List.set_cons_succ, List.map_cons, List.map_nil, List.length_cons, List.length_nil, List.cons_append, List.nil_append, List.replicate, List.append_nil, addM_i, subM_i, negM_i, cmpM_i, eqM_i, eqM_s, neM_i, neM_s, absM_i, intM_i, intM_b, max2M_i, min2M_i, lenM_t, lenM_l, lenM_r, tupM_ap, lstM_ap, strM_s, truB_b, isBl_b, newM_ap, Nat.reduceLeDiff, seqL_l, seqT_t, isNM_n, isNM_i, wr_eLc, wr_eSl, wr_oN, wr_oI, intO_i, seqA_l, seqA_r, seqA_t, listM_t, listM_l, slM_t, slM_l, ws_sMatch, ws_mcNil, ws_mcAny, ws_mcVal, if_true, if_false, Bool.false_eq_true, Bool.not_true, Bool.not_false, Nat.reduceSub, Nat.reduceAdd, Nat.zero_add, eq_self, and_self, and_true, true_and, gN]
      refine ws_mono (turn_ok (j := j) s2 (by omega) hd) ?_ (fun _ _ z => z.elim) (fun _ _ z => z.elim) (fun _ _ z => z.elim) (fun _ _ z => z.elim)
      rintro ρ' μ' ⟨⟨a, b, c, d, e, f, rfl⟩, s4⟩
      exact ⟨⟨_, _, _, _, _, _, rfl⟩, s4.mono (by omega)⟩
    · rintro ρ μ ⟨⟨a, b, c, d, e, f, rfl⟩, _⟩
      exact ⟨_, _, _, _, _, _, _, _, rfl⟩
  · rintro ρ μ ⟨a, b, c, d, e, f, g, h, rfl⟩
    unfold t_law_8
    try simp only [wr_eVar, wr_eC, wr_e2, wr_e1, wr_eL, wr_eCall, wr_eCallK, wr_eLL, wr_eSeq, wr_lNil, wr_lCons, wr_bTru, wr_bOf, wr_bNot, wr_bAnd, wr_bOr, wr_isBl, wr_eAnd, wr_eOr, wr_eNot, wr_eIf, wr_e3c, wr_ok, wr_exc, ws_sNext, ws_sSeq, ws_sSet, ws_sDrop, ws_sRet, ws_sRetN, ws_sBrk, ws_sCnt, ws_sIf, ws_sAsg, ws_sPar, ws_sSub, ws_sForE, wr_callM, List.getElem?_cons_zero, List.getElem?_cons_succ, List.set_cons_zero, List.set_cons_succ, List.map_cons, List.map_nil, List.length_cons, List.length_nil, List.cons_append, List.nil_append, List.replicate, List.append_nil, addM_i, subM_i, negM_i, cmpM_i, eqM_i, eqM_s, neM_i, neM_s, absM_i, intM_i, intM_b, max2M_i, min2M_i, lenM_t, lenM_l, lenM_r, tupM_ap, lstM_ap, strM_s, truB_b, isBl_b, newM_ap, Nat.reduceLeDiff, seqL_l, seqT_t, isNM_n, isNM_i, wr_eLc, wr_eSl, wr_oN, wr_oI, intO_i, seqA_l, seqA_r, seqA_t, listM_t, listM_l, slM_t, slM_l, ws_sMatch, ws_mcNil, ws_mcAny, ws_mcVal, if_true, if_false, Bool.false_eq_true, Bool.not_true, Bool.not_false, Nat.reduceSub, Nat.reduceAdd, Nat.zero_add, eq_self, and_self, and_true, true_and, gN]
end
end Zk05

open PySem PySem.W PySem.Calls PyProof.Rows
theorem PySem.Challenge.cw_layertrees_k05_texts_of_pixels_holds : PySem.Challenge.rw_layertrees_k05_texts_of_pixels.Holds := by
  w_on; o_law
  refine HandSHeadRun.head_any (r := OpenLaw.row PySem.Challenge.rw_layertrees_k05_texts_of_pixels) (q := view (OpenLaw.row PySem.Challenge.rw_layertrees_k05_texts_of_pixels).prog [69]) (H := Zk05.hk) (ob := Zk05.ob) (M := 16000) (loose := Zk05.loose) (d := HandSHeadRun.topDef (OpenLaw.row PySem.Challenge.rw_layertrees_k05_texts_of_pixels).prog 69) (kwd := []) Zk05.ob_eq
    (by kernel_rfl) (fun s => by kernel_rfl) Zk05.run (by kernel_rfl) (by kernel_rfl) (by kernel_rfl) (by rfl) (by first | assumption | decide +kernel) (by decide +kernel) ⟨rfl, rfl, rfl, rfl, rfl, by decide +kernel⟩ ?hw ?hc
  case hw => w_witness2
  case hc =>
    refine SE.walk_gT (l := PySem.Challenge.rw_layertrees_k05_texts_of_pixels) (n := 63) (k := 11) (x := "_law_script") rfl (by decide) (by kernel_rfl) ⟨rfl, by decide, by decide⟩ ?F
    intro w mg fa h Y G hmg0
    obtain ⟨K, KX, ⟨c, hsys⟩⟩ := Y
    have hmg : mg ("law" : PySem.Str) = some (.ref fa) := by
      have e : (HandSHeadRun.topDef (OpenLaw.row PySem.Challenge.rw_layertrees_k05_texts_of_pixels).prog 69).name = ("law" : PySem.Str) := by kernel_rfl
      rw [← e]
      exact hmg0
    have T := Zk05.txt KX G c.t.d c.more
    have e := hmg.symm.trans T.d_law.g
    cases e
    have inC : ∀ p ∈ Zk05.cs K, ∃ q ∈ Zk05.tf, He.cT K q = p := fun p hp => List.mem_map.mp (show p ∈ Zk05.tf.map (He.cT K) from hp)
    exact ⟨K, KX, _, Zk05.m_law, Zk05.TT K, Zk05.cs K, fun p hp => by obtain ⟨q, hq, rfl⟩ := inC p hp; exact c.empty q hq, fun p hp => by obtain ⟨q, hq, rfl⟩ := inC p hp; exact c.out q hq, fun p hp => by obtain ⟨q, hq, rfl⟩ := inC p hp; exact PySem.W.codeHd_of_K KX (c.hd q hq),
      fun q hq => by
        have e : Zk05.TT K = (Zk05.TT K) := rfl
        simp only [Zk05.TT, List.mem_cons, List.not_mem_nil, or_false] at hq
        rcases hq with rfl | rfl | rfl <;> exact ⟨_, by simp [Zk05.cs], rfl⟩, hsys, T.ks,
      fun s v => L2.FunD.bindsA (ps := ["_law_script"]) T.d_law.F (fun _ _ _ _ _ _ us hl => match us, hl with | [_], _ => rfl) s [v] rfl, Zk05.law_true, fun base _ _ TB => Zk05.ok_law T TB⟩
