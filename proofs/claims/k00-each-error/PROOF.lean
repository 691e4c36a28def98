import PyProof.Rows.All
import HandS.Head0
import HandS.Head1
import HandS.Head2
import HandS.HeadHook1
import HandS.Words
import Wide.All
import OpenK.AllK
import Wide.FinOn
import HandS.ForMost
import HandS.WordsExc
import HandS.Lambda
import KE.KDictCopyH
import HandS.TupAny
import HandS.Wide
import KE.DataEq
import KE.DataCmp
import KE.DataMinMax
import KE.DataAny
import KE.DataIsa
import KE.SortData
import PyProof.ReprReads
import HandS.IsInst
import HandS.RaiseMore
import PyProof.ReprRoads
import HandS.TupLen
import HandS.Style
import HandS.Walk
import HandS.HeadEnd
import HandS.Zip
import KE.GoesZip
import KE.GoesMore
import KE.KDictZip
import HandS.Dict
import HandS.SortInts
import HandS.Conv
import HandS.More
import HandS.SetFor
import HandS.SetKeys
import KE.GoesEnum
import PyProof.TupleOfSeq
import KE.KDictWalk
import HandS.Property
import HandS.SlotsOwn
import HandS.DictTup
import HandS.Text
import PyProof.CollectWalk
import KE.KUnpack
import PyProof.Rows.ListMulArg
import KE.DataFind
import HandS.TupSets
import HandS.Star
import HandS.ExcInit
import HandS.ExcSuper
import KE.KExcSuper
import HandS.ExcValue
import HandS.ExcIs
import HandS.ExcField
import KE.KExcIs
import PyProof.ReprLen
import PySem.Challenge.RW_laidthen_k00_each_error_by_itself
set_option Elab.async false
set_option linter.all false
set_option maxRecDepth 100000
section
set_option maxHeartbeats 1000000
/-! the head by one run of the top (nothing of it is written out): what a Hook looks at -/
namespace Dl
open PySem PySem.Spec PyProof.Rows L2
def gAd (K : PySem.W.Frag) (C m : Str) : Addr := match PySem.W.recIn K (He.ma K (He.ga K C) m) "property" with
  | some (.ref f :: _) => f
  | _ => 0
inductive Fx where
  | fa (f : He.Fa)
  | prp (C m : Str)
  | isi (C : Str)
  | eqc (C : Str)
  | hold (C m : Str)
  | exi (D file q : Str)
  | exs (D : Str) (cs : List Str)
  | sysm
def ownB (P : String → Bool) : Bool := ["NoneType", "bool", "int", "str", "list", "tuple", "dict"].all P
def veT : List Value := [.type "ValueError", .type "Exception", .type "BaseException", .type "object"]
def exiB (K : PySem.W.Frag) (D file q : Str) : Bool := match K.lookup (He.ma K (He.ga K D) "__init__") with
  | some ⟨_, _, .func fd, _⟩ => decide (fd.name = "__init__") && (decide (fd.qualname = q) && (decide (fd.globals = mainGlobals) && (decide (fd.builtins = builtinsNs) && (PySem.W.codeIn K fd.code q && ((match fd.code with
      | .ref cda => (match K.lookup cda with
        | some ⟨_, _, .fields vs, _⟩ => (match (vs[2]? : Option Value) with
          | some (Value.str f _) => decide (f = file)
          | _ => false)
        | _ => false)
      | _ => false) && (match fd.closure with
      | [(x, cc)] => decide (x = "__class__") && (match K.lookup cc with
        | some ⟨_, _, .cell (some (.ref D')), _⟩ => decide (D' = He.ga K D)
        | _ => false)
      | _ => false))))))
  | _ => false
def excB (K : PySem.W.Frag) (D C : Addr) : Bool := match K.lookup C with
  | some ⟨.type T, _, .cls cd, sl⟩ => decide (T = "type") && ((match sl.toList with
      | [_, _, _, _, some (.builtin n), _] => decide (n = "ValueError.__new__")
      | _ => false) && (!cd.hasDel && (cd.hasDict && cd.mro == .ref C :: ((if C = D then [] else [.ref D]) ++ veT))))
  | _ => false
def eqOB (a b : Option (Option Value)) : Bool := decide (a = b)
def excOkB (K : PySem.W.Frag) (D c : Str) : Bool := excB K (He.ga K D) (He.ga K c) && (PySem.W.keepIn K (.ref (He.ga K c)) && (He.eqO (PySem.W.findIn K (.ref (He.ga K c)) "__setattr__") (some (some (.builtin "object.__setattr__"))) &&
      (He.eqO (PySem.W.findIn K (.ref (He.ga K c)) "__init__") (some (some (.ref (He.ma K (He.ga K D) "__init__")))) && (He.eqO (PySem.W.findIn K (.ref (He.ga K c)) "value") (some none) &&
      (He.eqO (PySem.W.findIn K (.ref (He.ga K c)) "__getattribute__") (some (some (.builtin "BaseException.__getattribute__"))) && (He.eqO (PySem.W.findIn K (.ref (He.ga K c)) "__getattr__") (some none) &&
      (He.eqO (PySem.W.findIn K (.ref (He.ga K c)) "__class__") (some (some (.builtin "object.__class__"))) && ownB fun t => decide (PySem.W.kitOne K (.type t) (.ref (He.ga K c)) = some false))))))))
def Fx.ok (K : PySem.W.Frag) : Fx → Bool
  | .fa f => f.ok K
  | .prp C m => He.eqO (PySem.W.findIn K (.ref (He.ga K C)) m) (some (some (.ref (He.ma K (He.ga K C) m)))) &&
      (He.eqO (PySem.W.specialIn K (.ref (He.ma K (He.ga K C) m)) "__get__") (some (some (.builtin "property.__get__"))) && (decide (PySem.W.takesIn K (.ref (He.ma K (He.ga K C) m)) = some true) &&
        (match PySem.W.recIn K (He.ma K (He.ga K C) m) "property" with
          | some (.ref _ :: _) => true
          | _ => false)))
  | .isi C => He.eqO (PySem.W.findIn K (.ref (He.ga K C)) "__class__") (some (some (.builtin "object.__class__"))) &&
      (He.eqO (PySem.W.specialIn K (.builtin "object.__class__") "__get__") (some (some (.builtin "getset_descriptor.__get__"))) && (decide (PySem.W.takesIn K (.builtin "object.__class__") = some true) &&
        (decide (PySem.W.mroIn K (He.ga K C) (.type "object") = some true) && (decide (PySem.W.kitOne K (.ref (He.ga K C)) (.ref (He.ga K C)) = some true) && ownB fun t => decide (PySem.W.kitOne K (.type t) (.ref (He.ga K C)) = some false)))))
  | .eqc C => ownB fun t => PySem.W.notFirst K (He.ga K C) (.type t)
  | .hold C m => PySem.W.keepIn K (.ref (He.ma K (He.ga K C) m))
  | .exi D file q => exiB K D file q && (decide (PySem.W.typeIn K (.ref (He.ma K (He.ga K D) "__init__")) = some (.type "function")) && (decide (PySem.W.nsIn K PySem.cStatics "thirdparty.any" = some none) && (decide (PySem.W.nsIn K mainGlobals "super" = some none) &&
      (He.eqO (PySem.W.specialIn K (.builtin "object.__class__") "__get__") (some (some (.builtin "getset_descriptor.__get__"))) && decide (PySem.W.takesIn K (.builtin "object.__class__") = some true)))))
  | .exs D cs => (cs.all fun c => He.eqO (PySem.W.nsIn K mainGlobals c) (some (some (.ref (He.ga K c)))) && excOkB K D c) && decide (cs.map fun c => He.ga K c).Nodup
  | .sysm => (K.lookup PySem.sysModules).isSome
structure FnX where
  ad : PySem.W.Frag → Addr
  name : Str
  qual : Str
  st : Stmt
  clo : Bool := false
def FnX.val (d : FnX) : He.FnV := some (d.name, d.qual, defArgs d.st, .stmts (defBody d.st), defScope d.st, mainGlobals, [], .none, builtinsNs)
def fnA (K : PySem.W.Frag) (a : Addr) (clo : Bool) : He.FnV := match K.lookup a with
  | some ⟨_, _, .func fd, _⟩ => some (fd.name, fd.qualname, fd.params, fd.body, fd.scope, fd.globals, if clo then [] else fd.closure, fd.defaults, fd.builtins)
  | _ => none
def FnX.ok (K : PySem.W.Frag) (d : FnX) : Bool := PySem.W.keepIn K (.ref (d.ad K)) && match K.lookup (d.ad K) with
  | some ⟨_, _, .func fd, _⟩ => PySem.W.codeIn K fd.code d.qual
  | _ => false
abbrev AlH : Type := Bool × List He.FnV
def obsH (fx : List Fx) (fn : List FnX) (K : PySem.W.Frag) : AlH := ((fx.all fun f => f.ok K) && fn.all fun d => d.ok K, fn.map fun d => fnA K (d.ad K) d.clo)
def valH (fn : List FnX) : AlH := (true, fn.map FnX.val)
def SaysH (fx : List Fx) (fn : List FnX) (K : PySem.W.Frag) : Prop := obsH fx fn K = valH fn
def obsHG (as : List Addr) (fx : List Fx) (fn : List FnX) (g : Addr → Option Obj) : AlH := obsH fx fn (He.frG g as)
def hookH (as : List Addr) (fx : List Fx) (fn : List FnX) : PySem.W.Hook where
  α := AlH
  obs := fun s => obsHG as fx fn s.heap.get?
  val := fun _ => valH fn
  says := fun _ h => ∃ K : PySem.W.Frag, K.In h ∧ SaysH fx fn K
  of := fun _ _ e => ⟨_, He.frG_in, e⟩
  keeps := fun _ _ _ ⟨K, hK, c⟩ k => ⟨K, PySem.W.Frag.In.keeps hK k, c⟩
theorem obsHG_eq {as : List Addr} {fx : List Fx} {fn : List FnX} {g : Addr → Option Obj} {s : Shared} (h : ∀ a, g a = s.heap.get? a) : obsHG as fx fn g = (hookH as fx fn).obs s := by
  have e : g = s.heap.get? := funext h
  rw [e] <;> rfl
end Dl
end
section
namespace K00
open PySem PySem.Spec PyProof.Rows L2 Dl
section
def ecsR : List Str := (["DigError", "BadBand", "BadCores", "BadDeed", "BadDig", "BadDigs", "BadFace", "BadJournal", "BadLabs", "BadLetters"] : List Str) ++ (["BadLikes", "BadLine", "BadLot", "BadLots", "BadNotes", "BadNumber", "BadPair", "BadQuestion", "BadRow", "BadRows"] : List Str) ++ (["BadStructures", "BadUnit", "BadYears", "Clash", "Full", "Growing", "Known", "Late", "NoBook", "NoDig"] : List Str) ++ (["NoLike", "NoNote", "NoTrial", "NotSure", "NothingToRedo", "NothingToUndo", "TooMany", "Turning", "Unlike", "Unsure"] : List Str)
def hTop (i : Nat) : Stmt := PySem.Challenge.pw_laidthen_k00_each_error_by_itself.main.body.getD i (.Pass ⟨0, 0, 0, 0⟩)
def hMt (i j : Nat) : Stmt := match hTop i with
  | .ClassDef _ _ _ body _ _ _ _ _ _ _ => body.getD j (.Pass ⟨0, 0, 0, 0⟩)
  | _ => .Pass ⟨0, 0, 0, 0⟩
def fn0 : FnX := ⟨fun K => He.ga K "_law_pot", "_law_pot", "_law_pot", hTop 42, false⟩
def fn1 : FnX := ⟨fun K => He.ga K "_law_take", "_law_take", "_law_take", hTop 43, false⟩
def fn2 : FnX := ⟨fun K => He.ga K "_law_cells", "_law_cells", "_law_cells", hTop 45, false⟩
def fn3 : FnX := ⟨fun K => He.ga K "_law_marks", "_law_marks", "_law_marks", hTop 49, false⟩
def fn4 : FnX := ⟨fun K => He.ga K "_law_of", "_law_of", "_law_of", hTop 44, false⟩
def fn5 : FnX := ⟨fun K => He.ga K "_law_made", "_law_made", "_law_made", hTop 48, false⟩
def fn6 : FnX := ⟨fun K => He.ga K "_law_odd", "_law_odd", "_law_odd", hTop 46, false⟩
def fn7 : FnX := ⟨fun K => He.ga K "_law_right", "_law_right", "_law_right", hTop 50, false⟩
def fn8 : FnX := ⟨fun K => He.ga K "_law_nested", "_law_nested", "_law_nested", hTop 47, false⟩
def fn9 : FnX := ⟨fun K => He.ga K "law", "law", "law", hTop 51, false⟩
def fn10 : FnX := ⟨fun K => He.ma K (He.ga K "DigError") "__init__", "__init__", "DigError.__init__", hMt 1 0, true⟩
def hfx_0 : List Fx := [.fa (.free "ValueError"), .fa (.free "abs"), .fa (.free "all"), .fa (.free "any"), .fa (.free "enumerate"), .fa (.free "int"), .fa (.free "isinstance"), .fa (.free "len"), .fa (.free "list"), .fa (.free "max"), .fa (.free "min"), .fa (.free "range"), .fa (.free "repr"), .fa (.glo "_law_pot"), .fa (.glo "_law_take"), .fa (.glo "_law_cells"), .fa (.glo "_law_marks"), .fa (.glo "_law_of"), .fa (.glo "_law_made"), .fa (.glo "_law_odd"), .fa (.glo "_law_right"), .fa (.glo "_law_nested"), .fa (.glo "law"), .sysm, .exs "DigError" ecsR, .exi "DigError" PySem.Challenge.pw_laidthen_k00_each_error_by_itself.main.file "DigError.__init__"]
def hfx : List Fx := hfx_0
def hfn_0 : List FnX := [fn0, fn1, fn2, fn3, fn4, fn5, fn6, fn7, fn8, fn9, fn10]
def hfn : List FnX := hfn_0
def hnm_0 : List PySem.Str := ["DigError", "BadBand", "BadCores", "BadDeed", "BadDig", "BadDigs", "BadFace", "BadJournal", "BadLabs", "BadLetters", "BadLikes", "BadLine", "BadLot", "BadLots", "BadNotes", "BadNumber", "BadPair", "BadQuestion", "BadRow", "BadRows", "BadStructures", "BadUnit", "BadYears", "Clash", "Full", "Growing", "Known", "Late", "NoBook", "NoDig"]
def hnm_1 : List PySem.Str := ["NoLike", "NoNote", "NoTrial", "NotSure", "NothingToRedo", "NothingToUndo", "TooMany", "Turning", "Unlike", "Unsure", "_law_pot", "_law_take", "_law_of", "_law_cells", "_law_odd", "_law_nested", "_law_made", "_law_marks", "_law_right"]
def hnm : List PySem.Str := hnm_0 ++ hnm_1
def has_0 : List Addr := [3, 33, 46, 58, 70, 82, 94, 106, 118, 130, 142, 154, 166, 178, 190, 202, 214, 226, 238, 250, 262, 274, 286, 298, 310, 322, 334, 346, 358, 370]
def has_1 : List Addr := [382, 394, 406, 418, 430, 442, 454, 466, 478, 490, 502, 511, 518, 525, 532, 539, 546, 553, 560, 565, 570, 32, 45, 57, 69, 81, 93, 105, 117, 129]
def has_2 : List Addr := [141, 153, 165, 177, 189, 201, 213, 225, 237, 249, 261, 273, 285, 297, 309, 321, 333, 345, 357, 369, 381, 393, 405, 417, 429, 441, 453, 465, 477, 489]
def has_3 : List Addr := [501, 510, 517, 524, 531, 538, 545, 552, 559, 564, 569, 30, 29, 1, 2, 18]
def has : List Addr := has_0 ++ has_1 ++ has_2 ++ has_3
abbrev hR : PySem.W.OpenRow := PySem.W.OpenLaw.row PySem.Challenge.rw_laidthen_k00_each_error_by_itself
abbrev hK : PySem.W.Hook := hookH has hfx hfn
def hob (s : PySem.W.SharedT) : AlH := obsHG has hfx hfn (HandSHeadRun.getT s)
theorem hob_eq (s : PySem.W.SharedT) : hob s = hK.obs s.abs := obsHG_eq (HandSHeadRun.getT_eq s)
set_option maxHeartbeats 0 in
theorem hrun (w : World) : HandSHeadRun.RunEq hR (PySem.W.view hR.prog [51]) hK hob 20000 hnm w := by
  intro os
  kernel_rfl
end
end K00
end
section
namespace Dl
open PySem L2

abbrev D := PyData
abbrev Frag := PySem.W.Frag
structure ClsT where
  f : Str → Option Addr
  P : PySem.Program
  w : PySem.World
  T : List (Addr × Str)
instance : CoeFun ClsT fun _ => Str → Option Addr := ⟨ClsT.f⟩
def keyD : Key → D
  | .inl i => .int i
  | .inr x => .str x
def keysD (k : List Key) : D := .tuple (k.map keyD)
def insD (c : Str) (fs : List (Str × D)) : D := .dict ((.none, .str c) :: fs.map fun e => (.str e.1, e.2))

def scrD (ds : List D) : D := .dict [(.none, .list ds)]

def dctD : Bool → List (D × D) → D
  | false, kvs => .dict kvs
  | true, kvs => .dict ((.none, .bool true) :: kvs)

def excD (c : Str) (d : D) : D := .dict [(.none, .tuple [.str c, d])]
def exA (a C dx : Addr) : HO := .ext fun h => ∃ (o : Obj) (vs : Array Value), h.get? a = some o ∧ o.cls = .ref C ∧ o.dict = some dx ∧ o.data = .fields vs
mutual
inductive Rp (K : Frag) (cl : ClsT) (H : Hp) : V → D → Prop
  | non : Rp K cl H .non .none
  | bl (b : Bool) : Rp K cl H (.bl b) (.bool b)
  | int (i : Int) : Rp K cl H (.int i) (.int i)
  | str (x : Str) : Rp K cl H (.str x) (.str x)
  | lst {a : Addr} {xs : List V} {ds : List D} : Rd H a (.lst xs) → RpL K cl H xs ds → Rp K cl H (.ref a) (.list ds)
  | scr {a : Addr} {xs : List V} {ds : List D} : SqL K H a xs → RpL K cl H xs ds → Rp K cl H (.ref a) (scrD ds)
  | tup {a : Addr} {xs : List V} {ds : List D} : H a = some (.tup xs) → RpL K cl H xs ds → Rp K cl H (.ref a) (.tuple ds)
  | dk {a : Addr} {l : List (Key × V)} {kvs : List (D × D)} : Rd H a (.dK l) → kvs.map (·.1) = l.map (fun e => keyD e.1) → RpL K cl H (l.map (·.2)) (kvs.map (·.2)) → Rp K cl H (.ref a) (dctD false kvs)
  | dt {a : Addr} {l : List (List Key × V)} {kvs : List (D × D)} : Rd H a (.dT l) → kvs.map (·.1) = l.map (fun e => keysD e.1) → RpL K cl H (l.map (·.2)) (kvs.map (·.2)) → Rp K cl H (.ref a) (dctD true kvs)
  | ins {a C dx : Addr} {c : Str} {fvs : List (Str × V)} {fs : List (Str × D)} : cl c = some C → H a = some (.ins C dx fvs) → fs.map (·.1) = fvs.map (·.1) → RpL K cl H (fvs.map (·.2)) (fs.map (·.2)) → Rp K cl H (.ref a) (insD c fs)
  | exc {a C dx : Addr} {c : Str} {v : V} {d : D} : cl c = some C → H a = some (exA a C dx) → H dx = some (.xd [("value", v)]) → Rp K cl H v d → Rp K cl H (.ref a) (excD c d)
inductive RpL (K : Frag) (cl : ClsT) (H : Hp) : List V → List D → Prop
  | nil : RpL K cl H [] []
  | cons {v : V} {vs : List V} {d : D} {ds : List D} : Rp K cl H v d → RpL K cl H vs ds → RpL K cl H (v :: vs) (d :: ds)
end

section
variable {K : Frag} {cl : ClsT} {H H' H1 H2 H3 : Hp} {v : V} {vs ws : List V} {d : D} {ds es : List D}
theorem RpL.length : ∀ {vs : List V} {ds : List D}, RpL K cl H vs ds → vs.length = ds.length
  | _, _, .nil => rfl
  | _, _, .cons _ t => by simp [RpL.length t]
theorem RpL.get : ∀ {vs : List V} {ds : List D} {i : Nat} {v : V}, RpL K cl H vs ds → vs[i]? = some v → ∃ d, ds[i]? = some d ∧ Rp K cl H v d
  | _, _, _, _, .nil, e => by simp at e
  | _, _, 0, _, .cons r _, e => by simp at e; subst e; exact ⟨_, rfl, r⟩
  | _, _, i + 1, x, .cons _ t, e => by
    obtain ⟨u, h1, h2⟩ := RpL.get (i := i) (v := x) t (by simpa using e)
    exact ⟨u, by simpa using h1, h2⟩
theorem RpL.getD : ∀ {vs : List V} {ds : List D} {i : Nat} {d : D}, RpL K cl H vs ds → ds[i]? = some d → ∃ v, vs[i]? = some v ∧ Rp K cl H v d
  | _, _, _, _, .nil, e => by simp at e
  | _, _, 0, _, .cons r _, e => by simp at e; subst e; exact ⟨_, rfl, r⟩
  | _, _, i + 1, x, .cons _ t, e => by
    obtain ⟨u, h1, h2⟩ := RpL.getD (i := i) (d := x) t (by simpa using e)
    exact ⟨u, by simpa using h1, h2⟩
theorem RpL.append : ∀ {vs ws : List V} {ds es : List D}, RpL K cl H vs ds → RpL K cl H ws es → RpL K cl H (vs ++ ws) (ds ++ es)
  | _, _, _, _, .nil, s => s
  | _, _, _, _, .cons r t, s => .cons r (RpL.append t s)
theorem RpL.one (r : Rp K cl H v d) : RpL K cl H [v] [d] := .cons r .nil
theorem RpL.take : ∀ {vs : List V} {ds : List D} (n : Nat), RpL K cl H vs ds → RpL K cl H (vs.take n) (ds.take n)
  | _, _, 0, _ => .nil
  | _, _, _ + 1, .nil => .nil
  | _, _, n + 1, .cons r t => .cons r (RpL.take n t)
theorem RpL.drop : ∀ {vs : List V} {ds : List D} (n : Nat), RpL K cl H vs ds → RpL K cl H (vs.drop n) (ds.drop n)
  | _, _, 0, r => r
  | _, _, _ + 1, .nil => .nil
  | _, _, n + 1, .cons _ t => RpL.drop n t
theorem RpL.reverse : ∀ {vs : List V} {ds : List D}, RpL K cl H vs ds → RpL K cl H vs.reverse ds.reverse
  | _, _, .nil => .nil
  | _, _, .cons r t => by
    rw [List.reverse_cons, List.reverse_cons]
    exact (RpL.reverse t).append (.one r)
theorem RpL.set : ∀ {vs : List V} {ds : List D} (i : Nat), RpL K cl H vs ds → Rp K cl H v d → RpL K cl H (vs.set i v) (ds.set i d)
  | _, _, _, .nil, _ => .nil
  | _, _, 0, .cons _ t, r => .cons r t
  | _, _, i + 1, .cons q t, r => .cons q (RpL.set i t r)
theorem RpL.eraseIdx : ∀ {vs : List V} {ds : List D} (i : Nat), RpL K cl H vs ds → RpL K cl H (vs.eraseIdx i) (ds.eraseIdx i)
  | _, _, _, .nil => .nil
  | _, _, 0, .cons _ t => t
  | _, _, i + 1, .cons q t => .cons q (RpL.eraseIdx i t)
def LkD : HO → Prop
  | .dK _ => True
  | .dT _ => True
  | _ => False
def Le (H H' : Hp) : Prop := ∀ a u, H a = some u → H' a = some u ∨ (LkD u ∧ ∃ o, H' a = some (.frz o u))
theorem Le.refl (H : Hp) : Le H H := fun _ _ e => .inl e
theorem Le.of_same (h : Same H H') : Le H H' := fun a u e => .inl (h a u e)
theorem Le.trans (a : Le H1 H2) (b : Le H2 H3) : Le H1 H3 := fun c u e => by
  rcases a c u e with q | ⟨k, o, q⟩
  · exact b c u q
  · rcases b c _ q with z | ⟨k', _⟩
    · exact .inr ⟨k, o, z⟩
    · exact k'.elim
theorem Le.free (h : Le H H') {a : Addr} (e : H' a = none) : H a = none := by
  cases q : H a with
  | none => rfl
  | some u =>
    rcases h a u q with z | ⟨_, o, z⟩
    · rw [e] at z; cases z
    · rw [e] at z; cases z
theorem Le.lst (h : Le H H') {a : Addr} {xs : List V} (e : Rd H a (.lst xs)) : Rd H' a (.lst xs) := by
  rcases e with e | ⟨o, e⟩
  · rcases h a _ e with z | ⟨k, _⟩
    · exact .inl z
    · exact k.elim
  · rcases h a _ e with z | ⟨k, _⟩
    · exact .inr ⟨o, z⟩
    · exact k.elim
theorem Le.tup (h : Le H H') {a : Addr} {xs : List V} (e : H a = some (.tup xs)) : H' a = some (.tup xs) := by
  rcases h a _ e with z | ⟨k, _⟩
  · exact z
  · exact k.elim
theorem Le.dict (h : Le H H') {a : Addr} {u : HO} (hu : LkD u) (e : Rd H a u) : Rd H' a u := by
  rcases e with e | ⟨o, e⟩
  · rcases h a _ e with z | ⟨k, o, z⟩
    · exact .inl z
    · exact .inr ⟨o, z⟩
  · rcases h a _ e with z | ⟨k, _⟩
    · exact .inr ⟨o, z⟩
    · exact k.elim
theorem Le.ins (h : Le H H') {a C dx : Addr} {fs : List (Str × V)} (e : H a = some (.ins C dx fs)) : H' a = some (.ins C dx fs) := by
  rcases h a _ e with z | ⟨k, _⟩
  · exact z
  · exact k.elim
theorem Le.any (h : Le H H') {a : Addr} {u : HO} (hu : ¬ LkD u) (e : H a = some u) : H' a = some u := by
  rcases h a _ e with z | ⟨k, _⟩
  · exact z
  · exact absurd k hu
theorem Le.seq (h : Le H H') {a : Addr} {xs : List V} (e : SqL K H a xs) : SqL K H' a xs := e.elim (fun e => .inl (h.lst e)) .inr
mutual
theorem Rp.mono (k : Le H H') : ∀ {v : V} {d : D}, Rp K cl H v d → Rp K cl H' v d
  | _, _, .non => .non
  | _, _, .bl b => .bl b
  | _, _, .int i => .int i
  | _, _, .str x => .str x
  | _, _, .lst h t => .lst (k.lst h) (RpL.mono k t)
  | _, _, .scr h t => .scr (k.seq h) (RpL.mono k t)
  | _, _, .tup h t => .tup (k.tup h) (RpL.mono k t)
  | _, _, .dk h e t => .dk (k.dict trivial h) e (RpL.mono k t)
  | _, _, .dt h e t => .dt (k.dict trivial h) e (RpL.mono k t)
  | _, _, .ins c h e t => .ins c (k.ins h) e (RpL.mono k t)
  | _, _, .exc c h1 h2 r => .exc c (k.any id h1) (k.any id h2) (Rp.mono k r)
theorem RpL.mono (k : Le H H') : ∀ {vs : List V} {ds : List D}, RpL K cl H vs ds → RpL K cl H' vs ds
  | _, _, .nil => .nil
  | _, _, .cons r t => .cons (Rp.mono k r) (RpL.mono k t)
end
theorem upd_le {H : Hp} {p : Addr} {o : HO} (h : H p = none) : Le H (upd H p o) := fun a u e => .inl (by rw [upd_ne (ne_of_none e h)]; exact e)
theorem upd_le2 {H0 H : Hp} {p : Addr} {o : HO} (k : Le H0 H) (h : H0 p = none) : Le H0 (upd H p o) := fun a u e => by
  rw [upd_ne (ne_of_none e h)]
  exact k a u e
theorem upd_le3 {H0 H : Hp} {p : Addr} {o : HO} (k : Le H0 H) (h : H0 p = none) : Le (upd H0 p o) (upd H p o) := fun a u e => by
  by_cases q : a = p
  · subst q; rw [upd_same] at e ⊢; exact .inl e
  · rw [upd_ne q] at e ⊢; exact k a u e
end

/-! ### slots -/
inductive Cont where
  | lst (ds : List D)
  | dct (t : Bool) (kvs : List (D × D))
  | lk (t : Bool) (kvs : List (D × D))
  | gd (kvs : List (D × D))
def leafD : PySem.Leaf → D
  | .none => .none
  | .num i => .int i
  | .text x => .str x
def gdO (P : PySem.Program) (w : PySem.World) (a : Addr) (l : List (PySem.Leaf × V)) : HO := .ext fun h => ∃ us : List (PySem.Leaf × Value), h.DictOf (PySem.leafKind P w) a us ∧ Paired (fun (p : PySem.Leaf × V) (q : PySem.Leaf × Value) => p.1 = q.1 ∧ RelV p.2 q.2) l us
def Cont.view : Cont → D
  | .lst ds => .list ds
  | .dct t kvs => dctD t kvs
  | .lk t kvs => dctD t kvs
  | .gd _ => .none
inductive Fl where
  | no
  | fz (d : D)
  | ow (c : Cont)
def Fl.view : Fl → D
  | .no => .none
  | .fz d => d
  | .ow c => c.view
inductive Slot where
  | no
  | fz (d : D)
  | ow (c : Cont)
  | oi (c : Str) (fs : List (Str × Fl))
def Slot.view : Slot → D
  | .no => .none
  | .fz d => d
  | .ow c => c.view
  | .oi c fs => insD c (fs.map fun e => (e.1, e.2.view))
def Slot.there : Slot → Bool
  | .no => false
  | _ => true
abbrev DEnv := List Slot

section
variable (K : Frag) (cl : ClsT) (H0 H : Hp)
def DctOk (u : HO) (t : Bool) (kvs : List (D × D)) : Prop := match t with
  | false => ∃ l : List (Key × V), u = .dK l ∧ kvs.map (·.1) = l.map (fun e => keyD e.1) ∧ RpL K cl H0 (l.map (·.2)) (kvs.map (·.2))
  | true => ∃ l : List (List Key × V), u = .dT l ∧ kvs.map (·.1) = l.map (fun e => keysD e.1) ∧ RpL K cl H0 (l.map (·.2)) (kvs.map (·.2))
def ContOk (a : Addr) : Cont → Prop
  | .lst ds => ∃ vs, H a = some (.lst vs) ∧ RpL K cl H0 vs ds
  | .dct t kvs => ∃ u, H a = some u ∧ DctOk K cl H0 u t kvs
  | .lk t kvs => ∃ u o, H a = some (.frz o u) ∧ DctOk K cl H0 u t kvs
  | .gd kvs => ∃ l : List (PySem.Leaf × V), H a = some (gdO cl.P cl.w a l) ∧ l.length ≤ sizeLine ∧ (a == sysModules) = false ∧ kvs.map (·.1) = l.map (fun e => leafD e.1) ∧ RpL K cl H0 (l.map (·.2)) (kvs.map (·.2))
def FlOk (v : V) : Fl → List Addr → Prop
  | .no, fp => fp = []
  | .fz d, fp => Rp K cl H0 v d ∧ fp = []
  | .ow c, fp => ∃ a, v = .ref a ∧ ContOk K cl H0 H a c ∧ fp = [a]
inductive FlsOk : List (Str × V) → List (Str × Fl) → List Addr → Prop
  | nil : FlsOk [] [] []
  | cons {f : Str} {v : V} {l : Fl} {fvs : List (Str × V)} {fs : List (Str × Fl)} {f1 f2 : List Addr} : FlOk K cl H0 H v l f1 → FlsOk fvs fs f2 → FlsOk ((f, v) :: fvs) ((f, l) :: fs) (f1 ++ f2)
def InsOk (a : Addr) (c : Str) (fs : List (Str × Fl)) (fp : List Addr) : Prop :=
  ∃ C dx fvs f, cl c = some C ∧ H a = some (.ins C dx fvs) ∧ H dx = some (.own a) ∧ FlsOk K cl H0 H fvs fs f ∧ fp = a :: dx :: f
def SlotOk : Option V → Slot → List Addr → Prop
  | _, .no, fp => fp = []
  | some v, .fz d, fp => Rp K cl H0 v d ∧ fp = []
  | some v, .ow c, fp => ∃ a, v = .ref a ∧ ContOk K cl H0 H a c ∧ fp = [a]
  | some v, .oi c fs, fp => ∃ a, v = .ref a ∧ InsOk K cl H0 H a c fs fp
  | none, .fz _, _ => False
  | none, .ow _, _ => False
  | none, .oi _ _, _ => False
inductive SlotsOk : List (Option V) → List Slot → List Addr → Prop
  | nil : SlotsOk [] [] []
  | cons {ov : Option V} {s : Slot} {f1 f2 : List Addr} {ovs : List (Option V)} {ss : List Slot} : SlotOk K cl H0 H ov s f1 → SlotsOk ovs ss f2 → SlotsOk (ov :: ovs) (s :: ss) (f1 ++ f2)
end
section
variable {K : Frag} {cl : ClsT} {H0 H H0' H' : Hp} {ov : Option V} {s : Slot} {v : V} {fp f1 f2 : List Addr} {ovs ovt : List (Option V)} {ss st : List Slot}
theorem DctOk.mono {u : HO} {t : Bool} {kvs : List (D × D)} (k : Le H0 H0') (h : DctOk K cl H0 u t kvs) : DctOk K cl H0' u t kvs := by
  cases t with
  | false => obtain ⟨l, h1, h2, h3⟩ := h; exact ⟨l, h1, h2, h3.mono k⟩
  | true => obtain ⟨l, h1, h2, h3⟩ := h; exact ⟨l, h1, h2, h3.mono k⟩
theorem DctOk.lkD {u : HO} {t : Bool} {kvs : List (D × D)} (h : DctOk K cl H0 u t kvs) : LkD u := by
  cases t with
  | false => obtain ⟨l, rfl, _⟩ := h; trivial
  | true => obtain ⟨l, rfl, _⟩ := h; trivial
theorem DctOk.rp {u : HO} {t : Bool} {kvs : List (D × D)} {a : Addr} (h : DctOk K cl H u t kvs) (e : Rd H a u) : Rp K cl H (.ref a) (dctD t kvs) := by
  cases t with
  | false => obtain ⟨l, rfl, h2, h3⟩ := h; exact .dk e h2 h3
  | true => obtain ⟨l, rfl, h2, h3⟩ := h; exact .dt e h2 h3
theorem ContOk.frame {a : Addr} {c : Cont} (k : Le H0 H0') (e : H' a = H a) (h : ContOk K cl H0 H a c) : ContOk K cl H0' H' a c := by
  cases c with
  | lst ds => obtain ⟨vs, h1, h2⟩ := h; exact ⟨vs, e.trans h1, h2.mono k⟩
  | dct t kvs => obtain ⟨u, h1, h2⟩ := h; exact ⟨u, e.trans h1, h2.mono k⟩
  | lk t kvs => obtain ⟨u, o, h1, h2⟩ := h; exact ⟨u, o, e.trans h1, h2.mono k⟩
  | gd kvs => obtain ⟨l, h1, h0, h2, h3, h4⟩ := h; exact ⟨l, e.trans h1, h0, h2, h3, h4.mono k⟩
theorem FlOk.frame {l : Fl} (k : Le H0 H0') (e : ∀ a ∈ fp, H' a = H a) (h : FlOk K cl H0 H v l fp) : FlOk K cl H0' H' v l fp := by
  cases l with
  | no => exact h
  | fz d => exact ⟨h.1.mono k, h.2⟩
  | ow c =>
    obtain ⟨a, h1, h2, h3⟩ := h
    exact ⟨a, h1, h2.frame k (e a (by rw [h3]; simp)), h3⟩
theorem FlsOk.frame (k : Le H0 H0') : ∀ {fvs : List (Str × V)} {fs : List (Str × Fl)} {fp : List Addr}, (∀ a ∈ fp, H' a = H a) → FlsOk K cl H0 H fvs fs fp → FlsOk K cl H0' H' fvs fs fp
  | _, _, _, _, .nil => .nil
  | _, _, _, e, .cons h t => .cons (h.frame k fun a ha => e a (List.mem_append_left _ ha)) (FlsOk.frame k (fun a ha => e a (List.mem_append_right _ ha)) t)
theorem InsOk.frame {a : Addr} {c : Str} {fs : List (Str × Fl)} (k : Le H0 H0') (e : ∀ a ∈ fp, H' a = H a) (h : InsOk K cl H0 H a c fs fp) : InsOk K cl H0' H' a c fs fp := by
  obtain ⟨C, dx, fvs, f, h1, h2, h3, h4, rfl⟩ := h
  exact ⟨C, dx, fvs, f, h1, (e a (by simp)).trans h2, (e dx (by simp)).trans h3, h4.frame k fun b hb => e b (by simp [hb]), rfl⟩
theorem SlotOk.frame (k : Le H0 H0') (e : ∀ a ∈ fp, H' a = H a) (h : SlotOk K cl H0 H ov s fp) : SlotOk K cl H0' H' ov s fp := by
  cases s with
  | no => exact h
  | fz d =>
    cases ov with
    | none => exact h.elim
    | some v => exact ⟨h.1.mono k, h.2⟩
  | ow c =>
    cases ov with
    | none => exact h.elim
    | some v =>
      obtain ⟨a, h1, h2, h3⟩ := h
      exact ⟨a, h1, h2.frame k (e a (by rw [h3]; simp)), h3⟩
  | oi c fs =>
    cases ov with
    | none => exact h.elim
    | some v =>
      obtain ⟨a, h1, h2⟩ := h
      exact ⟨a, h1, h2.frame k e⟩
theorem SlotsOk.frame (k : Le H0 H0') : ∀ {ovs : List (Option V)} {ss : List Slot} {fp : List Addr}, (∀ a ∈ fp, H' a = H a) → SlotsOk K cl H0 H ovs ss fp → SlotsOk K cl H0' H' ovs ss fp
  | _, _, _, _, .nil => .nil
  | _, _, _, e, .cons h t => .cons (h.frame k fun a ha => e a (List.mem_append_left _ ha)) (SlotsOk.frame k (fun a ha => e a (List.mem_append_right _ ha)) t)
theorem SlotsOk.length : ∀ {ovs : List (Option V)} {ss : List Slot} {fp : List Addr}, SlotsOk K cl H0 H ovs ss fp → ovs.length = ss.length
  | _, _, _, .nil => rfl
  | _, _, _, .cons _ t => by simp [SlotsOk.length t]
theorem SlotsOk.append : ∀ {ovs ovt : List (Option V)} {ss st : List Slot} {f1 f2 : List Addr}, SlotsOk K cl H0 H ovs ss f1 → SlotsOk K cl H0 H ovt st f2 → SlotsOk K cl H0 H (ovs ++ ovt) (ss ++ st) (f1 ++ f2)
  | _, _, _, _, _, _, .nil, t => t
  | _, _, _, _, _, _, .cons h r, t => by
    rw [List.append_assoc]
    exact .cons h (SlotsOk.append r t)
theorem SlotsOk.split : ∀ {ovs ovt : List (Option V)} {ss st : List Slot} {fp : List Addr}, ovs.length = ss.length → SlotsOk K cl H0 H (ovs ++ ovt) (ss ++ st) fp → ∃ f1 f2, fp = f1 ++ f2 ∧ SlotsOk K cl H0 H ovs ss f1 ∧ SlotsOk K cl H0 H ovt st f2
  | [], _, [], _, fp, _, h => ⟨[], fp, rfl, .nil, h⟩
  | [], _, _ :: _, _, _, e, _ => by simp at e
  | _ :: _, _, [], _, _, e, _ => by simp at e
  | _ :: ovs, ovt, _ :: ss, st, _, e, h => by
    cases h with
    | cons h t =>
      obtain ⟨f1, f2, e1, h1, h2⟩ := SlotsOk.split (by simpa using e) t
      exact ⟨_ ++ f1, f2, by rw [e1, List.append_assoc], .cons h h1, h2⟩
theorem SlotsOk.at : ∀ {ovs : List (Option V)} {ss : List Slot} {fp : List Addr} {i : Nat} {s : Slot}, SlotsOk K cl H0 H ovs ss fp → ss[i]? = some s →
    ∃ ov f1 f2 f3, ovs[i]? = some ov ∧ fp = f1 ++ (f2 ++ f3) ∧ SlotOk K cl H0 H ov s f2 ∧
      ∀ {H0' H' : Hp} {ov' : Option V} {s' : Slot} {f2' : List Addr}, Le H0 H0' → (∀ a, a ∈ f1 ∨ a ∈ f3 → H' a = H a) → SlotOk K cl H0' H' ov' s' f2' → SlotsOk K cl H0' H' (ovs.set i ov') (ss.set i s') (f1 ++ (f2' ++ f3))
  | _, _, _, _, _, .nil, e => by simp at e
  | _, _, _, 0, s, .cons (ov := ov) (f1 := f1) (f2 := f2) h t, e => by
    simp at e
    subst e
    refine ⟨ov, [], f1, f2, rfl, rfl, h, fun {H0' H' ov' s' f2'} k e h' => ?_⟩
    show SlotsOk K cl H0' H' _ _ (f2' ++ f2)
    exact SlotsOk.cons h' (t.frame k fun a ha => e a (.inr ha))
  | _, _, _, i + 1, s, .cons (ov := ov0) (s := s0) (f1 := g1) (f2 := g2) h t, e => by
    obtain ⟨ov, f1, f2, f3, e1, e2, h1, k1⟩ := SlotsOk.at (i := i) (s := s) t (by simpa using e)
    refine ⟨ov, g1 ++ f1, f2, f3, by simpa using e1, by rw [e2]; simp, h1, fun {H0' H' ov' s' f2'} k e h' => ?_⟩
    have q := SlotsOk.cons (h.frame (H' := H') k fun a ha => e a (.inl (List.mem_append_left _ ha))) (k1 k (fun a ha => e a (ha.imp (fun z => List.mem_append_right _ z) id)) h')
    simpa using q
end

/-! ### the world -/
structure Gm where
  H0 : Hp
  H : Hp
  fp : List Addr
  vs : List V
def NoTup (o : HO) : Prop := (∀ xs, o ≠ .tup xs) ∧ ∀ ps, o ≠ .tbl ps
def TabF (H0 H : Hp) (P : Addr) (q : Str) : Prop := ∃ ps : Array Value, H P = some (.tbl ps) ∧ TriplesOk ps.toList ∧ ∀ (pos : Pos) (cv : Value), codeAmong pos ps.toList = some cv → ∃ c, cv = .ref c ∧ H0 c = some (LamX.CodeO c q)
theorem TabF.mono {H0 H H0' H' : Hp} {P : Addr} {q : Str} (h0 : Same H0 H0') (h : ∀ ps, H P = some (.tbl ps) → H' P = some (.tbl ps)) (t : TabF H0 H P q) : TabF H0' H' P q := by
  obtain ⟨ps, h1, h2, h3⟩ := t
  refine ⟨ps, h ps h1, h2, fun pos cv hc => ?_⟩
  obtain ⟨c, e1, e2⟩ := h3 pos cv hc
  exact ⟨c, e1, h0 c _ e2⟩
structure Fr (H0 H : Hp) (fp : List Addr) (H0' H' : Hp) (fp' : List Addr) : Prop where
  same : Same H0 H0'
  own : ∀ a o, H a = some o → NoTup o → H0 a = none → a ∉ fp → H' a = some o ∧ H0' a = none
  fps : ∀ a ∈ fp', a ∈ fp ∨ H a = none
  stay : ∀ a, H a ≠ none → H' a ≠ none
  tups : ∀ a xs, H a = some (.tup xs) → H' a = some (.tup xs)
  frzs : ∀ a o u, H a = some (.frz o u) → H' a = some (.frz o u)
  inss : ∀ a C dx fs, fs ≠ [] → H a = some (.ins C dx fs) → H' a = some (.ins C dx fs)
  tabs : ∀ P q, TabF H0 H P q → TabF H0' H' P q
theorem Fr.refl {H0 H : Hp} {fp : List Addr} : Fr H0 H fp H0 H fp := ⟨Same.refl _, fun _ _ a _ b _ => ⟨a, b⟩, fun _ h => .inl h, fun _ h => h, fun _ _ h => h, fun _ _ _ h => h, fun _ _ _ _ _ h => h, fun _ _ h => h⟩
theorem Fr.trans {H0 H H0' H' H0'' H'' : Hp} {fp fp' fp'' : List Addr} (a : Fr H0 H fp H0' H' fp') (b : Fr H0' H' fp' H0'' H'' fp'') : Fr H0 H fp H0'' H'' fp'' := by
  obtain ⟨a1, a2, a3, a4, a5, a6, a7, a8⟩ := a
  obtain ⟨b1, b2, b3, b4, b5, b6, b7, b8⟩ := b
  refine ⟨a1.trans b1, fun x o e nt n hx => ?_, fun x hx => ?_, fun x hx => b4 x (a4 x hx), fun x xs e => b5 x xs (a5 x xs e), fun x o u e => b6 x o u (a6 x o u e), fun x C dx fs n e => b7 x C dx fs n (a7 x C dx fs n e), fun P q t => b8 P q (a8 P q t)⟩
  · obtain ⟨e', n'⟩ := a2 x o e nt n hx
    refine b2 x o e' nt n' fun q => ?_
    rcases a3 x q with z | z
    · exact hx z
    · rw [e] at z; cases z
  · rcases b3 x hx with z | z
    · exact a3 x z
    · refine .inr ?_
      cases q : H x with
      | none => rfl
      | some o => exact absurd z (a4 x (by rw [q]; simp))
theorem Fr.less {H0 H H0' H' : Hp} {fp fp' fp'' : List Addr} (a : Fr H0 H fp H0' H' fp') (h : ∀ x ∈ fp'', x ∈ fp') : Fr H0 H fp H0' H' fp'' := ⟨a.1, a.2, fun x hx => a.3 x (h x hx), a.4, a.5, a.6, a.7, a.8⟩
end Dl
end
section
namespace Dl
open PySem L2

structure Wc where
  K : Frag
  cl : ClsT
  kp : List Nat
  G : Gm

structure World (W : Wc) (ts : List V) (tss : List Slot) (σ : St) (H : Hp) (ρ : DEnv) : Prop where
  len : ts.length = tss.length
  ex : ∃ H0 fp, Le H0 H ∧ SlotsOk W.K W.cl H0 H (ts.map some ++ σ) (tss ++ ρ) fp ∧ fp.Nodup ∧ (∀ a ∈ fp, H0 a = none) ∧ Fr W.G.H0 W.G.H W.G.fp H0 H fp
  keep : ∀ i ∈ W.kp, σ[i]? = (W.G.vs[i]?).map some
  tabs : ∀ p ∈ W.cl.T, TabF W.G.H0 W.G.H p.1 p.2

section
variable {W : Wc} {ts vs vs' : List V} {tss ss ss' : List Slot} {σ : St} {H H' H0 H0' : Hp} {ρ : DEnv} {v : V} {s : Slot} {fp : List Addr}
theorem ContOk.has {K : Frag} {cl : ClsT} {a : Addr} {c : Cont} (h2 : ContOk K cl H0 H a c) : H a ≠ none := by
  cases c with
  | lst ds => obtain ⟨vs, e, _⟩ := h2; rw [e]; simp
  | dct t kvs => obtain ⟨u, e, _⟩ := h2; rw [e]; simp
  | lk t kvs => obtain ⟨u, o, e, _⟩ := h2; rw [e]; simp
  | gd kvs => obtain ⟨l, e, _⟩ := h2; rw [e]; simp
theorem ContOk.notup {K : Frag} {cl : ClsT} {a : Addr} {c : Cont} (h2 : ContOk K cl H0 H a c) : ∀ o, H a = some o → NoTup o := fun o ho => by
  constructor <;> intro xs e <;> subst e <;> cases c with
  | lst ds => obtain ⟨vs, e, _⟩ := h2; rw [e] at ho; cases ho
  | dct t kvs => obtain ⟨u, e, hd⟩ := h2; rw [e] at ho; cases ho; exact hd.lkD.elim
  | lk t kvs => obtain ⟨u, o, e, _⟩ := h2; rw [e] at ho; cases ho
  | gd kvs => obtain ⟨l, e, _⟩ := h2; rw [e] at ho; cases ho
theorem FlsOk.all {K : Frag} {cl : ClsT} : ∀ {fvs : List (Str × V)} {fs : List (Str × Fl)} {fp : List Addr}, FlsOk K cl H0 H fvs fs fp → ∀ a ∈ fp, H a ≠ none ∧ ∀ o, H a = some o → NoTup o
  | _, _, _, .nil, _, ha => by cases ha
  | _, _, _, .cons (l := l) h t, a, ha => by
    rcases List.mem_append.mp ha with ha | ha
    · cases l with
      | no => rw [(show _ = [] from h)] at ha; cases ha
      | fz d => rw [h.2] at ha; cases ha
      | ow c =>
        obtain ⟨b, _, h2, h3⟩ := h
        rw [h3] at ha
        obtain rfl : a = b := by simpa using ha
        exact ⟨h2.has, h2.notup⟩
    · exact FlsOk.all t a ha
theorem InsOk.all {K : Frag} {cl : ClsT} {a : Addr} {c : Str} {fs : List (Str × Fl)} (h : InsOk K cl H0 H a c fs fp) : ∀ b ∈ fp, H b ≠ none ∧ ∀ o, H b = some o → NoTup o := fun b hb => by
  obtain ⟨C, dx, fvs, f, h1, h2, h3, h4, rfl⟩ := h
  rcases List.mem_cons.mp hb with rfl | hb
  · exact ⟨by rw [h2]; simp, fun o ho => ⟨fun xs e => (by subst e; rw [h2] at ho; cases ho), fun xs e => (by subst e; rw [h2] at ho; cases ho)⟩⟩
  · rcases List.mem_cons.mp hb with rfl | hb
    · exact ⟨by rw [h3]; simp, fun o ho => ⟨fun xs e => (by subst e; rw [h3] at ho; cases ho), fun xs e => (by subst e; rw [h3] at ho; cases ho)⟩⟩
    · exact h4.all b hb
theorem SlotOk.has {K : Frag} {cl : ClsT} {ov : Option V} (h : SlotOk K cl H0 H ov s fp) : ∀ a ∈ fp, H a ≠ none := by
  cases s with
  | no => intro a ha; rw [show fp = [] from h] at ha; cases ha
  | fz d =>
    cases ov with
    | none => exact h.elim
    | some v => intro a ha; rw [h.2] at ha; cases ha
  | ow c =>
    cases ov with
    | none => exact h.elim
    | some v =>
      obtain ⟨a, _, h2, h3⟩ := h
      intro b hb
      rw [h3] at hb
      obtain rfl : b = a := by simpa using hb
      exact h2.has
  | oi c fs =>
    cases ov with
    | none => exact h.elim
    | some v => obtain ⟨a, _, h2⟩ := h; exact fun b hb => (h2.all b hb).1
theorem SlotsOk.has {K : Frag} {cl : ClsT} : ∀ {ovs : List (Option V)} {ss : List Slot} {fp : List Addr}, SlotsOk K cl H0 H ovs ss fp → ∀ a ∈ fp, H a ≠ none
  | _, _, _, .nil, _, ha => by cases ha
  | _, _, _, .cons h t, a, ha => (List.mem_append.mp ha).elim (h.has a) (SlotsOk.has t a)

theorem SlotOk.notup {K : Frag} {cl : ClsT} {ov : Option V} (h : SlotOk K cl H0 H ov s fp) : ∀ a ∈ fp, ∀ o, H a = some o → NoTup o := by
  cases s with
  | no => intro a ha; rw [show fp = [] from h] at ha; cases ha
  | fz d =>
    cases ov with
    | none => exact h.elim
    | some v => intro a ha; rw [h.2] at ha; cases ha
  | ow c =>
    cases ov with
    | none => exact h.elim
    | some v =>
      obtain ⟨a, _, h2, h3⟩ := h
      intro b hb o ho
      rw [h3] at hb
      obtain rfl : b = a := by simpa using hb
      exact h2.notup o ho
  | oi c fs =>
    cases ov with
    | none => exact h.elim
    | some v => obtain ⟨a, _, h2⟩ := h; exact fun b hb => (h2.all b hb).2
theorem SlotsOk.notup {K : Frag} {cl : ClsT} : ∀ {ovs : List (Option V)} {ss : List Slot} {fp : List Addr}, SlotsOk K cl H0 H ovs ss fp → ∀ a ∈ fp, ∀ o, H a = some o → NoTup o
  | _, _, _, .nil, _, ha => by cases ha
  | _, _, _, .cons h t, a, ha => (List.mem_append.mp ha).elim (h.notup a) (SlotsOk.notup t a)
theorem World.fstepT (w : World W (vs ++ ts) (ss ++ tss) σ H ρ) (hl : vs.length = ss.length) :
    ∃ H0 fpA, Le H0 H ∧ SlotsOk W.K W.cl H0 H (vs.map some) ss fpA ∧ fpA.Nodup ∧ (∀ a ∈ fpA, H0 a = none) ∧ (∀ (i : Nat) (s : Slot) (v : V), ρ[i]? = some s → σ[i]? = some (some v) → ∃ f, SlotOk W.K W.cl H0 H (some v) s f) ∧ (∀ p ∈ W.cl.T, TabF H0 H p.1 p.2) ∧
      ∀ {vs' : List V} {ss' : List Slot} {H' H0' : Hp} {fp' : List Addr}, vs'.length = ss'.length → Le H0' H' → SlotsOk W.K W.cl H0' H' (vs'.map some) ss' fp' → fp'.Nodup → (∀ a ∈ fp', H0' a = none) →
        Fr H0 H fpA H0' H' fp' → World W (vs' ++ ts) (ss' ++ tss) σ H' ρ := by
  obtain ⟨H0, fp, hle, hs, nd, hn, fr⟩ := w.ex
  have hlen := w.len
  rw [List.map_append, List.append_assoc, List.append_assoc] at hs
  obtain ⟨fA, fB, rfl, hA, hB⟩ := SlotsOk.split (by simpa using hl) hs
  rw [List.nodup_append] at nd
  obtain ⟨ndA, ndB, dj⟩ := nd
  have hen : ∀ (i : Nat) (s : Slot) (v : V), ρ[i]? = some s → σ[i]? = some (some v) → ∃ f, SlotOk W.K W.cl H0 H (some v) s f := fun i s v e1 e2 => by
    obtain ⟨g1, g2, _, hC, hD⟩ := SlotsOk.split (by have := hlen; simp only [List.length_append, List.length_map] at this ⊢; omega) hB
    obtain ⟨ov, f1, f2, f3, e3, _, h1, _⟩ := hD.at e1
    rw [e2] at e3
    cases e3
    exact ⟨f2, h1⟩
  refine ⟨H0, fA, hle, hA, ndA, fun a ha => hn a (List.mem_append_left _ ha), hen, fun p hp => fr.tabs _ _ (w.tabs p hp), fun {vs' ss' H' H0' fp'} hl' hle' hs' nd' hn' fr' => ?_⟩
  obtain ⟨f1, f2, f3, f4, f5, f6, f7, f8⟩ := id fr'
  have kB : ∀ a ∈ fB, H' a = H a ∧ H0' a = none := fun a ha => by
    cases q : H a with
    | none => exact absurd q (hB.has a ha)
    | some o => exact f2 a o q (hB.notup a ha o q) (hn a (List.mem_append_right _ ha)) fun z => dj a z a ha rfl
  refine ⟨by simp only [List.length_append] at hlen ⊢; omega, ⟨H0', fp' ++ fB, hle', ?_, ?_, ?_, ?_⟩, w.keep, w.tabs⟩
  · rw [List.map_append, List.append_assoc, List.append_assoc]
    exact hs'.append (hB.frame (Le.of_same f1) fun a ha => (kB a ha).1)
  · rw [List.nodup_append]
    refine ⟨nd', ndB, fun a ha b hb e => ?_⟩
    subst e
    rcases f3 a ha with z | z
    · exact dj a z a hb rfl
    · exact hB.has a hb z
  · intro a ha
    exact (List.mem_append.mp ha).elim (hn' a) fun z => (kB a z).2
  · refine ⟨fr.1.trans f1, fun a o e nt n hx => ?_, fun a ha => ?_, fun a ha => f4 a (fr.stay a ha), fun a xs e => f5 a xs (fr.tups a xs e), fun a o u e => f6 a o u (fr.frzs a o u e), fun a C dx fs n e => f7 a C dx fs n (fr.inss a C dx fs n e), fun P q t => f8 P q (fr.tabs P q t)⟩
    · obtain ⟨e1, n1⟩ := fr.own a o e nt n hx
      refine f2 a o e1 nt n1 fun z => ?_
      rcases fr.fps a (List.mem_append_left _ z) with q | q
      · exact hx q
      · rw [e] at q; cases q
    · rcases List.mem_append.mp ha with z | z
      · rcases f3 a z with q | q
        · exact fr.fps a (List.mem_append_left _ q)
        · refine .inr ?_
          cases q2 : W.G.H a with
          | none => rfl
          | some o => exact absurd q (fr.stay a (by rw [q2]; simp))
      · exact fr.fps a (List.mem_append_right _ z)
theorem World.fstep (w : World W (vs ++ ts) (ss ++ tss) σ H ρ) (hl : vs.length = ss.length) :
    ∃ H0 fpA, Le H0 H ∧ SlotsOk W.K W.cl H0 H (vs.map some) ss fpA ∧ fpA.Nodup ∧ (∀ a ∈ fpA, H0 a = none) ∧ (∀ (i : Nat) (s : Slot) (v : V), ρ[i]? = some s → σ[i]? = some (some v) → ∃ f, SlotOk W.K W.cl H0 H (some v) s f) ∧
      ∀ {vs' : List V} {ss' : List Slot} {H' H0' : Hp} {fp' : List Addr}, vs'.length = ss'.length → Le H0' H' → SlotsOk W.K W.cl H0' H' (vs'.map some) ss' fp' → fp'.Nodup → (∀ a ∈ fp', H0' a = none) →
        Fr H0 H fpA H0' H' fp' → World W (vs' ++ ts) (ss' ++ tss) σ H' ρ := by
  obtain ⟨H0, fA, a, b, c, d, e, _, k⟩ := w.fstepT hl
  exact ⟨H0, fA, a, b, c, d, e, k⟩
theorem World.drop (w : World W (vs ++ ts) (ss ++ tss) σ H ρ) (hl : vs.length = ss.length) : World W ts tss σ H ρ := by
  obtain ⟨H0, fA, hle, hA, nd, hn, _, k⟩ := w.fstep hl
  exact k (vs' := []) (ss' := []) rfl hle .nil List.nodup_nil (fun a ha => nomatch ha) ⟨Same.refl _, fun a o e _ n _ => ⟨e, n⟩, fun a ha => (nomatch ha), fun a h => h, fun a xs h => h, fun a o u h => h, fun a C dx fs n h => h, fun P q t => t.mono (Same.refl _) fun _ z => z⟩
theorem World.pop (w : World W (v :: ts) (s :: tss) σ H ρ) : World W ts tss σ H ρ := World.drop (vs := [v]) (ss := [s]) w rfl
theorem SlotsOk.move {K : Frag} {cl : ClsT} {ov : Option V} {ovs ovt : List (Option V)} {st : List Slot} (hl : ovs.length = ss.length) (h : SlotsOk K cl H0 H (ovs ++ ov :: ovt) (ss ++ s :: st) fp) :
    ∃ fp', fp'.Perm fp ∧ SlotsOk K cl H0 H (ov :: (ovs ++ ovt)) (s :: (ss ++ st)) fp' := by
  obtain ⟨f1, f2, rfl, h1, h2⟩ := SlotsOk.split hl h
  cases h2 with
  | cons h2 h3 =>
    rename_i g1 g2
    refine ⟨g1 ++ (f1 ++ g2), ?_, .cons h2 (h1.append h3)⟩
    rw [← List.append_assoc, ← List.append_assoc]
    exact List.Perm.append_right _ List.perm_append_comm
theorem SlotsOk.back {K : Frag} {cl : ClsT} {ov : Option V} {ovs ovt : List (Option V)} {st : List Slot} (hl : ovs.length = ss.length) (h : SlotsOk K cl H0 H (ov :: (ovs ++ ovt)) (s :: (ss ++ st)) fp) :
    ∃ fp', fp'.Perm fp ∧ SlotsOk K cl H0 H (ovs ++ ov :: ovt) (ss ++ s :: st) fp' := by
  cases h with
  | cons h2 h3 =>
    rename_i g1 g2
    obtain ⟨f1, f2, rfl, h4, h5⟩ := SlotsOk.split hl h3
    refine ⟨f1 ++ (g1 ++ f2), ?_, h4.append (.cons h2 h5)⟩
    rw [← List.append_assoc, ← List.append_assoc]
    exact List.Perm.append_right _ List.perm_append_comm
theorem World.of_perm {ts' : List V} {tss' : List Slot} {σ' : St} {ρ' : DEnv} (w : World W ts tss σ H ρ) (hl : ts'.length = tss'.length) (hk : ∀ i ∈ W.kp, σ'[i]? = (W.G.vs[i]?).map some)
    (h : ∀ {H0 : Hp} {fp : List Addr}, SlotsOk W.K W.cl H0 H (ts.map some ++ σ) (tss ++ ρ) fp → ∃ fp', fp'.Perm fp ∧ SlotsOk W.K W.cl H0 H (ts'.map some ++ σ') (tss' ++ ρ') fp') : World W ts' tss' σ' H ρ' := by
  obtain ⟨H0, fp, hle, hs, nd, hn, fr⟩ := w.ex
  obtain ⟨fp', p, hs'⟩ := h hs
  exact ⟨hl, ⟨H0, fp', hle, hs', p.nodup_iff.mpr nd, fun a ha => hn a (p.mem_iff.mp ha), fr.less fun a ha => p.mem_iff.mp ha⟩, hk, w.tabs⟩
theorem World.move (w : World W (vs ++ v :: ts) (ss ++ s :: tss) σ H ρ) (hl : vs.length = ss.length) : World W (v :: (vs ++ ts)) (s :: (ss ++ tss)) σ H ρ := by
  refine w.of_perm (by have := w.len; simp only [List.length_append, List.length_cons] at this ⊢; omega) w.keep fun {H0 fp} h => ?_
  have h' : SlotsOk W.K W.cl H0 H (vs.map some ++ some v :: (ts.map some ++ σ)) (ss ++ s :: (tss ++ ρ)) fp := by simpa using h
  obtain ⟨fp', p, q⟩ := h'.move (by simpa using hl)
  exact ⟨fp', p, by simpa using q⟩
theorem World.back (w : World W (v :: (vs ++ ts)) (s :: (ss ++ tss)) σ H ρ) (hl : vs.length = ss.length) : World W (vs ++ v :: ts) (ss ++ s :: tss) σ H ρ := by
  refine w.of_perm (by have := w.len; simp only [List.length_append, List.length_cons] at this ⊢; omega) w.keep fun {H0 fp} h => ?_
  have h' : SlotsOk W.K W.cl H0 H (some v :: (vs.map some ++ (ts.map some ++ σ))) (s :: (ss ++ (tss ++ ρ))) fp := by simpa using h
  obtain ⟨fp', p, q⟩ := h'.back (by simpa using hl)
  exact ⟨fp', p, by simpa using q⟩
theorem World.slen (w : World W ts tss σ H ρ) : σ.length = ρ.length := by
  obtain ⟨H0, fp, hle, hs, _⟩ := w.ex
  have := hs.length
  have := w.len
  simp only [List.length_append, List.length_map] at *
  omega

/-! ### exchanging slots of two places -/
theorem SlotsOk.take {K : Frag} {cl : ClsT} : ∀ {ovs : List (Option V)} {ss : List Slot} {fp : List Addr} {i : Nat} {s : Slot}, SlotsOk K cl H0 H ovs ss fp → ss[i]? = some s →
    ∃ ov f2 fr, ovs[i]? = some ov ∧ fp.Perm (f2 ++ fr) ∧ SlotOk K cl H0 H ov s f2 ∧ ∀ {ov' : Option V} {s' : Slot} {f2' : List Addr}, SlotOk K cl H0 H ov' s' f2' → ∃ fp', fp'.Perm (f2' ++ fr) ∧ SlotsOk K cl H0 H (ovs.set i ov') (ss.set i s') fp' := by
  intro ovs ss fp i s h e
  obtain ⟨ov, f1, f2, f3, e1, e2, h1, k⟩ := h.at e
  have pm : ∀ g : List Addr, (f1 ++ (g ++ f3)).Perm (g ++ (f1 ++ f3)) := fun g => by
    rw [← List.append_assoc, ← List.append_assoc]
    exact List.Perm.append_right _ List.perm_append_comm
  refine ⟨ov, f2, f1 ++ f3, e1, by rw [e2]; exact pm f2, h1, fun {ov' s' f2'} h' => ⟨_, pm f2', k (Le.refl _) (fun _ _ => rfl) h'⟩⟩

theorem World.of_sub {ts' : List V} {tss' : List Slot} {σ' : St} {ρ' : DEnv} (w : World W ts tss σ H ρ) (hl : ts'.length = tss'.length) (hk : ∀ i ∈ W.kp, σ'[i]? = (W.G.vs[i]?).map some)
    (h : ∀ {H0 : Hp} {fp : List Addr}, SlotsOk W.K W.cl H0 H (ts.map some ++ σ) (tss ++ ρ) fp → fp.Nodup → ∃ fp', fp'.Nodup ∧ (∀ a ∈ fp', a ∈ fp) ∧ SlotsOk W.K W.cl H0 H (ts'.map some ++ σ') (tss' ++ ρ') fp') : World W ts' tss' σ' H ρ' := by
  obtain ⟨H0, fp, hle, hs, nd, hn, fr⟩ := w.ex
  obtain ⟨fp', nd', p, hs'⟩ := h hs nd
  exact ⟨hl, ⟨H0, fp', hle, hs', nd', fun a ha => hn a (p a ha), fr.less p⟩, hk, w.tabs⟩
theorem World.xch {i : Nat} {s' : Slot} (w : World W (v :: ts) (s :: tss) σ H ρ) (e1 : σ[i]? = some (some v)) (e2 : ρ[i]? = some s') : World W (v :: ts) (s' :: tss) σ H (ρ.set i s) := by
  have hlen : ts.length = tss.length := by simpa using w.len
  refine w.of_sub w.len w.keep fun {H0 fp} h nd => ?_
  have h' : SlotsOk W.K W.cl H0 H (some v :: (ts.map some ++ σ)) (s :: (tss ++ ρ)) fp := by simpa using h
  cases h' with
  | cons h1 h2 =>
    rename_i g1 g2
    have e2' : (tss ++ ρ)[tss.length + i]? = some s' := by rw [List.getElem?_append_right (by omega)]; simpa using e2
    obtain ⟨ov, f2, fr, e3, pm, h3, k⟩ := h2.take e2'
    have e3' : ov = some v := by
      rw [List.getElem?_append_right (by simp; omega)] at e3
      simp only [List.length_map] at e3
      rw [show tss.length + i - ts.length = i by omega, e1] at e3
      exact (Option.some.inj e3).symm
    subst e3'
    obtain ⟨fp', pm', h4⟩ := k (ov' := some v) h1
    refine ⟨f2 ++ fp', ?_, ?_, ?_⟩
    · have p1 : (g1 ++ g2).Perm (f2 ++ fp') := by
        refine (List.Perm.append_left g1 pm).trans ?_
        refine List.Perm.trans ?_ (List.Perm.append_left f2 pm'.symm)
        rw [← List.append_assoc, ← List.append_assoc]
        exact List.Perm.append_right _ List.perm_append_comm
      exact p1.nodup_iff.mp nd
    · intro a ha
      rcases List.mem_append.mp ha with z | z
      · exact List.mem_append_right _ (pm.mem_iff.mpr (List.mem_append_left _ z))
      · rcases List.mem_append.mp (pm'.mem_iff.mp z) with y | y
        · exact List.mem_append_left _ y
        · exact List.mem_append_right _ (pm.mem_iff.mpr (List.mem_append_right _ y))
    · have e5 : (ts.map some ++ σ).set (tss.length + i) (some v) = ts.map some ++ σ := by
        rw [List.set_append_right _ _ (by simp; omega)]
        congr 1
        simp only [List.length_map]
        rw [show tss.length + i - ts.length = i by omega]
        obtain ⟨hi, e⟩ := List.getElem?_eq_some_iff.mp e1
        rw [← e]
        exact List.set_getElem_self hi
      have e6 : (tss ++ ρ).set (tss.length + i) s = tss ++ ρ.set i s := by
        rw [List.set_append_right _ _ (by omega)]
        congr 2
        omega
      rw [e5, e6] at h4
      have := SlotsOk.cons h3 h4
      simpa using this
theorem World.assign {i : Nat} (w : World W (v :: ts) (s :: tss) σ H ρ) (hi : i < ρ.length) (hk : i ∉ W.kp) : World W ts tss (σ.set i (some v)) H (ρ.set i s) := by
  have hlen : ts.length = tss.length := by simpa using w.len
  refine w.of_sub hlen (fun j hj => ?_) fun {H0 fp} h nd => ?_
  · rw [List.getElem?_set_ne (fun e => hk (by rw [e]; exact hj))]
    exact w.keep j hj
  have h' : SlotsOk W.K W.cl H0 H (some v :: (ts.map some ++ σ)) (s :: (tss ++ ρ)) fp := by simpa using h
  cases h' with
  | cons h1 h2 =>
    rename_i g1 g2
    have e2' : (tss ++ ρ)[tss.length + i]? = some ρ[i] := by rw [List.getElem?_append_right (by omega)]; simp [hi]
    obtain ⟨ov, f2, fr, e3, pm, h3, k⟩ := h2.take e2'
    obtain ⟨fp', pm', h4⟩ := k (ov' := some v) h1
    refine ⟨fp', ?_, ?_, ?_⟩
    · refine pm'.nodup_iff.mpr ?_
      have nd2 : (g1 ++ (f2 ++ fr)).Nodup := (List.Perm.append_left g1 pm).nodup_iff.mp nd
      refine List.Nodup.sublist ?_ nd2
      exact (List.sublist_append_right f2 fr).append_left g1
    · intro a ha
      rcases List.mem_append.mp (pm'.mem_iff.mp ha) with y | y
      · exact List.mem_append_left _ y
      · exact List.mem_append_right _ (pm.mem_iff.mpr (List.mem_append_right _ y))
    · have e5 : (ts.map some ++ σ).set (tss.length + i) (some v) = ts.map some ++ σ.set i (some v) := by
        rw [List.set_append_right _ _ (by simp; omega)]
        congr 2
        simp only [List.length_map]
        omega
      have e6 : (tss ++ ρ).set (tss.length + i) s = tss ++ ρ.set i s := by
        rw [List.set_append_right _ _ (by omega)]
        congr 2
        omega
      rw [e5, e6] at h4
      exact h4
theorem ContOk.freeze {K : Frag} {cl : ClsT} {a : Addr} {c : Cont} (hn : H0 a = none) (hc : ∀ t kvs, c ≠ .lk t kvs) (hg : ∀ kvs, c ≠ .gd kvs) (h : ContOk K cl H0 H a c) : ∃ u, H a = some u ∧ Rp K cl (upd H0 a u) (.ref a) c.view := by
  have m : ∀ u, Le H0 (upd H0 a u) := fun u => upd_le hn
  cases c with
  | lst ds => obtain ⟨vs, h1, h2⟩ := h; exact ⟨_, h1, .lst (.inl upd_same) (h2.mono (m _))⟩
  | dct t kvs => obtain ⟨u, h1, h2⟩ := h; exact ⟨_, h1, (h2.mono (m _)).rp (.inl upd_same)⟩
  | lk t kvs => exact absurd rfl (hc t kvs)
  | gd kvs => exact absurd rfl (hg kvs)
def Cont.sh : Cont → Option D
  | .lk _ _ => none
  | .gd _ => none
  | c => some c.view
def Fl.shared : Fl → Option D
  | .no => none
  | .fz d => some d
  | .ow c => c.sh
def flsD : List (Str × Fl) → Option (List (Str × D))
  | [] => some []
  | (f, l) :: fs => l.shared.bind fun d => (flsD fs).map fun r => (f, d) :: r
def Slot.shared : Slot → Option D
  | .no => none
  | .fz d => some d
  | .ow (.lk _ _) => none
  | .ow (.gd _) => none
  | .ow c => some c.view
  | .oi c fs => (flsD fs).map (insD c)
theorem FlsOk.freeze {K : Frag} {cl : ClsT} (hk : Le H0 H0') : ∀ {fvs : List (Str × V)} {fs : List (Str × Fl)} {fp : List Addr} {ds : List (Str × D)}, FlsOk K cl H0 H fvs fs fp → (∀ a ∈ fp, H0' a = H a) → flsD fs = some ds →
    ds.map (·.1) = fvs.map (·.1) ∧ RpL K cl H0' (fvs.map (·.2)) (ds.map (·.2))
  | _, _, _, ds, .nil, _, h => by cases h; exact ⟨rfl, .nil⟩
  | _, _, _, ds, .cons (l := l) h t, e, hd => by
    simp only [flsD] at hd
    obtain ⟨d, h1, hd⟩ := Option.bind_eq_some_iff.mp hd
    obtain ⟨r, h2, rfl⟩ := Option.map_eq_some_iff.mp hd
    obtain ⟨a1, a2⟩ := FlsOk.freeze hk t (fun a ha => e a (List.mem_append_right _ ha)) h2
    refine ⟨by simp [a1], .cons ?_ a2⟩
    cases l with
    | no => cases h1
    | fz d' => cases h1; exact h.1.mono hk
    | ow c =>
      obtain ⟨b, rfl, hc, ef⟩ := h
      have eb : H0' b = H b := e b (by rw [ef]; simp)
      cases c with
      | lst ds => cases h1; obtain ⟨vs, e1, e2⟩ := hc; exact .lst (.inl (eb.trans e1)) (e2.mono hk)
      | dct t kvs => cases h1; obtain ⟨u, e1, e2⟩ := hc; exact (e2.mono hk).rp (.inl (eb.trans e1))
      | lk t kvs => cases h1
      | gd kvs => cases h1
theorem World.freeze {d : D} (w : World W (v :: ts) (s :: tss) σ H ρ) (hs : s.shared = some d) : World W (v :: ts) (.fz d :: tss) σ H ρ := by
  obtain ⟨H0, fA, hle, hA, nd, hn, _, k⟩ := World.fstep (vs := [v]) (ss := [s]) (ts := ts) (tss := tss) w rfl
  cases hA with
  | cons h1 h2 =>
    cases h2
    rename_i f1
    cases s with
    | no => cases hs
    | fz d' =>
      cases hs
      exact w
    | oi c fs =>
      obtain ⟨a, ea, hi⟩ := h1
      cases ea
      obtain ⟨ds, hds, rfl⟩ := Option.map_eq_some_iff.mp hs
      rw [List.append_nil] at hn nd
      obtain ⟨H0', hH⟩ : ∃ H0' : Hp, H0' = fun b => if b ∈ f1 then H b else H0 b := ⟨_, rfl⟩
      have h0i : ∀ b ∈ f1, H0' b = H b := fun b hb => by rw [hH]; simp [hb]
      have h0o : ∀ b, b ∉ f1 → H0' b = H0 b := fun b hb => by rw [hH]; simp [hb]
      have hsame : Same H0 H0' := fun b o e => by
        rw [h0o b (fun hb => by rw [hn b hb] at e; cases e)]; exact e
      obtain ⟨C, dx, fvs, f, i1, i2, i3, i4, i5⟩ := hi
      have hall := InsOk.all ⟨C, dx, fvs, f, i1, i2, i3, i4, i5⟩
      obtain ⟨j1, j2⟩ := i4.freeze (Le.of_same hsame) (fun b hb => h0i b (by rw [i5]; simp [hb])) hds
      have hr : Rp W.K W.cl H0' (.ref a) (insD c ds) := .ins i1 ((h0i a (by rw [i5]; simp)).trans i2) j1 j2
      refine k (vs' := [.ref a]) (ss' := [.fz (insD c ds)]) (H' := H) (H0' := H0') (fp' := []) rfl ?_ (.cons (f1 := []) (f2 := []) ⟨hr, rfl⟩ .nil) List.nodup_nil (fun a ha => nomatch ha) ⟨hsame, ?_, fun a ha => (nomatch ha), fun a h => h, fun a xs h => h, fun a o u h => h, fun a C dx fs n h => h, fun P q t => t.mono hsame fun _ z => z⟩
      · intro b o e
        by_cases hb : b ∈ f1
        · rw [h0i b hb] at e; exact .inl e
        · rw [h0o b hb] at e; exact hle b o e
      · intro b o e _ n hb
        refine ⟨e, ?_⟩
        rw [h0o b (by simpa using hb)]
        exact n
    | ow c =>
      obtain ⟨a, ea, hc, ef⟩ := h1
      cases ea
      subst ef
      have hna : H0 a = none := hn a (by simp)
      have hcl : ∀ t kvs, c ≠ .lk t kvs := fun t kvs e => by subst e; cases hs
      obtain ⟨u, hu, hr⟩ := hc.freeze hna hcl fun kvs e => by subst e; cases hs
      have ed : d = c.view := by cases c <;> first | exact (Option.some.inj hs).symm | cases hs
      subst ed
      refine k (vs' := [.ref a]) (ss' := [.fz c.view]) (H' := H) (H0' := upd H0 a u) (fp' := []) rfl ?_ (.cons (f1 := []) (f2 := []) ⟨hr, rfl⟩ .nil) List.nodup_nil (fun a ha => nomatch ha) ⟨?_, ?_, fun a ha => (nomatch ha), fun a h => h, fun a xs h => h, fun a o u h => h, fun a C dx fs n h => h, fun P q t => t.mono (fun b o e => by rw [upd_ne (ne_of_none e hna)]; exact e) fun _ z => z⟩
      · intro b o e
        by_cases hb : b = a
        · subst hb; rw [upd_same] at e; cases e; exact .inl hu
        · rw [upd_ne hb] at e; exact hle b o e
      · intro b o e
        rw [upd_ne (ne_of_none e hna)]
        exact e
      · intro b o e _ n hb
        refine ⟨e, ?_⟩
        rw [upd_ne (by simpa using hb)]
        exact n
theorem World.dup {i : Nat} {d : D} (w : World W (v :: ts) (.fz d :: tss) σ H ρ) (e1 : σ[i]? = some (some v)) (hi : i < ρ.length) : World W (v :: ts) (.fz d :: tss) σ H (ρ.set i (.fz d)) := by
  have hlen : ts.length = tss.length := by simpa using w.len
  refine w.of_sub w.len w.keep fun {H0 fp} h nd => ?_
  have h' : SlotsOk W.K W.cl H0 H (some v :: (ts.map some ++ σ)) (.fz d :: (tss ++ ρ)) fp := by simpa using h
  cases h' with
  | cons h1 h2 =>
    rename_i g1 g2
    have e2' : (tss ++ ρ)[tss.length + i]? = some ρ[i] := by rw [List.getElem?_append_right (by omega)]; simp [hi]
    obtain ⟨ov, f2, fr, e3, pm, h3, k⟩ := h2.take e2'
    obtain ⟨h1a, h1b⟩ := id h1
    subst h1b
    obtain ⟨fp', pm', h4⟩ := k (ov' := some v) (s' := .fz d) (f2' := []) ⟨h1a, rfl⟩
    have e5 : (ts.map some ++ σ).set (tss.length + i) (some v) = ts.map some ++ σ := by
      rw [List.set_append_right _ _ (by simp; omega)]
      congr 1
      simp only [List.length_map]
      rw [show tss.length + i - ts.length = i by omega]
      obtain ⟨hi, e⟩ := List.getElem?_eq_some_iff.mp e1
      rw [← e]
      exact List.set_getElem_self hi
    have e6 : (tss ++ ρ).set (tss.length + i) (.fz d) = tss ++ ρ.set i (.fz d) := by
      rw [List.set_append_right _ _ (by omega)]
      congr 2
      omega
    rw [e5, e6] at h4
    refine ⟨[] ++ fp', ?_, ?_, ?_⟩
    · refine pm'.nodup_iff.mpr ?_
      have nd2 : (f2 ++ fr).Nodup := pm.nodup_iff.mp nd
      exact List.Nodup.sublist (List.sublist_append_right f2 fr) nd2
    · intro a ha
      exact List.mem_append_right _ (pm.mem_iff.mpr (List.mem_append_right _ (pm'.mem_iff.mp ha)))
    · have := SlotsOk.cons h1 h4
      simpa using this
theorem World.pushNo (w : World W ts tss σ H ρ) (v : V) : World W (v :: ts) (.no :: tss) σ H ρ := by
  refine w.of_sub (by simpa using w.len) w.keep fun {H0 fp} h nd => ⟨[] ++ fp, nd, fun a h => h, ?_⟩
  have := SlotsOk.cons (K := W.K) (cl := W.cl) (H0 := H0) (H := H) (ov := some v) (s := .no) (f1 := []) rfl h
  simpa using this
end
/-! ### the attributes of an instance -/
def fget {α : Type} (f : Str) : List (Str × α) → Option α
  | [] => none
  | (g, x) :: r => if g = f then some x else fget f r
def putFl (f : Str) (l : Fl) : List (Str × Fl) → List (Str × Fl)
  | [] => [(f, l)]
  | (g, x) :: r => if g = f then (g, l) :: r else (g, x) :: putFl f l r
def Fl.slot : Fl → Slot
  | .no => .no
  | .fz d => .fz d
  | .ow c => .ow c
def Slot.fl : Slot → Fl
  | .fz d => .fz d
  | .ow c => .ow c
  | _ => .no
section
variable {K : Frag} {cl : ClsT}
theorem FlOk.slot {l : Fl} (h : FlOk K cl H0 H v l fp) : SlotOk K cl H0 H (some v) l.slot fp := by cases l <;> exact h
theorem SlotOk.fl (h : SlotOk K cl H0 H (some v) s fp) : ∃ fp', FlOk K cl H0 H v s.fl fp' ∧ (fp' = fp ∨ fp' = []) := by
  cases s with
  | no => exact ⟨[], rfl, .inr rfl⟩
  | fz d => exact ⟨fp, h, .inl rfl⟩
  | ow c => exact ⟨fp, h, .inl rfl⟩
  | oi c fs => exact ⟨[], rfl, .inr rfl⟩
theorem FlsOk.take {f : Str} : ∀ {fvs : List (Str × V)} {fs : List (Str × Fl)} {fp : List Addr} {v : V}, FlsOk K cl H0 H fvs fs fp → fget f fvs = some v →
    ∃ l f2 fr, fget f fs = some l ∧ fp.Perm (f2 ++ fr) ∧ FlOk K cl H0 H v l f2 ∧ ∀ {l' : Fl} {f2' : List Addr}, FlOk K cl H0 H v l' f2' → ∃ fp', fp'.Perm (f2' ++ fr) ∧ FlsOk K cl H0 H fvs (putFl f l' fs) fp'
  | _, _, _, _, .nil, e => by cases e
  | _, _, _, v, .cons (f := g) (v := v0) (l := l) (f1 := f1) (f2 := f2) h t, e => by
    by_cases hg : g = f
    · simp only [fget, if_pos hg, Option.some.injEq] at e
      subst e
      refine ⟨l, f1, f2, by simp only [fget, if_pos hg], List.Perm.refl _, h, fun {l' f2'} h' => ⟨f2' ++ f2, List.Perm.refl _, ?_⟩⟩
      simp only [putFl, if_pos hg]
      exact .cons h' t
    · simp only [fget, if_neg hg] at e
      obtain ⟨l1, g2, gr, e1, pm, h1, k⟩ := FlsOk.take t e
      have pmm : ∀ a b c : List Addr, (a ++ (b ++ c)).Perm (b ++ (a ++ c)) := fun a b c => by
        rw [← List.append_assoc, ← List.append_assoc]
        exact List.Perm.append_right _ List.perm_append_comm
      refine ⟨l1, g2, f1 ++ gr, by simp only [fget, if_neg hg]; exact e1, (List.Perm.append_left f1 pm).trans (pmm _ _ _), h1, fun {l' f2'} h' => ?_⟩
      obtain ⟨fp', pm', h2⟩ := k h'
      refine ⟨f1 ++ fp', (List.Perm.append_left f1 pm').trans (pmm _ _ _), ?_⟩
      simp only [putFl, if_neg hg]
      exact .cons h h2
theorem FlsOk.keys : ∀ {fvs : List (Str × V)} {fs : List (Str × Fl)} {fp : List Addr}, FlsOk K cl H0 H fvs fs fp → fs.map (·.1) = fvs.map (·.1)
  | _, _, _, .nil => rfl
  | _, _, _, .cons _ t => by simp [FlsOk.keys t]
theorem fget_none {α β : Type} {f : Str} : ∀ {fs : List (Str × α)} {gs : List (Str × β)}, fs.map (·.1) = gs.map (·.1) → (fget f fs = none ↔ fget f gs = none)
  | [], [], _ => by simp [fget]
  | [], _ :: _, h => by simp at h
  | _ :: _, [], h => by simp at h
  | (a, x) :: fs, (b, y) :: gs, h => by
    simp only [List.map_cons, List.cons.injEq] at h
    obtain ⟨rfl, h⟩ := h
    by_cases e : a = f
    · simp [fget, e]
    · simp only [fget, if_neg e]; exact fget_none h
end
def insGet (f : Str) : D → Option D
  | .dict ((.none, .str _) :: kvs) => (kvs.find? fun e => match e.1 with | .str g => decide (g = f) | _ => false).map (·.2)
  | _ => none
def insCls : D → Option Str
  | .dict ((.none, .str c) :: _) => some c
  | _ => none
theorem insGet_eq {f c : Str} {fs : List (Str × D)} : insGet f (insD c fs) = fget f fs := by
  unfold insD insGet
  simp only
  induction fs with
  | nil => rfl
  | cons e fs ih =>
    obtain ⟨g, x⟩ := e
    simp only [List.map_cons, List.find?_cons, fget]
    by_cases h : g = f
    · simp [h]
    · rw [if_neg h, show (decide (g = f)) = false from decide_eq_false h]
      exact ih
def fldS (f : Str) : Slot → Slot
  | .oi _ fs => match fget f fs with
    | some l => l.slot
    | none => .no
  | .fz d => match insGet f d with
    | some x => .fz x
    | none => .no
  | _ => .no
def setFl (f : Str) (l : Fl) : Slot → Slot
  | .oi c fs => .oi c (putFl f l fs)
  | s => s
def clsS : Slot → Option Str
  | .oi c _ => some c
  | .fz d => insCls d
  | _ => none
end Dl
end
section
namespace Dl
open PySem L2

/-! ### what a piece of code comes to, over data -/
inductive Out (α : Type) where
  | ok (a : α) (ρ : DEnv)
  | er (c : Str) (d : D) (ρ : DEnv)
  | no
def Out.bind {α β : Type} (o : Out α) (f : α → DEnv → Out β) : Out β := match o with
  | .ok a ρ => f a ρ
  | .er c d ρ => .er c d ρ
  | .no => .no
@[simp] theorem Out.bind_ok {α β : Type} (a : α) (ρ : DEnv) (f : α → DEnv → Out β) : (Out.ok a ρ).bind f = f a ρ := rfl
@[simp] theorem Out.bind_er {α β : Type} (c : Str) (d : D) (ρ : DEnv) (f : α → DEnv → Out β) : (Out.er c d ρ : Out α).bind f = .er c d ρ := rfl
@[simp] theorem Out.bind_no {α β : Type} (f : α → DEnv → Out β) : (Out.no : Out α).bind f = .no := rfl
abbrev EM := DEnv → Out Slot
inductive SOut where
  | nx (ρ : DEnv)
  | rt (s : Slot) (ρ : DEnv)
  | bk (ρ : DEnv)
  | ct (ρ : DEnv)
  | er (c : Str) (d : D) (ρ : DEnv)
  | no
abbrev SM := DEnv → SOut
def Out.bindS {α : Type} (o : Out α) (f : α → DEnv → SOut) : SOut := match o with
  | .ok a ρ => f a ρ
  | .er c d ρ => .er c d ρ
  | .no => .no
@[simp] theorem Out.bindS_ok {α : Type} (a : α) (ρ : DEnv) (f : α → DEnv → SOut) : (Out.ok a ρ).bindS f = f a ρ := rfl
@[simp] theorem Out.bindS_er {α : Type} (c : Str) (d : D) (ρ : DEnv) (f : α → DEnv → SOut) : (Out.er c d ρ : Out α).bindS f = .er c d ρ := rfl
@[simp] theorem Out.bindS_no {α : Type} (f : α → DEnv → SOut) : (Out.no : Out α).bindS f = .no := rfl
def ofO {α : Type} (o : Option α) (ρ : DEnv) : Out α := match o with
  | some a => .ok a ρ
  | none => .no
@[simp] theorem ofO_some {α : Type} (a : α) (ρ : DEnv) : ofO (some a) ρ = .ok a ρ := rfl
@[simp] theorem ofO_none {α : Type} (ρ : DEnv) : ofO (none : Option α) ρ = .no := rfl
inductive Kd where
  | t
  | n (i : Nat)
  | f (i : Nat) (f : Str)
def sl : Kd → Slot → DEnv → Slot
  | .t, s, _ => s
  | .n i, _, ρ => ρ.getD i .no
  | .f i f, _, ρ => fldS f (ρ.getD i .no)
@[simp] theorem sl_t (s : Slot) (ρ : DEnv) : sl .t s ρ = s := rfl
@[simp] theorem sl_n (i : Nat) (s : Slot) (ρ : DEnv) : sl (.n i) s ρ = ρ.getD i .no := rfl
def Slot.d? : Slot → Option D
  | .no => none
  | .fz d => some d
  | .ow (.gd _) => none
  | .ow c => some c.view
  | .oi _ _ => none
@[simp] theorem Slot.d_gd (kvs : List (D × D)) : (Slot.ow (.gd kvs)).d? = none := rfl
@[simp] theorem Slot.sh_gd (kvs : List (D × D)) : (Slot.ow (.gd kvs)).shared = none := rfl
@[simp] theorem Slot.d_oi (c : Str) (fs : List (Str × Fl)) : (Slot.oi c fs).d? = none := rfl
@[simp] theorem Slot.sh_oi (c : Str) (fs : List (Str × Fl)) : (Slot.oi c fs).shared = (flsD fs).map (insD c) := rfl
@[simp] theorem Slot.d_fz (d : D) : (Slot.fz d).d? = some d := rfl
@[simp] theorem Slot.d_no : Slot.no.d? = none := rfl
@[simp] theorem Slot.d_ol (ds : List D) : (Slot.ow (.lst ds)).d? = some (.list ds) := rfl
@[simp] theorem Slot.d_od (t : Bool) (kvs : List (D × D)) : (Slot.ow (.dct t kvs)).d? = some (dctD t kvs) := rfl
@[simp] theorem Slot.d_lk (t : Bool) (kvs : List (D × D)) : (Slot.ow (.lk t kvs)).d? = some (dctD t kvs) := rfl
@[simp] theorem Slot.sh_fz (d : D) : (Slot.fz d).shared = some d := rfl
@[simp] theorem Slot.sh_no : Slot.no.shared = none := rfl
@[simp] theorem Slot.sh_ol (ds : List D) : (Slot.ow (.lst ds)).shared = some (.list ds) := rfl
@[simp] theorem Slot.sh_od (t : Bool) (kvs : List (D × D)) : (Slot.ow (.dct t kvs)).shared = some (dctD t kvs) := rfl
@[simp] theorem Slot.sh_lk (t : Bool) (kvs : List (D × D)) : (Slot.ow (.lk t kvs)).shared = none := rfl

/-! ### readings -/
def ErrW (W : Wc) (c : Str) (d : D) (ρ : DEnv) (cv : Value) (dx : Option Addr) (H : Hp) : Prop :=
  ∃ σ v x C, World W [v] [.fz d] σ H ρ ∧ W.cl c = some C ∧ cv = .ref C ∧ dx = some x ∧ H x = some (.xd [("value", v)])
def ErrTo (W : Wc) (Ew : XK) (c : Str) (d : D) (ρ : DEnv) : Prop := ∀ cv dx H, ErrW W c d ρ cv dx H → Ew cv dx H
def KdOk (W : Wc) (σ : St) : Kd → V → Prop
  | .t, _ => True
  | .n i, v => σ[i]? = some (some v)
  | .f i f, v => ∃ a C dx fvs, σ[i]? = some (some (.ref a)) ∧ W.G.H a = some (.ins C dx fvs) ∧ fget f fvs = some v
inductive KdsOk (W : Wc) (σ : St) : List Kd → List V → Prop
  | nil : KdsOk W σ [] []
  | cons {k : Kd} {v : V} {ks : List Kd} {vs : List V} : KdOk W σ k v → KdsOk W σ ks vs → KdsOk W σ (k :: ks) (v :: vs)
def FinO (W : Wc) (Ew : XK) (ts : List V) (tss : List Slot) (σ : St) (k : Kd) (Q : VK) : Out Slot → Prop
  | .ok s ρ => ∀ v H, World W (v :: ts) (s :: tss) σ H ρ → KdOk W σ k v → Q v H
  | .er c d ρ => ErrTo W Ew c d ρ
  | .no => False
def tO (W : Wc) (Ew : XK) (k : Kd) (f : EM) : TE := fun σ H Q => ∃ ts tss ρ, World W ts tss σ H ρ ∧ FinO W Ew ts tss σ k Q (f ρ)
def FinT (W : Wc) (Ew : XK) (ts : List V) (tss : List Slot) (σ : St) (Q : Bool → Hp → Prop) : Out Bool → Prop
  | .ok b ρ => ∀ H, World W ts tss σ H ρ → Q b H
  | .er c d ρ => ErrTo W Ew c d ρ
  | .no => False
def tT (W : Wc) (Ew : XK) (f : DEnv → Out Bool) : TT := fun σ H Q => ∃ ts tss ρ, World W ts tss σ H ρ ∧ FinT W Ew ts tss σ Q (f ρ)
def FinA (W : Wc) (Ew : XK) (ts : List V) (tss : List Slot) (σ : St) (ks : List Kd) (Q : List V → Hp → Prop) : Out (List Slot) → Prop
  | .ok ss ρ => ∀ vs H, vs.length = ss.length → World W (vs ++ ts) (ss ++ tss) σ H ρ → KdsOk W σ ks vs → Q vs H
  | .er c d ρ => ErrTo W Ew c d ρ
  | .no => False
def tAr (W : Wc) (Ew : XK) (ks : List Kd) (f : DEnv → Out (List Slot)) : TA := fun σ H Q => ∃ ts tss ρ, World W ts tss σ H ρ ∧ FinA W Ew ts tss σ ks Q (f ρ)
def FinS (W : Wc) (Ew : XK) (ts : List V) (tss : List Slot) (Dn : Ends) : SOut → Prop
  | .nx ρ => ∀ σ H, World W ts tss σ H ρ → Dn.nx σ H
  | .rt s ρ => ∀ v σ H, World W (v :: ts) (s :: tss) σ H ρ → Dn.rt v H
  | .bk ρ => ∀ σ H, World W ts tss σ H ρ → Dn.bk σ H
  | .ct ρ => ∀ σ H, World W ts tss σ H ρ → Dn.ct σ H
  | .er c d ρ => ErrTo W Ew c d ρ
  | .no => False
def tS (W : Wc) (Ew : XK) (f : SM) : TS := fun Dn σ H => ∃ ts tss ρ, World W ts tss σ H ρ ∧ FinS W Ew ts tss Dn (f ρ)

section
variable {X : Cx} {W : Wc} {Ew : XK} {ts vs : List V} {tss ss : List Slot} {σ : St} {H : Hp} {ρ : DEnv} {v : V} {s : Slot} {e : Expr} {st : Stmt} {k : Kd} {f : EM} {Q Q' : VK}
theorem PE.imp {t t' : TE} (h : PE X e t) (i : ∀ σ H Q, t' σ H Q → t σ H Q) : PE X e t' := ⟨fun pins s σ H Q I q => h.run pins s σ H Q I (i σ H Q q)⟩
theorem PT.imp {t t' : TT} (h : PT X e t) (i : ∀ σ H Q, t' σ H Q → t σ H Q) : PT X e t' := ⟨fun pins s σ H Q I q => h.run pins s σ H Q I (i σ H Q q)⟩
theorem PW.imp {t t' : TT} (h : PW X e t) (i : ∀ σ H Q, t' σ H Q → t σ H Q) : PW X e t' := ⟨fun wh pins s σ H Q I q => h.run wh pins s σ H Q I (i σ H Q q)⟩
theorem PA.imp {es : List Expr} {t t' : TA} (h : PA X es t) (i : ∀ σ H Q, t' σ H Q → t σ H Q) : PA X es t' := ⟨fun pos pins s σ H Q I q => h.run pos pins s σ H Q I (i σ H Q q)⟩
theorem PS.imp {t t' : TS} (h : PS X st t) (i : ∀ Dn σ H, t' Dn σ H → t Dn σ H) : PS X st t' := ⟨fun pins s σ H Dn I q => h.run pins s σ H Dn I (i Dn σ H q)⟩
theorem PSs.imp {sts : List Stmt} {t t' : TS} (h : PSs X sts t) (i : ∀ Dn σ H, t' Dn σ H → t Dn σ H) : PSs X sts t' := ⟨fun pins s σ H Dn I q => h.run pins s σ H Dn I (i Dn σ H q)⟩

/-! ### sharing what is of one's own -/
def eFz (f : EM) : EM := fun ρ => (f ρ).bind fun s ρ1 => match s.shared with
  | some d => .ok (.fz d) ρ1
  | none => .no
theorem pd_fz (h : PE X e (tO W Ew .t f)) : PE X e (tO W Ew .t (eFz f)) := PE.imp h fun σ H Q ⟨ts, tss, ρ, w, q⟩ => by
  refine ⟨ts, tss, ρ, w, ?_⟩
  unfold eFz at q
  cases ef : f ρ with
  | no => rw [ef] at q; exact q
  | er c d ρ' => rw [ef] at q; exact q
  | ok s ρ' =>
    rw [ef] at q
    intro v H' w' k'
    simp only [Out.bind_ok] at q
    cases es : s.shared with
    | none => rw [es] at q; exact q.elim
    | some d =>
      rw [es] at q
      exact q v H' (w'.freeze es) k'
def eX (i : Nat) : EM := fun ρ => match (ρ.getD i .no).shared with
  | some d => .ok (.fz d) (ρ.set i (.fz d))
  | none => .no
def eN (i : Nat) : EM := fun ρ => match ρ.getD i .no with
  | .no => .no
  | _ => .ok .no ρ
theorem SlotOk.some_of {K : Frag} {cl : ClsT} {H0 : Hp} {ov : Option V} {fp : List Addr} (h : SlotOk K cl H0 H ov s fp) (hs : s ≠ .no) : ∃ v, ov = some v := by
  cases s with
  | no => exact absurd rfl hs
  | fz d => cases ov with
    | none => exact h.elim
    | some v => exact ⟨v, rfl⟩
  | ow c => cases ov with
    | none => exact h.elim
    | some v => exact ⟨v, rfl⟩
  | oi c fs => cases ov with
    | none => exact h.elim
    | some v => exact ⟨v, rfl⟩
theorem World.val {i : Nat} (w : World W ts tss σ H ρ) (e : ρ[i]? = some s) (hs : s ≠ .no) : ∃ v, σ[i]? = some (some v) := by
  obtain ⟨H0, fp, _, h, _⟩ := w.ex
  obtain ⟨g1, g2, _, _, hD⟩ := SlotsOk.split (by simpa using w.len) h
  obtain ⟨ov, f1, f2, f3, e3, _, h1, _⟩ := hD.at e
  obtain ⟨v, rfl⟩ := h1.some_of hs
  exact ⟨v, e3⟩
theorem getD_some {i : Nat} (hs : ρ.getD i .no = s) (hn : s ≠ .no) : ρ[i]? = some s := by
  rw [List.getD_eq_getElem?_getD] at hs
  cases e : ρ[i]? with
  | none => rw [e] at hs; exact absurd hs.symm hn
  | some s' => rw [e] at hs; exact congrArg some hs
theorem pd_n {i : Nat} (h : PE X e (tVar i)) : PE X e (tO W Ew (.n i) (eN i)) := PE.imp h fun σ H Q ⟨ts, tss, ρ, w, q⟩ => by
  unfold eN at q
  cases es : ρ.getD i .no with
  | no => rw [es] at q; exact q.elim
  | fz d =>
    rw [es] at q
    obtain ⟨v, hv⟩ := w.val (getD_some es (by simp)) (by simp)
    exact ⟨v, hv, q v H (w.pushNo v) hv⟩
  | ow c =>
    rw [es] at q
    obtain ⟨v, hv⟩ := w.val (getD_some es (by simp)) (by simp)
    exact ⟨v, hv, q v H (w.pushNo v) hv⟩
  | oi c fs =>
    rw [es] at q
    obtain ⟨v, hv⟩ := w.val (getD_some es (by simp)) (by simp)
    exact ⟨v, hv, q v H (w.pushNo v) hv⟩
theorem pd_x {i : Nat} (h : PE X e (tVar i)) : PE X e (tO W Ew .t (eX i)) := PE.imp h fun σ H Q ⟨ts, tss, ρ, w, q⟩ => by
  unfold eX at q
  cases es : (ρ.getD i .no).shared with
  | none => rw [es] at q; exact q.elim
  | some d =>
    rw [es] at q
    have hn : ρ.getD i .no ≠ .no := fun z => by rw [z] at es; cases es
    have hi := getD_some rfl hn
    obtain ⟨v, hv⟩ := w.val hi hn
    have w1 := (w.pushNo v).xch hv hi
    have w2 := w1.freeze es
    have w3 := w2.dup (i := i) hv (by have := (List.getElem?_eq_some_iff.mp hi).1; simpa using this)
    rw [List.set_set] at w3
    exact ⟨v, hv, q v H w3 trivial⟩

/-! ### atoms -/
inductive Atom : V → D → Prop
  | non : Atom .non .none
  | bl (b : Bool) : Atom (.bl b) (.bool b)
  | int (i : Int) : Atom (.int i) (.int i)
  | str (x : Str) : Atom (.str x) (.str x)
theorem Atom.rp {K : Frag} {cl : ClsT} {d : D} (h : Atom v d) : Rp K cl H v d := by cases h <;> constructor
theorem World.push {d : D} (w : World W ts tss σ H ρ) (h : Atom v d) : World W (v :: ts) (.fz d :: tss) σ H ρ := by
  refine w.of_sub (by simpa using w.len) w.keep fun {H0 fp} hs nd => ⟨[] ++ fp, nd, fun a h => h, ?_⟩
  have := SlotsOk.cons (K := W.K) (cl := W.cl) (H0 := H0) (H := H) (ov := some v) (s := .fz d) (f1 := []) ⟨h.rp, rfl⟩ hs
  simpa using this
def eC (d : D) : EM := fun ρ => .ok (.fz d) ρ
@[simp] theorem eC_eq (d : D) (ρ : DEnv) : eC d ρ = .ok (.fz d) ρ := rfl
theorem pd_c {d : D} (h : PE X e (tC v)) (a : Atom v d) : PE X e (tO W Ew .t (eC d)) := PE.imp h fun σ H Q ⟨ts, tss, ρ, w, q⟩ => q v H (w.push a) trivial
end

/-! ### operations that only read -/
def Rdy (W : Wc) (H0 H : Hp) (v : V) (s : Slot) : Prop := ∃ fp, SlotOk W.K W.cl H0 H (some v) s fp
def Res (W : Wc) (H0 H H0' H' : Hp) (v : V) (s : Slot) : Prop :=
  ∃ fp, SlotOk W.K W.cl H0' H' (some v) s fp ∧ fp.Nodup ∧ (∀ a ∈ fp, H a = none ∧ H0' a = none) ∧ Same H0 H0' ∧ Same H H' ∧ Le H0' H' ∧ ∀ a o, H a = some o → NoTup o → H0 a = none → H0' a = none
inductive Rdys (W : Wc) (H0 H : Hp) : List V → List Slot → Prop
  | nil : Rdys W H0 H [] []
  | cons {v : V} {s : Slot} {vs : List V} {ss : List Slot} : Rdy W H0 H v s → Rdys W H0 H vs ss → Rdys W H0 H (v :: vs) (s :: ss)
section
variable {X : Cx} {W : Wc} {Ew : XK} {ts vs : List V} {tss ss : List Slot} {σ : St} {H H' H0 H0' : Hp} {ρ : DEnv} {v v1 v2 : V} {s s1 s2 : Slot} {e : Expr} {k ka kb : Kd} {f fa fb : EM} {Q Q' : VK} {d d1 d2 : D} {p : Addr}
theorem SlotsOk.rdys : ∀ {vs : List V} {ss : List Slot} {fp : List Addr}, SlotsOk W.K W.cl H0 H (vs.map some) ss fp → Rdys W H0 H vs ss
  | [], _, _, h => by cases h; exact .nil
  | v :: vs, _, _, h => by
    cases h with
    | cons h t => exact .cons ⟨_, h⟩ (SlotsOk.rdys t)
structure En (W : Wc) (H0 H : Hp) (σ : St) (ρ : DEnv) : Prop where
  nm : ∀ (i : Nat) (s : Slot) (v : V), ρ[i]? = some s → σ[i]? = some (some v) → Rdy W H0 H v s
  pr : ∀ a C dx fs, fs ≠ [] → W.G.H a = some (.ins C dx fs) → H a = some (.ins C dx fs)
  le : Le H0 H
theorem World.prot (w : World W ts tss σ H ρ) : ∀ a C dx fs, fs ≠ [] → W.G.H a = some (.ins C dx fs) → H a = some (.ins C dx fs) := by
  obtain ⟨H0, fp, _, _, _, _, fr⟩ := w.ex
  exact fr.inss
theorem fget_rp {f : Str} : ∀ {fvs : List (Str × V)} {fs : List (Str × D)}, fs.map (·.1) = fvs.map (·.1) → RpL W.K W.cl H0 (fvs.map (·.2)) (fs.map (·.2)) → fget f fvs = some v → ∃ d, fget f fs = some d ∧ Rp W.K W.cl H0 v d
  | [], [], _, _, e => by cases e
  | [], _ :: _, h, _, _ => by simp at h
  | _ :: _, [], h, _, _ => by simp at h
  | (a, x) :: fvs, (b, y) :: fs, h, r, e => by
    simp only [List.map_cons, List.cons.injEq] at h
    obtain ⟨rfl, h⟩ := h
    cases r with
    | cons r1 r2 =>
      by_cases q : b = f
      · simp only [fget, if_pos q, Option.some.injEq] at e ⊢
        subst e
        exact ⟨y, rfl, r1⟩
      · simp only [fget, if_neg q] at e ⊢
        exact fget_rp h r2 e
theorem Rp.insOf {c : Str} {d : D} {a : Addr} (h : Rp W.K W.cl H0 (.ref a) d) (hc : insCls d = some c) : ∃ C dx fvs fs, d = insD c fs ∧ W.cl c = some C ∧ H0 a = some (.ins C dx fvs) ∧ fs.map (·.1) = fvs.map (·.1) ∧ RpL W.K W.cl H0 (fvs.map (·.2)) (fs.map (·.2)) := by
  generalize hv : V.ref a = v at h
  cases h with
  | @ins b C dx c' fvs fs h1 h2 h3 h4 =>
    cases hv
    obtain rfl : c' = c := by
      unfold insCls insD at hc
      simpa using hc
    exact ⟨C, dx, fvs, fs, rfl, h1, h2, h3, h4⟩
  | @dk b l kvs h1 h2 h3 =>
    exfalso
    cases kvs with
    | nil => simp [insCls, dctD] at hc
    | cons e kvs =>
      obtain ⟨k, x⟩ := e
      cases l with
      | nil => simp at h2
      | cons p l =>
        obtain ⟨k', y⟩ := p
        cases k' <;> simp [keyD] at h2 <;> simp [insCls, dctD, h2.1] at hc
  | dt h1 h2 h3 => simp [insCls, dctD] at hc
  | scr h1 h2 => simp [insCls, scrD] at hc
  | exc _ _ _ _ => simp [insCls, excD] at hc
  | _ => simp [insCls] at hc
theorem Rdy.fld {f : Str} {a C dx : Addr} {fvs : List (Str × V)} (h : Rdy W H0 H (.ref a) s) (hle : Le H0 H) (ha : H a = some (.ins C dx fvs)) (hf : fget f fvs = some v) : Rdy W H0 H v (fldS f s) := by
  obtain ⟨fp, h⟩ := h
  cases s with
  | no => exact ⟨[], rfl⟩
  | ow c => exact ⟨[], rfl⟩
  | oi c fs =>
    obtain ⟨b, eb, C', dx', fvs', f', i1, i2, i3, i4, i5⟩ := h
    cases eb
    rw [ha] at i2
    cases i2
    obtain ⟨l, f2, fr, e1, _, h1, _⟩ := i4.take hf
    simp only [fldS, e1]
    exact ⟨f2, h1.slot⟩
  | fz d =>
    cases hg : insGet f d with
    | none => simp only [fldS, hg]; exact ⟨[], rfl⟩
    | some x =>
      obtain ⟨c, hc⟩ : ∃ c, insCls d = some c := by
        unfold insGet at hg
        split at hg
        · exact ⟨_, rfl⟩
        · cases hg
      obtain ⟨C', dx', fvs', fs, rfl, i1, i2, i3, i4⟩ := h.1.insOf hc
      have := hle.ins i2
      rw [ha] at this
      cases this
      obtain ⟨d', e1, r1⟩ := fget_rp i3 i4 hf
      rw [insGet_eq, e1] at hg
      cases hg
      simp only [fldS, insGet_eq, e1]
      exact ⟨[], r1, rfl⟩
theorem Rdy.rp (hle : Le H0 H) (h : Rdy W H0 H v s) (e : s.d? = some d) : Rp W.K W.cl H v d := by
  obtain ⟨fp, h⟩ := h
  cases s with
  | no => cases e
  | oi _ _ => cases e
  | fz d' => cases e; exact h.1.mono hle
  | ow c =>
    obtain ⟨a, rfl, hc, _⟩ := h
    cases c with
    | lst ds => cases e; obtain ⟨vs, h1, h2⟩ := hc; exact .lst (.inl h1) (h2.mono hle)
    | dct t kvs => cases e; obtain ⟨u, h1, h2⟩ := hc; exact (h2.mono hle).rp (.inl h1)
    | lk t kvs => cases e; obtain ⟨u, o, h1, h2⟩ := hc; exact (h2.mono hle).rp (.inr ⟨o, h1⟩)
    | gd kvs => cases e
theorem Rdy.lst {ds : List D} (hle : Le H0 H) (h : Rdy W H0 H v s) (e : s.d? = some (.list ds)) : ∃ a xs, v = .ref a ∧ Rd H a (.lst xs) ∧ RpL W.K W.cl H0 xs ds := by
  obtain ⟨fp, h⟩ := h
  cases s with
  | no => cases e
  | oi _ _ => cases e
  | fz d' =>
    cases e
    cases h.1 with
    | lst h1 h2 => exact ⟨_, _, rfl, hle.lst h1, h2⟩
  | ow c =>
    obtain ⟨a, rfl, hc, _⟩ := h
    cases c with
    | lst ds' => cases e; obtain ⟨vs, h1, h2⟩ := hc; exact ⟨a, vs, rfl, .inl h1, h2⟩
    | dct t kvs => cases t <;> cases e
    | lk t kvs => cases t <;> cases e
    | gd kvs => cases e
theorem Rdy.tup {ds : List D} (hle : Le H0 H) (h : Rdy W H0 H v s) (e : s.d? = some (.tuple ds)) : ∃ a xs, v = .ref a ∧ H a = some (.tup xs) ∧ RpL W.K W.cl H0 xs ds := by
  obtain ⟨fp, h⟩ := h
  cases s with
  | no => cases e
  | oi _ _ => cases e
  | fz d' =>
    cases e
    cases h.1 with
    | tup h1 h2 => exact ⟨_, _, rfl, hle.tup h1, h2⟩
  | ow c => rcases c with _ | ⟨t, _⟩ | ⟨t, _⟩ <;> first | cases e | (cases t <;> cases e)
theorem Rdy.scr {ds : List D} (hle : Le H0 H) (h : Rdy W H0 H v (.fz (scrD ds))) : ∃ a xs, v = .ref a ∧ SqL W.K H a xs ∧ RpL W.K W.cl H0 xs ds := by
  obtain ⟨fp, h, _⟩ := h
  generalize hd : scrD ds = d at h
  cases h with
  | scr h1 h2 =>
    unfold scrD at hd
    cases hd
    exact ⟨_, _, rfl, hle.seq h1, h2⟩
  | @dk a l kvs _ e _ =>
    unfold scrD dctD at hd
    cases hd
    cases l with
    | nil => simp at e
    | cons x l => obtain ⟨k, w⟩ := x; cases k <;> simp [keyD] at e
  | dt _ e _ => unfold scrD dctD at hd; cases hd
  | ins _ _ _ _ => unfold scrD insD at hd; cases hd
  | exc _ _ _ _ => unfold scrD excD at hd; cases hd
  | _ => cases hd
theorem Rdy.int {i : Int} (h : Rdy W H0 H v s) (e : s.d? = some (.int i)) : v = .int i := by
  obtain ⟨fp, h⟩ := h
  cases s with
  | no => cases e
  | oi _ _ => cases e
  | fz d' => cases e; cases h.1; rfl
  | ow c => rcases c with _ | ⟨t, _⟩ | ⟨t, _⟩ <;> first | cases e | (cases t <;> cases e)
theorem Rdy.bl {b : Bool} (h : Rdy W H0 H v s) (e : s.d? = some (.bool b)) : v = .bl b := by
  obtain ⟨fp, h⟩ := h
  cases s with
  | no => cases e
  | oi _ _ => cases e
  | fz d' => cases e; cases h.1; rfl
  | ow c => rcases c with _ | ⟨t, _⟩ | ⟨t, _⟩ <;> first | cases e | (cases t <;> cases e)
theorem Rdy.str {x : Str} (h : Rdy W H0 H v s) (e : s.d? = some (.str x)) : v = .str x := by
  obtain ⟨fp, h⟩ := h
  cases s with
  | no => cases e
  | oi _ _ => cases e
  | fz d' => cases e; cases h.1; rfl
  | ow c => rcases c with _ | ⟨t, _⟩ | ⟨t, _⟩ <;> first | cases e | (cases t <;> cases e)
theorem Rdy.non (h : Rdy W H0 H v s) (e : s.d? = some .none) : v = .non := by
  obtain ⟨fp, h⟩ := h
  cases s with
  | no => cases e
  | oi _ _ => cases e
  | fz d' => cases e; cases h.1; rfl
  | ow c => rcases c with _ | ⟨t, _⟩ | ⟨t, _⟩ <;> first | cases e | (cases t <;> cases e)
/-! results -/
theorem Res.child (hle : Le H0 H) (h : Rp W.K W.cl H0 v d) : Res W H0 H H0 H v (.fz d) :=
  ⟨[], ⟨h, rfl⟩, List.nodup_nil, fun a h => (nomatch h), Same.refl _, Same.refl _, hle, fun _ _ _ _ h => h⟩
theorem Res.atom (hle : Le H0 H) (h : Atom v d) : Res W H0 H H0 H v (.fz d) := .child hle h.rp
theorem Res.newL {ds : List D} (hle : Le H0 H) (hp : H p = none) (h : RpL W.K W.cl H0 vs ds) : Res W H0 H H0 (upd H p (.lst vs)) (.ref p) (.ow (.lst ds)) := by
  have h0 := hle.free hp
  refine ⟨[p], ⟨p, rfl, ⟨vs, upd_same, h⟩, rfl⟩, by simp, fun a ha => ?_, Same.refl _, fun a o e => ?_, upd_le2 hle h0, fun _ _ _ _ h => h⟩
  · obtain rfl : a = p := by simpa using ha
    exact ⟨hp, h0⟩
  · rw [upd_ne (ne_of_none e hp)]; exact e
theorem Res.newT {ds : List D} (hle : Le H0 H) (hp : H p = none) (h : RpL W.K W.cl H0 vs ds) : Res W H0 H (upd H0 p (.tup vs)) (upd H p (.tup vs)) (.ref p) (.fz (.tuple ds)) := by
  have h0 := hle.free hp
  refine ⟨[], ⟨.tup upd_same (h.mono (upd_le h0)), rfl⟩, List.nodup_nil, fun a h => (nomatch h), fun a o e => ?_, fun a o e => ?_, upd_le3 hle h0, fun a o h1 _ h2 => ?_⟩
  · rw [upd_ne (ne_of_none e h0)]; exact e
  · rw [upd_ne (ne_of_none e hp)]; exact e
  · rw [upd_ne (fun z => by rw [z, hp] at h1; cases h1)]; exact h2
theorem Res.newD {l : List (Key × V)} {kvs : List (D × D)} (hle : Le H0 H) (hp : H p = none) (h1 : kvs.map (·.1) = l.map (fun e => keyD e.1)) (h : RpL W.K W.cl H0 (l.map (·.2)) (kvs.map (·.2))) : Res W H0 H H0 (upd H p (.dK l)) (.ref p) (.ow (.dct false kvs)) := by
  have h0 := hle.free hp
  refine ⟨[p], ⟨p, rfl, ⟨_, upd_same, l, rfl, h1, h⟩, rfl⟩, by simp, fun a ha => ?_, Same.refl _, fun a o e => ?_, upd_le2 hle h0, fun _ _ _ _ h => h⟩
  · obtain rfl : a = p := by simpa using ha
    exact ⟨hp, h0⟩
  · rw [upd_ne (ne_of_none e hp)]; exact e
theorem World.res (w : World W (vs ++ ts) (ss ++ tss) σ H ρ) (hl : vs.length = ss.length) :
    ∃ H0, Le H0 H ∧ Rdys W H0 H vs ss ∧ En W H0 H σ ρ ∧ ∀ {v : V} {s : Slot} {H' H0' : Hp}, Res W H0 H H0' H' v s → World W (v :: ts) (s :: tss) σ H' ρ := by
  obtain ⟨H0, fA, hle, hA, nd, hn, en, kf⟩ := w.fstep hl
  refine ⟨H0, hle, hA.rdys, ⟨en, w.prot, hle⟩, fun {v s H' H0'} ⟨fp, r1, r2, r3, r4, r5, r6, r7⟩ => ?_⟩
  exact kf (vs' := [v]) (ss' := [s]) (fp' := fp) rfl r6 (by have := SlotsOk.cons r1 (SlotsOk.nil (K := W.K) (cl := W.cl) (H0 := H0') (H := H')); simpa using this) r2 (fun a ha => (r3 a ha).2)
    ⟨r4, fun a o e nt n _ => ⟨r5 a o e, r7 a o e nt n⟩, fun a ha => .inr (r3 a ha).1, fun a h => by
      cases q : H a with
      | none => exact absurd q h
      | some o => rw [r5 a o q]; simp, fun a xs h => r5 a _ h, fun a o u h => r5 a _ h, fun a C dx fs n h => r5 a _ h, fun P q t => t.mono r4 fun ps e => r5 P _ e⟩
theorem rdy_sl {k : Kd} (en : En W H0 H σ ρ) (h : Rdy W H0 H v s) (hk : KdOk W σ k v) : Rdy W H0 H v (sl k s ρ) := by
  cases k with
  | t => exact h
  | n i =>
    simp only [sl_n]
    rw [List.getD_eq_getElem?_getD]
    cases q : ρ[i]? with
    | none => exact ⟨[], rfl⟩
    | some s' => exact en.nm i s' v q hk
  | f i g =>
    obtain ⟨a, C, dx, fvs, h1, h2, h3⟩ := hk
    have hne : fvs ≠ [] := fun z => by rw [z] at h3; cases h3
    show Rdy W H0 H v (fldS g (ρ.getD i .no))
    rw [List.getD_eq_getElem?_getD]
    cases q : ρ[i]? with
    | none => exact ⟨[], rfl⟩
    | some s' => exact (en.nm i s' _ q h1).fld en.le (en.pr a C dx fvs hne h2) h3
theorem rdys_sl (en : En W H0 H σ ρ) : ∀ {ks : List Kd} {vs : List V} {ss : List Slot}, Rdys W H0 H vs ss → KdsOk W σ ks vs → Rdys W H0 H vs (List.zipWith (fun k s => sl k s ρ) ks ss)
  | _, _, _, .nil, .nil => .nil
  | _, _, _, .cons h t, .cons hk tk => .cons (rdy_sl en h hk) (rdys_sl en t tk)

def RO1 (W : Wc) (r : V → Hp → VK → Prop) (g : Slot → Option Slot) : Prop := ∀ (H0 H : Hp) (v : V) (s s' : Slot) (Q : VK), Le H0 H → Rdy W H0 H v s → g s = some s' → (∀ v' H' H0', Res W H0 H H0' H' v' s' → Q v' H') → r v H Q
def RO2 (W : Wc) (r : R2) (g : Slot → Slot → Option Slot) : Prop := ∀ (H0 H : Hp) (v1 v2 : V) (s1 s2 s' : Slot) (Q : VK), Le H0 H → Rdy W H0 H v1 s1 → Rdy W H0 H v2 s2 → g s1 s2 = some s' → (∀ v' H' H0', Res W H0 H H0' H' v' s' → Q v' H') → r v1 v2 H Q
def RON (W : Wc) (r : List V → Hp → VK → Prop) (g : List Slot → Option Slot) : Prop := ∀ (H0 H : Hp) (vs : List V) (ss : List Slot) (s' : Slot) (Q : VK), Le H0 H → Rdys W H0 H vs ss → g ss = some s' → (∀ v' H' H0', Res W H0 H H0' H' v' s' → Q v' H') → r vs H Q
def g1 (op : D → Option Slot) : Slot → Option Slot := fun s => s.d?.bind op
def g2 (op : D → D → Option Slot) : Slot → Slot → Option Slot := fun s t => s.d?.bind fun a => t.d?.bind fun b => op a b
@[simp] theorem g1_some {op : D → Option Slot} (h : s.d? = some d) : g1 op s = op d := by simp [g1, h]
theorem g1_inv {op : D → Option Slot} {s' : Slot} (h : g1 op s = some s') : ∃ d, s.d? = some d ∧ op d = some s' := by
  unfold g1 at h
  cases e : s.d? with
  | none => rw [e] at h; cases h
  | some d => rw [e] at h; exact ⟨d, rfl, h⟩
theorem g2_inv {op : D → D → Option Slot} {s' : Slot} (h : g2 op s1 s2 = some s') : ∃ a b, s1.d? = some a ∧ s2.d? = some b ∧ op a b = some s' := by
  unfold g2 at h
  cases e : s1.d? with
  | none => rw [e] at h; cases h
  | some a =>
    rw [e] at h
    cases e2 : s2.d? with
    | none => rw [e2] at h; cases h
    | some b => rw [e2] at h; exact ⟨a, b, rfl, rfl, h⟩

def e1 (ka : Kd) (fa : EM) (g : Slot → Option Slot) : EM := fun ρ => (fa ρ).bind fun s ρ1 => ofO (g (sl ka s ρ1)) ρ1
def e2 (ka kb : Kd) (fa fb : EM) (g : Slot → Slot → Option Slot) : EM := fun ρ => (fa ρ).bind fun s ρ1 => (fb ρ1).bind fun t ρ2 => ofO (g (sl ka s ρ2) (sl kb t ρ2)) ρ2
theorem ro1 {r : V → Hp → VK → Prop} {g : Slot → Option Slot} (h : RO1 W r g) : ∀ σ H Q, tO W Ew .t (e1 ka fa g) σ H Q → tUn r (tO W Ew ka fa) σ H Q := by
  rintro σ H Q ⟨ts, tss, ρ, w, q⟩
  refine ⟨ts, tss, ρ, w, ?_⟩
  unfold e1 at q
  cases ea : fa ρ with
  | no => rw [ea] at q; exact q
  | er c d ρ' => rw [ea] at q; exact q
  | ok s ρ1 =>
    rw [ea] at q
    simp only [Out.bind_ok] at q
    intro v H1 w1 k1
    cases eg : g (sl ka s ρ1) with
    | none => rw [eg] at q; exact q.elim
    | some s' =>
      rw [eg] at q
      obtain ⟨H0, hle, rd, en, kr⟩ := World.res (vs := [v]) (ss := [s]) w1 rfl
      cases rd with
      | cons rd _ => exact h H0 H1 v _ s' Q hle (rdy_sl en rd k1) eg fun v' H' H0' r => q v' H' (kr r) trivial
theorem ro2 {r : R2} {g : Slot → Slot → Option Slot} (h : RO2 W r g) : ∀ σ H Q, tO W Ew .t (e2 ka kb fa fb g) σ H Q → tOp r (tO W Ew ka fa) (tO W Ew kb fb) σ H Q := by
  rintro σ H Q ⟨ts, tss, ρ, w, q⟩
  refine ⟨ts, tss, ρ, w, ?_⟩
  unfold e2 at q
  cases ea : fa ρ with
  | no => rw [ea] at q; exact q
  | er c d ρ' => rw [ea] at q; exact q
  | ok s ρ1 =>
    rw [ea] at q
    simp only [Out.bind_ok] at q
    intro v H1 w1 k1
    refine ⟨v :: ts, s :: tss, ρ1, w1, ?_⟩
    cases eb : fb ρ1 with
    | no => rw [eb] at q; exact q
    | er c d ρ' => rw [eb] at q; exact q
    | ok t ρ2 =>
      rw [eb] at q
      simp only [Out.bind_ok] at q
      intro v2 H2 w2 k2
      cases eg : g (sl ka s ρ2) (sl kb t ρ2) with
      | none => rw [eg] at q; exact q.elim
      | some s' =>
        rw [eg] at q
        obtain ⟨H0, hle, rd, en, kr⟩ := World.res (vs := [v2, v]) (ss := [t, s]) w2 rfl
        cases rd with
        | cons r2 rd =>
          cases rd with
          | cons r1 _ => exact h H0 H2 v v2 _ _ s' Q hle (rdy_sl en r1 k1) (rdy_sl en r2 k2) eg fun v' H' H0' r => q v' H' (kr r) trivial
/-! arguments -/
def eArgs : List (Kd × EM) → DEnv → Out (List Slot)
  | [], ρ => .ok [] ρ
  | (_, f) :: r, ρ => (f ρ).bind fun s ρ1 => (eArgs r ρ1).bind fun ss ρ2 => .ok (s :: ss) ρ2
theorem pd_anil : PA X [] (tAr W Ew [] (eArgs [])) := PA.imp pa_nil fun σ H Q ⟨ts, tss, ρ, w, q⟩ => q [] H rfl w .nil
theorem pd_acons {es : List Expr} {r : List (Kd × EM)} (ha : PE X e (tO W Ew k f)) (hr : PA X es (tAr W Ew (r.map (·.1)) (eArgs r))) (hs : starEach (e :: es) X.env = (false, eval e X.env) :: starEach es X.env := by rfl) :
    PA X (e :: es) (tAr W Ew (k :: r.map (·.1)) (eArgs ((k, f) :: r))) := PA.imp (pa_cons ha hr hs) fun σ H Q ⟨ts, tss, ρ, w, q⟩ => by
  refine ⟨ts, tss, ρ, w, ?_⟩
  simp only [eArgs] at q
  cases ea : f ρ with
  | no => rw [ea] at q; exact q
  | er c d ρ' => rw [ea] at q; exact q
  | ok s ρ1 =>
    rw [ea] at q
    simp only [Out.bind_ok] at q
    intro v H1 w1 k1
    refine ⟨v :: ts, s :: tss, ρ1, w1, ?_⟩
    cases eb : eArgs r ρ1 with
    | no => rw [eb] at q; exact q
    | er c d ρ' => rw [eb] at q; exact q
    | ok ss ρ2 =>
      rw [eb] at q
      simp only [Out.bind_ok] at q
      intro vs H2 hl w2 k2
      exact q (v :: vs) H2 (by simp [hl]) (World.move w2 hl) (.cons k1 k2)
def slL (ks : List Kd) (ss : List Slot) (ρ : DEnv) : List Slot := List.zipWith (fun k s => sl k s ρ) ks ss
@[simp] theorem slL_nil (ρ : DEnv) : slL [] [] ρ = [] := rfl
@[simp] theorem slL_cons (k : Kd) (ks : List Kd) (s : Slot) (ss : List Slot) (ρ : DEnv) : slL (k :: ks) (s :: ss) ρ = sl k s ρ :: slL ks ss ρ := rfl
def eB (r : List (Kd × EM)) (g : List Slot → Option Slot) : EM := fun ρ => (eArgs r ρ).bind fun ss ρ1 => ofO (g (slL (r.map (·.1)) ss ρ1)) ρ1
theorem roN {rd : List V → Hp → VK → Prop} {g : List Slot → Option Slot} {ks : List Kd} {r : List (Kd × EM)} (hk : ks = r.map (·.1)) (h : RON W rd g) : ∀ σ H Q, tO W Ew .t (eB r g) σ H Q → tCB rd (tAr W Ew ks (eArgs r)) σ H Q := by
  subst hk
  rintro σ H Q ⟨ts, tss, ρ, w, q⟩
  refine ⟨ts, tss, ρ, w, ?_⟩
  unfold eB at q
  cases ea : eArgs r ρ with
  | no => rw [ea] at q; exact q
  | er c d ρ' => rw [ea] at q; exact q
  | ok ss ρ1 =>
    rw [ea] at q
    simp only [Out.bind_ok] at q
    intro vs H1 hl w1 k1
    cases eg : g (slL (r.map (·.1)) ss ρ1) with
    | none => rw [eg] at q; exact q.elim
    | some s' =>
      rw [eg] at q
      obtain ⟨H0, hle, rdy, en, kr⟩ := World.res w1 hl
      exact h H0 H1 vs _ s' Q hle (rdys_sl en rdy k1) eg fun v' H' H0' r => q v' H' (kr r) trivial
end
end Dl
end
section
namespace Dl
open PySem L2

structure Ax (X : Cx) : Prop where
  un : X.A.units + 200 < cLine
  hd : X.A.handled = none
  gd : X.A.guards = some []
  calm : X.calm = true

mutual
def lay : Nat → D → Bool
  | _, .none => true
  | _, .bool _ => true
  | _, .int _ => true
  | _, .str _ => true
  | 0, .list _ => false
  | 0, .tuple _ => false
  | n + 1, .list xs => layL n xs
  | n + 1, .tuple xs => layL n xs
  | _, .dict _ => false
def layL : Nat → List D → Bool
  | _, [] => true
  | n, x :: xs => lay n x && layL n xs
end
mutual
theorem lay_plain : ∀ (n : Nat) (d : D), lay n d = true → d.plain = true
  | _, .none, _ => rfl
  | _, .bool _, _ => rfl
  | _, .int _, _ => rfl
  | _, .str _, _ => rfl
  | 0, .list _, h => by simp [lay] at h
  | 0, .tuple _, h => by simp [lay] at h
  | n + 1, .list xs, h => by simpa [PyData.plain] using layL_plain n xs (by simpa [lay] using h)
  | n + 1, .tuple xs, h => by simpa [PyData.plain] using layL_plain n xs (by simpa [lay] using h)
  | _, .dict _, h => by simp [lay] at h
theorem layL_plain : ∀ (n : Nat) (ds : List D), layL n ds = true → PyData.plainAll ds = true
  | _, [], _ => rfl
  | n, x :: xs, h => by
    have h' : lay n x = true ∧ layL n xs = true := by simpa [layL] using h
    simp [PyData.plainAll, lay_plain n x h'.1, layL_plain n xs h'.2]
end
mutual
theorem lay_depth : ∀ (n : Nat) (d : D), lay n d = true → d.depth ≤ n
  | _, .none, _ => by simp [PyData.depth]
  | _, .bool _, _ => by simp [PyData.depth]
  | _, .int _, _ => by simp [PyData.depth]
  | _, .str _, _ => by simp [PyData.depth]
  | 0, .list _, h => by simp [lay] at h
  | 0, .tuple _, h => by simp [lay] at h
  | n + 1, .list xs, h => by
    have := layL_depth n xs (by simpa [lay] using h)
    simp only [PyData.depth]; omega
  | n + 1, .tuple xs, h => by
    have := layL_depth n xs (by simpa [lay] using h)
    simp only [PyData.depth]; omega
  | _, .dict _, h => by simp [lay] at h
theorem layL_depth : ∀ (n : Nat) (ds : List D), layL n ds = true → PyData.depthAll ds ≤ n
  | _, [], _ => by simp [PyData.depthAll]
  | n, x :: xs, h => by
    have h' : lay n x = true ∧ layL n xs = true := by simpa [layL] using h
    have h1 := lay_depth n x h'.1
    have h2 := layL_depth n xs h'.2
    simp only [PyData.depthAll]
    omega
end
section
variable {X : Cx} {W : Wc} {Ew : XK} {pins : List (Addr × Obj)} {σ : St} {H H0 : Hp} {s : Shared} {v : V} {u : Value} {sl sl' : Slot} {d : D} {a : Addr} {xs : List V} {ds : List D}
mutual
theorem Rp.dp {K : Frag} {cl : ClsT} : ∀ {v : V} {d : D}, Rp K cl H v d → d.plain = true → Dp K H v d
  | _, _, .non, _ => .non
  | _, _, .bl b, _ => .bl b
  | _, _, .int i, _ => .int i
  | _, _, .str x, _ => .str x
  | _, _, .lst h t, e => .lst (.inl h) (RpL.dp t (by simpa [PyData.plain] using e))
  | _, _, .tup h t, e => .tup (SqT.of h) (RpL.dp t (by simpa [PyData.plain] using e))
  | _, _, .scr _ _, e => by simp [scrD, PyData.plain] at e
  | _, _, .dk _ _ _, e => by simp [dctD, PyData.plain] at e
  | _, _, .dt _ _ _, e => by simp [dctD, PyData.plain] at e
  | _, _, .ins _ _ _ _, e => by simp [insD, PyData.plain] at e
theorem RpL.dp {K : Frag} {cl : ClsT} : ∀ {vs : List V} {ds : List D}, RpL K cl H vs ds → PyData.plainAll ds = true → DpAll K H vs ds
  | _, _, .nil, _ => .nil
  | _, _, .cons r t, e => by
    rw [PyData.plainAll, Bool.and_eq_true] at e
    exact .cons (Rp.dp r e.1) (RpL.dp t e.2)
end
theorem Rdy.reads (I : Inv X pins σ H s) (hK : X.K = W.K) (hle : Le H0 H) (h : Rdy W H0 H v sl) (e : sl.d? = some d) (hp : d.plain = true) (r : RelV v u) : ∃ as, Reads s.heap u d as :=
  Dp.reads I d v u (by rw [hK]; exact (h.rp hle e).dp hp) r
theorem rd_list (I : Inv X pins σ H s) (h : Rd H a (.lst xs)) : xs.length ≤ sizeLine ∧ ∃ (its : List Value) (n : Nat), Vals xs its ∧ xs.length = its.length ∧ s.heap.get? a = some { cls := .type "list", data := .seq its.toArray n } := by
  obtain ⟨z, its, n, r, e⟩ := h.ok I.hok
  exact ⟨z, its, n, r, r.length, e⟩
theorem Rdy.tupH (hle : Le H0 H) (h : Rdy W H0 H v sl) (e : sl.d? = some (.tuple ds)) : ∃ a xs, v = .ref a ∧ H a = some (.tup xs) ∧ RpL W.K W.cl H0 xs ds ∧ Rp W.K W.cl H0 v (.tuple ds) := by
  obtain ⟨fp, h⟩ := h
  cases sl with
  | no => cases e
  | oi _ _ => cases e
  | fz d' =>
    cases e
    have h1 := h.1
    cases h1 with
    | tup h1 h2 => exact ⟨_, _, rfl, hle.tup h1, h2, .tup h1 h2⟩
  | ow c => rcases c with _ | ⟨t, _⟩ | ⟨t, _⟩ <;> first | cases e | (cases t <;> cases e)
def rG2 (W : Wc) (g : Slot → Slot → Option Slot) : R2 := fun x y H Q => ∃ H0 s1 s2 s', Le H0 H ∧ Rdy W H0 H x s1 ∧ Rdy W H0 H y s2 ∧ g s1 s2 = some s' ∧ ∀ v' H' H0', Res W H0 H H0' H' v' s' → Q v' H'
def rG1 (W : Wc) (g : Slot → Option Slot) : V → Hp → VK → Prop := fun x H Q => ∃ H0 s1 s', Le H0 H ∧ Rdy W H0 H x s1 ∧ g s1 = some s' ∧ ∀ v' H' H0', Res W H0 H H0' H' v' s' → Q v' H'
def rGN (W : Wc) (g : List Slot → Option Slot) : List V → Hp → VK → Prop := fun vs H Q => ∃ H0 ss s', Le H0 H ∧ Rdys W H0 H vs ss ∧ g ss = some s' ∧ ∀ v' H' H0', Res W H0 H H0' H' v' s' → Q v' H'
theorem roG2 {g : Slot → Slot → Option Slot} : RO2 W (rG2 W g) g := fun H0 H v1 v2 s1 s2 s' Q hle r1 r2 e q => ⟨H0, s1, s2, s', hle, r1, r2, e, q⟩
theorem roG1 {g : Slot → Option Slot} : RO1 W (rG1 W g) g := fun H0 H v1 s1 s' Q hle r1 e q => ⟨H0, s1, s', hle, r1, e, q⟩
theorem roGN {g : List Slot → Option Slot} : RON W (rGN W g) g := fun H0 H vs ss s' Q hle r1 e q => ⟨H0, ss, s', hle, r1, e, q⟩
theorem og2_data {f : Value → Value → Sem Value} {op : D → D → Option Slot} (hK : X.K = W.K)
    (h : ∀ (pins : List (Addr × Obj)) (s : Shared) (σ : St) (H H0 : Hp) (x y : V) (v u : Value) (Q : VK) (s1 s2 s' : Slot) (a b : D), Inv X pins σ H s → RelV x v → RelV y u → Le H0 H → Rdy W H0 H x s1 → Rdy W H0 H y s2 → s1.d? = some a → s2.d? = some b → op a b = some s' →
      (∀ v' H' H0', Res W H0 H H0' H' v' s' → Q v' H') → wpAny (model X.prog X.w) X.A (f v u) (EP X pins σ Q) X.xe s) : OpR X f (rG2 W (g2 op)) := by
  rintro pins s σ H x y v u Q I rx ry ⟨H0, s1, s2, s', hle, r1, r2, hg, q⟩
  obtain ⟨a, b, e1, e2, e3⟩ := g2_inv hg
  exact h pins s σ H H0 x y v u Q s1 s2 s' a b I rx ry hle r1 r2 e1 e2 e3 q

/-! ### arithmetic -/
def addOp : D → D → Option Slot
  | .int a, .int b => some (.fz (.int (a + b)))
  | .str x, .str y => if x.length + y.length ≤ sizeLine then some (.fz (.str (x ++ y))) else none
  | .list xs, .list ys => if xs.length + ys.length ≤ sizeLine then some (.ow (.lst (xs ++ ys))) else none
  | .tuple xs, .tuple ys => if xs.length + ys.length ≤ sizeLine then some (.fz (.tuple (xs ++ ys))) else none
  | _, _ => none
theorem og_add (hK : X.K = W.K) : OpR X (binaryOp .Add) (rG2 W (g2 addOp)) := og2_data hK fun pins s σ H H0 x y v u Q s1 s2 s' a b I rx ry hle r1 r2 e1 e2 e3 q => by
  cases a <;> cases b <;> simp only [addOp] at e3 <;> first | cases e3 | skip
  case int.int i j =>
    cases r1.int e1; cases r2.int e2
    exact op_add pins s σ H _ _ v u Q I rx ry ⟨i, j, rfl, rfl, q _ _ _ (.atom hle (.int _))⟩
  case str.str i j =>
    cases r1.str e1; cases r2.str e2
    split at e3
    · cases e3
      exact op_add_str pins s σ H _ _ v u Q I rx ry ⟨i, j, rfl, rfl, by assumption, q _ _ _ (.atom hle (.str _))⟩
    · cases e3
  case list.list i j =>
    split at e3
    · rename_i hz
      cases e3
      obtain ⟨l, xs, rfl, h1, p1⟩ := r1.lst hle e1
      obtain ⟨b, ys, rfl, h2, p2⟩ := r2.lst hle e2
      cases rx
      cases ry
      obtain ⟨z, its, n, r, hl, e⟩ := rd_list I h1
      obtain ⟨z2, its2, n2, r2, hl2, e2⟩ := rd_list I h2
      have l1 := p1.length
      have l2 := p2.length
      refine PySem.P.add_list e e2 ?_ (by rw [List.size_toArray, List.size_toArray]; omega)
      have ea : its.toArray ++ its2.toArray = (its ++ its2).toArray := by simp
      rw [ea]
      exact ⟨.ref _, _, I.lnew (t' := s.toks) (r.append r2) (by rw [List.length_append]; omega), rfl, q _ _ _ (.newL hle I.fresh (p1.append p2))⟩
    · cases e3
  case tuple.tuple i j =>
    split at e3
    · rename_i hz
      cases e3
      obtain ⟨l, xs, rfl, h1, p1, f1⟩ := r1.tupH hle e1
      obtain ⟨b, ys, rfl, h2, p2, f2⟩ := r2.tupH hle e2
      have l1 := p1.length
      have l2 := p2.length
      refine op_catA pins s σ H _ _ v u Q I rx ry ⟨l, b, xs, ys, rfl, rfl, SqT.of h1, SqT.of h2, by omega, fun e => ?_, fun _ e => ?_, fun _ _ p hp => ?_⟩
      · subst e
        cases p1
        exact q _ _ _ (.child hle f2)
      · subst e
        cases p2
        exact q _ _ _ (.child hle (by rw [List.append_nil]; exact f1))
      · exact q _ _ _ (.newT hle hp (p1.append p2))
    · cases e3
def intOp (c : Int → Int → Bool) (f : Int → Int → D) : D → D → Option Slot
  | .int a, .int b => if c a b then some (.fz (f a b)) else none
  | _, _ => none
theorem intOp_inv {c : Int → Int → Bool} {f : Int → Int → D} {a b : D} {s' : Slot} (h : intOp c f a b = some s') : ∃ i j, a = .int i ∧ b = .int j ∧ c i j = true ∧ s' = .fz (f i j) := by
  cases a <;> cases b <;> simp only [intOp] at h <;> first | cases h | skip
  rename_i i j
  split at h
  · cases h; exact ⟨i, j, rfl, rfl, by assumption, rfl⟩
  · cases h
def subOp : D → D → Option Slot := intOp (fun _ _ => true) fun a b => .int (a - b)
def mulOp : D → D → Option Slot := intOp (fun a b => decide (a.natAbs.log2 + b.natAbs.log2 < 1000000)) fun a b => .int (a * b)
def modOp : D → D → Option Slot := intOp (fun _ b => decide (0 < b)) fun a b => .int (a % b)
def fdivOp : D → D → Option Slot := intOp (fun _ b => decide (0 < b ∧ b.natAbs.log2 < 9000)) fun a b => .int (a / b)
def powOp : D → D → Option Slot := intOp (fun a b => decide (0 ≤ b ∧ (Builtin.Int.intBits a : Int) * b ≤ 2 ^ 27)) fun a b => .int (a ^ b.toNat)
theorem og_mul (hK : X.K = W.K) : OpR X (binaryOp .Mult) (rG2 W (g2 mulOp)) := og2_data hK fun pins s σ H H0 x y v u Q s1 s2 s' a b I rx ry hle r1 r2 e1 e2 e3 q => by
  obtain ⟨i, j, rfl, rfl, hc, rfl⟩ := intOp_inv e3
  cases r1.int e1; cases r2.int e2
  exact op_mulW pins s σ H _ _ v u Q I rx ry ⟨i, j, rfl, rfl, (show i.natAbs.log2 + j.natAbs.log2 < 1000000 from of_decide_eq_true hc), q _ _ _ (.atom hle (.int _))⟩
theorem og_mod (hK : X.K = W.K) : OpR X (binaryOp .Mod) (rG2 W (g2 modOp)) := og2_data hK fun pins s σ H H0 x y v u Q s1 s2 s' a b I rx ry hle r1 r2 e1 e2 e3 q => by
  obtain ⟨i, j, rfl, rfl, hc, rfl⟩ := intOp_inv e3
  cases r1.int e1; cases r2.int e2
  exact op_mod pins s σ H _ _ v u Q I rx ry ⟨i, j, rfl, rfl, of_decide_eq_true hc, q _ _ _ (.atom hle (.int _))⟩
theorem og_fdiv (hK : X.K = W.K) : OpR X (binaryOp .FloorDiv) (rG2 W (g2 fdivOp)) := og2_data hK fun pins s σ H H0 x y v u Q s1 s2 s' a b I rx ry hle r1 r2 e1 e2 e3 q => by
  obtain ⟨i, j, rfl, rfl, hc, rfl⟩ := intOp_inv e3
  cases r1.int e1; cases r2.int e2
  exact op_fdivW pins s σ H _ _ v u Q I rx ry ⟨i, j, rfl, rfl, (show 0 < j ∧ j.natAbs.log2 < 9000 from of_decide_eq_true hc), q _ _ _ (.atom hle (.int _))⟩
theorem og_pow (hK : X.K = W.K) : OpR X (binaryOp .Pow) (rG2 W (g2 powOp)) := og2_data hK fun pins s σ H H0 x y v u Q s1 s2 s' a b I rx ry hle r1 r2 e1 e2 e3 q => by
  obtain ⟨i, j, rfl, rfl, hc, rfl⟩ := intOp_inv e3
  cases r1.int e1; cases r2.int e2
  obtain ⟨t, rfl⟩ := rx
  obtain ⟨t', rfl⟩ := ry
  obtain ⟨h1, h2⟩ := of_decide_eq_true hc
  exact PyProof.Rows.pow_int h1 h2 ⟨.int _, H, I.tok _, ⟨_, rfl⟩, q _ _ _ (.atom hle (.int _))⟩
def negOp : D → Option Slot
  | .int a => some (.fz (.int (-a)))
  | _ => none
theorem og_neg : UnR X (unaryOp .USub) (rG1 W (g1 negOp)) := by
  rintro pins s σ H x v Q I rx ⟨H0, s1, s', hle, r1, hg, q⟩
  obtain ⟨a, e1, e3⟩ := g1_inv hg
  cases a <;> simp only [negOp] at e3 <;> first | cases e3 | skip
  rename_i i
  cases r1.int e1
  exact un_neg pins s σ H _ v Q I rx ⟨i, rfl, q _ _ _ (.atom hle (.int _))⟩

/-! ### comparisons -/
def eqOp (a b : D) : Option Slot := if lay 60 a && lay 60 b then some (.fz (.bool (PyData.eqv a b))) else none
def neOp (a b : D) : Option Slot := if lay 60 a && lay 60 b then some (.fz (.bool (!PyData.eqv a b))) else none
theorem lay60 (ax : Ax X) {a b : D} (h : (lay 60 a && lay 60 b) = true) : a.plain = true ∧ b.plain = true ∧ X.A.units + min a.depth b.depth < cLine := by
  rw [Bool.and_eq_true] at h
  have h1 := lay_depth 60 a h.1
  have := ax.un
  exact ⟨lay_plain 60 a h.1, lay_plain 60 b h.2, by omega⟩
theorem og_eq (ax : Ax X) (hK : X.K = W.K) : OpR X (compareOp .Eq) (rG2 W (g2 eqOp)) := og2_data hK fun pins s σ H H0 x y v u Q s1 s2 s' a b I rx ry hle r1 r2 e1 e2 e3 q => by
  unfold eqOp at e3
  split at e3
  · rename_i hl
    cases e3
    obtain ⟨p1, p2, hu⟩ := lay60 ax hl
    obtain ⟨as, ra⟩ := r1.reads I hK hle e1 p1 rx
    obtain ⟨bs, rb⟩ := r2.reads I hK hle e2 p2 ry
    exact PySem.SeqAt.eq_plain ra rb p1 p2 hu ⟨.bl _, H, I, rfl, q _ _ _ (.atom hle (.bl _))⟩
  · cases e3
theorem og_ne (ax : Ax X) (hK : X.K = W.K) : OpR X (compareOp .NotEq) (rG2 W (g2 neOp)) := og2_data hK fun pins s σ H H0 x y v u Q s1 s2 s' a b I rx ry hle r1 r2 e1 e2 e3 q => by
  unfold neOp at e3
  split at e3
  · rename_i hl
    cases e3
    obtain ⟨p1, p2, hu⟩ := lay60 ax hl
    obtain ⟨as, ra⟩ := r1.reads I hK hle e1 p1 rx
    obtain ⟨bs, rb⟩ := r2.reads I hK hle e2 p2 ry
    exact PySem.SeqAt.ne_plain ra rb p1 p2 hu ⟨.bl _, H, I, rfl, q _ _ _ (.atom hle (.bl _))⟩
  · cases e3
def isNon : D → Bool
  | .none => true
  | _ => false
def ordOk (a b : D) : Bool := lay 60 a && lay 60 b && PySem.W.alike a b && !isNon a
def ordOp (f : D → D → Bool) (a b : D) : Option Slot := if ordOk a b then some (.fz (.bool (f a b))) else none
abbrev ltOp := ordOp PySem.W.dataLt
abbrev gtOp := ordOp fun a b => PySem.W.dataLt b a
abbrev leOp := ordOp fun a b => !PySem.W.dataLt b a
abbrev geOp := ordOp fun a b => !PySem.W.dataLt a b
theorem og_ord (ax : Ax X) (hK : X.K = W.K) {op : CmpOp} {f : D → D → Bool}
    (h : ∀ {A : Around} {E : Value → Shared → Prop} {s : Shared} {a b : Value} {da db : D} {as bs : List Addr} {Q : Value → Shared → Prop}, Reads s.heap a da as → Reads s.heap b db bs → PySem.W.alike da db = true → da ≠ .none → A.units + min da.depth db.depth < cLine → Q (.bool (f da db)) s →
      wpAny (model X.prog X.w) A (compareOp op a b) Q E s) : OpR X (compareOp op) (rG2 W (g2 (ordOp f))) := og2_data hK fun pins s σ H H0 x y v u Q s1 s2 s' a b I rx ry hle r1 r2 e1 e2 e3 q => by
  unfold ordOp ordOk at e3
  split at e3
  · rename_i hl
    cases e3
    rw [Bool.and_eq_true, Bool.and_eq_true] at hl
    obtain ⟨p1, p2, hu⟩ := lay60 ax hl.1.1
    obtain ⟨as, ra⟩ := r1.reads I hK hle e1 p1 rx
    obtain ⟨bs, rb⟩ := r2.reads I hK hle e2 p2 ry
    exact h ra rb hl.1.2 (fun z => by subst z; exact absurd hl.2 (by simp [isNon])) hu ⟨.bl _, H, I, rfl, q _ _ _ (.atom hle (.bl _))⟩
  · cases e3
theorem og_lt (ax : Ax X) (hK : X.K = W.K) : OpR X (compareOp .Lt) (rG2 W (g2 ltOp)) := og_ord ax hK fun ra rb h1 h2 h3 h4 => PySem.W.lt_data ra rb h1 h2 h3 h4
theorem og_gt (ax : Ax X) (hK : X.K = W.K) : OpR X (compareOp .Gt) (rG2 W (g2 gtOp)) := og_ord ax hK fun ra rb h1 h2 h3 h4 => PySem.W.gt_data ra rb h1 h2 h3 h4
theorem og_ge (ax : Ax X) (hK : X.K = W.K) : OpR X (compareOp .GtE) (rG2 W (g2 geOp)) := og_ord ax hK fun ra rb h1 h2 h3 h4 => PySem.W.ge_data ra rb h1 h2 h3 h4
def inOp (neg : Bool) (x c : D) : Option Slot := match c with
  | .list ds => if lay 60 x && layL 60 ds then some (.fz (.bool (neg != ds.any fun y => PyData.eqv y x))) else none
  | .tuple ds => if lay 60 x && layL 60 ds then some (.fz (.bool (neg != ds.any fun y => PyData.eqv y x))) else none
  | .str z => match x with
    | .str y => some (.fz (.bool (neg != !(Builtin.Str.occurrences z y 0 z.length 1).isEmpty)))
    | _ => none
  | _ => none
end
end Dl
end
section
namespace Dl
open PySem L2

/-! ### dicts -/
def flatD : D → Option Key
  | .int i => some (.inl i)
  | .str x => some (.inr x)
  | _ => none
def flatsD : List D → Option (List Key)
  | [] => some []
  | d :: ds => (flatD d).bind fun k => (flatsD ds).map fun ks => k :: ks
theorem flatD_key {d : D} {k : Key} (h : flatD d = some k) : d = keyD k := by
  cases d <;> simp only [flatD] at h <;> first | cases h | skip
  · rfl
  · rfl
theorem flatsD_keys : ∀ {ds : List D} {ks : List Key}, flatsD ds = some ks → ds = ks.map keyD
  | [], ks, h => by simp [flatsD] at h; subst h; rfl
  | d :: ds, ks, h => by
    simp only [flatsD] at h
    cases e : flatD d with
    | none => rw [e] at h; cases h
    | some k =>
      rw [e] at h
      simp only [Option.bind_some] at h
      cases e2 : flatsD ds with
      | none => rw [e2] at h; cases h
      | some ks' =>
        rw [e2] at h
        cases h
        rw [flatD_key e, flatsD_keys e2]
        rfl
def isKey : Bool → D → Bool
  | false, d => (flatD d).isSome
  | true, .tuple ds => (flatsD ds).isSome
  | true, _ => false
def dGet (kvs : List (D × D)) (k : D) : Option D := (kvs.find? fun e => PyData.eqv e.1 k).map (·.2)
theorem eqv_keyD (a b : Key) : PyData.eqv (keyD a) (keyD b) = decide (a = b) := by
  cases a with
  | inl i =>
    cases b with
    | inl j => rw [key_ll]; simp [keyD, PyData.eqv]
    | inr y => rw [key_lr]; simp [keyD, PyData.eqv]
  | inr x =>
    cases b with
    | inl j => rw [key_rl]; simp [keyD, PyData.eqv]
    | inr y => rw [key_rr]; simp only [keyD, PyData.eqv]; by_cases e : x = y <;> simp [e]
theorem eqvAll_keys : ∀ a b : List Key, PyData.eqvAll (a.map keyD) (b.map keyD) = decide (a = b)
  | [], [] => by simp [PyData.eqvAll]
  | [], _ :: _ => by simp [PyData.eqvAll]
  | _ :: _, [] => by simp [PyData.eqvAll]
  | a :: as, b :: bs => by
    simp only [List.map_cons, PyData.eqvAll, eqv_keyD, eqvAll_keys as bs, List.cons.injEq, Bool.decide_and]
theorem eqv_keysD (a b : List Key) : PyData.eqv (keysD a) (keysD b) = decide (a = b) := by
  simp only [keysD, PyData.eqv, eqvAll_keys]
section
variable {K : Frag} {cl : ClsT} {H : Hp}
theorem val_get {κ : Type} [DecidableEq κ] (enc : κ → D) (he : ∀ a b, PyData.eqv (enc a) (enc b) = decide (a = b)) : ∀ {l : List (κ × V)} {kvs : List (D × D)} (k : κ), kvs.map (·.1) = l.map (fun e => enc e.1) → RpL K cl H (l.map (·.2)) (kvs.map (·.2)) →
    (valV l k = none ∧ dGet kvs (enc k) = none) ∨ ∃ v d, valV l k = some v ∧ dGet kvs (enc k) = some d ∧ Rp K cl H v d
  | [], [], k, _, _ => .inl ⟨rfl, rfl⟩
  | [], _ :: _, _, e, _ => by simp at e
  | _ :: _, [], _, e, _ => by simp at e
  | (k0, v0) :: l, (d0, e0) :: kvs, k, e, h => by
    simp only [List.map_cons, List.cons.injEq] at e h
    obtain ⟨e1, e2⟩ := e
    subst e1
    cases h with
    | cons h1 h2 =>
      by_cases q : k0 = k
      · subst q
        refine .inr ⟨v0, e0, valV_pos rfl, ?_, h1⟩
        unfold dGet
        rw [List.find?_cons_of_pos (by rw [he]; simp)]
        rfl
      · have a : valV ((k0, v0) :: l) k = valV l k := valV_neg q
        have b : dGet ((enc k0, e0) :: kvs) (enc k) = dGet kvs (enc k) := by
          unfold dGet
          rw [List.find?_cons_of_neg (by rw [he]; simp [q])]
        rw [a, b]
        exact val_get enc he k e2 h2
theorem keys_no {l : List (Key × V)} {x : D} {r : List (D × D)} (h : (((.none, x) :: r : List (D × D))).map (·.1) = l.map (fun e => keyD e.1)) : False := by
  cases l with
  | nil => simp at h
  | cons e l => obtain ⟨k, w⟩ := e; cases k <;> simp [keyD] at h
theorem DctOk.no {u : HO} {x : D} {r : List (D × D)} (h : DctOk K cl H u false ((.none, x) :: r)) : False := by
  obtain ⟨l, _, h2, _⟩ := h
  exact keys_no h2
theorem dctD_inj {t t' : Bool} {kvs kvs' : List (D × D)} {u : HO} (e : dctD t' kvs' = dctD t kvs) (h : DctOk K cl H u t' kvs') (hn : t = false → ∀ x r, kvs ≠ (.none, x) :: r) : t' = t ∧ kvs' = kvs := by
  cases t <;> cases t' <;> simp only [dctD, PyData.dict.injEq] at e
  · exact ⟨rfl, e⟩
  · exact absurd e.symm (hn rfl _ _)
  · subst e; exact h.no.elim
  · simp only [List.cons.injEq, true_and] at e; exact ⟨rfl, e⟩
theorem Rp.dct {v : V} {t : Bool} {kvs : List (D × D)} (h : Rp K cl H v (dctD t kvs)) (hn : t = false → ∀ x r, kvs ≠ (.none, x) :: r) (hm : t = true → True) : ∃ a u, v = .ref a ∧ Rd H a u ∧ DctOk K cl H u t kvs := by
  generalize hd : dctD t kvs = d at h
  cases h with
  | @dk a l kvs' h1 h2 h3 =>
    obtain ⟨rfl, rfl⟩ := dctD_inj (K := K) (cl := cl) (H := H) (u := .dK l) hd.symm ⟨l, rfl, h2, h3⟩ hn
    exact ⟨a, _, rfl, h1, l, rfl, h2, h3⟩
  | @dt a l kvs' h1 h2 h3 =>
    obtain ⟨rfl, rfl⟩ := dctD_inj (K := K) (cl := cl) (H := H) (u := .dT l) hd.symm ⟨l, rfl, h2, h3⟩ hn
    exact ⟨a, _, rfl, h1, l, rfl, h2, h3⟩
  | ins _ _ _ _ =>
    cases t
    · simp only [dctD, insD, PyData.dict.injEq] at hd; exact absurd hd (hn rfl _ _)
    · simp [dctD, insD] at hd
  | scr _ _ =>
    cases t
    · simp only [dctD, scrD, PyData.dict.injEq] at hd; exact absurd hd (hn rfl _ _)
    · simp [dctD, scrD] at hd
  | exc _ _ _ _ =>
    cases t
    · simp only [dctD, excD, PyData.dict.injEq] at hd; exact absurd hd (hn rfl _ _)
    · simp [dctD, excD] at hd
  | _ => cases t <;> cases hd
theorem Rdy.dct {W : Wc} {H0 H : Hp} {v : V} {s : Slot} {kvs : List (D × D)} {t : Bool} (hle : Le H0 H) (h : Rdy W H0 H v s) (e : s.d? = some (dctD t kvs)) (hn : t = false → ∀ x r, kvs ≠ (.none, x) :: r) :
    ∃ a u, v = .ref a ∧ Rd H a u ∧ DctOk W.K W.cl H0 u t kvs := by
  obtain ⟨fp, h⟩ := h
  cases s with
  | no => cases e
  | oi _ _ => cases e
  | fz d' =>
    simp only [Slot.d_fz, Option.some.injEq] at e
    have h1 := h.1
    rw [e] at h1
    obtain ⟨a, u, h2, h3, h4⟩ := h1.dct hn fun _ => trivial
    exact ⟨a, u, h2, hle.dict h4.lkD h3, h4⟩
  | ow c =>
    obtain ⟨a, rfl, hc, _⟩ := h
    cases c with
    | lst ds => cases t <;> cases e
    | dct t' kvs' =>
      obtain ⟨u, h1, h2⟩ := hc
      obtain ⟨rfl, rfl⟩ := dctD_inj (Option.some.inj e) h2 hn
      exact ⟨a, u, rfl, .inl h1, h2⟩
    | lk t' kvs' =>
      obtain ⟨u, o, h1, h2⟩ := hc
      obtain ⟨rfl, rfl⟩ := dctD_inj (Option.some.inj e) h2 hn
      exact ⟨a, u, rfl, .inr ⟨o, h1⟩, h2⟩
    | gd kvs => cases e
end
def asDct : D → Option (Bool × List (D × D))
  | .dict [] => some (false, [])
  | .dict ((.none, .bool true) :: kvs) => some (true, kvs)
  | .dict ((.none, _) :: _) => none
  | .dict kvs => some (false, kvs)
  | _ => none
theorem asDct_inv {d : D} {t : Bool} {kvs : List (D × D)} (h : asDct d = some (t, kvs)) : d = dctD t kvs ∧ (t = false → ∀ x r, kvs ≠ (.none, x) :: r) := by
  unfold asDct at h
  split at h
  · cases h; exact ⟨rfl, fun _ x r e => by cases e⟩
  · cases h; exact ⟨rfl, fun e => by cases e⟩
  · cases h
  · rename_i kvs' h1 h2 h3
    cases h
    exact ⟨rfl, fun _ x r e => h3 x r (by rw [e])⟩
  · cases h

section
variable {X : Cx} {W : Wc} {Ew : XK} {pins : List (Addr × Obj)} {σ : St} {H H0 : Hp} {s : Shared} {v : V} {u : Value} {sl sl' : Slot} {d : D} {a : Addr} {xs : List V} {ds : List D}
theorem Rdy.scrd (hle : Le H0 H) (h : Rdy W H0 H v sl) (e : sl.d? = some (scrD ds)) : ∃ a xs, v = .ref a ∧ SqL W.K H a xs ∧ RpL W.K W.cl H0 xs ds := by
  cases sl with
  | no => cases e
  | oi _ _ => cases e
  | fz d' => cases e; exact h.scr hle
  | ow c =>
    obtain ⟨fp, h⟩ := h
    obtain ⟨a, rfl, hc, _⟩ := h
    cases c with
    | lst ds => cases e
    | dct t kvs =>
      obtain ⟨u, _, h2⟩ := hc
      cases t with
      | false => simp only [Slot.d_od, dctD, scrD, Option.some.injEq, PyData.dict.injEq] at e; subst e; exact h2.no.elim
      | true => simp [dctD, scrD] at e
    | lk t kvs =>
      obtain ⟨u, o, _, h2⟩ := hc
      cases t with
      | false => simp only [Slot.d_lk, dctD, scrD, Option.some.injEq, PyData.dict.injEq] at e; subst e; exact h2.no.elim
      | true => simp [dctD, scrD] at e
    | gd kvs => cases e
theorem RpL.atI {K : Frag} {cl : ClsT} {i : Int} (h : RpL K cl H xs ds) (e : L2.atI ds i = some d) : ∃ v, L2.atI xs i = some v ∧ Rp K cl H v d := by
  unfold L2.atI at e ⊢
  rw [h.length]
  cases q : ixN ds.length i with
  | none => rw [q] at e; cases e
  | some j =>
    rw [q] at e
    exact h.getD e
/-! ### subscripts -/
def dIx (d k : D) : Option Slot := match asDct d with
  | some (t, kvs) => if isKey t k then (dGet kvs k).map .fz else none
  | none => none
def ixOp : D → D → Option Slot
  | .list ds, .int i => (L2.atI ds i).map .fz
  | .tuple ds, .int i => (L2.atI ds i).map .fz
  | .str z, .int i => if z.length ≤ sizeLine then (L2.atI z.cps.toList i).map fun c => .fz (.str ⟨#[c]⟩) else none
  | .dict [(.none, .list ds)], .int i => (L2.atI ds i).map .fz
  | .dict kvs, k => dIx (.dict kvs) k
  | _, _ => none
theorem dget_of {H0 : Hp} (hle : Le H0 H) {u : HO} {t : Bool} {kvs : List (D × D)} {k : D} {y : V} (hd : Rd H a u) (ho : DctOk W.K W.cl H0 u t kvs) (hk : isKey t k = true) (ry : Rp W.K W.cl H y k) :
    (DGet H a y none ∧ dGet kvs k = none) ∨ ∃ v d, DGet H a y (some v) ∧ dGet kvs k = some d ∧ Rp W.K W.cl H0 v d := by
  cases t with
  | false =>
    obtain ⟨l, rfl, h2, h3⟩ := ho
    simp only [isKey] at hk
    obtain ⟨k', e⟩ := Option.isSome_iff_exists.mp hk
    have ek := flatD_key e
    subst ek
    have ey : y = kV k' := by
      cases k' with
      | inl i => unfold keyD at ry; cases ry; rfl
      | inr x => unfold keyD at ry; cases ry; rfl
    subst ey
    rcases val_get keyD eqv_keyD k' h2 h3 with ⟨q1, q2⟩ | ⟨v, d, q1, q2, q3⟩
    · exact .inl ⟨.inl ⟨l, k', hd, rfl, q1.symm⟩, q2⟩
    · exact .inr ⟨v, d, .inl ⟨l, k', hd, rfl, q1.symm⟩, q2, q3⟩
  | true =>
    obtain ⟨l, rfl, h2, h3⟩ := ho
    cases k with
    | tuple ks =>
      simp only [isKey] at hk
      obtain ⟨k', e⟩ := Option.isSome_iff_exists.mp hk
      have ek := flatsD_keys e
      subst ek
      cases ry with
      | @tup b ys _ e1 e2 =>
        have ey : ys = k'.map kV := by
          clear e hk
          have : ∀ {ys : List V} {k' : List Key}, RpL W.K W.cl H ys (k'.map keyD) → ys = k'.map kV := by
            intro ys k'
            induction k' generalizing ys with
            | nil => intro h; cases h; rfl
            | cons k ks ih =>
              intro h
              cases h with
              | cons h1 h2 =>
                rw [List.map_cons, ← ih h2]
                congr 1
                cases k with
                | inl i => unfold keyD at h1; cases h1; rfl
                | inr x => unfold keyD at h1; cases h1; rfl
          exact this e2
        subst ey
        rcases val_get keysD eqv_keysD k' h2 h3 with ⟨q1, q2⟩ | ⟨v, d, q1, q2, q3⟩
        · exact .inl ⟨.inr ⟨l, k', b, hd, rfl, e1, q1.symm⟩, q2⟩
        · exact .inr ⟨v, d, .inr ⟨l, k', b, hd, rfl, e1, q1.symm⟩, q2, q3⟩
    | _ => simp [isKey] at hk
theorem og_ix (ax : Ax X) (hK : X.K = W.K) : IxR X (rG2 W (g2 ixOp)) := by
  rintro value slice pins s σ H x y v u Q I rx ry ⟨H0, s1, s2, s', hle, r1, r2, hg, q⟩ hs
  obtain ⟨a, b, e1, e2, e3⟩ := g2_inv hg
  unfold ixOp at e3
  split at e3
  · obtain ⟨d, e4, e5⟩ := Option.map_eq_some_iff.mp e3
    subst e5
    obtain ⟨l, xs, rfl, h1, p1⟩ := r1.lst hle e1
    obtain ⟨w, hw, rw'⟩ := p1.atI e4
    cases r2.int e2
    exact ix_list value slice pins s σ H _ _ v u Q I rx ry ⟨l, xs, _, w, rfl, rfl, .inl h1, hw, q _ _ _ (.child hle rw')⟩ hs
  · obtain ⟨d, e4, e5⟩ := Option.map_eq_some_iff.mp e3
    subst e5
    obtain ⟨l, xs, rfl, h1, p1⟩ := r1.tup hle e1
    obtain ⟨w, hw, rw'⟩ := p1.atI e4
    cases r2.int e2
    exact ix_tup value slice pins s σ H _ _ v u Q I rx ry ⟨l, xs, _, w, rfl, rfl, SqT.of h1, hw, q _ _ _ (.child hle rw')⟩ hs
  · split at e3
    · obtain ⟨d, e4, e5⟩ := Option.map_eq_some_iff.mp e3
      subst e5
      cases r1.str e1
      cases r2.int e2
      exact ix_str value slice pins s σ H _ _ v u Q I rx ry ⟨_, _, d, rfl, rfl, by assumption, e4, q _ _ _ (.atom hle (.str _))⟩ hs
    · cases e3
  · obtain ⟨d, e4, e5⟩ := Option.map_eq_some_iff.mp e3
    subst e5
    obtain ⟨l, xs, rfl, h1, p1⟩ := r1.scrd hle e1
    obtain ⟨w, hw, rw'⟩ := p1.atI e4
    cases r2.int e2
    exact ix_list value slice pins s σ H _ _ v u Q I rx ry ⟨l, xs, _, w, rfl, rfl, by rw [hK]; exact h1, hw, q _ _ _ (.child hle rw')⟩ hs
  · unfold dIx at e3
    split at e3
    · rename_i t kvs' ea
      split at e3
      · rename_i hk
        obtain ⟨d, e4, e5⟩ := Option.map_eq_some_iff.mp e3
        subst e5
        obtain ⟨ed, hn⟩ := asDct_inv ea
        rw [ed] at e1
        obtain ⟨l, uo, rfl, h1, h2⟩ := r1.dct hle e1 hn
        cases rx
        rcases dget_of hle h1 h2 hk (r2.rp hle e2) with ⟨_, z⟩ | ⟨w, d', g, z, rw'⟩
        · rw [e4] at z; cases z
        · rw [e4] at z
          cases z
          have hu : X.A.units + 1 < cLine := by have := ax.un; omega
          exact PyProof.Rows.tail_any (dict_typeIs I g) PySem.F.slot_dict_getitem.lookup (d_getItem hu I g ry fun w' s3 I3 rw2 => ⟨w, H, I3, rw2, q _ _ _ (.child hle rw')⟩) hs
      · cases e3
    · cases e3
  · cases e3
def inOpD (neg : Bool) (x c : D) : Option Slot := match asDct c with
  | some (t, kvs) => if isKey t x then some (.fz (.bool (neg != (dGet kvs x).isSome))) else none
  | none => inOp neg x c
/-! ### slices -/
def cutD (ds : List D) (lo hi : Option Int) : List D := (ds.drop (HT.sIx ds.length 0 lo)).take (HT.sIx ds.length ds.length hi - HT.sIx ds.length 0 lo)
def slOp (lo hi : Option Int) : D → Option Slot
  | .list ds => some (.ow (.lst (cutD ds lo hi)))
  | .tuple ds => some (.fz (.tuple (cutD ds lo hi)))
  | .str z => if z.length ≤ sizeLine then some (.fz (.str (cutS z lo hi))) else none
  | .dict [(.none, .list ds)] => some (.ow (.lst (cutD ds lo hi)))
  | _ => none
def rSl (W : Wc) : V → Option Int → Option Int → Hp → VK → Prop := fun x lo hi H Q => ∃ H0 s1 s', Le H0 H ∧ Rdy W H0 H x s1 ∧ g1 (slOp lo hi) s1 = some s' ∧ ∀ v' H' H0', Res W H0 H H0' H' v' s' → Q v' H'
end
end Dl
end
section
namespace Dl
open PySem L2

def gN1 (op : D → Option Slot) : List Slot → Option Slot
  | [s] => s.d?.bind op
  | _ => none
def gN2 (op : D → D → Option Slot) : List Slot → Option Slot
  | [s, t] => s.d?.bind fun a => t.d?.bind fun b => op a b
  | _ => none
theorem gN1_inv {op : D → Option Slot} {ss : List Slot} {s' : Slot} (h : gN1 op ss = some s') : ∃ s d, ss = [s] ∧ s.d? = some d ∧ op d = some s' := by
  unfold gN1 at h
  split at h
  · rename_i s
    cases e : s.d? with
    | none => rw [e] at h; cases h
    | some d => rw [e] at h; exact ⟨s, d, rfl, e, h⟩
  · cases h
theorem gN2_inv {op : D → D → Option Slot} {ss : List Slot} {s' : Slot} (h : gN2 op ss = some s') : ∃ s t a b, ss = [s, t] ∧ s.d? = some a ∧ t.d? = some b ∧ op a b = some s' := by
  unfold gN2 at h
  split at h
  · rename_i s t
    cases e : s.d? with
    | none => rw [e] at h; cases h
    | some a =>
      rw [e] at h
      cases e2 : t.d? with
      | none => rw [e2] at h; cases h
      | some b => rw [e2] at h; exact ⟨s, t, a, b, rfl, e, e2, h⟩
  · cases h
section
variable {X : Cx} {W : Wc} {Ew : XK} {pins : List (Addr × Obj)} {σ : St} {H H0 : Hp} {s : Shared} {v : V} {u : Value} {sl sl' : Slot} {d : D} {a : Addr} {xs : List V} {ds : List D}
theorem Rdys.one {s : Slot} {vs : List V} (h : Rdys W H0 H vs [s]) : ∃ v, vs = [v] ∧ Rdy W H0 H v s := by
  cases h with
  | cons h t => cases t; exact ⟨_, rfl, h⟩
theorem Rdys.two {s t : Slot} {vs : List V} (h : Rdys W H0 H vs [s, t]) : ∃ v w, vs = [v, w] ∧ Rdy W H0 H v s ∧ Rdy W H0 H w t := by
  cases h with
  | cons h r => obtain ⟨w, rfl, h2⟩ := r.one; exact ⟨_, _, rfl, h, h2⟩
theorem ogN1 {f : Value} {op : D → Option Slot}
    (h : ∀ (pins : List (Addr × Obj)) (s : Shared) (σ : St) (H H0 : Hp) (x : V) (us : List Value) (Q : VK) (s1 s' : Slot) (a : D), Inv X pins σ H s → Vals [x] us → Le H0 H → Rdy W H0 H x s1 → s1.d? = some a → op a = some s' →
      (∀ v' H' H0', Res W H0 H H0' H' v' s' → Q v' H') → wpAny (model X.prog X.w) X.A (call f us) (EP X pins σ Q) X.xe s) : CallR X f (rGN W (gN1 op)) := by
  rintro pins s σ H xs us Q I r ⟨H0, ss, s', hle, rd, hg, q⟩
  obtain ⟨s1, d, rfl, e1, e2⟩ := gN1_inv hg
  obtain ⟨v, rfl, r1⟩ := rd.one
  exact h pins s σ H H0 v us Q s1 s' d I r hle r1 e1 e2 q
theorem ogN2 {f : Value} {op : D → D → Option Slot}
    (h : ∀ (pins : List (Addr × Obj)) (s : Shared) (σ : St) (H H0 : Hp) (x y : V) (us : List Value) (Q : VK) (s1 s2 s' : Slot) (a b : D), Inv X pins σ H s → Vals [x, y] us → Le H0 H → Rdy W H0 H x s1 → Rdy W H0 H y s2 → s1.d? = some a → s2.d? = some b → op a b = some s' →
      (∀ v' H' H0', Res W H0 H H0' H' v' s' → Q v' H') → wpAny (model X.prog X.w) X.A (call f us) (EP X pins σ Q) X.xe s) : CallR X f (rGN W (gN2 op)) := by
  rintro pins s σ H xs us Q I r ⟨H0, ss, s', hle, rd, hg, q⟩
  obtain ⟨s1, s2, a, b, rfl, e1, e2, e3⟩ := gN2_inv hg
  obtain ⟨v, w, rfl, r1, r2⟩ := rd.two
  exact h pins s σ H H0 v w us Q s1 s2 s' a b I r hle r1 r2 e1 e2 e3 q

/-! ### len -/
def lenOp : D → Option Slot
  | .list ds => some (.fz (.int ds.length))
  | .tuple ds => some (.fz (.int ds.length))
  | .str z => if z.length ≤ sizeLine then some (.fz (.int z.length)) else none
  | .dict [(.none, .list ds)] => some (.fz (.int ds.length))
  | .dict kvs => match asDct (.dict kvs) with
    | some (false, l) => some (.fz (.int l.length))
    | _ => none
  | _ => none
theorem og_len (hK : X.K = W.K) : CallR X (.builtin "len") (rGN W (gN1 lenOp)) := ogN1 fun pins s σ H H0 x us Q s1 s' a I r hle r1 e1 e3 q => by
  unfold lenOp at e3
  split at e3
  · cases e3
    obtain ⟨l, xs, rfl, h1, p1⟩ := r1.lst hle e1
    exact call_len_seq pins s σ H _ us Q I r ⟨l, xs, rfl, .inl (.inl h1), q _ _ _ (.atom hle (by rw [p1.length]; exact .int _))⟩
  · cases e3
    obtain ⟨l, xs, rfl, h1, p1⟩ := r1.tup hle e1
    exact call_len_seq pins s σ H _ us Q I r ⟨l, xs, rfl, .inr (SqT.of h1), q _ _ _ (.atom hle (by rw [p1.length]; exact .int _))⟩
  · split at e3
    · cases e3
      cases r1.str e1
      exact call_len_str pins s σ H _ us Q I r ⟨_, rfl, by assumption, q _ _ _ (.atom hle (.int _))⟩
    · cases e3
  · cases e3
    obtain ⟨l, xs, rfl, h1, p1⟩ := r1.scrd hle e1
    exact call_len_seq pins s σ H _ us Q I r ⟨l, xs, rfl, .inl (by rw [hK]; exact h1), q _ _ _ (.atom hle (by rw [p1.length]; exact .int _))⟩
  · split at e3
    · rename_i l ea
      cases e3
      obtain ⟨ed, hn⟩ := asDct_inv ea
      rw [ed] at e1
      obtain ⟨b, uo, rfl, h1, h2⟩ := r1.dct hle e1 hn
      obtain ⟨l', rfl, h3, h4⟩ := h2
      obtain ⟨u, rfl, rx⟩ := vals1 r
      cases rx
      have hl : l'.length = l.length := by have := congrArg List.length h3; simpa using this.symm
      exact d_len I h1 fun t s' I' => ⟨.int l'.length, H, I', ⟨_, rfl⟩, q _ _ _ (.atom hle (by rw [hl]; exact .int _))⟩
    · cases e3
  · cases e3
/-! ### list(xs), tuple(xs) -/
def listOp : D → Option Slot
  | .list ds => some (.ow (.lst ds))
  | .tuple ds => some (.ow (.lst ds))
  | _ => none
def tupleOp : D → Option Slot
  | .list ds => some (.fz (.tuple ds))
  | .tuple ds => some (.fz (.tuple ds))
  | _ => none
/-! ### numbers -/
def absOp : D → Option Slot
  | .int i => some (.fz (.int (if i < 0 then -i else i)))
  | _ => none
theorem og_abs : CallR X (.builtin "abs") (rGN W (gN1 absOp)) := ogN1 fun pins s σ H H0 x us Q s1 s' a I r hle r1 e1 e3 q => by
  cases a <;> simp only [absOp] at e3 <;> first | cases e3 | skip
  cases r1.int e1
  exact call_abs pins s σ H _ us Q I r ⟨_, rfl, q _ _ _ (.atom hle (.int _))⟩
def intOf : D → Option Slot
  | .int i => some (.fz (.int i))
  | .bool b => some (.fz (.int (if b then 1 else 0)))
  | _ => none
theorem og_int : CallR X (.type "int") (rGN W (gN1 intOf)) := ogN1 fun pins s σ H H0 x us Q s1 s' a I r hle r1 e1 e3 q => by
  cases a <;> simp only [intOf] at e3 <;> first | cases e3 | skip
  · cases r1.bl e1
    exact call_int1 pins s σ H _ us Q I r (.inr ⟨_, rfl, q _ _ _ (.atom hle (.int _))⟩)
  · cases r1.int e1
    exact call_int1 pins s σ H _ us Q I r (.inl ⟨_, rfl, q _ _ _ (.atom hle (.int _))⟩)
def strOp : D → Option Slot
  | .int i => if i.natAbs.log2 < 1920 then some (.fz (.str (toString i))) else none
  | .str x => some (.fz (.str x))
  | _ => none
def max2Op : D → D → Option Slot
  | .int i, .int j => some (.fz (.int (if j > i then j else i)))
  | _, _ => none
def min2Op : D → D → Option Slot
  | .int i, .int j => some (.fz (.int (if j < i then j else i)))
  | _, _ => none
theorem og_max2 (ax : Ax X) : CallR X (.builtin "max") (rGN W (gN2 max2Op)) := ogN2 fun pins s σ H H0 x y us Q s1 s2 s' a b I r hle r1 r2 e1 e2 e3 q => by
  cases a <;> cases b <;> simp only [max2Op] at e3 <;> first | cases e3 | skip
  cases r1.int e1; cases r2.int e2
  exact call_max2 ax.calm pins s σ H _ us Q I r ⟨_, _, rfl, q _ _ _ (.atom hle (.int _))⟩
theorem og_min2 (ax : Ax X) : CallR X (.builtin "min") (rGN W (gN2 min2Op)) := ogN2 fun pins s σ H H0 x y us Q s1 s2 s' a b I r hle r1 r2 e1 e2 e3 q => by
  cases a <;> cases b <;> simp only [min2Op] at e3 <;> first | cases e3 | skip
  cases r1.int e1; cases r2.int e2
  exact call_min2 ax.calm pins s σ H _ us Q I r ⟨_, _, rfl, q _ _ _ (.atom hle (.int _))⟩
/-! ### lists of one kind -/
def asInts : List D → Option (List Int)
  | [] => some []
  | .int i :: ds => (asInts ds).map (i :: ·)
  | _ :: _ => none
@[simp] theorem asInts_map (ns : List Int) : asInts (ns.map .int) = some ns := by
  induction ns with
  | nil => rfl
  | cons n ns ih => simp [asInts, ih]
def asBools : List D → Option (List Bool)
  | [] => some []
  | .bool b :: ds => (asBools ds).map (b :: ·)
  | _ :: _ => none
theorem asBools_eq : ∀ {ds : List D} {bs : List Bool}, asBools ds = some bs → ds = bs.map .bool
  | [], bs, h => by simp [asBools] at h; subst h; rfl
  | d :: ds, bs, h => by
    cases d <;> simp only [asBools] at h <;> first | cases h | skip
    obtain ⟨bs', h1, rfl⟩ := Option.map_eq_some_iff.mp h
    rw [asBools_eq h1]; rfl
@[simp] theorem asBools_map (bs : List Bool) : asBools (bs.map .bool) = some bs := by
  induction bs with
  | nil => rfl
  | cons b bs ih => simp [asBools, ih]
def asStrs : List D → Option (List Str)
  | [] => some []
  | .str b :: ds => (asStrs ds).map (b :: ·)
  | _ :: _ => none
@[simp] theorem asStrs_map (bs : List Str) : asStrs (bs.map .str) = some bs := by
  induction bs with
  | nil => rfl
  | cons b bs ih => simp [asStrs, ih]
theorem RpL.ints {K : Frag} {cl : ClsT} : ∀ {ns : List Int} {xs : List V}, RpL K cl H xs (ns.map .int) → xs = ns.map .int
  | [], _, h => by cases h; rfl
  | n :: ns, _, h => by
    cases h with
    | cons h t => cases h; rw [RpL.ints t]; rfl
theorem RpL.bools {K : Frag} {cl : ClsT} : ∀ {ns : List Bool} {xs : List V}, RpL K cl H xs (ns.map .bool) → xs = ns.map .bl
  | [], _, h => by cases h; rfl
  | n :: ns, _, h => by
    cases h with
    | cons h t => cases h; rw [RpL.bools t]; rfl
def sumOp : D → Option Slot
  | .list ds => (asInts ds).map fun ns => .fz (.int ns.sum)
  | _ => none
theorem bools_plain (bs : List Bool) : PyData.plainAll (bs.map .bool) = true := by
  induction bs with
  | nil => rfl
  | cons b bs ih => simp [PyData.plainAll, PyData.plain, ih]
theorem bools_any (bs : List Bool) : (bs.map PyData.bool).any PyData.truthy = bs.any id := by
  induction bs with
  | nil => rfl
  | cons b bs ih => simp only [List.map_cons, List.any_cons, List.all_cons, ih, PyData.truthy, id]
theorem bools_all (bs : List Bool) : (bs.map PyData.bool).all PyData.truthy = bs.all id := by
  induction bs with
  | nil => rfl
  | cons b bs ih => simp only [List.map_cons, List.any_cons, List.all_cons, ih, PyData.truthy, id]
def allOp : D → Option Slot
  | .list ds => (asBools ds).map fun bs => .fz (.bool (bs.all id))
  | _ => none
def anyOp : D → Option Slot
  | .list ds => (asBools ds).map fun bs => .fz (.bool (bs.any id))
  | _ => none
theorem rd_reads (I : Inv X pins σ H s) (hle : Le H0 H) {xs : List V} {ds : List D} (h : Rd H a (.lst xs)) (p : RpL W.K W.cl H0 xs ds) (hK : X.K = W.K) (hp : PyData.plainAll ds = true) : ∃ its : List Value, s.heap.IsList a its.toArray ∧ Vals xs its ∧ ∃ as, ReadsAll s.heap its ds as := by
  obtain ⟨z, its, n, r, hl, e⟩ := rd_list I h
  obtain ⟨as, ra⟩ := Dp.readsAll I ds xs its (by rw [hK]; exact (p.mono hle).dp hp) r
  exact ⟨its, ⟨_, e, rfl, n, rfl⟩, r, as, ra⟩
theorem og_all (ax : Ax X) (hK : X.K = W.K) : CallR X (.builtin "all") (rGN W (gN1 allOp)) := ogN1 fun pins s σ H H0 x us Q s1 s' a I r hle r1 e1 e3 q => by
  cases a <;> simp only [allOp] at e3 <;> first | cases e3 | skip
  obtain ⟨bs, h, rfl⟩ := Option.map_eq_some_iff.mp e3
  have := asBools_eq h
  subst this
  obtain ⟨l, xs, rfl, h1, p1⟩ := r1.lst hle e1
  obtain ⟨its, hl, rv, as, ra⟩ := rd_reads I hle h1 p1 hK (bools_plain bs)
  obtain ⟨u, rfl, rx⟩ := vals1 r
  cases rx
  refine PySem.W.all_list_data ax.hd hl (by simpa using ra) (bools_plain bs) (fun x hx => ?_) fun h' tk hk => ⟨.bl _, H, I.kept hk, rfl, q _ _ _ (.atom hle (by rw [bools_all]; exact .bl _))⟩
  obtain ⟨b, _, rfl⟩ := List.mem_map.mp hx
  simp [PyData.fits63]
theorem og_any (ax : Ax X) (hK : X.K = W.K) : CallR X (.builtin "any") (rGN W (gN1 anyOp)) := ogN1 fun pins s σ H H0 x us Q s1 s' a I r hle r1 e1 e3 q => by
  cases a <;> simp only [anyOp] at e3 <;> first | cases e3 | skip
  obtain ⟨bs, h, rfl⟩ := Option.map_eq_some_iff.mp e3
  have := asBools_eq h
  subst this
  obtain ⟨l, xs, rfl, h1, p1⟩ := r1.lst hle e1
  obtain ⟨its, hl, rv, as, ra⟩ := rd_reads I hle h1 p1 hK (bools_plain bs)
  obtain ⟨u, rfl, rx⟩ := vals1 r
  cases rx
  refine PySem.W.any_list_data ax.hd hl (by simpa using ra) (bools_plain bs) (fun x hx => ?_) fun h' tk hk => ⟨.bl _, H, I.kept hk, rfl, q _ _ _ (.atom hle (by rw [bools_any]; exact .bl _))⟩
  obtain ⟨b, _, rfl⟩ := List.mem_map.mp hx
  simp [PyData.fits63]
/-! ### max(xs), min(xs) -/
def allAlike (ds : List D) : Bool := ds.all fun a => ds.all fun b => PySem.W.alike a b
def noNone (ds : List D) : Bool := ds.all fun a => !isNon a
def max1Op : D → Option Slot
  | .list (x :: xs) => if layL 60 (x :: xs) && allAlike (x :: xs) && noNone (x :: xs) then some (.fz (PySem.W.maxD x xs)) else none
  | _ => none
def min1Op : D → Option Slot
  | .list (x :: xs) => if layL 60 (x :: xs) && allAlike (x :: xs) && noNone (x :: xs) then some (.fz (PySem.W.minD x xs)) else none
  | _ => none

end
end Dl
end
section
namespace Dl
open PySem L2

section
variable {X : Cx} {W : Wc} {Ew : XK} {ts vs : List V} {tss ss : List Slot} {σ : St} {H H' H0 H0' : Hp} {ρ : DEnv} {v v1 v2 : V} {s s1 s2 : Slot} {e : Expr} {k ka kb kc : Kd} {f fa fb fc : EM} {Q Q' : VK} {d d1 d2 : D} {p : Addr}
theorem World.res0 (w : World W (vs ++ ts) (ss ++ tss) σ H ρ) (hl : vs.length = ss.length) :
    ∃ H0, Le H0 H ∧ Rdys W H0 H vs ss ∧ En W H0 H σ ρ ∧ ∀ {v : V} {s : Slot} {H' H0' : Hp}, Res W H0 H H0' H' v s → World W (v :: (vs ++ ts)) (s :: (ss ++ tss)) σ H' ρ := by
  obtain ⟨H0, fA, hle, hA, nd, hn, en, kf⟩ := w.fstep hl
  refine ⟨H0, hle, hA.rdys, ⟨en, w.prot, hle⟩, fun {v s H' H0'} ⟨fp, r1, r2, r3, r4, r5, r6, r7⟩ => ?_⟩
  have hk : ∀ a ∈ fA, H' a = H a ∧ H0' a = none := fun a ha => by
    cases q : H a with
    | none => exact absurd q (hA.has a ha)
    | some o => exact ⟨r5 a o q, r7 a o q (hA.notup a ha o q) (hn a ha)⟩
  have := kf (vs' := v :: vs) (ss' := s :: ss) (H' := H') (H0' := H0') (fp' := fp ++ fA) (by simp [hl]) r6 (by
      have := SlotsOk.cons r1 (hA.frame (Le.of_same r4) fun a ha => (hk a ha).1)
      simpa using this) (by
      rw [List.nodup_append]
      refine ⟨r2, nd, fun a ha b hb e => ?_⟩
      subst e
      exact hA.has a hb (r3 a ha).1) (fun a ha => (List.mem_append.mp ha).elim (fun z => (r3 a z).2) fun z => (hk a z).2)
    ⟨r4, fun a o e nt n _ => ⟨r5 a o e, r7 a o e nt n⟩, fun a ha => (List.mem_append.mp ha).elim (fun z => .inr (r3 a z).1) .inl, fun a h => by
      cases q : H a with
      | none => exact absurd q h
      | some o => rw [r5 a o q]; simp, fun a xs h => r5 a _ h, fun a o u h => r5 a _ h, fun a C dx fs n h => r5 a _ h, fun P q t => t.mono r4 fun ps e => r5 P _ e⟩
  simpa using this
theorem Res.bl {b : Bool} (h : Res W H0 H H0' H' v (.fz (.bool b))) : v = .bl b := by
  obtain ⟨fp, h1, _⟩ := h
  cases h1.1
  rfl

/-! ### tests -/
def isBl : Slot → Option Bool := fun s => match s.d? with
  | some (.bool b) => some b
  | _ => none
@[simp] theorem isBl_fz (b : Bool) : isBl (.fz (.bool b)) = some b := rfl
theorem isBl_inv {b : Bool} (h : isBl s = some b) : s = .fz (.bool b) := by
  unfold isBl at h
  cases s with
  | no => cases h
  | oi _ _ => cases h
  | fz d => cases d <;> first | (cases h; rfl) | cases h
  | ow c => rcases c with _ | ⟨t, _⟩ | ⟨t, _⟩ <;> first | cases h | (cases t <;> cases h)
def bV (k : Kd) (f : EM) : DEnv → Out Bool := fun ρ => (f ρ).bind fun s ρ1 => ofO (isBl (sl k s ρ1)) ρ1
theorem ptV : ∀ σ H Q, tT W Ew (bV k f) σ H Q → tB (tO W Ew k f) σ H Q := by
  rintro σ H Q ⟨ts, tss, ρ, w, q⟩
  refine ⟨ts, tss, ρ, w, ?_⟩
  unfold bV at q
  cases ea : f ρ with
  | no => rw [ea] at q; exact q
  | er c d ρ' => rw [ea] at q; exact q
  | ok s ρ1 =>
    rw [ea] at q
    simp only [Out.bind_ok] at q
    intro v H1 w1 k1
    cases eb : isBl (sl k s ρ1) with
    | none => rw [eb] at q; exact q.elim
    | some b =>
      rw [eb] at q
      obtain ⟨H0, hle, rd, en, _⟩ := World.res (vs := [v]) (ss := [s]) w1 rfl
      cases rd with
      | cons rd _ =>
        have := rdy_sl en rd k1
        rw [isBl_inv eb] at this
        exact ⟨b, this.bl rfl, q H1 w1.pop⟩
theorem pt_bv (h : PE X e (tO W Ew k f)) (he : ∀ whole, isTrue e X.env whole = (do let v ← whole; standAt e.pos; holding [v] (truthy v)) := by intro _; rfl) : PT X e (tT W Ew (bV k f)) := PT.imp (pt_val h he) ptV
theorem pt_bc {a b : Expr} {op : CmpOp} {r : R2} {g : Slot → Slot → Option Slot} {pos : Pos} (ho : OpR X (compareOp op) r) (h : RO2 W r g) (ha : PE X a (tO W Ew ka fa)) (hb : PE X b (tO W Ew kb fb)) (hm : behindInMarks op b = false := by rfl) :
    PT X (.Compare a [op] [b] pos) (tT W Ew (bV .t (e2 ka kb fa fb g))) := PT.imp (pt_cmpR ho ha hb hm) fun σ H Q q => by
  have := ptV σ H Q q
  obtain ⟨ts, tss, ρ, w, q'⟩ := this
  exact ro2 h σ H _ ⟨ts, tss, ρ, w, q'⟩
def bNot (t : DEnv → Out Bool) : DEnv → Out Bool := fun ρ => (t ρ).bind fun b ρ1 => .ok (!b) ρ1
def bAnd (t u : DEnv → Out Bool) : DEnv → Out Bool := fun ρ => (t ρ).bind fun b ρ1 => if b then u ρ1 else .ok false ρ1
def bOr (t u : DEnv → Out Bool) : DEnv → Out Bool := fun ρ => (t ρ).bind fun b ρ1 => if b then .ok true ρ1 else u ρ1
section
variable {t u : DEnv → Out Bool} {a b : Expr} {rest : List Expr} {pos : Pos}
theorem pt_bnot (h : PT X a (tT W Ew t)) : PT X (.UnaryOp .Not a pos) (tT W Ew (bNot t)) := PT.imp (pt_not h) fun σ H Q ⟨ts, tss, ρ, w, q⟩ => by
  refine ⟨ts, tss, ρ, w, ?_⟩
  unfold bNot at q
  cases ea : t ρ with
  | no => rw [ea] at q; exact q
  | er c d ρ' => rw [ea] at q; exact q
  | ok s ρ1 => rw [ea] at q; exact q
theorem fin_or {Q : Bool → Hp → Prop} (q : FinT W Ew ts tss σ Q (bOr t u ρ)) : FinT W Ew ts tss σ (fun c H1 => if c = true then Q true H1 else tT W Ew u σ H1 Q) (t ρ) := by
  unfold bOr at q
  cases ea : t ρ with
  | no => rw [ea] at q; exact q
  | er c d ρ' => rw [ea] at q; exact q
  | ok c ρ1 =>
    rw [ea] at q
    intro H1 w1
    cases c with
    | false => exact ⟨ts, tss, ρ1, w1, q⟩
    | true => exact q H1 w1
theorem pw_bor (h : PT X a (tT W Ew t)) (hr : PW X (.BoolOp .Or (b :: rest) pos) (tT W Ew u)) : PW X (.BoolOp .Or (a :: b :: rest) pos) (tT W Ew (bOr t u)) :=
  PW.imp (pw_or h hr) fun σ H Q ⟨ts, tss, ρ, w, q⟩ => ⟨ts, tss, ρ, w, fin_or q⟩
end

/-! ### bools as values -/
def eNot (k : Kd) (f : EM) : EM := fun ρ => (bV k f ρ).bind fun b ρ1 => .ok (.fz (.bool (!b))) ρ1
def eAnd (k : Kd) (f g : EM) : EM := fun ρ => (bV k f ρ).bind fun b ρ1 => if b then g ρ1 else .ok (.fz (.bool false)) ρ1
def eOr (k : Kd) (f g : EM) : EM := fun ρ => (bV k f ρ).bind fun b ρ1 => if b then .ok (.fz (.bool true)) ρ1 else g ρ1
section
variable {g : EM} {a b : Expr} {rest : List Expr} {pos : Pos}
theorem fin_bv {P : Bool → DEnv → Out Slot} {kr : Kd} {R : V → Hp → Prop} (q : FinO W Ew ts tss σ kr Q ((bV k f ρ).bind P))
    (h : ∀ b ρ1, FinO W Ew ts tss σ kr Q (P b ρ1) → ∀ H, World W ts tss σ H ρ1 → R (.bl b) H) : FinO W Ew ts tss σ k R (f ρ) := by
  unfold bV at q
  cases ea : f ρ with
  | no => rw [ea] at q; exact q
  | er c d ρ' => rw [ea] at q; exact q
  | ok s ρ1 =>
    rw [ea] at q
    simp only [Out.bind_ok] at q
    intro v H1 w1 k1
    cases eb : isBl (sl k s ρ1) with
    | none => rw [eb] at q; exact q.elim
    | some b =>
      rw [eb] at q
      obtain ⟨H0, hle, rd, en, _⟩ := World.res (vs := [v]) (ss := [s]) w1 rfl
      cases rd with
      | cons rd _ =>
        have := rdy_sl en rd k1
        rw [isBl_inv eb] at this
        rw [this.bl rfl]
        exact h b ρ1 q H1 w1.pop
theorem pd_and (h : PE X a (tO W Ew k f)) (hr : PE X (.BoolOp .And (b :: rest) pos) (tO W Ew .t g)) : PE X (.BoolOp .And (a :: b :: rest) pos) (tO W Ew .t (eAnd k f g)) := PE.imp (pe_and h hr) fun σ H Q ⟨ts, tss, ρ, w, q⟩ => by
  refine ⟨ts, tss, ρ, w, ?_⟩
  unfold eAnd at q
  exact fin_bv q fun b ρ1 q H w => ⟨b, rfl, by
    cases b with
    | true => exact ⟨ts, tss, ρ1, w, q⟩
    | false => exact q _ _ (w.push (.bl _)) trivial⟩
def eIf (t : DEnv → Out Bool) (f g : EM) : EM := fun ρ => (t ρ).bind fun b ρ1 => if b then f ρ1 else g ρ1
theorem pd_ifx {c : Expr} {t : DEnv → Out Bool} (hc : PT X c (tT W Ew t)) (ha : PE X a (tO W Ew k f)) (hb : PE X b (tO W Ew k g)) : PE X (.IfExp c a b pos) (tO W Ew k (eIf t f g)) := PE.imp (pe_ifExp hc ha hb) fun σ H Q ⟨ts, tss, ρ, w, q⟩ => by
  refine ⟨ts, tss, ρ, w, ?_⟩
  unfold eIf at q
  cases ea : t ρ with
  | no => rw [ea] at q; exact q
  | er c d ρ' => rw [ea] at q; exact q
  | ok c ρ1 =>
    rw [ea] at q
    intro H1 w1
    cases c with
    | true => exact ⟨ts, tss, ρ1, w1, q⟩
    | false => exact ⟨ts, tss, ρ1, w1, q⟩
end
/-! ### chains of comparisons -/
def eCh (ka kb kc : Kd) (fa fb fc : EM) (g g' : Slot → Slot → Option Slot) : EM := fun ρ =>
  (fa ρ).bind fun s ρ1 => (fb ρ1).bind fun t ρ2 => (ofO ((g (sl ka s ρ2) (sl kb t ρ2)).bind isBl) ρ2).bind fun b _ =>
    if b then (fc ρ2).bind fun u ρ3 => ofO (g' (sl kb t ρ3) (sl kc u ρ3)) ρ3 else .ok (.fz (.bool false)) ρ2
section
variable {a b c : Expr} {op op' : CmpOp} {r r' : R2} {g g' : Slot → Slot → Option Slot} {pos : Pos}
end
/-! ### displays -/
def allFz : List Slot → Option (List D)
  | [] => some []
  | .fz d :: ss => (allFz ss).map (d :: ·)
  | _ :: _ => none
@[simp] theorem allFz_nil : allFz [] = some [] := rfl
@[simp] theorem allFz_cons (d : D) (ss : List Slot) : allFz (.fz d :: ss) = (allFz ss).map (d :: ·) := rfl
theorem Rdys.frozen : ∀ {vs : List V} {ss : List Slot} {ds : List D}, Rdys W H0 H vs ss → allFz ss = some ds → RpL W.K W.cl H0 vs ds ∧ vs.length = ss.length
  | _, _, _, .nil, h => by cases h; exact ⟨.nil, rfl⟩
  | _, _, _, .cons (s := s) hd tl, h => by
    cases s with
    | no => cases h
    | oi _ _ => cases h
    | ow c => cases h
    | fz d =>
      obtain ⟨ds', h1, rfl⟩ := Option.map_eq_some_iff.mp h
      obtain ⟨fp, h2, _⟩ := hd
      obtain ⟨h3, h4⟩ := Rdys.frozen tl h1
      exact ⟨.cons h2 h3, by simp [h4]⟩
def lstG (ss : List Slot) : Option Slot := if ss.length ≤ 1000 then (allFz ss).map fun ds => .ow (.lst ds) else none
def tupG (ss : List Slot) : Option Slot := if ss.length ≤ 1000 then (allFz ss).map fun ds => .fz (.tuple ds) else none
theorem thousand : 1000 ≤ sizeLine := by decide
section
variable {es : List Expr} {r : List (Kd × EM)} {pos : Pos} {ks : List Kd}
theorem pd_lst (h : PA X es (tAr W Ew (r.map (·.1)) (eArgs r))) : PE X (.List es pos) (tO W Ew .t (eB r lstG)) := PE.imp (pe_lst h) fun σ H Q q => by
  refine roN (rd := fun xs H1 Q => xs.length ≤ sizeLine ∧ ∀ p, H1 p = none → Q (.ref p) (upd H1 p (.lst xs))) rfl (fun H0 H vs ss s' Q hle rd hg q => ?_) σ H Q q
  unfold lstG at hg
  split at hg
  · obtain ⟨ds, h1, rfl⟩ := Option.map_eq_some_iff.mp hg
    obtain ⟨h2, h3⟩ := rd.frozen h1
    refine ⟨?_, fun p hp => q _ _ _ (.newL hle hp h2)⟩
    have := thousand
    omega
  · cases hg
theorem pd_tup {x1} (h : PA X es (tAr W Ew (r.map (·.1)) (eArgs r))) : PE X (.Tuple es x1 pos) (tO W Ew .t (eB r tupG)) := PE.imp (pe_tup h) fun σ H Q q => by
  refine roN (rd := fun xs H1 Q => xs.length ≤ sizeLine ∧ ∀ p, H1 p = none → Q (.ref p) (upd H1 p (.tup xs))) rfl (fun H0 H vs ss s' Q hle rd hg q => ?_) σ H Q q
  unfold tupG at hg
  split at hg
  · obtain ⟨ds, h1, rfl⟩ := Option.map_eq_some_iff.mp hg
    obtain ⟨h2, h3⟩ := rd.frozen h1
    refine ⟨?_, fun p hp => q _ _ _ (.newT hle hp h2)⟩
    have := thousand
    omega
  · cases hg
end
/-! ### statements -/
def sSeq (a b : SM) : SM := fun ρ => match a ρ with
  | .nx ρ1 => b ρ1
  | .rt s ρ1 => .rt s ρ1
  | .bk ρ1 => .bk ρ1
  | .ct ρ1 => .ct ρ1
  | .er c d ρ1 => .er c d ρ1
  | .no => .no
def sIf (t : DEnv → Out Bool) (a b : SM) : SM := fun ρ => (t ρ).bindS fun c ρ1 => if c then a ρ1 else b ρ1
def sNx : SM := fun ρ => .nx ρ
def sBk : SM := fun ρ => .bk ρ
def sCt : SM := fun ρ => .ct ρ
def sNo : SM := fun _ => .no
def sRt (f : EM) : SM := fun ρ => (f ρ).bindS fun s ρ1 => .rt s ρ1
def sRtN : SM := fun ρ => .rt (.fz .none) ρ
def sDrop (f : EM) : SM := fun ρ => (f ρ).bindS fun _ ρ1 => .nx ρ1
def sSet (i : Nat) (f : EM) : SM := fun ρ => (f ρ).bindS fun s ρ1 => .nx (ρ1.set i s)
theorem World.asg {i : Nat} (w : World W (v :: ts) (s :: tss) σ H ρ) (hk : i ∉ W.kp) : World W ts tss (σ.set i (some v)) H (ρ.set i s) := by
  by_cases h : i < ρ.length
  · exact w.assign h hk
  · have h2 : σ.length = ρ.length := w.slen
    rw [List.set_eq_of_length_le (by omega), List.set_eq_of_length_le (by omega)]
    exact w.pop
section
variable {st : Stmt} {rest body orelse : List Stmt} {a b : SM} {t : DEnv → Out Bool} {pos : Pos} {i : Nat}
theorem pd_nil : PSs X [] (tS W Ew sNx) := PSs.imp pss_nil fun D σ H ⟨ts, tss, ρ, w, q⟩ => q σ H w
theorem pd_cons (h1 : PS X st (tS W Ew a)) (h2 : PSs X rest (tS W Ew b)) : PSs X (st :: rest) (tS W Ew (sSeq a b)) := PSs.imp (pss_cons h1 h2) fun D σ H ⟨ts, tss, ρ, w, q⟩ => by
  refine ⟨ts, tss, ρ, w, ?_⟩
  unfold sSeq at q
  cases ea : a ρ with
  | nx ρ1 => rw [ea] at q; exact fun σ' H' w' => ⟨ts, tss, ρ1, w', q⟩
  | rt s ρ1 => rw [ea] at q; exact q
  | bk ρ1 => rw [ea] at q; exact q
  | ct ρ1 => rw [ea] at q; exact q
  | er c d ρ1 => rw [ea] at q; exact q
  | no => rw [ea] at q; exact q
theorem pd_one (h1 : PS X st (tS W Ew a)) : PSs X [st] (tS W Ew a) := pss_one h1
theorem pd_if {c : Expr} (hc : PT X c (tT W Ew t)) (ha : PSs X body (tS W Ew a)) (hb : PSs X orelse (tS W Ew b)) : PS X (.If c body orelse pos) (tS W Ew (sIf t a b)) := PS.imp (ps_if hc ha hb) fun D σ H ⟨ts, tss, ρ, w, q⟩ => by
  refine ⟨ts, tss, ρ, w, ?_⟩
  unfold sIf at q
  cases ea : t ρ with
  | no => rw [ea] at q; exact q
  | er c d ρ' => rw [ea] at q; exact q
  | ok c ρ1 =>
    rw [ea] at q
    intro H1 w1
    cases c with
    | true => exact ⟨ts, tss, ρ1, w1, q⟩
    | false => exact ⟨ts, tss, ρ1, w1, q⟩
theorem pd_ret (h : PE X e (tO W Ew .t f)) : PS X (.Return (some e) pos) (tS W Ew (sRt f)) := PS.imp (ps_ret h) fun D σ H ⟨ts, tss, ρ, w, q⟩ => by
  refine ⟨ts, tss, ρ, w, ?_⟩
  unfold sRt at q
  cases ea : f ρ with
  | no => rw [ea] at q; exact q
  | er c d ρ' => rw [ea] at q; exact q
  | ok s ρ1 => rw [ea] at q; exact fun v H1 w1 _ => q v σ H1 w1
theorem pd_expr (h : PE X e (tO W Ew k f)) (hs : swapsWith e none pos.line X.env = pure false := by rfl) : PS X (.Expr e pos) (tS W Ew (sDrop f)) := PS.imp (ps_expr h hs) fun D σ H ⟨ts, tss, ρ, w, q⟩ => by
  refine ⟨ts, tss, ρ, w, ?_⟩
  unfold sDrop at q
  cases ea : f ρ with
  | no => rw [ea] at q; exact q
  | er c d ρ' => rw [ea] at q; exact q
  | ok s ρ1 => rw [ea] at q; exact fun v H1 w1 _ => q σ H1 w1.pop
theorem set_red (hk : i ∉ W.kp) : ∀ D σ H, tS W Ew (sSet i f) D σ H → tAsg (tO W Ew .t f) (gName i) D σ H := fun D σ H ⟨ts, tss, ρ, w, q⟩ => by
  refine ⟨ts, tss, ρ, w, ?_⟩
  unfold sSet at q
  cases ea : f ρ with
  | no => rw [ea] at q; exact q
  | er c d ρ' => rw [ea] at q; exact q
  | ok s ρ1 => rw [ea] at q; exact fun v H1 w1 _ => q _ H1 (w1.asg hk)
theorem pd_set {x : Str} {pos' : Pos} (hk : i ∉ W.kp) (hN : X.N.Nodup) (hi : X.N[i]? = some x) (hx : Loc X.env.scope x) (h : PE X e (tO W Ew .t f)) (hs : swapsWith e (some (.Name x pos')) pos.line X.env = pure false := by rfl)
    (hf : X.fn x = true ∨ X.env.scope.names.lookup x = some .local := by first | exact .inl rfl | exact .inr rfl | assumption) : PS X (.Assign [.Name x pos'] e pos) (tS W Ew (sSet i f)) :=
  PS.imp (ps_set hN hi hx h hs hf) (set_red hk)
end
/-! ### targets -/
abbrev TgD := D → DEnv → Option DEnv
def TgOk (W : Wc) (g : TG) (is : List Nat) (t : TgD) : Prop := ∀ (ts : List V) (tss : List Slot) (σ : St) (H : Hp) (ρ : DEnv) (v : V) (d : D) (ρ' : DEnv) (Q : St → Hp → Prop), World W (v :: ts) (.fz d :: tss) σ H ρ → t d ρ = some ρ' →
  (∀ σ', World W ts tss σ' H ρ' → (∀ j, j ∉ is → σ'[j]? = σ[j]?) → σ'.length = σ.length → Q σ' H) → g v σ H Q
def TgsOk (W : Wc) (g : TGs) (is : List Nat) (t : List D → DEnv → Option DEnv) : Prop := ∀ (ts : List V) (tss : List Slot) (σ : St) (H : Hp) (ρ : DEnv) (vs : List V) (ds : List D) (ρ' : DEnv) (Q : St → Hp → Prop), vs.length = ds.length → World W (vs ++ ts) (ds.map Slot.fz ++ tss) σ H ρ → t ds ρ = some ρ' →
  (∀ σ', World W ts tss σ' H ρ' → (∀ j, j ∉ is → σ'[j]? = σ[j]?) → σ'.length = σ.length → Q σ' H) → g vs σ H Q
def tgN (i : Nat) : TgD := fun d ρ => some (ρ.set i (.fz d))
def tgNil : List D → DEnv → Option DEnv
  | [], ρ => some ρ
  | _, _ => none
def tgCons (t : TgD) (u : List D → DEnv → Option DEnv) : List D → DEnv → Option DEnv
  | d :: ds, ρ => (t d ρ).bind (u ds)
  | [], _ => none
def tgT (n : Nat) (u : List D → DEnv → Option DEnv) : TgD
  | .tuple ds, ρ => if ds.length = n then u ds ρ else none
  | _, _ => none
theorem tg_name {i : Nat} (hk : i ∉ W.kp) : TgOk W (gName i) [i] (tgN i) := fun ts tss σ H ρ v d ρ' Q w e q => by
  cases e
  refine q _ (w.asg hk) (fun j hj => ?_) (List.length_set ..)
  rw [List.getElem?_set_ne (fun z => hj (by simp [z]))]
theorem tg_nil : TgsOk W gNil [] tgNil := fun ts tss σ H ρ vs ds ρ' Q hl w e q => by
  cases ds with
  | cons d ds => cases e
  | nil =>
    cases e
    obtain rfl := List.eq_nil_of_length_eq_zero (by simpa using hl)
    exact ⟨rfl, q σ w (fun _ _ => rfl) rfl⟩
theorem tg_cons {g : TG} {u : TGs} {is js : List Nat} {t : TgD} {t' : List D → DEnv → Option DEnv} (h : TgOk W g is t) (h' : TgsOk W u js t') : TgsOk W (gCons g u) (is ++ js) (tgCons t t') := fun ts tss σ H ρ vs ds ρ' Q hl w e q => by
  cases ds with
  | nil => cases e
  | cons d ds =>
    cases vs with
    | nil => simp at hl
    | cons v vs =>
      simp only [tgCons] at e
      obtain ⟨ρ1, e1, e2⟩ := Option.bind_eq_some_iff.mp e
      refine ⟨v, vs, rfl, h (vs ++ ts) (ds.map Slot.fz ++ tss) σ H ρ v d ρ1 _ w e1 fun σ1 w1 k1 l1 => ?_⟩
      refine h' ts tss σ1 H ρ1 vs ds ρ' Q (by simpa using hl) w1 e2 fun σ2 w2 k2 l2 => q σ2 w2 (fun j hj => ?_) (l2.trans l1)
      rw [k2 j (fun z => hj (by simp [z])), k1 j (fun z => hj (by simp [z]))]
theorem RpL.slots : ∀ {xs : List V} {ds : List D}, RpL W.K W.cl H0 xs ds → SlotsOk W.K W.cl H0 H (xs.map some) (ds.map Slot.fz) []
  | [], _, h => by cases h; exact .nil
  | x :: xs, _, h => by
    cases h with
    | cons h t => exact SlotsOk.cons (f1 := []) (f2 := []) ⟨h, rfl⟩ (RpL.slots t)
theorem World.spread {ds : List D} (w : World W (v :: ts) (.fz (.tuple ds) :: tss) σ H ρ) : ∃ a xs, v = .ref a ∧ H a = some (.tup xs) ∧ xs.length = ds.length ∧ World W (xs ++ ts) (ds.map Slot.fz ++ tss) σ H ρ := by
  obtain ⟨H0, fA, hle, hA, nd, hn, _, kf⟩ := World.fstep (vs := [v]) (ss := [.fz (.tuple ds)]) (ts := ts) (tss := tss) w rfl
  cases hA with
  | cons h1 h2 =>
    cases h2
    obtain ⟨h1, rfl⟩ := h1
    cases h1 with
    | tup e p =>
      rename_i a xs
      exact ⟨a, xs, rfl, hle.tup e, p.length, kf (by simp [p.length]) hle p.slots List.nodup_nil (fun a ha => nomatch ha) ⟨Same.refl _, fun a o e _ n _ => ⟨e, n⟩, fun a ha => (nomatch ha), fun a h => h, fun a xs h => h, fun a o u h => h, fun a C dx fs n h => h, fun P q t => t⟩⟩
theorem tg_tup {u : TGs} {is : List Nat} {t : List D → DEnv → Option DEnv} {n : Nat} {K : Frag} (h : TgsOk W u is t) : TgOk W (gTup K n u) is (tgT n t) := fun ts tss σ H ρ v d ρ' Q w e q => by
  cases d <;> simp only [tgT] at e <;> first | cases e | skip
  rename_i ds
  split at e
  · rename_i hn
    obtain ⟨a, xs, rfl, h1, h2, w2⟩ := w.spread
    exact ⟨a, xs, rfl, SqT.of h1, h2.trans hn, h ts tss σ H ρ xs ds ρ' Q h2 w2 e q⟩
  · cases e
def sAsg (t : TgD) (f : EM) : SM := fun ρ => (f ρ).bindS fun s ρ1 => match s.shared with
  | some d => match t d ρ1 with
    | some ρ2 => .nx ρ2
    | none => .no
  | none => .no
def setAll : List Nat → List Slot → DEnv → DEnv
  | i :: is, s :: ss, ρ => setAll is ss (ρ.set i s)
  | _, _, ρ => ρ
def sPar (is : List Nat) (r : List (Kd × EM)) : SM := fun ρ => (eArgs r ρ).bindS fun ss ρ1 => .nx (setAll is ss ρ1)
def setAllV : List Nat → List V → St → St
  | i :: is, v :: vs, σ => setAllV is vs (σ.set i (some v))
  | _, _, σ => σ
theorem World.setAll : ∀ {is : List Nat} {vs : List V} {ss : List Slot} {σ : St} {ρ : DEnv}, is.length = vs.length → vs.length = ss.length → (∀ i ∈ is, i ∉ W.kp) → World W (vs ++ ts) (ss ++ tss) σ H ρ → World W ts tss (setAllV is vs σ) H (Dl.setAll is ss ρ)
  | [], [], [], _, _, _, _, _, w => w
  | i :: is, v :: vs, s :: ss, σ, ρ, h1, h2, hk, w => World.setAll (is := is) (vs := vs) (ss := ss) (σ := σ.set i (some v)) (ρ := ρ.set i s) (by simpa using h1) (by simpa using h2) (fun j hj => hk j (List.mem_cons_of_mem _ hj)) (World.asg w (hk i List.mem_cons_self))
  | [], _ :: _, _, _, _, h, _, _, _ => by simp at h
  | _ :: _, [], _, _, _, h, _, _, _ => by simp at h
  | _, [], _ :: _, _, _, _, h, _, _ => by simp at h
  | _, _ :: _, [], _, _, _, h, _, _ => by simp at h
theorem eArgs_length : ∀ {r : List (Kd × EM)} {ρ ρ' : DEnv} {ss : List Slot}, eArgs r ρ = .ok ss ρ' → ss.length = r.length
  | [], _, _, _, h => by cases h; rfl
  | (k, f) :: r, ρ, ρ', ss, h => by
    simp only [eArgs] at h
    cases ea : f ρ with
    | no => rw [ea] at h; cases h
    | er c d ρ' => rw [ea] at h; cases h
    | ok s ρ1 =>
      rw [ea] at h
      simp only [Out.bind_ok] at h
      cases eb : eArgs r ρ1 with
      | no => rw [eb] at h; cases h
      | er c d ρ' => rw [eb] at h; cases h
      | ok ss' ρ2 =>
        rw [eb] at h
        cases h
        simp [eArgs_length eb]
section
variable {i j l : Nat} {x y z : Str} {a b c : Expr} {px py pz pt pos : Pos} {kt k2 pt2} {fx fy fz : EM}
end
end
end Dl
end
section
namespace Dl
open PySem L2

/-! ### what a loop walks -/
structure IS where
  ds : List D
  gd : DEnv → Prop
def gdOf : Kd → D → DEnv → Prop
  | .t, _ => fun _ => True
  | .n i, d => fun ρ => (ρ.getD i .no).d? = some d
  | .f i f, d => fun ρ => (fldS f (ρ.getD i .no)).d? = some d
def Kd.ix : Kd → List Nat
  | .t => []
  | .n i => [i]
  | .f i _ => [i]
structure WalkW (W : Wc) (J : It) (S : IS) (us : List V) (ss : List Slot) (js : List Nat) (σ0 : St) : Prop where
  turn : ∀ (pre : List V) (preS : List Slot) (ts : List V) (tss : List Slot) (σ : St) (H : Hp) (ρ : DEnv) (i : Nat), pre.length = preS.length → World W (pre ++ (us ++ ts)) (preS ++ (ss ++ tss)) σ H ρ → S.gd ρ → (∀ j ∈ js, σ[j]? = σ0[j]?) →
    (∀ d, S.ds[i]? = some d → J.go i H ∧ ∀ x H', J.yld i H x H' → World W (x :: (pre ++ (us ++ ts))) (.fz d :: (preS ++ (ss ++ tss))) σ H' ρ) ∧ (i = S.ds.length → J.stop i H)
def FinI (W : Wc) (Ew : XK) (js : List Nat) (ts : List V) (tss : List Slot) (σ : St) (R : It → Hp → Prop) : Out IS → Prop
  | .ok S ρ1 => ∀ J H1 us ss, us.length = ss.length → World W (us ++ ts) (ss ++ tss) σ H1 ρ1 → S.gd ρ1 → S.ds.length ≤ sizeLine → WalkW W J S us ss js σ → R J H1
  | .er c d ρ => ErrTo W Ew c d ρ
  | .no => False
def tI (W : Wc) (Ew : XK) (js : List Nat) (f : DEnv → Out IS) : TI := fun σ H R => ∃ ts tss ρ, World W ts tss σ H ρ ∧ FinI W Ew js ts tss σ R (f ρ)
section
variable {X : Cx} {W : Wc} {Ew : XK} {ts vs us : List V} {tss ss sus : List Slot} {σ σ' : St} {H H' H0 H0' : Hp} {ρ : DEnv} {v v1 v2 : V} {s s1 s2 : Slot} {e : Expr} {k ka kb kc : Kd} {f fa fb fc : EM} {Q Q' : VK} {d d1 d2 : D} {p : Addr}
theorem PI.imp {tg it : Expr} {t t' : TI} (h : PI X tg it t) (i : ∀ σ H R, t' σ H R → t σ H R) : PI X tg it t' := ⟨fun pins s σ H R I q => h.run pins s σ H R I (i σ H R q)⟩
theorem PI.or {tg it : Expr} {t t' : TI} (h : PI X tg it t) (h' : PI X tg it t') : PI X tg it (fun σ H R => t σ H R ∨ t' σ H R) := ⟨fun pins s σ H R I q => q.elim (h.run pins s σ H R I) (h'.run pins s σ H R I)⟩
def Bnd (K : Frag) (x : V) (H : Hp) : Prop := ∀ a, x = .ref a → (∀ xs, SqL K H a xs → xs.length ≤ sizeLine) ∧ ∀ xs, SqT K H a xs → xs.length ≤ sizeLine
theorem PE.bnd {t : TE} (h : PE X e t) : PE X e (fun σ H Q => t σ H fun x H1 => Bnd X.K x H1 → Q x H1) := ⟨fun pins s σ H Q I q => thn (h.run pins s σ H _ I q) fun v s1 ⟨x, H1, I1, r1, q1⟩ => ⟨x, H1, I1, r1, q1 fun a _ => ⟨fun xs h => (I1.list h).choose_spec.2.2, fun xs h => (I1.tuple h).choose_spec.2.2⟩⟩⟩
def itemsOf : D → Option (List D)
  | .list ds => some ds
  | .tuple ds => some ds
  | .str z => if z.cps.size ≤ sizeLine then some (z.cps.toList.map fun c => .str ⟨#[c]⟩) else none
  | .dict [(.none, .list ds)] => some ds
  | _ => none
@[simp] theorem itemsOf_list (ds : List D) : itemsOf (.list ds) = some ds := rfl
@[simp] theorem itemsOf_tuple (ds : List D) : itemsOf (.tuple ds) = some ds := rfl
@[simp] theorem itemsOf_scr (ds : List D) : itemsOf (scrD ds) = some ds := rfl
def iSeq (k : Kd) (f : EM) : DEnv → Out IS := fun ρ => (f ρ).bind fun s ρ1 => match (sl k s ρ1).d? with
  | some d => match itemsOf d with
    | some ds => .ok ⟨ds, gdOf k d⟩ ρ1
    | none => .no
  | none => .no
theorem kd_keep {σ0 : St} (hk : KdOk W σ0 k v) (h : ∀ j ∈ k.ix, σ[j]? = σ0[j]?) : KdOk W σ k v := by
  cases k with
  | t => trivial
  | n i => show σ[i]? = _; rw [h i (by simp [Kd.ix])]; exact hk
  | f i g => obtain ⟨a, C, dx, fvs, h1, h2⟩ := hk; exact ⟨a, C, dx, fvs, by rw [h i (by simp [Kd.ix])]; exact h1, h2⟩
theorem gd_sl {d : D} (h0 : (sl k s ρ).d? = some d) {ρ' : DEnv} (h : gdOf k d ρ') : (sl k s ρ').d? = some d := by
  cases k with
  | t => exact h0
  | n i => exact h
  | f i g => exact h
theorem gd_of {d : D} (h0 : (sl k s ρ).d? = some d) : gdOf k d ρ := by
  cases k with
  | t => trivial
  | n i => exact h0
  | f i g => exact h0
theorem World.at1 {pre : List V} {preS : List Slot} (w : World W (pre ++ ([v] ++ ts)) (preS ++ ([s] ++ tss)) σ H ρ) (hl : pre.length = preS.length) (hk : KdOk W σ k v) :
    ∃ H0, Le H0 H ∧ Rdy W H0 H v (sl k s ρ) ∧ ∀ {x : V} {d : D}, Rp W.K W.cl H0 x d → World W (x :: (pre ++ ([v] ++ ts))) (.fz d :: (preS ++ ([s] ++ tss))) σ H ρ := by
  obtain ⟨H0, hle, rd, en, kr⟩ := World.res0 (vs := pre ++ [v]) (ss := preS ++ [s]) (ts := ts) (tss := tss) (by simpa using w) (by simp [hl])
  have sp : ∀ {pre : List V} {preS : List Slot}, pre.length = preS.length → Rdys W H0 H (pre ++ [v]) (preS ++ [s]) → Rdy W H0 H v s := by
    intro pre
    induction pre with
    | nil => intro preS hl h; obtain rfl := List.eq_nil_of_length_eq_zero hl.symm; cases h with | cons h _ => exact h
    | cons x pre ih => intro preS hl h; cases preS with
      | nil => simp at hl
      | cons y preS => cases h with | cons _ t => exact ih (by simpa using hl) t
  refine ⟨H0, hle, rdy_sl en (sp hl rd) hk, fun {x d} r => ?_⟩
  have := kr (Res.child hle r)
  simpa using this
theorem Str.size_items {z : Str} (i : Nat) : (z.cps.toList.map fun c => PyData.str ⟨#[c]⟩)[i]? = (z.cps[i]?).map fun c => PyData.str ⟨#[c]⟩ := by simp
theorem itemsOf_inv {ds : List D} (h : itemsOf d = some ds) : d = .list ds ∨ d = .tuple ds ∨ (∃ z : Str, d = .str z ∧ z.cps.size ≤ sizeLine ∧ ds = z.cps.toList.map fun c => .str ⟨#[c]⟩) ∨ d = scrD ds := by
  unfold itemsOf at h
  split at h
  · cases h; exact .inl rfl
  · cases h; exact .inr (.inl rfl)
  · split at h
    · cases h; exact .inr (.inr (.inl ⟨_, rfl, by assumption, rfl⟩))
    · cases h
  · cases h; exact .inr (.inr (.inr rfl))
  · cases h
theorem walk_lst {K : Frag} {a : Addr} {ds : List D} (hk : KdOk W σ k v) (h0 : (sl k s ρ).d? = some d)
    (hh : ∀ {H0 H : Hp} {ρ : DEnv}, Le H0 H → Rdy W H0 H v (sl k s ρ) → (sl k s ρ).d? = some d → ∃ xs, SqL K H a xs ∧ RpL W.K W.cl H0 xs ds) : WalkW W (Itl K a) ⟨ds, gdOf k d⟩ [v] [s] k.ix σ :=
  ⟨fun pre preS ts tss σ1 H1 ρ1 i hl w g kj => by
    obtain ⟨H0, hle, rd, kr⟩ := World.at1 w hl (kd_keep hk kj)
    obtain ⟨xs, h1, h2⟩ := hh hle rd (gd_sl h0 g)
    refine ⟨fun d' ed => ?_, fun ei => ⟨xs, h1, by have := h2.length; simp only at ei; omega⟩⟩
    have hx : i < xs.length := by have := h2.length; have := (List.getElem?_eq_some_iff.mp ed).1; simp only at this; omega
    refine ⟨⟨xs, xs[i], h1, by simp [hx]⟩, fun x H' y => ?_⟩
    obtain ⟨e1, e2⟩ := y
    subst e1
    obtain ⟨d'', e3, e4⟩ := h2.get (e2 xs h1)
    rw [show ds[i]? = some d' from ed] at e3
    cases e3
    exact kr e4⟩
theorem walk_tup {K : Frag} {a : Addr} {ds : List D} (hk : KdOk W σ k v) (h0 : (sl k s ρ).d? = some d)
    (hh : ∀ {H0 H : Hp} {ρ : DEnv}, Le H0 H → Rdy W H0 H v (sl k s ρ) → (sl k s ρ).d? = some d → ∃ xs, SqT K H a xs ∧ RpL W.K W.cl H0 xs ds) : WalkW W (Itt K a) ⟨ds, gdOf k d⟩ [v] [s] k.ix σ :=
  ⟨fun pre preS ts tss σ1 H1 ρ1 i hl w g kj => by
    obtain ⟨H0, hle, rd, kr⟩ := World.at1 w hl (kd_keep hk kj)
    obtain ⟨xs, h1, h2⟩ := hh hle rd (gd_sl h0 g)
    refine ⟨fun d' ed => ?_, fun ei => ⟨xs, h1, by have := h2.length; simp only at ei; omega⟩⟩
    have hx : i < xs.length := by have := h2.length; have := (List.getElem?_eq_some_iff.mp ed).1; simp only at this; omega
    refine ⟨⟨xs, xs[i], h1, by simp [hx]⟩, fun x H' y => ?_⟩
    obtain ⟨e1, e2⟩ := y
    subst e1
    obtain ⟨d'', e3, e4⟩ := h2.get (e2 xs h1)
    rw [show ds[i]? = some d' from ed] at e3
    cases e3
    exact kr e4⟩
theorem walk_text {z : Str} : ∀ {v : V}, KdOk W σ k v → WalkW W (Its z) ⟨z.cps.toList.map fun c => .str ⟨#[c]⟩, gdOf k d⟩ [v] [s] k.ix σ := fun {v} hk =>
  ⟨fun pre preS ts tss σ1 H1 ρ1 i hl w g kj => by
    refine ⟨fun d' ed => ?_, fun ei => ?_⟩
    · obtain ⟨H0, hle, rd, kr⟩ := World.at1 w hl (kd_keep hk kj)
      rw [Str.size_items] at ed
      obtain ⟨c, hc, rfl⟩ := Option.map_eq_some_iff.mp ed
      refine ⟨(Array.getElem?_eq_some_iff.mp hc).1, fun x H' y => ?_⟩
      obtain ⟨rfl, c', hc', rfl⟩ := y
      rw [hc] at hc'
      cases hc'
      exact kr (.str _)
    · show z.cps.size ≤ i
      simp at ei
      omega⟩
theorem World.top (w : World W (v :: ts) (s :: tss) σ H ρ) (hk : KdOk W σ k v) : ∃ H0, Le H0 H ∧ Rdy W H0 H v (sl k s ρ) := by
  obtain ⟨H0, hle, rd, en, _⟩ := World.res (vs := [v]) (ss := [s]) (ts := ts) (tss := tss) w rfl
  cases rd with
  | cons rd _ => exact ⟨H0, hle, rdy_sl en rd hk⟩
theorem pi_seq {tg : Expr} (hK : X.K = W.K) (h : PE X e (tO W Ew k f)) : PI X tg e (tI W Ew k.ix (iSeq k f)) :=
  PI.imp (PI.or (pi_list (PE.bnd h)) (PI.or (pi_tup (PE.bnd h)) (pi_str (PE.bnd h)))) fun σ H R ⟨ts, tss, ρ, w, q⟩ => by
    unfold iSeq at q
    cases ea : f ρ with
    | no => rw [ea] at q; exact q.elim
    | er c d ρ' => exact .inl ⟨ts, tss, ρ, w, by rw [ea] at q ⊢; exact q⟩
    | ok s ρ1 =>
      rw [ea] at q
      simp only [Out.bind_ok] at q
      cases ed : (sl k s ρ1).d? with
      | none => rw [ed] at q; exact q.elim
      | some d =>
        rw [ed] at q
        simp only at q
        cases ei : itemsOf d with
        | none => rw [ei] at q; exact q.elim
        | some ds =>
          rw [ei] at q
          rcases itemsOf_inv ei with rfl | rfl | ⟨z, rfl, hz, rfl⟩ | rfl
          · refine .inl ⟨ts, tss, ρ, w, ?_⟩
            rw [ea]
            intro v H1 w1 k1 bd
            obtain ⟨H0, hle, rd⟩ := World.top w1 k1
            obtain ⟨a, xs, ev, h1, h2⟩ := rd.lst hle ed
            refine ⟨a, ev, ⟨xs, .inl h1⟩, q _ H1 [v] [s] rfl w1 (gd_of ed) (by have := (bd a ev).1 xs (.inl h1); have := h2.length; simp only; omega) (walk_lst k1 ed fun {H0 H ρ} hle rd e => ?_)⟩
            obtain ⟨a', xs', ev', h1', h2'⟩ := rd.lst hle e
            rw [ev] at ev'
            cases ev'
            exact ⟨xs', .inl h1', h2'⟩
          · refine .inr (.inl ⟨ts, tss, ρ, w, ?_⟩)
            rw [ea]
            intro v H1 w1 k1 bd
            obtain ⟨H0, hle, rd⟩ := World.top w1 k1
            obtain ⟨a, xs, ev, h1, h2⟩ := rd.tup hle ed
            refine ⟨a, ev, ⟨xs, SqT.of h1⟩, q _ H1 [v] [s] rfl w1 (gd_of ed) (by have := (bd a ev).2 xs (SqT.of h1); have := h2.length; simp only; omega) (walk_tup k1 ed fun {H0 H ρ} hle rd e => ?_)⟩
            obtain ⟨a', xs', ev', h1', h2'⟩ := rd.tup hle e
            rw [ev] at ev'
            cases ev'
            exact ⟨xs', SqT.of h1', h2'⟩
          · refine .inr (.inr ⟨ts, tss, ρ, w, ?_⟩)
            rw [ea]
            intro v H1 w1 k1 bd
            obtain ⟨H0, hle, rd⟩ := World.top w1 k1
            exact ⟨z, rd.str ed, q _ H1 [v] [s] rfl w1 (gd_of ed) (by simpa using hz) (walk_text k1)⟩
          · refine .inl ⟨ts, tss, ρ, w, ?_⟩
            rw [ea]
            intro v H1 w1 k1 bd
            obtain ⟨H0, hle, rd⟩ := World.top w1 k1
            obtain ⟨a, xs, ev, h1, h2⟩ := rd.scrd hle ed
            rw [← hK] at h1
            refine ⟨a, ev, ⟨xs, h1⟩, q _ H1 [v] [s] rfl w1 (gd_of ed) (by have := (bd a ev).1 xs h1; have := h2.length; simp only; omega) (walk_lst k1 ed fun {H0 H ρ} hle rd e => ?_)⟩
            obtain ⟨a', xs', ev', h1', h2'⟩ := rd.scrd hle e
            rw [ev] at ev'
            cases ev'
            exact ⟨xs', by rw [hK]; exact h1', h2'⟩
/-! range -/
def iRg (f : EM) : DEnv → Out IS := fun ρ => (f ρ).bind fun s ρ1 => match s.d? with
  | some (.int j) => if j ≤ 1000000 ∧ -1000000 ≤ j then .ok ⟨(List.range j.toNat).map fun (i : Nat) => .int i, fun _ => True⟩ ρ1 else .no
  | _ => .no
def iRg2 (f g : EM) : DEnv → Out IS := fun ρ => (eArgs [(.t, f), (.t, g)] ρ).bind fun ss ρ1 => match ss with
  | [s, t] => match s.d?, t.d? with
    | some (.int i), some (.int j) => if j ≤ 1000000 ∧ -1000000 ≤ j ∧ i ≤ 1000000 ∧ -1000000 ≤ i then .ok ⟨(List.range (j - i).toNat).map fun (n : Nat) => .int (i + n), fun _ => True⟩ ρ1 else .no
    | _, _ => .no
  | _ => .no
theorem million : 2000001 ≤ sizeLine := by decide
theorem walk_rg {lo : Int} {n : Nat} : WalkW W (Itr lo n) ⟨(List.range n).map fun (i : Nat) => .int (lo + i), fun _ => True⟩ [] [] [] σ :=
  ⟨fun pre preS ts tss σ1 H1 ρ1 i hl w g kj => by
    refine ⟨fun d ed => ?_, fun ei => by simp only [List.length_map, List.length_range] at ei; exact Nat.le_of_eq ei.symm⟩
    simp only [List.getElem?_map] at ed
    obtain ⟨m, hm, rfl⟩ := Option.map_eq_some_iff.mp ed
    obtain ⟨h1, h2⟩ := List.getElem?_eq_some_iff.mp hm
    simp only [List.length_range, List.getElem_range] at h1 h2
    subst h2
    refine ⟨h1, fun x H' y => ?_⟩
    obtain ⟨rfl, rfl⟩ := y
    exact w.push (.int _)⟩
theorem pi_rg1 {tg a : Expr} {pn pos : Pos} (hg : Gl X "range") (hm : X.mg "range" = none) (h : PE X a (tO W Ew .t f)) (hs : starEach [a] X.env = [(false, eval a X.env)] := by rfl) : PI X tg (.Call (.Name "range" pn) [a] [] pos) (tI W Ew [] (iRg f)) :=
  PI.imp (pi_range1 hg hm (pd_acons (r := []) h pd_anil hs) hs) fun σ H R ⟨ts, tss, ρ, w, q⟩ => by
    refine ⟨ts, tss, ρ, w, ?_⟩
    unfold iRg at q
    simp only [eArgs]
    cases ea : f ρ with
    | no => rw [ea] at q; exact q.elim
    | er c d ρ' => rw [ea] at q; exact q
    | ok s ρ1 =>
      rw [ea] at q
      simp only [Out.bind_ok] at q ⊢
      intro vs H1 hl w1 k1
      obtain ⟨v, rfl⟩ : ∃ v, vs = [v] := by
        match vs, hl with
        | [v], _ => exact ⟨v, rfl⟩
      split at q
      · rename_i j ed
        split at q
        · rename_i hj
          obtain ⟨H0, hle, rd⟩ := World.top (k := .t) w1 trivial
          refine ⟨j, by rw [rd.int ed], by omega, by omega, ?_⟩
          refine q (Itr 0 j.toNat) H1 [] [] rfl w1.pop trivial (by have := million; simp; omega) ?_
          have := walk_rg (W := W) (σ := σ) (lo := 0) (n := j.toNat)
          simpa using this
        · exact q.elim
      · exact q.elim
end
end Dl
end
section
namespace Dl
open PySem L2

section
variable {X : Cx} {W : Wc} {Ew : XK} {js is vl : List Nat} {ts vs us : List V} {tss ss sus : List Slot} {σ σ' : St} {H H' H0 H0' : Hp} {ρ : DEnv} {v v1 v2 : V} {s s1 s2 : Slot} {e : Expr} {k ka kb kc : Kd} {f fa fb fc : EM} {Q Q' : VK} {d d1 d2 : D} {p : Addr}
theorem World.under (w : World W (vs ++ (us ++ ts)) (ss ++ (sus ++ tss)) σ H ρ) (h1 : vs.length = ss.length) (h2 : us.length = sus.length) : World W (vs ++ ts) (ss ++ tss) σ H ρ := by
  have hlen := w.len
  refine w.of_sub (by simp only [List.length_append] at hlen ⊢; omega) w.keep fun {H0 fp} h nd => ?_
  rw [List.map_append, List.map_append, List.append_assoc, List.append_assoc, List.append_assoc, List.append_assoc] at h
  obtain ⟨f1, f2, rfl, a1, a2⟩ := SlotsOk.split (by simpa using h1) h
  obtain ⟨f3, f4, rfl, b1, b2⟩ := SlotsOk.split (by simpa using h2) a2
  refine ⟨f1 ++ f4, ?_, ?_, ?_⟩
  · exact List.Nodup.sublist ((List.sublist_append_right f3 f4).append_left f1) nd
  · intro a ha
    rcases List.mem_append.mp ha with z | z
    · exact List.mem_append_left _ z
    · exact List.mem_append_right _ (List.mem_append_right _ z)
  · rw [List.map_append, List.append_assoc, List.append_assoc]
    exact a1.append b2

/-! ### for -/
open Classical in
noncomputable def forGo (gd : DEnv → Prop) (t : TgD) (b : SM) : List D → SM
  | [], ρ => .nx ρ
  | d :: ds, ρ => match t d ρ with
    | none => .no
    | some ρ1 => match b ρ1 with
      | .nx ρ2 => if gd ρ2 then forGo gd t b ds ρ2 else .no
      | .ct ρ2 => if gd ρ2 then forGo gd t b ds ρ2 else .no
      | .bk ρ2 => .nx ρ2
      | .rt s ρ2 => .rt s ρ2
      | .er c d ρ2 => .er c d ρ2
      | .no => .no
noncomputable def sFor (fi : DEnv → Out IS) (t : TgD) (b : SM) : SM := fun ρ => (fi ρ).bindS fun S ρ1 => forGo S.gd t b S.ds ρ1
theorem drop_cons {α : Type} {l : List α} {i : Nat} {d : α} (h : l[i]? = some d) : l.drop i = d :: l.drop (i + 1) := by
  obtain ⟨h1, rfl⟩ := List.getElem?_eq_some_iff.mp h
  exact List.drop_eq_getElem_cons h1
theorem for_red {wi : TI} {fi : DEnv → Out IS} {g : TG} {t : TgD} {b : SM} (h : TgOk W g is t) : ∀ Dn σ H, tS W Ew (sFor fi t b) Dn σ H → tFor (tI W Ew [] fi) g (tS W Ew b) Dn σ H := fun Dn σ H ⟨ts, tss, ρ, w, q⟩ => by
  refine ⟨ts, tss, ρ, w, ?_⟩
  unfold sFor at q
  cases ea : fi ρ with
  | no => rw [ea] at q; exact q
  | er c d ρ' => rw [ea] at q; exact q
  | ok S ρ1 =>
    rw [ea] at q
    simp only [Out.bindS_ok] at q
    intro J H1 us sus hl w1 g1 _ wk
    refine ⟨fun i m σ H => m = S.ds.length - i ∧ i ≤ S.ds.length ∧ ∃ ρ, World W (us ++ ts) (sus ++ tss) σ H ρ ∧ S.gd ρ ∧ FinS W Ew ts tss Dn (forGo S.gd t b (S.ds.drop i) ρ), ⟨S.ds.length, by simp, Nat.zero_le _, ρ1, w1, g1, q⟩, ?_⟩
    rintro i m σ2 H2 ⟨rfl, hi, ρ2, w2, g2, q2⟩
    obtain ⟨t1, t2⟩ := wk.turn [] [] ts tss σ2 H2 ρ2 i rfl w2 g2 (fun j hj => nomatch hj)
    by_cases hlt : i < S.ds.length
    · have hd : S.ds[i]? = some S.ds[i] := by simp [hlt]
      obtain ⟨go, yl⟩ := t1 _ hd
      rw [drop_cons hd] at q2
      simp only [forGo] at q2
      refine .inr ⟨go, fun σ H => ∃ ρ, World W (us ++ ts) (sus ++ tss) σ H ρ ∧ S.gd ρ ∧ FinS W Ew ts tss Dn (forGo S.gd t b (S.ds.drop (i + 1)) ρ), fun σ' H' ⟨ρ', a, b, c⟩ => ⟨S.ds.length - (i + 1), by omega, rfl, by omega, ρ', a, b, c⟩, fun x H' y => ?_⟩
      have w3 := yl x H' y
      cases et : t S.ds[i] ρ2 with
      | none => rw [et] at q2; exact q2.elim
      | some ρ3 =>
        rw [et] at q2
        simp only at q2
        refine h (us ++ ts) (sus ++ tss) σ2 H' ρ2 x _ ρ3 _ w3 et fun σ4 w4 _ _ => ⟨us ++ ts, sus ++ tss, ρ3, w4, ?_⟩
        cases eb : b ρ3 with
        | nx ρ4 =>
          rw [eb] at q2
          simp only at q2
          intro σ5 H5 w5
          split at q2
          · exact ⟨ρ4, w5, by assumption, q2⟩
          · exact q2.elim
        | ct ρ4 =>
          rw [eb] at q2
          simp only at q2
          intro σ5 H5 w5
          split at q2
          · exact ⟨ρ4, w5, by assumption, q2⟩
          · exact q2.elim
        | bk ρ4 => rw [eb] at q2; exact fun σ5 H5 w5 => q2 σ5 H5 (w5.drop hl)
        | rt s ρ4 => rw [eb] at q2; exact fun v5 σ5 H5 w5 => q2 v5 σ5 H5 (World.under (vs := [v5]) (ss := [s]) w5 rfl hl)
        | er c d ρ4 => rw [eb] at q2; exact q2
        | no => rw [eb] at q2; exact q2
    · have e : i = S.ds.length := by omega
      subst e
      refine .inl ⟨t2 rfl, ?_⟩
      rw [List.drop_length] at q2
      exact q2 σ2 H2 (w2.drop hl)
theorem pd_for {tg iter : Expr} {body : List Stmt} {fi : DEnv → Out IS} {g : TG} {t : TgD} {b : SM} {pos : Pos} (h : TgOk W g is t) (hp : PassesOwn (model X.prog X.w) X.A X.env X.xe) (hc : X.calm = true) (hi : PI X tg iter (tI W Ew [] fi)) (hg : PG X tg g) (hb : PSs X body (tS W Ew b))
    (hs : ∀ x, foldedSetIterable iter X.env x = pure x := by intro _; rfl) : PS X (.For tg iter body [] pos) (tS W Ew (sFor fi t b)) := PS.imp (ps_for hp hc hi hg hb hs) (for_red (wi := tI W Ew [] fi) h)

/-! ### while -/
def whGo (c : DEnv → Out Bool) (b : SM) : Nat → SM
  | 0, _ => .no
  | n + 1, ρ => (c ρ).bindS fun k ρ1 => if k then match b ρ1 with
      | .nx ρ2 => whGo c b n ρ2
      | .ct ρ2 => whGo c b n ρ2
      | .bk ρ2 => .nx ρ2
      | .rt s ρ2 => .rt s ρ2
      | .er c d ρ2 => .er c d ρ2
      | .no => .no
    else .nx ρ1
open Classical in
noncomputable def sWhile (c : DEnv → Out Bool) (b : SM) : SM := fun ρ => if h : ∃ n, whGo c b n ρ ≠ .no then whGo c b h.choose ρ else .no
/-! ### writing into what is one's own -/
theorem World.write {a : Addr} {c : Cont} (w : World W (vs ++ .ref a :: ts) (ss ++ .ow c :: tss) σ H ρ) (hl : vs.length = ss.length) (hlk : ∀ t kvs, c ≠ .lk t kvs) :
    ∃ H0, Le H0 H ∧ Rdys W H0 H vs ss ∧ ContOk W.K W.cl H0 H a c ∧ H0 a = none ∧ ∀ {u : HO} {c' : Cont} {vs' : List V} {ds' : List D}, ContOk W.K W.cl H0 (upd H a u) a c' → RpL W.K W.cl H0 vs' ds' → World W (vs' ++ .ref a :: ts) (ds'.map Slot.fz ++ .ow c' :: tss) σ (upd H a u) ρ := by
  obtain ⟨H0, fA, hle, hA, nd, hn, _, kf⟩ := World.fstep (vs := vs ++ [.ref a]) (ss := ss ++ [.ow c]) (ts := ts) (tss := tss) (by simpa using w) (by simp [hl])
  rw [List.map_append] at hA
  obtain ⟨f1, f2, rfl, h1, h2⟩ := SlotsOk.split (by simpa using hl) hA
  cases h2 with
  | cons h2 h3 =>
    cases h3
    obtain ⟨b, eb, hc, rfl⟩ := h2
    cases eb
    have ha0 : H0 a = none := hn a (by simp)
    refine ⟨H0, hle, h1.rdys, hc, ha0, fun {u c' vs' ds'} hc' hr => ?_⟩
    have e1 : ∀ b ∈ [a], b = a := fun b hb => by simpa using hb
    have s1 : SlotsOk W.K W.cl H0 (upd H a u) ((vs' ++ [V.ref a]).map some) (ds'.map Slot.fz ++ [Slot.ow c']) [a] := by
      have z := (RpL.slots (W := W) (H := upd H a u) hr).append (SlotsOk.cons (ov := some (.ref a)) (s := .ow c') (f1 := [a]) (f2 := []) ⟨a, rfl, hc', rfl⟩ .nil)
      simpa using z
    have l1 : Le H0 (upd H a u) := fun b o e => by
      rw [upd_ne (ne_of_none e ha0)]; exact hle b o e
    have fr : Fr H0 H (f1 ++ ([a] ++ [])) H0 (upd H a u) [a] := by
      refine ⟨Same.refl _, fun b o e _ n hb => ?_, fun b hb => .inl ?_, fun b hb => ?_, fun b xs e => ?_, fun b o u' e => ?_, fun b C dx fs _ e => ?_, fun P q t => t.mono (Same.refl _) fun ps e => ?_⟩
      · have : b ≠ a := fun z => hb (by simp [z])
        exact ⟨by rw [upd_ne this]; exact e, n⟩
      · rw [e1 b hb]; simp
      · by_cases z : b = a
        · rw [z, upd_same]; simp
        · rw [upd_ne z]; exact hb
      · by_cases z : b = a
        · subst z
          exact absurd rfl ((hA.notup b (by simp) _ e).1 xs)
        · rw [upd_ne z]; exact e
      · by_cases z : b = a
        · subst z
          exfalso
          cases c with
          | lst ds => obtain ⟨_, e', _⟩ := hc; rw [e] at e'; cases e'
          | dct t kvs => obtain ⟨_, e', h'⟩ := hc; rw [e] at e'; cases e'; exact h'.lkD
          | lk t kvs => exact hlk t kvs rfl
          | gd kvs => obtain ⟨_, e', _⟩ := hc; rw [e] at e'; cases e'
        · rw [upd_ne z]; exact e
      · by_cases z : b = a
        · subst z
          exfalso
          cases c with
          | lst ds => obtain ⟨_, e', _⟩ := hc; rw [e] at e'; cases e'
          | dct t kvs => obtain ⟨_, e', h'⟩ := hc; rw [e] at e'; cases e'; exact h'.lkD
          | lk t kvs => exact hlk t kvs rfl
          | gd kvs => obtain ⟨_, e', _⟩ := hc; rw [e] at e'; cases e'
        · rw [upd_ne z]; exact e
      · by_cases z : P = a
        · subst z
          exact absurd rfl ((hA.notup P (by simp) _ e).2 ps)
        · rw [upd_ne z]; exact e
    have := kf (vs' := vs' ++ [.ref a]) (ss' := ds'.map Slot.fz ++ [.ow c']) (H' := upd H a u) (H0' := H0) (fp' := [a]) (by simp [hr.length]) l1 s1 (by simp) (fun b hb => by rw [e1 b hb]; exact ha0) fr
    simpa using this
theorem RpL.snoc {K : Frag} {cl : ClsT} {xs : List V} {ds : List D} (h : RpL K cl H xs ds) (r : Rp K cl H v d) : RpL K cl H (xs ++ [v]) (ds ++ [d]) := h.append (.cons r .nil)
theorem World.snoc {a : Addr} {ds : List D} (w : World W (v :: .ref a :: ts) (.fz d :: .ow (.lst ds) :: tss) σ H ρ) : ∃ xs, H a = some (.lst xs) ∧ xs.length = ds.length ∧ World W (.ref a :: ts) (.ow (.lst (ds ++ [d])) :: tss) σ (upd H a (.lst (xs ++ [v]))) ρ := by
  obtain ⟨H0, hle, rd, hc, _, k⟩ := World.write (vs := [v]) (ss := [.fz d]) w rfl (fun _ _ z => nomatch z)
  obtain ⟨xs, h1, h2⟩ := hc
  cases rd with
  | cons rd _ =>
    obtain ⟨fp, r, _⟩ := rd
    exact ⟨xs, h1, h2.length, k (vs' := []) (ds' := []) ⟨_, upd_same, h2.snoc r⟩ .nil⟩

/-! ### comprehensions -/
def wipeD (ρ : DEnv) : List Nat → DEnv
  | [] => ρ
  | i :: is => (wipeD ρ is).set i .no
theorem SlotsOk.other {K : Frag} {cl : ClsT} : ∀ {ovs ovs' : List (Option V)} {ss : List Slot} {fp : List Addr}, SlotsOk K cl H0 H ovs ss fp → ovs'.length = ovs.length → (∀ (i : Nat) (s : Slot), ss[i]? = some s → s = .no ∨ ovs'[i]? = ovs[i]?) → SlotsOk K cl H0 H ovs' ss fp
  | [], [], _, _, .nil, _, _ => .nil
  | _ :: _, ov' :: ovs', _, _, .cons (s := s) h t, hl, k => by
    refine .cons ?_ (SlotsOk.other t (by simpa using hl) fun i s e => by simpa using k (i + 1) s (by simpa using e))
    rcases k 0 s rfl with rfl | e
    · exact h
    · simp only [List.getElem?_cons_zero, Option.some.injEq] at e
      rw [e]; exact h
  | _ :: _, [], _, _, _, hl, _ => by simp at hl
  | [], _ :: _, _, _, _, hl, _ => by simp at hl
theorem SlotsOk.wipe {K : Frag} {cl : ClsT} {ovt : List (Option V)} {st : List Slot} (hl : ovt.length = st.length) : ∀ {is : List Nat} {ovs : List (Option V)} {ss : List Slot} {fp : List Addr}, SlotsOk K cl H0 H (ovt ++ ovs) (st ++ ss) fp → fp.Nodup →
    ∃ fp', fp'.Nodup ∧ (∀ a ∈ fp', a ∈ fp) ∧ SlotsOk K cl H0 H (ovt ++ ovs) (st ++ wipeD ss is) fp'
  | [], _, _, fp, h, nd => ⟨fp, nd, fun _ h => h, h⟩
  | i :: is, ovs, ss, fp, h, nd => by
    obtain ⟨f1, nd1, s1, h1⟩ := SlotsOk.wipe (is := is) hl h nd
    by_cases hi : i < (wipeD ss is).length
    · have e : (st ++ wipeD ss is)[st.length + i]? = some (wipeD ss is)[i] := by rw [List.getElem?_append_right (by omega)]; simp [hi]
      obtain ⟨ov, f2, fr, e3, pm, h3, k⟩ := h1.take e
      obtain ⟨fp', pm', h4⟩ := k (ov' := ov) (s' := .no) (f2' := []) rfl
      refine ⟨fp', ?_, ?_, ?_⟩
      · rw [pm'.nodup_iff]
        exact List.Nodup.sublist (List.sublist_append_right f2 fr) (pm.nodup_iff.mp nd1)
      · intro a ha
        exact s1 a (pm.mem_iff.mpr (List.mem_append_right _ (by simpa using pm'.mem_iff.mp ha)))
      · have e5 : (ovt ++ ovs).set (st.length + i) ov = ovt ++ ovs := by
          obtain ⟨hi, e⟩ := List.getElem?_eq_some_iff.mp e3
          rw [← e]
          exact List.set_getElem_self hi
        have e6 : (st ++ wipeD ss is).set (st.length + i) .no = st ++ (wipeD ss is).set i .no := by
          rw [List.set_append_right _ _ (by omega)]
          congr 2
          omega
        rw [e5, e6] at h4
        exact h4
    · refine ⟨f1, nd1, s1, ?_⟩
      show SlotsOk K cl H0 H _ (st ++ (wipeD ss is).set i .no) f1
      rw [List.set_eq_of_length_le (by omega)]
      exact h1
theorem wipeD_length : ∀ (ρ : DEnv) (is : List Nat), (wipeD ρ is).length = ρ.length
  | _, [] => rfl
  | ρ, i :: is => by simp [wipeD, wipeD_length ρ is]
theorem wipeD_no : ∀ {is : List Nat} {ρ : DEnv} {j : Nat}, j ∈ is → j < ρ.length → (wipeD ρ is)[j]? = some .no
  | i :: is, ρ, j, h, hl => by
    by_cases e : i = j
    · subst e; simp [wipeD, wipeD_length, hl]
    · simp only [wipeD]
      rw [List.getElem?_set_ne e]
      exact wipeD_no ((List.mem_cons.mp h).resolve_left fun z => e z.symm) hl
theorem wipe_get : ∀ {is : List Nat} {σ : St} {j : Nat}, j ∈ is → j < σ.length → (L2.wipe σ is)[j]? = some none
  | i :: is, σ, j, h, hl => by
    by_cases e : i = j
    · subst e; simp [L2.wipe, L2.wipe_length, hl]
    · simp only [L2.wipe]
      rw [List.getElem?_set_ne e]
      exact wipe_get ((List.mem_cons.mp h).resolve_left fun z => e z.symm) hl
theorem wipeD_out : ∀ {is : List Nat} {ρ : DEnv} {j : Nat}, j ∉ is → (wipeD ρ is)[j]? = ρ[j]?
  | [], _, _, _ => rfl
  | i :: is, ρ, j, h => by
    simp only [wipeD]
    rw [List.getElem?_set_ne (fun e => h (by simp [e]))]
    exact wipeD_out fun z => h (List.mem_cons_of_mem _ z)
theorem wipeD_idem (ρ : DEnv) (is : List Nat) : wipeD (wipeD ρ is) is = wipeD ρ is := by
  refine List.ext_getElem? fun j => ?_
  by_cases hj : j ∈ is
  · by_cases hb : j < ρ.length
    · rw [wipeD_no hj (by rw [wipeD_length]; exact hb), wipeD_no hj hb]
    · rw [List.getElem?_eq_none (by rw [wipeD_length, wipeD_length]; omega), List.getElem?_eq_none (by rw [wipeD_length]; omega)]
  · rw [wipeD_out hj]
theorem World.blur (w : World W ts tss σ H ρ) (hk : ∀ i ∈ W.kp, i ∉ is) (hl : σ'.length = σ.length) (h : ∀ j, j ∉ is → σ'[j]? = σ[j]?) : World W ts tss σ' H (wipeD ρ is) := by
  have hlen := w.len
  have hsl := w.slen
  refine w.of_sub w.len (fun i hi => by rw [h i (hk i hi)]; exact w.keep i hi) fun {H0 fp} hs nd => ?_
  obtain ⟨fp', nd', sb, h1⟩ := SlotsOk.wipe (is := is) (by simpa using hlen) hs nd
  refine ⟨fp', nd', sb, h1.other (by simp [hl]) fun i s e => ?_⟩
  by_cases hi : i < tss.length
  · refine .inr ?_
    rw [List.getElem?_append_left (by simp; omega), List.getElem?_append_left (by simp; omega)]
  · rw [List.getElem?_append_right (by omega)] at e
    by_cases hm : i - tss.length ∈ is
    · have hb := (List.getElem?_eq_some_iff.mp e).1
      rw [wipeD_length] at hb
      rw [wipeD_no hm hb] at e
      exact .inl (Option.some.inj e).symm
    · refine .inr ?_
      rw [List.getElem?_append_right (by simp; omega), List.getElem?_append_right (by simp; omega)]
      simp only [List.length_map]
      rw [hlen]
      exact h _ hm
theorem wipe_same (hl : σ'.length = σ.length) (h : ∀ j, j ∉ is → σ'[j]? = (L2.wipe σ is)[j]?) : L2.wipe σ' is = L2.wipe σ is := by
  refine List.ext_getElem? fun j => ?_
  by_cases hj : j ∈ is
  · by_cases hb : j < σ.length
    · rw [wipe_get hj hb, wipe_get hj (by omega)]
    · rw [List.getElem?_eq_none (by rw [L2.wipe_length]; omega), List.getElem?_eq_none (by rw [L2.wipe_length]; omega)]
  · rw [← h j hj, L2.wipe_out hj]
open Classical in
noncomputable def lcGo (gd : DEnv → Prop) (vl : List Nat) (t : TgD) (c : DEnv → Out Bool) (f : EM) : List D → DEnv → Out (List D)
  | [], ρ => .ok [] ρ
  | d :: ds, ρ => match t d (wipeD ρ vl) with
    | none => .no
    | some ρ1 => (c ρ1).bind fun b ρ2 => if b then (f ρ2).bind fun s ρ3 => match s.shared with
        | none => .no
        | some y => if gd (wipeD ρ3 vl) then (lcGo gd vl t c f ds (wipeD ρ3 vl)).bind fun ys ρ4 => .ok (y :: ys) ρ4 else .no
      else if gd (wipeD ρ2 vl) then lcGo gd vl t c f ds (wipeD ρ2 vl) else .no
def noEr {α : Type} : Out α → Out α
  | .ok a ρ => .ok a ρ
  | _ => .no
@[simp] theorem noEr_ok {α : Type} (a : α) (ρ : DEnv) : noEr (Out.ok a ρ) = .ok a ρ := rfl
noncomputable def eLc (vl : List Nat) (fi : DEnv → Out IS) (t : TgD) (c : DEnv → Out Bool) (f : EM) : EM := fun ρ => (fi ρ).bind fun S ρ1 => (noEr (lcGo S.gd vl t c f S.ds (wipeD ρ1 vl))).bind fun ys ρ2 => .ok (.ow (.lst ys)) ρ2
def FinL (W : Wc) (Ew : XK) (ts : List V) (tss : List Slot) (σ : St) (Q : VK) (acc : List D) : Out (List D) → Prop
  | .ok ys ρ => ∀ v H, World W (v :: ts) (.ow (.lst (acc ++ ys)) :: tss) σ H ρ → Q v H
  | .er c d ρ => ErrTo W Ew c d ρ
  | .no => False
theorem lc_body {J : It} {S : IS} {us : List V} {sus : List Slot} {H1 : Hp} {ρ1 : DEnv} {Da : Addr} {g : TG} {t : TgD} {c : DEnv → Out Bool} {tt : TT} {te : TE} (h : TgOk W g is t) (his : ∀ i ∈ is, i ∈ vl) (hk : ∀ i ∈ W.kp, i ∉ vl) (hj : ∀ i ∈ js, i ∉ vl) (hgd : ∀ ρ', S.gd ρ' → S.gd (wipeD ρ' vl))
    (ht : ∀ σ H Q, tT W (fun _ _ _ => False) c σ H Q → tt σ H Q) (he : ∀ σ H Q, tO W (fun _ _ _ => False) .t f σ H Q → te σ H Q)
    (hl : us.length = sus.length) (w1 : World W (us ++ ts) (sus ++ tss) σ H1 ρ1) (g1 : S.gd ρ1) (hsz : S.ds.length ≤ sizeLine) (wk : WalkW W J S us sus js σ) (hD : H1 Da = none) (q1 : FinL W (fun _ _ _ => False) ts tss σ Q [] (lcGo S.gd vl t c f S.ds (wipeD ρ1 vl))) :
    ∃ Wv : Nat → Nat → Hp → Prop, (∃ m, Wv 0 m (upd H1 Da (.lst []))) ∧ ∀ i m H, Wv i m H →
      (J.stop i H ∧ Q (.ref Da) H) ∨ (J.go i H ∧ ∃ Nx : Hp → Prop, (∀ H', Nx H' → ∃ m', m' < m ∧ Wv (i + 1) m' H') ∧ ∀ x H', J.yld i H x H' → g x (L2.wipe σ vl) H' fun σ2 H2 => L2.wipe σ2 vl = L2.wipe σ vl ∧ tt σ2 H2 fun b H3 =>
        if b = true then te σ2 H3 fun y H4 => ∃ acc, H4 Da = some (.lst acc) ∧ acc.length < sizeLine ∧ Nx (upd H4 Da (.lst (acc ++ [y]))) else Nx H3) := by
  -- the new list among the temporaries
  have w2 : World W (.ref Da :: (us ++ ts)) (.ow (.lst []) :: (sus ++ tss)) (L2.wipe σ vl) (upd H1 Da (.lst [])) (wipeD ρ1 vl) := by
    obtain ⟨H0, hle, _, _, kr⟩ := World.res0 (vs := []) (ss := []) (ts := us ++ ts) (tss := sus ++ tss) w1 rfl
    exact (show World W (.ref Da :: (us ++ ts)) (.ow (.lst []) :: (sus ++ tss)) σ (upd H1 Da (.lst [])) ρ1 from kr (.newL hle hD .nil)).blur hk (L2.wipe_length σ vl) fun j hj => L2.wipe_out hj
  have back : ∀ {σ2 : St} {H2 : Hp} {ρ2 : DEnv} {acc : List PyData}, (∀ j, j ∉ is → σ2[j]? = (L2.wipe σ vl)[j]?) → σ2.length = (L2.wipe σ vl).length → World W (.ref Da :: (us ++ ts)) (.ow (.lst acc) :: (sus ++ tss)) σ2 H2 ρ2 → World W (.ref Da :: (us ++ ts)) (.ow (.lst acc) :: (sus ++ tss)) (L2.wipe σ vl) H2 (wipeD ρ2 vl) :=
    fun k1 l1 w => w.blur hk l1.symm fun j hj => (k1 j fun z => hj (his j z)).symm
  refine ⟨fun i m H => m = S.ds.length - i ∧ i ≤ S.ds.length ∧ ∃ ρ acc, acc.length ≤ i ∧ World W (.ref Da :: (us ++ ts)) (.ow (.lst acc) :: (sus ++ tss)) (L2.wipe σ vl) H ρ ∧ S.gd ρ ∧ (wipeD ρ vl = ρ) ∧ FinL W (fun _ _ _ => False) ts tss σ Q acc (lcGo S.gd vl t c f (S.ds.drop i) ρ),
    ⟨S.ds.length, by simp, Nat.zero_le _, wipeD ρ1 vl, [], Nat.le_refl _, w2, hgd ρ1 g1, wipeD_idem _ _, q1⟩, ?_⟩
  rintro i m H2 ⟨rfl, hi, ρ2, acc, hacc, w2, g2, wi2, q2⟩
  obtain ⟨t1, t2⟩ := wk.turn [.ref Da] [.ow (.lst acc)] ts tss (L2.wipe σ vl) H2 ρ2 i rfl w2 g2 (fun j hjj => L2.wipe_out (hj j hjj))
  by_cases hlt : i < S.ds.length
  · have hd : S.ds[i]? = some S.ds[i] := by simp [hlt]
    obtain ⟨go, yl⟩ := t1 _ hd
    rw [drop_cons hd] at q2
    simp only [lcGo] at q2
    refine .inr ⟨go, fun H => ∃ ρ acc, acc.length ≤ i + 1 ∧ World W (.ref Da :: (us ++ ts)) (.ow (.lst acc) :: (sus ++ tss)) (L2.wipe σ vl) H ρ ∧ S.gd ρ ∧ (wipeD ρ vl = ρ) ∧ FinL W (fun _ _ _ => False) ts tss σ Q acc (lcGo S.gd vl t c f (S.ds.drop (i + 1)) ρ),
      fun H' ⟨ρ', acc', a, b⟩ => ⟨S.ds.length - (i + 1), by omega, rfl, by omega, ρ', acc', a, b⟩, fun x H' y => ?_⟩
    have w3 := yl x H' y
    rw [wi2] at q2
    cases et : t S.ds[i] ρ2 with
    | none => rw [et] at q2; exact q2.elim
    | some ρ3 =>
      rw [et] at q2
      simp only at q2
      refine h (.ref Da :: (us ++ ts)) (.ow (.lst acc) :: (sus ++ tss)) (L2.wipe σ vl) H' ρ2 x _ ρ3 _ w3 et fun σ4 w4 k4 l4 => ⟨wipe_same (l4.trans (L2.wipe_length σ vl)) fun j hj => k4 j fun z => hj (his j z), ht _ _ _ ⟨.ref Da :: (us ++ ts), .ow (.lst acc) :: (sus ++ tss), ρ3, w4, ?_⟩⟩
      cases ec : c ρ3 with
      | no => rw [ec] at q2; exact q2
      | er c d ρ' => rw [ec] at q2; exact fun cv dx H' ex => (q2 cv dx H' ex).elim
      | ok b ρ4 =>
        rw [ec] at q2
        simp only [Out.bind_ok] at q2
        intro H5 w5
        cases b with
        | false =>
          simp only [Bool.false_eq_true, if_false] at q2 ⊢
          split at q2
          · exact ⟨wipeD ρ4 vl, acc, by omega, back k4 l4 w5, by assumption, wipeD_idem _ _, q2⟩
          · exact q2.elim
        | true =>
          simp only [if_true] at q2 ⊢
          refine he _ _ _ ⟨.ref Da :: (us ++ ts), .ow (.lst acc) :: (sus ++ tss), ρ4, w5, ?_⟩
          cases ef : f ρ4 with
          | no => rw [ef] at q2; exact q2
          | er c d ρ' => rw [ef] at q2; exact fun cv dx H' ex => (q2 cv dx H' ex).elim
          | ok sy ρ5 =>
            rw [ef] at q2
            simp only [Out.bind_ok] at q2
            intro y H6 w6 _
            cases es : sy.shared with
            | none => rw [es] at q2; exact q2.elim
            | some dy =>
              rw [es] at q2
              simp only at q2
              obtain ⟨xs, h1, h2, w7⟩ := World.snoc (w6.freeze es)
              refine ⟨xs, h1, by omega, ?_⟩
              split at q2
              · refine ⟨wipeD ρ5 vl, acc ++ [dy], by simp; omega, back k4 l4 w7, by assumption, wipeD_idem _ _, ?_⟩
                revert q2
                cases lcGo S.gd vl t c f (S.ds.drop (i + 1)) (wipeD ρ5 vl) with
                | no => exact fun q => q
                | er c d ρ' => exact fun q => q
                | ok ys ρ' =>
                  intro q v H w
                  exact q v H (by simpa using w)
              · exact q2.elim
  · have e : i = S.ds.length := by omega
    subst e
    refine .inl ⟨t2 rfl, ?_⟩
    rw [List.drop_length] at q2
    have w8 := World.under (vs := [.ref Da]) (ss := [.ow (.lst acc)]) w2 rfl hl
    have w9 := w8.blur (σ' := σ) hk (L2.wipe_length σ vl).symm fun j hj => (L2.wipe_out hj).symm
    rw [wi2] at w9
    exact q2 _ H2 (by simpa using w9)
theorem lc_red {fi : DEnv → Out IS} {g : TG} {t : TgD} {c : DEnv → Out Bool} (h : TgOk W g is t) (his : ∀ i ∈ is, i ∈ vl) (hk : ∀ i ∈ W.kp, i ∉ vl) (hj : ∀ i ∈ js, i ∉ vl) (hgd : ∀ ρ S ρ1, fi ρ = .ok S ρ1 → ∀ ρ', S.gd ρ' → S.gd (wipeD ρ' vl)) :
    ∀ σ H Q, tO W Ew .t (eLc vl fi t c f) σ H Q → tLc (tI W Ew js fi) g (tT W (fun _ _ _ => False) c) (tO W (fun _ _ _ => False) .t f) vl σ H Q := fun σ H Q ⟨ts, tss, ρ, w, q⟩ => by
  refine ⟨ts, tss, ρ, w, ?_⟩
  unfold eLc at q
  cases ea : fi ρ with
  | no => rw [ea] at q; exact q
  | er c d ρ' => rw [ea] at q; exact q
  | ok S ρ1 =>
    rw [ea] at q
    simp only [Out.bind_ok] at q
    have hgd := hgd ρ S ρ1 ea
    intro J H1 us sus hl w1 g1 hsz wk Da hD
    have fin : ∀ o : Out (List PyData), FinO W Ew ts tss σ .t Q ((noEr o).bind fun ys ρ2 => .ok (.ow (.lst ys)) ρ2) → FinL W (fun _ _ _ => False) ts tss σ Q [] o := fun o q => by
      cases o with
      | no => exact q.elim
      | er c d ρ' => exact (show False from q).elim
      | ok ys ρ' => exact fun v H w => q v H w trivial
    have q1 := fin _ q
    exact lc_body h his hk hj hgd (fun _ _ _ q => q) (fun _ _ _ q => q) hl w1 g1 hsz wk hD q1
end
end Dl
end
section
namespace Dl
open PySem L2 PySem.Spec PyProof.Rows

/-! ### a def's promise, without marks of a running repr -/
structure FnOkG (P : Program) (w : PySem.World) (K : PySem.W.Frag) (mg : Str → Option Value) (base : Heap) (CX : CXT) (k : Nat) (f : Addr) (fd : FuncData) (ps : List Str) (sp : Sp) : Prop where
  len : ∀ vs H Q E, sp vs H Q E → vs.length = ps.length
  run : ∀ (A : Around) (outer : List Env) (s : Shared) (H : Hp) (args : Args) (us : List Value) (vs : List V) (Q : VK) (E : XK), Room k A → A.guards = some [] → Env0 P w K mg base A outer s H → BindsTo s fd args (ps.zip us) → Vals vs us → sp vs H Q E →
    codeAny (model P w) A (.call (.ref f) args) (CR CX outer P w H s Q E) s
theorem FnOkG.mono {P : Program} {w : PySem.World} {K : PySem.W.Frag} {mg : Str → Option Value} {base : Heap} {CX : CXT} {j k : Nat} {f : Addr} {fd : FuncData} {ps : List Str} {sp : Sp} (F : FnOkG P w K mg base CX j f fd ps sp) (h : j ≤ k) :
    FnOkG P w K mg base CX k f fd ps sp := ⟨F.len, fun A outer s H args us vs Q E hr => F.run A outer s H args us vs Q E (hr.mono h)⟩
section
variable {X : Cx} {CX : CXT} {k : Nat} {f C : Addr} {fd : FuncData} {ps ks : List Str} {sp : Sp} {E : XK} {x m : Str} {p pos apos : Pos} {e o : Expr} {es : List Expr} {kws : List Keyword} {ta : TE} {t tk : TA}
theorem run_fnG {pins : List (Addr × Obj)} {σ : L2.St} {H : Hp} {s : Shared} {Q : VK} {us ws : List Value} {vs zs : List V} (F : FnOkG X.prog X.w X.K X.mg X.base CX k f fd ps sp) (hr : Room k X.A) (hgd : X.A.guards = some []) (hx : Passes CX X E)
    (hb : (us ++ ws).length = ps.length → BindsTo s fd ⟨us, ks.zip ws⟩ (ps.zip (us ++ ws)))
    (I : Inv X pins σ H s) (r : Vals vs us) (rz : Vals zs ws) (h : sp (vs ++ zs) H Q E) : wpAny (model X.prog X.w) X.A (call (.ref f) us (ks.zip ws)) (EP X pins σ Q) X.xe s := by
  have r2 := r.append rz
  have hl : (us ++ ws).length = ps.length := by rw [← r2.length]; exact F.len _ _ _ _ h
  refine wpAny_call (codeAny_mono (F.run X.A X.stack s H ⟨us, ks.zip ws⟩ (us ++ ws) (vs ++ zs) Q E hr hgd I.env0 (hb hl) r2 h) fun r s' hq => ?_)
  cases r with
  | error e => exact hx pins σ H s e s' I hq
  | ok fl =>
    cases fl with
    | ret u => exact I.after hq
    | next => exact False.elim hq
    | brk => exact False.elim hq
    | cont => exact False.elim hq
theorem pe_callG (F : FnOkG X.prog X.w X.K X.mg X.base CX k f fd ps sp) (hr : Room k X.A) (hgd : X.A.guards = some []) (hg : Gl X x) (hm : X.mg x = some (.ref f)) (hk : PySem.W.keepIn X.K (.ref f) = true)
    (hb : ∀ (s : Shared) (us : List Value), us.length = ps.length → BindsTo s fd ⟨us, []⟩ (ps.zip us)) (hx : Passes CX X E)
    (ha : PA X (e :: es) t) (hdb : (x == ("__debug__" : Str)) = false := by decide) (he : starEach (e :: es) X.env = (false, eval e X.env) :: starEach es X.env := by rfl) (hpl : (backTo pos (starEach es X.env)).any (·.1) = false := by rfl) :
    PE X (.Call (.Name x p) (e :: es) [] pos) (fun σ H Q => t σ H fun vs H1 => sp vs H1 Q E) := by
  refine ⟨fun pins s σ H Q I h => ?_⟩
  refine wpAny_Call_Name_kw (ld_glob I hg hm ?_ hdb)
  refine PySem.W.callWith_K (h₀ := X.base) I.ok.mod.kin hk (thn (ha.run pos pins s σ H _ I h) fun us s1 ⟨vs, H1, I1, r, q⟩ => ⟨I1.kIn, ?_⟩) he hpl
  exact run_fnG (ks := []) (ws := []) (zs := []) F hr hgd hx (fun hl => by simpa using hb s1 us (by simpa using hl)) I1 r .nil (by simpa using q)
end
theorem fn_ofG {CX : CXT} {P : Program} {w : PySem.World} {K : PySem.W.Frag} {mg : Str → Option Value} {base : Heap} {k : Nat} {f : Addr} {name qual : Str} {params : Arguments} {body : List Stmt} {scope : Scope} {dV kV doc pm cdv ct oc : Value} {an od : Option Addr}
    {osl : Array (Option Value)} {N ps : List Str} {sp : Sp} (lk : K.lookup f = some ⟨oc, od, .func (PySem.W.fnOf name qual params body scope dV kV doc pm an cdv ct), osl⟩) (hcd : PySem.W.codeIn K cdv qual = true) (S : FnScope N ps scope)
    (len : ∀ vs H Q E, sp vs H Q E → vs.length = ps.length)
    (hbody : ∀ (A : Around) (outer : List Env) (s : Shared) (H : Hp) (vs : List V) (Q : VK) (E : XK), Room k (A.deeper (envOfC qual scope s.heap.objs.size f cdv)) → A.guards = some [] → sp vs H Q E →
      ∃ t, PSs (cxOf CX P w K mg base N qual scope f cdv A outer s H E) body t ∧ t { nx := fun _ H' => Q .non H', rt := Q } (start N vs) H) :
    FnOkG P w K mg base CX (k + 1) f (PySem.W.fnOf name qual params body scope dV kV doc pm an cdv ct) ps sp := by
  refine ⟨len, fun A outer s H args us vs Q E hr hgd e0 hb r hsp => ?_⟩
  have hl := len _ _ _ _ hsp
  have KX : K.In s.heap := e0.mod.kin.keeps fun b o e => (e0.bs b o e).1
  have lim : s.heap.NoLimit := e0.mod.nolimit.keeps fun b o e => (e0.bs b o e).1
  have hkind : ∀ y ∈ ps.zip us, scope.names.lookup y.1 = some .local ∨ (scope.names.lookup y.1 = some .cell ∧ ((cellsFrom (s.heap.objs.size + 1) scope.names []).lookup y.1).isSome = true) := fun ⟨n, v⟩ hy =>
    (S.par n (List.of_mem_zip hy).1).imp id fun q => ⟨q, PySem.W.cellsFrom_some _ _ _ (.inl q)⟩
  refine codeAny_call_function hr.depth (KX _ _ lk) rfl S.co S.gen rfl (PySem.W.codeRec_of KX hcd) (hb _ _ _ _ ?_)
  refine wpAny_newFunctionEnv_cells S.kind hkind fun env he s1 x => ?_
  subst he
  refine ⟨lim.keeps x.toInCall.keep, codeAny_func ?_⟩
  obtain ⟨t, ht, hq⟩ := hbody A outer s H vs Q E (hr.deeper _) hgd hsp
  have I : Inv (cxOf CX P w K mg base N qual scope f cdv A outer s H E) [] (start N vs) H s1 := inv_start S hr.hd e0 hl r x
  have fin : ∀ {s' : Shared} {σ' : L2.St} {H' : Hp} {v : V} {u : Value}, Inv (cxOf CX P w K mg base N qual scope f cdv A outer s H E) [] σ' H' s' → RelV v u → Q v H' → CE outer P w H s Q u s' :=
    fun J rv q => ⟨_, _, J.os, J.bare, J.base, J.hok, rv, q⟩
  refine wpAny_mono (ht.run [] s1 (start N vs) H _ I hq) (fun fl s' hs => ?_) fun e s' hs => hs
  cases fl with
  | ret u => obtain ⟨v, σ', H', J, rv, q⟩ := hs; exact fin J rv q
  | next => obtain ⟨σ', H', J, q⟩ := hs; exact fin (v := V.non) (u := Value.none) J rfl q
  | brk => exact hs.elim fun _ h => h.elim fun _ h => h.2.elim
  | cont => exact hs.elim fun _ h => h.elim fun _ h => h.2.elim
end Dl
end
section
namespace Dl
open PySem L2
open PyProof.Rows (envOfC)

inductive FOut where
  | ok (s : Slot) (ss : List Slot)
  | er (c : Str) (d : D) (ss : List Slot)
  | no
def FinF (K : Frag) (cl : ClsT) (H0 H : Hp) (fp : List Addr) (vs : List V) (Q : VK) (E : XK) : FOut → Prop
  | .ok s' ss' => ∀ v' H' H0' fp', Le H0' H' → SlotsOk K cl H0' H' ((v' :: vs).map some) (s' :: ss') fp' → fp'.Nodup → (∀ a ∈ fp', H0' a = none) → Fr H0 H fp H0' H' fp' → Q v' H'
  | .er c d ss' => ∀ v' H' H0' fp' C x, Le H0' H' → SlotsOk K cl H0' H' ((v' :: vs).map some) (.fz d :: ss') fp' → fp'.Nodup → (∀ a ∈ fp', H0' a = none) → Fr H0 H fp H0' H' fp' → cl c = some C → H' x = some (.xd [("value", v')]) → E (.ref C) (some x) H'
  | .no => False
def spF (K : Frag) (cl : ClsT) (n : Nat) (F : List Slot → FOut) : Sp := fun vs H Q E => ∃ H0 fp ss, vs.length = n ∧ Le H0 H ∧ SlotsOk K cl H0 H (vs.map some) ss fp ∧ fp.Nodup ∧ (∀ a ∈ fp, H0 a = none) ∧ (∀ p ∈ cl.T, TabF H0 H p.1 p.2) ∧ FinF K cl H0 H fp vs Q E (F ss)

/-! ### lending -/
def lend : List Kd → List Slot → DEnv → List Slot × DEnv
  | .t :: ks, s :: ss, ρ => (s :: (lend ks ss ρ).1, (lend ks ss ρ).2)
  | .n i :: ks, s :: ss, ρ => (ρ.getD i .no :: (lend ks ss (ρ.set i s)).1, (lend ks ss (ρ.set i s)).2)
  | .f i f :: ks, s :: ss, ρ => (fldS f (ρ.getD i .no) :: (lend ks ss (ρ.set i (setFl f .no (ρ.getD i .no)))).1, (lend ks ss (ρ.set i (setFl f .no (ρ.getD i .no)))).2)
  | _, _, ρ => ([], ρ)
def unlend : List Kd → List Slot → DEnv → DEnv
  | .t :: ks, _ :: ss, ρ => unlend ks ss ρ
  | .n i :: ks, s :: ss, ρ => unlend ks ss (ρ.set i s)
  | .f i f :: ks, s :: ss, ρ => unlend ks ss (ρ.set i (setFl f s.fl (ρ.getD i .no)))
  | _, _, ρ => ρ
@[simp] theorem lend_nil (ρ : DEnv) : lend [] [] ρ = ([], ρ) := rfl
@[simp] theorem lend_t (ks : List Kd) (s : Slot) (ss : List Slot) (ρ : DEnv) : lend (.t :: ks) (s :: ss) ρ = (s :: (lend ks ss ρ).1, (lend ks ss ρ).2) := rfl
@[simp] theorem lend_n (i : Nat) (ks : List Kd) (s : Slot) (ss : List Slot) (ρ : DEnv) : lend (.n i :: ks) (s :: ss) ρ = (ρ.getD i .no :: (lend ks ss (ρ.set i s)).1, (lend ks ss (ρ.set i s)).2) := rfl
@[simp] theorem lend_f (i : Nat) (f : Str) (ks : List Kd) (s : Slot) (ss : List Slot) (ρ : DEnv) : lend (.f i f :: ks) (s :: ss) ρ = (fldS f (ρ.getD i .no) :: (lend ks ss (ρ.set i (setFl f .no (ρ.getD i .no)))).1, (lend ks ss (ρ.set i (setFl f .no (ρ.getD i .no)))).2) := rfl
@[simp] theorem unlend_f (i : Nat) (f : Str) (ks : List Kd) (s : Slot) (ss : List Slot) (ρ : DEnv) : unlend (.f i f :: ks) (s :: ss) ρ = unlend ks ss (ρ.set i (setFl f s.fl (ρ.getD i .no))) := rfl
@[simp] theorem unlend_nil (ss : List Slot) (ρ : DEnv) : unlend [] ss ρ = ρ := by cases ss <;> rfl
@[simp] theorem unlend_t (ks : List Kd) (s : Slot) (ss : List Slot) (ρ : DEnv) : unlend (.t :: ks) (s :: ss) ρ = unlend ks ss ρ := rfl
@[simp] theorem unlend_n (i : Nat) (ks : List Kd) (s : Slot) (ss : List Slot) (ρ : DEnv) : unlend (.n i :: ks) (s :: ss) ρ = unlend ks ss (ρ.set i s) := rfl
section
variable {X : Cx} {W : Wc} {Ew : XK} {js is vl : List Nat} {ts vs us zs : List V} {tss ss sus szs : List Slot} {σ σ' : St} {H H' H0 H0' : Hp} {ρ : DEnv} {v v1 v2 : V} {s s1 s2 : Slot} {e : Expr} {k ka kb kc : Kd} {f fa fb fc : EM} {Q Q' : VK} {d d1 d2 : D} {p : Addr} {pre : List V} {preS : List Slot}
theorem World.swapAt {i : Nat} {s' s1 s1' : Slot} {u : V} (w : World W (v :: ts) (s :: tss) σ H ρ) (e1 : σ[i]? = some (some u)) (e2 : ρ[i]? = some s')
    (h : ∀ {H0 : Hp} {g f : List Addr}, Le H0 H → SlotOk W.K W.cl H0 H (some v) s g → SlotOk W.K W.cl H0 H (some u) s' f → (g ++ f).Nodup → ∃ g' f', SlotOk W.K W.cl H0 H (some v) s1 g' ∧ SlotOk W.K W.cl H0 H (some u) s1' f' ∧ (∀ a ∈ g' ++ f', a ∈ g ++ f) ∧ (g' ++ f').Nodup) :
    World W (v :: ts) (s1 :: tss) σ H (ρ.set i s1') := by
  have hlen : ts.length = tss.length := by simpa using w.len
  obtain ⟨H0, fp, hle, hs, nd, hn, fr⟩ := w.ex
  have h' : SlotsOk W.K W.cl H0 H (some v :: (ts.map some ++ σ)) (s :: (tss ++ ρ)) fp := by simpa using hs
  cases h' with
  | cons h1 h2 =>
    rename_i g1 g2
    have e2' : (tss ++ ρ)[tss.length + i]? = some s' := by rw [List.getElem?_append_right (by omega)]; simpa using e2
    obtain ⟨ov, f2, fr2, e3, pm, h3, k⟩ := h2.take e2'
    have e3' : ov = some u := by
      rw [List.getElem?_append_right (by simp; omega)] at e3
      simp only [List.length_map] at e3
      rw [show tss.length + i - ts.length = i by omega, e1] at e3
      exact (Option.some.inj e3).symm
    subst e3'
    have nd2 : ((g1 ++ f2) ++ fr2).Nodup := by
      rw [List.append_assoc]
      exact (List.Perm.append_left g1 pm).nodup_iff.mp nd
    obtain ⟨na, nb, nc⟩ := List.nodup_append.mp nd2
    obtain ⟨g', f', a1, a2, a3, a4⟩ := h hle h1 h3 na
    obtain ⟨fp', pm', h4⟩ := k (ov' := some u) a2
    have p1 : ((g' ++ f') ++ fr2).Perm (g' ++ fp') := by
      rw [List.append_assoc]
      exact List.Perm.append_left g' pm'.symm
    have sb : ∀ a ∈ g' ++ fp', a ∈ g1 ++ g2 := fun a ha => by
      rcases List.mem_append.mp (p1.mem_iff.mpr ha) with z | z
      · rcases List.mem_append.mp (a3 a z) with y | y
        · exact List.mem_append_left _ y
        · exact List.mem_append_right _ (pm.mem_iff.mpr (List.mem_append_left _ y))
      · exact List.mem_append_right _ (pm.mem_iff.mpr (List.mem_append_right _ z))
    have e5 : (ts.map some ++ σ).set (tss.length + i) (some u) = ts.map some ++ σ := by
      rw [List.set_append_right _ _ (by simp; omega)]
      congr 1
      simp only [List.length_map]
      rw [show tss.length + i - ts.length = i by omega]
      obtain ⟨hi, e⟩ := List.getElem?_eq_some_iff.mp e1
      rw [← e]
      exact List.set_getElem_self hi
    have e6 : (tss ++ ρ).set (tss.length + i) s1' = tss ++ ρ.set i s1' := by
      rw [List.set_append_right _ _ (by omega)]
      congr 2
      omega
    rw [e5, e6] at h4
    refine ⟨by simpa using hlen, ⟨H0, g' ++ fp', hle, by simpa using SlotsOk.cons a1 h4, ?_, fun a ha => hn a (sb a ha), fr.less sb⟩, w.keep, w.tabs⟩
    refine p1.nodup_iff.mp (List.nodup_append.mpr ⟨a4, nb, fun a ha b hb e => nc a (a3 a ha) b hb e⟩)
def InsH (σ : St) (H : Hp) (i : Nat) (f : Str) (v : V) : Prop := ∃ a C dx fvs, σ[i]? = some (some (.ref a)) ∧ H a = some (.ins C dx fvs) ∧ fget f fvs = some v
theorem World.insAt {i : Nat} {f : Str} (w : World W ts tss σ H ρ) (hk : KdOk W σ (.f i f) v) : InsH σ H i f v := by
  obtain ⟨a, C, dx, fvs, h1, h2, h3⟩ := hk
  exact ⟨a, C, dx, fvs, h1, w.prot a C dx fvs (fun z => by rw [z] at h3; cases h3) h2, h3⟩
theorem World.idx {i : Nat} {u : V} (w : World W ts tss σ H ρ) (h1 : σ[i]? = some (some u)) : ρ[i]? = some (ρ.getD i .no) := by
  have hi : i < ρ.length := by have := (List.getElem?_eq_some_iff.mp h1).1; have := w.slen; omega
  rw [List.getD_eq_getElem?_getD]; simp [hi]
theorem World.takeF {i : Nat} {f : Str} (w : World W (v :: ts) (s :: tss) σ H ρ) (hk : InsH σ H i f v) : World W (v :: ts) (fldS f (ρ.getD i .no) :: tss) σ H (ρ.set i (setFl f .no (ρ.getD i .no))) := by
  obtain ⟨a, C, dx, fvs, h1, h2, h3⟩ := hk
  have h4 := w.idx h1
  refine w.swapAt h1 h4 fun {H0 g f'} hle hg hf nd => ?_
  generalize ρ.getD i .no = s' at *
  cases s' with
  | no => exact ⟨[], f', rfl, hf, fun a ha => List.mem_append_right _ (by simpa using ha), by simpa using (List.nodup_append.mp nd).2.1⟩
  | ow c => exact ⟨[], f', rfl, hf, fun a ha => List.mem_append_right _ (by simpa using ha), by simpa using (List.nodup_append.mp nd).2.1⟩
  | fz d =>
    obtain ⟨fp, hr⟩ := Rdy.fld (W := W) (s := .fz d) ⟨f', hf⟩ hle h2 h3
    refine ⟨[], f', ?_, hf, fun a ha => List.mem_append_right _ (by simpa using ha), by simpa using (List.nodup_append.mp nd).2.1⟩
    have hc : fldS f (.fz d) = .no ∨ ∃ x, fldS f (.fz d) = .fz x := by
      simp only [fldS]
      cases insGet f d with
      | none => exact .inl rfl
      | some x => exact .inr ⟨x, rfl⟩
    rcases hc with e | ⟨x, e⟩
    · rw [e]; exact rfl
    · rw [e] at hr ⊢; exact ⟨hr.1, rfl⟩
  | oi c fs =>
    obtain ⟨b, eb, C', dx', fvs', ff, i1, i2, i3, i4, rfl⟩ := hf
    cases eb
    rw [h2] at i2
    cases i2
    obtain ⟨l, l2, lr, e1, pm, hl, k⟩ := i4.take h3
    obtain ⟨fp', pm', h5⟩ := k (l' := .no) (f2' := []) rfl
    simp only [fldS, e1]
    have nd2 := (List.nodup_append.mp nd).2.1
    have p : (l2 ++ (a :: dx :: fp')).Perm (a :: dx :: ff) := by
      refine List.Perm.trans ?_ ((pm.symm.cons dx).cons a)
      refine (List.Perm.append_left l2 ((pm'.cons dx).cons a)).trans ?_
      simp only [List.nil_append]
      exact (List.perm_middle).trans ((List.perm_middle).cons a)
    refine ⟨l2, a :: dx :: fp', hl.slot, ⟨a, rfl, C, dx, fvs, fp', i1, h2, i3, h5, rfl⟩, fun x hx => List.mem_append_right _ (p.mem_iff.mp hx), p.nodup_iff.mpr nd2⟩
theorem World.putF {i : Nat} {f : Str} (w : World W (v :: ts) (s :: tss) σ H ρ) (hk : InsH σ H i f v) : World W (v :: ts) (.no :: tss) σ H (ρ.set i (setFl f s.fl (ρ.getD i .no))) := by
  obtain ⟨a, C, dx, fvs, h1, h2, h3⟩ := hk
  have h4 := w.idx h1
  refine w.swapAt h1 h4 fun {H0 g f'} hle hg hf nd => ?_
  generalize ρ.getD i .no = s' at *
  have same : SlotOk W.K W.cl H0 H (some (.ref a)) s' f' → setFl f s.fl s' = s' → ∃ g' f'', SlotOk W.K W.cl H0 H (some v) .no g' ∧ SlotOk W.K W.cl H0 H (some (.ref a)) (setFl f s.fl s') f'' ∧ (∀ a ∈ g' ++ f'', a ∈ g ++ f') ∧ (g' ++ f'').Nodup := fun h e =>
    ⟨[], f', rfl, by rw [e]; exact h, fun a ha => List.mem_append_right _ (by simpa using ha), by simpa using (List.nodup_append.mp nd).2.1⟩
  cases s' with
  | no => exact same hf rfl
  | ow c => exact same hf rfl
  | fz d => exact same hf rfl
  | oi c fs =>
    obtain ⟨b, eb, C', dx', fvs', ff, i1, i2, i3, i4, rfl⟩ := hf
    cases eb
    rw [h2] at i2
    cases i2
    obtain ⟨l, l2, lr, e1, pm, hl, k⟩ := i4.take h3
    obtain ⟨gp, hg', hgp⟩ := hg.fl
    obtain ⟨fp', pm', h5⟩ := k (l' := s.fl) (f2' := gp) hg'
    have hsub : ∀ x ∈ gp, x ∈ g := fun x hx => by rcases hgp with e | e <;> rw [e] at hx <;> first | exact hx | cases hx
    have hnd : gp.Nodup := by rcases hgp with e | e <;> rw [e] <;> first | exact (List.nodup_append.mp nd).1 | exact List.nodup_nil
    have nd2 := (List.nodup_append.mp nd).2.1
    have hlr : ∀ x ∈ lr, x ∈ ff := fun x hx => pm.mem_iff.mpr (List.mem_append_right _ hx)
    have ndl : (a :: dx :: lr).Nodup := by
      have := ((pm.cons dx).cons a).nodup_iff.mp nd2
      refine List.Nodup.sublist ?_ this
      exact ((List.sublist_append_right l2 lr).cons_cons dx).cons_cons a
    have p : (a :: dx :: fp').Perm (gp ++ (a :: dx :: lr)) := by
      refine ((pm'.cons dx).cons a).trans ?_
      exact ((List.perm_middle).symm.cons a).trans (List.perm_middle).symm
    refine ⟨[], a :: dx :: fp', rfl, ⟨a, rfl, C, dx, fvs, fp', i1, h2, i3, h5, rfl⟩, fun x hx => ?_, ?_⟩
    · rcases List.mem_append.mp (p.mem_iff.mp (by simpa using hx)) with z | z
      · exact List.mem_append_left _ (hsub x z)
      · refine List.mem_append_right _ ?_
        rcases List.mem_cons.mp z with rfl | z
        · simp
        · rcases List.mem_cons.mp z with rfl | z
          · simp
          · simp [hlr x z]
    · refine p.nodup_iff.mpr (List.nodup_append.mpr ⟨hnd, ndl, fun x hx y hy e => ?_⟩)
      subst e
      refine (List.nodup_append.mp nd).2.2 x (hsub x hx) x ?_ rfl
      rcases List.mem_cons.mp hy with rfl | z
      · simp
      · rcases List.mem_cons.mp z with rfl | z
        · simp
        · simp [hlr x z]
theorem World.xchAt {i : Nat} {s' : Slot} (w : World W (pre ++ v :: ts) (preS ++ s :: tss) σ H ρ) (hl : pre.length = preS.length) (e1 : σ[i]? = some (some v)) (e2 : ρ[i]? = some s') : World W (pre ++ v :: ts) (preS ++ s' :: tss) σ H (ρ.set i s) :=
  World.back ((World.move w hl).xch e1 e2) hl
theorem World.lend : ∀ {ks : List Kd} {vs : List V} {ss : List Slot} {pre : List V} {preS : List Slot} {ρ : DEnv}, pre.length = preS.length → vs.length = ss.length → KdsOk W σ ks vs → World W (pre ++ (vs ++ ts)) (preS ++ (ss ++ tss)) σ H ρ →
    World W (pre ++ (vs ++ ts)) (preS ++ ((Dl.lend ks ss ρ).1 ++ tss)) σ H (Dl.lend ks ss ρ).2 ∧ (Dl.lend ks ss ρ).1.length = ss.length
  | [], [], [], _, _, _, _, _, .nil, w => ⟨w, rfl⟩
  | .t :: ks, v :: vs, s :: ss, pre, preS, ρ, hp, hl, .cons _ hk, w => by
    obtain ⟨h1, h2⟩ := World.lend (ks := ks) (vs := vs) (ss := ss) (pre := pre ++ [v]) (preS := preS ++ [s]) (ρ := ρ) (by simp [hp]) (by simpa using hl) hk (by simpa using w)
    exact ⟨by simpa using h1, by simp [h2]⟩
  | .n i :: ks, v :: vs, s :: ss, pre, preS, ρ, hp, hl, .cons h0 hk, w => by
    have hi : i < ρ.length := by have := (List.getElem?_eq_some_iff.mp (show σ[i]? = some (some v) from h0)).1; have := w.slen; omega
    have e2 : ρ[i]? = some (ρ.getD i .no) := by rw [List.getD_eq_getElem?_getD]; simp [hi]
    have w1 := World.xchAt (pre := pre) (preS := preS) (v := v) (s := s) (ts := vs ++ ts) (tss := ss ++ tss) (by simpa using w) hp h0 e2
    obtain ⟨h1, h2⟩ := World.lend (ks := ks) (vs := vs) (ss := ss) (pre := pre ++ [v]) (preS := preS ++ [ρ.getD i .no]) (ρ := ρ.set i s) (by simp [hp]) (by simpa using hl) hk (by simpa using w1)
    exact ⟨by simpa using h1, by simp [h2]⟩
  | .f i f :: ks, v :: vs, s :: ss, pre, preS, ρ, hp, hl, .cons h0 hk, w => by
    have w0 := World.move (vs := pre) (ss := preS) (v := v) (s := s) (ts := vs ++ ts) (tss := ss ++ tss) (by simpa using w) hp
    have w1 := World.back (w0.takeF (w0.insAt h0)) hp
    obtain ⟨h1, h2⟩ := World.lend (ks := ks) (vs := vs) (ss := ss) (pre := pre ++ [v]) (preS := preS ++ [fldS f (ρ.getD i .no)]) (ρ := ρ.set i (setFl f .no (ρ.getD i .no))) (by simp [hp]) (by simpa using hl) hk (by simpa using w1)
    refine ⟨by simpa using h1, ?_⟩
    show ((Dl.lend ks ss (ρ.set i (setFl f .no (ρ.getD i .no)))).1).length + 1 = _
    rw [h2]
    rfl
  | [], _ :: _, _, _, _, _, _, _, h, _ => nomatch h
  | [], [], _ :: _, _, _, _, _, hl, _, _ => by simp at hl
  | .t :: _, [], _, _, _, _, _, _, h, _ => nomatch h
  | .n _ :: _, [], _, _, _, _, _, _, h, _ => nomatch h
  | .f _ _ :: _, [], _, _, _, _, _, _, h, _ => nomatch h
  | .t :: _, _ :: _, [], _, _, _, _, hl, _, _ => by simp at hl
  | .n _ :: _, _ :: _, [], _, _, _, _, hl, _, _ => by simp at hl
  | .f _ _ :: _, _ :: _, [], _, _, _, _, hl, _, _ => by simp at hl
theorem World.unlend : ∀ {ks : List Kd} {vs : List V} {ss : List Slot} {pre : List V} {preS : List Slot} {ρ : DEnv}, pre.length = preS.length → vs.length = ss.length → KdsOk W σ ks vs → World W (pre ++ (vs ++ ts)) (preS ++ (ss ++ tss)) σ H ρ →
    ∃ ss', vs.length = ss'.length ∧ World W (pre ++ (vs ++ ts)) (preS ++ (ss' ++ tss)) σ H (Dl.unlend ks ss ρ)
  | [], [], [], _, _, _, _, _, .nil, w => ⟨[], rfl, w⟩
  | .t :: ks, v :: vs, s :: ss, pre, preS, ρ, hp, hl, .cons _ hk, w => by
    obtain ⟨ss', h1, h2⟩ := World.unlend (ks := ks) (vs := vs) (ss := ss) (pre := pre ++ [v]) (preS := preS ++ [s]) (ρ := ρ) (by simp [hp]) (by simpa using hl) hk (by simpa using w)
    exact ⟨s :: ss', by simp [h1], by simpa using h2⟩
  | .n i :: ks, v :: vs, s :: ss, pre, preS, ρ, hp, hl, .cons h0 hk, w => by
    have hi : i < ρ.length := by have := (List.getElem?_eq_some_iff.mp (show σ[i]? = some (some v) from h0)).1; have := w.slen; omega
    have e2 : ρ[i]? = some (ρ.getD i .no) := by rw [List.getD_eq_getElem?_getD]; simp [hi]
    have w1 := World.xchAt (pre := pre) (preS := preS) (v := v) (s := s) (ts := vs ++ ts) (tss := ss ++ tss) (by simpa using w) hp h0 e2
    obtain ⟨ss', h1, h2⟩ := World.unlend (ks := ks) (vs := vs) (ss := ss) (pre := pre ++ [v]) (preS := preS ++ [ρ.getD i .no]) (ρ := ρ.set i s) (by simp [hp]) (by simpa using hl) hk (by simpa using w1)
    exact ⟨ρ.getD i .no :: ss', by simp [h1], by simpa using h2⟩
  | .f i f :: ks, v :: vs, s :: ss, pre, preS, ρ, hp, hl, .cons h0 hk, w => by
    have w0 := World.move (vs := pre) (ss := preS) (v := v) (s := s) (ts := vs ++ ts) (tss := ss ++ tss) (by simpa using w) hp
    have w1 := World.back (w0.putF (w0.insAt h0)) hp
    obtain ⟨ss', h1, h2⟩ := World.unlend (ks := ks) (vs := vs) (ss := ss) (pre := pre ++ [v]) (preS := preS ++ [.no]) (ρ := ρ.set i (setFl f s.fl (ρ.getD i .no))) (by simp [hp]) (by simpa using hl) hk (by simpa using w1)
    exact ⟨.no :: ss', by simp [h1], by simpa using h2⟩
  | [], _ :: _, _, _, _, _, _, _, h, _ => nomatch h
  | [], [], _ :: _, _, _, _, _, hl, _, _ => by simp at hl
  | .t :: _, [], _, _, _, _, _, _, h, _ => nomatch h
  | .n _ :: _, [], _, _, _, _, _, _, h, _ => nomatch h
  | .f _ _ :: _, [], _, _, _, _, _, _, h, _ => nomatch h
  | .t :: _, _ :: _, [], _, _, _, _, hl, _, _ => by simp at hl
  | .n _ :: _, _ :: _, [], _, _, _, _, hl, _, _ => by simp at hl
  | .f _ _ :: _, _ :: _, [], _, _, _, _, hl, _, _ => by simp at hl

/-! ### calls -/
def eCall (r : List (Kd × EM)) (F : List Slot → FOut) : EM := fun ρ => (eArgs r ρ).bind fun ss ρ1 => match F (lend (r.map (·.1)) ss ρ1).1 with
  | .ok s ss' => .ok s (unlend (r.map (·.1)) ss' (lend (r.map (·.1)) ss ρ1).2)
  | .er c d ss' => .er c d (unlend (r.map (·.1)) ss' (lend (r.map (·.1)) ss ρ1).2)
  | .no => .no
theorem callW {ks : List Kd} {n : Nat} {F : List Slot → FOut} {ρ1 : DEnv} (hn : ss.length = n) (w : World W (vs ++ ts) (ss ++ tss) σ H ρ1) (hl : vs.length = ss.length) (hk : KdsOk W σ ks vs)
    (q : FinO W Ew ts tss σ .t Q (match F (lend ks ss ρ1).1 with
      | .ok s ss' => .ok s (unlend ks ss' (lend ks ss ρ1).2)
      | .er c d ss' => .er c d (unlend ks ss' (lend ks ss ρ1).2)
      | .no => .no)) : spF W.K W.cl n F vs H Q Ew := by
  obtain ⟨w1, l1⟩ := World.lend (pre := []) (preS := []) rfl hl hk w
  obtain ⟨H0, fA, hle, hA, nd, hf, _, tb, kf⟩ := World.fstepT (vs := vs) (ss := (lend ks ss ρ1).1) (ts := ts) (tss := tss) w1 (hl.trans l1.symm)
  refine ⟨H0, fA, _, hl.trans hn, hle, hA, nd, hf, tb, ?_⟩
  cases eF : F (lend ks ss ρ1).1 with
  | no => rw [eF] at q; exact q
  | ok s' ss' =>
    rw [eF] at q
    intro v' H' H0' fp' h1 h2 h3 h4 h5
    have hl' : (v' :: vs).length = (s' :: ss').length := by simpa using h2.length
    have w2 := kf hl' h1 h2 h3 h4 h5
    obtain ⟨ss'', h6, w3⟩ := World.unlend (ks := ks) (vs := vs) (ss := ss') (pre := [v']) (preS := [s']) rfl (by simpa using hl') hk w2
    exact q v' H' (World.under (vs := [v']) (ss := [s']) w3 rfl h6) trivial
  | er c d ss' =>
    rw [eF] at q
    intro v' H' H0' fp' C x h1 h2 h3 h4 h5 h7 h8
    have hl' : (v' :: vs).length = (Slot.fz d :: ss').length := by simpa using h2.length
    have w2 := kf hl' h1 h2 h3 h4 h5
    obtain ⟨ss'', h6, w3⟩ := World.unlend (ks := ks) (vs := vs) (ss := ss') (pre := [v']) (preS := [.fz d]) rfl (by simpa using hl') hk w2
    have w4 := World.under (vs := [v']) (ss := [.fz d]) w3 rfl h6
    have w5 := World.under (vs := [v']) (ss := [.fz d]) (us := ts) (sus := tss) (ts := []) (tss := []) (by simpa using w4) rfl (by simpa using w4.len)
    exact q (.ref C) (some x) H' ⟨σ, v', x, C, by simpa using w5, h7, rfl, rfl, h8⟩
theorem callO {n : Nat} {F : List Slot → FOut} {r : List (Kd × EM)} (hn : r.length = n) : ∀ σ H Q, tO W Ew .t (eCall r F) σ H Q → tAr W Ew (r.map (·.1)) (eArgs r) σ H fun vs H1 => spF W.K W.cl n F vs H1 Q Ew := fun σ H Q ⟨ts, tss, ρ, w, q⟩ => by
  refine ⟨ts, tss, ρ, w, ?_⟩
  unfold eCall at q
  cases ea : eArgs r ρ with
  | no => rw [ea] at q; exact q
  | er c d ρ' => rw [ea] at q; exact q
  | ok ss ρ1 =>
    rw [ea] at q
    simp only [Out.bind_ok] at q
    intro vs H1 hl w1 k1
    exact callW ((eArgs_length ea).trans hn) w1 hl k1 q
/-! keywords -/
theorem PK.imp {kws : List Keyword} {t t' : TA} (h : PK X kws t) (i : ∀ σ H Q, t' σ H Q → t σ H Q) : PK X kws t' := ⟨fun pos pins s σ H Q I q => h.run pos pins s σ H Q I (i σ H Q q)⟩
theorem KdsOk.append : ∀ {ks js : List Kd} {vs us : List V}, KdsOk W σ ks vs → KdsOk W σ js us → KdsOk W σ (ks ++ js) (vs ++ us)
  | _, _, _, _, .nil, h => h
  | _, _, _, _, .cons a b, h => .cons a (KdsOk.append b h)
theorem World.swap (w : World W (us ++ (vs ++ ts)) (sus ++ (ss ++ tss)) σ H ρ) (h1 : us.length = sus.length) (h2 : vs.length = ss.length) : World W (vs ++ (us ++ ts)) (ss ++ (sus ++ tss)) σ H ρ := by
  refine w.of_perm (by have := w.len; simp only [List.length_append] at this ⊢; omega) w.keep fun {H0 fp} h => ?_
  simp only [List.map_append, List.append_assoc] at h ⊢
  obtain ⟨f1, f2, rfl, a1, a2⟩ := SlotsOk.split (by simpa using h1) h
  obtain ⟨f3, f4, rfl, b1, b2⟩ := SlotsOk.split (by simpa using h2) a2
  refine ⟨f3 ++ (f1 ++ f4), ?_, b1.append (a1.append b2)⟩
  rw [← List.append_assoc, ← List.append_assoc]
  exact List.Perm.append_right _ List.perm_append_comm
/-! ### a def of the data layer -/
structure Cld (P : Program) (w : PySem.World) (K : Frag) (mg : Str → Option Value) (base : Heap) (cl : ClsT) (k : Nat) (x : Str) (ps : List Str) (F : List Slot → FOut) : Prop where
  ex : ∃ (f : Addr) (fd : FuncData), FnOkG P w K mg base (L2.CX P w) k f fd ps (spF K cl ps.length F) ∧ mg x = some (.ref f) ∧ PySem.W.keepIn K (.ref f) = true ∧
    ∀ (s : Shared) (us ws : List Value) (ks : List Str), us.length + ws.length = ps.length → ks = ps.drop us.length → BindsTo s fd ⟨us, ks.zip ws⟩ (ps.zip (us ++ ws))
section
variable {kl : Nat} {x : Str} {ps : List Str} {F : List Slot → FOut} {es : List Expr} {kws : List Keyword} {r r' : List (Kd × EM)} {pn pos : Pos} {ks : List Str}
theorem pd_call (C : Cld X.prog X.w X.K X.mg X.base W.cl kl x ps F) (hK : X.K = W.K) (hr : Room kl X.A) (hgd : X.A.guards = some []) (hg : Gl X x) (hx : Passes (L2.CX X.prog X.w) X Ew) (hn : r.length = ps.length)
    (ha : PA X (e :: es) (tAr W Ew (r.map (·.1)) (eArgs r))) (hdb : (x == ("__debug__" : Str)) = false := by decide) (he : starEach (e :: es) X.env = (false, eval e X.env) :: starEach es X.env := by rfl) (hpl : (backTo pos (starEach es X.env)).any (·.1) = false := by rfl) :
    PE X (.Call (.Name x pn) (e :: es) [] pos) (tO W Ew .t (eCall r F)) := by
  obtain ⟨f, fd, h1, h2, h3, h4⟩ := C.ex
  rw [hK] at h1
  refine PE.imp (pe_callG (by rw [hK]; exact h1) hr hgd hg h2 h3 (fun s us hl => ?_) hx ha hdb he hpl) (callO hn)
  have := h4 s us [] [] (by simpa using hl) (by rw [hl]; simp)
  simpa using this
end
/-! ### a def's body -/
def kept : List Bool → DEnv → List Slot
  | true :: m, s :: ρ => s :: kept m ρ
  | false :: m, _ :: ρ => .no :: kept m ρ
  | _ :: m, [] => .no :: kept m []
  | [], _ => []
@[simp] theorem kept_nil (ρ : DEnv) : kept [] ρ = [] := by cases ρ <;> rfl
@[simp] theorem kept_t (m : List Bool) (s : Slot) (ρ : DEnv) : kept (true :: m) (s :: ρ) = s :: kept m ρ := rfl
@[simp] theorem kept_f (m : List Bool) (s : Slot) (ρ : DEnv) : kept (false :: m) (s :: ρ) = .no :: kept m ρ := rfl
def kpFrom : Nat → List Bool → List Nat
  | _, [] => []
  | i, true :: m => i :: kpFrom (i + 1) m
  | i, false :: m => kpFrom (i + 1) m
def runF (nN : Nat) (m : List Bool) (b : SM) (ss : List Slot) : FOut := match b (ss ++ List.replicate (nN - m.length) .no) with
  | .nx ρ => .ok (.fz .none) (kept m ρ)
  | .rt s ρ => .ok s (kept m ρ)
  | .er c d ρ => .er c d (kept m ρ)
  | _ => .no
theorem kpFrom_mem : ∀ {m : List Bool} {i j : Nat}, m[j]? = some true → i + j ∈ kpFrom i m
  | true :: m, i, 0, _ => by simp [kpFrom]
  | true :: m, i, j + 1, h => by
    simp only [kpFrom]
    refine List.mem_cons_of_mem _ ?_
    have := kpFrom_mem (m := m) (i := i + 1) (j := j) (by simpa using h)
    rwa [show i + 1 + j = i + (j + 1) by omega] at this
  | false :: m, i, 0, h => by simp at h
  | false :: m, i, j + 1, h => by
    simp only [kpFrom]
    have := kpFrom_mem (m := m) (i := i + 1) (j := j) (by simpa using h)
    rwa [show i + 1 + j = i + (j + 1) by omega] at this
  | [], _, _, h => by simp at h
theorem kpFrom_lt : ∀ {m : List Bool} {i j : Nat}, j ∈ kpFrom i m → j < i + m.length
  | [], i, j, h => nomatch h
  | true :: m, i, j, h => by
    simp only [kpFrom] at h
    rcases List.mem_cons.mp h with rfl | h
    · simp
    · have := kpFrom_lt h; simp; omega
  | false :: m, i, j, h => by
    simp only [kpFrom] at h
    have := kpFrom_lt h; simp; omega
theorem SlotsOk.kept {K : Frag} {cl : ClsT} : ∀ {m : List Bool} {vs : List V} {ovs : List (Option V)} {ρ : DEnv} {fp : List Addr}, SlotsOk K cl H0 H ovs ρ fp → vs.length = m.length → (∀ (i : Nat), m[i]? = some true → ovs[i]? = (vs[i]?).map some) →
    ∃ fp' : List Addr, fp'.Sublist fp ∧ SlotsOk K cl H0 H (vs.map some) (Dl.kept m ρ) fp'
  | [], [], _, ρ, fp, _, _, _ => ⟨[], List.nil_sublist _, by rw [kept_nil]; exact .nil⟩
  | b :: m, v :: vs, _, _, _, .cons (ov := ov) (s := s) (f1 := f1) (f2 := f2) h t, hl, hk => by
    obtain ⟨fp', h1, h2⟩ := SlotsOk.kept (m := m) (vs := vs) t (by simpa using hl) fun i hi => by simpa using hk (i + 1) (by simpa using hi)
    cases b with
    | true =>
      have e : ov = some v := by simpa using hk 0 rfl
      subst e
      exact ⟨f1 ++ fp', h1.append_left f1, .cons h h2⟩
    | false => exact ⟨[] ++ fp', h1.trans (List.sublist_append_right f1 f2), .cons (f1 := []) rfl h2⟩
  | b :: m, v :: vs, _, _, _, .nil, hl, hk => by
    obtain ⟨fp', h1, h2⟩ := SlotsOk.kept (K := K) (cl := cl) (m := m) (vs := vs) (ovs := []) (ρ := []) (fp := []) .nil (by simpa using hl) fun i hi => by
      have := hk (i + 1) (by simpa using hi)
      simpa using this
    refine ⟨[] ++ fp', by simpa using h1, ?_⟩
    have : Dl.kept (b :: m) [] = .no :: Dl.kept m [] := by cases b <;> rfl
    rw [this]
    exact .cons (f1 := []) rfl h2
  | [], _ :: _, _, _, _, _, hl, _ => by simp at hl
  | _ :: _, [], _, _, _, _, hl, _ => by simp at hl
theorem SlotsOk.nones {K : Frag} {cl : ClsT} : ∀ {n : Nat}, SlotsOk K cl H0 H (List.replicate n none) (List.replicate n .no) []
  | 0 => .nil
  | n + 1 => .cons (f1 := []) (f2 := []) rfl SlotsOk.nones
end
theorem cld_mk {P : Program} {w : PySem.World} {K : Frag} {mg : Str → Option Value} {base : Heap} {cl : ClsT} {k : Nat} {x : Str} {st : Stmt} {f : Addr} {fd : FuncData} {N ps : List Str} {m : List Bool} {b : SM} (F : Fun K x x st f fd) (hm : mg x = some (.ref f)) (S : FnScope N ps (defScope st)) (hml : m.length = ps.length) (hN : ps.length ≤ N.length)
    (hb : ∀ (kV doc pm : Value) (an : Option Addr) (cdv ct : Value) (us ws : List Value) (ks : List Str), us.length + ws.length = ps.length → ks = ps.drop us.length → bindArgs (PySem.W.fnOf x x (defArgs st) (defBody st) (defScope st) .none kV doc pm an cdv ct) ⟨us, ks.zip ws⟩ = pure (ps.zip (us ++ ws)))
    (hbody : ∀ (cdv : Value) (A : Around) (outer : List Env) (s : Shared) (H : Hp) (E : XK) (G : Gm), Room k (A.deeper (envOfC x (defScope st) s.heap.objs.size f cdv)) → A.guards = some [] →
      PSs (cxOf (L2.CX P w) P w K mg base N x (defScope st) f cdv A outer s H E) (defBody st) (tS ⟨K, cl, kpFrom 0 m, G⟩ E b)) :
    Cld P w K mg base cl (k + 1) x ps (runF N.length m b) := by
  obtain ⟨oc, od, kV, doc, pm, an, cdv, ct, osl, rfl, lk, hcd⟩ := F.ex
  refine ⟨f, _, fn_ofG lk hcd S (fun vs H Q E h => ?_) (fun A outer s H vs Q E hr hgd hsp => ?_), hm, F.kp, fun s us ws ks hl hks => .of_eq (hb _ _ _ _ _ _ us ws ks hl hks)⟩
  · obtain ⟨_, _, _, h, _⟩ := h
    exact h
  · obtain ⟨H0, fp, ss, hn, hle, hs, nd, hf, tb, q⟩ := hsp
    refine ⟨_, hbody cdv A outer s H E ⟨H0, H, fp, vs⟩ hr hgd, [], [], ss ++ List.replicate (N.length - m.length) .no, ?_, ?_⟩
    · refine ⟨rfl, ⟨H0, fp, hle, ?_, nd, hf, Fr.refl⟩, fun i hi => ?_, tb⟩
      · have := hs.append (SlotsOk.nones (K := K) (cl := cl) (H0 := H0) (H := H) (n := N.length - m.length))
        simpa [L2.start, hn, hml] using this
      · have := kpFrom_lt hi
        show (L2.start N vs)[i]? = (vs[i]?).map some
        unfold L2.start
        rw [List.getElem?_append_left (by simp; omega), List.getElem?_map]
    · have fin : ∀ {v : V} {sl : Slot} {σ' : L2.St} {H' : Hp} {ρ' : DEnv}, World ⟨K, cl, kpFrom 0 m, ⟨H0, H, fp, vs⟩⟩ [v] [sl] σ' H' ρ' →
          ∃ (H0' : Hp) (fp' : List Addr), Le H0' H' ∧ SlotsOk K cl H0' H' ((v :: vs).map some) (sl :: kept m ρ') fp' ∧ fp'.Nodup ∧ (∀ a ∈ fp', H0' a = none) ∧ Fr H0 H fp H0' H' fp' := fun {v sl σ' H' ρ'} w => by
        obtain ⟨H0', fp', a1, a2, a3, a4, a5⟩ := w.ex
        have a2' : SlotsOk K cl H0' H' (some v :: σ') (sl :: ρ') fp' := by simpa using a2
        cases a2' with
        | cons b1 b2 =>
          rename_i g1 g2
          obtain ⟨fp2, c1, c2⟩ := SlotsOk.kept (m := m) (vs := vs) b2 (by rw [hn, hml]) fun i hi => by
            have := w.keep i (by simpa using kpFrom_mem (i := 0) hi)
            exact this
          exact ⟨H0', g1 ++ fp2, a1, .cons b1 c2, (c1.append_left g1).nodup a3, fun a ha => a4 a ((c1.append_left g1).subset ha), a5.less fun a ha => (c1.append_left g1).subset ha⟩
      unfold runF at q
      cases eb : b (ss ++ List.replicate (N.length - m.length) .no) with
      | no => rw [eb] at q; exact q.elim
      | bk ρ' => rw [eb] at q; exact q.elim
      | ct ρ' => rw [eb] at q; exact q.elim
      | nx ρ' =>
        rw [eb] at q
        intro σ' H' w
        obtain ⟨H0', fp', a1, a2, a3, a4, a5⟩ := fin (w.push .non)
        exact q _ H' H0' fp' a1 a2 a3 a4 a5
      | rt sl ρ' =>
        rw [eb] at q
        intro v σ' H' w
        obtain ⟨H0', fp', a1, a2, a3, a4, a5⟩ := fin w
        exact q _ H' H0' fp' a1 a2 a3 a4 a5
      | er c d ρ' =>
        rw [eb] at q
        intro cv dx H' h
        obtain ⟨σ', v, x, C, w, e1, e2, e3, e4⟩ := h
        subst e2 e3
        obtain ⟨H0', fp', a1, a2, a3, a4, a5⟩ := fin w
        exact q v H' H0' fp' C x a1 a2 a3 a4 a5 e1 e4
end Dl
end
section
namespace Dl
open PySem L2

section
variable {X : Cx} {W : Wc} {Ew : XK} {js is vl : List Nat} {ts vs us zs : List V} {tss ss sus szs : List Slot} {σ σ' : St} {H H' H0 H0' : Hp} {ρ : DEnv} {v v1 v2 : V} {s s1 s2 : Slot} {e : Expr} {k ka kb kc : Kd} {f fa fb fc : EM} {Q Q' : VK} {d d1 d2 : D} {p : Addr} {pre : List V} {preS : List Slot}
theorem pd_lc {elt tg iter : Expr} {ifs : List Expr} {scope : Scope} {own : List (Str × Nat)} {pos : Pos} {fi : DEnv → Out IS} {g : TG} {t : TgD} {c : DEnv → Out Bool} (h : TgOk W g is t) (his : ∀ i ∈ is, i ∈ own.map (·.2)) (hk : ∀ i ∈ W.kp, i ∉ own.map (·.2)) (hj : ∀ i ∈ js, i ∉ own.map (·.2))
    (hgd : ∀ ρ S ρ1, fi ρ = .ok S ρ1 → ∀ ρ', S.gd ρ' → S.gd (wipeD ρ' (own.map (·.2)))) (hc : X.calm = true) (hN : X.N.Nodup) (hi : PI X tg iter (tI W Ew js fi)) (ok : BlkOk X.N X.env.scope scope own)
    (hg : ∀ (s : Shared) (H : Hp) (C : Addr) (cl : List (Str × Addr)) (fp : List Addr), PG (X.blk s H scope (compEnvC scope cl C X.env) fp) tg g) (ht : ∀ (s : Shared) (H : Hp) (C : Addr) (cl : List (Str × Addr)) (fp : List Addr), PTs (X.blk s H scope (compEnvC scope cl C X.env) fp) ifs (tT W (fun _ _ _ => False) c))
    (he : ∀ (s : Shared) (H : Hp) (C : Addr) (cl : List (Str × Addr)) (fp : List Addr), PE (X.blk s H scope (compEnvC scope cl C X.env) fp) elt (tO W (fun _ _ _ => False) .t f)) (hs : ∀ x, foldedSetIterable iter X.env x = pure x := by intro _; rfl) :
    PE X (.ListComp elt [⟨tg, iter, ifs, 0⟩] scope pos) (tO W Ew .t (eLc (own.map (·.2)) fi t c f)) := PE.imp (pe_lc hc hN hi ok hg ht he hs) (lc_red h his hk hj hgd)
theorem gd_rg : ∀ ρ S ρ1, iRg f ρ = .ok S ρ1 → ∀ ρ', S.gd ρ' → S.gd (wipeD ρ' vl) := fun ρ S ρ1 h ρ' g => by
  unfold iRg at h
  cases ea : f ρ with
  | no => rw [ea] at h; cases h
  | er c d ρ' => rw [ea] at h; cases h
  | ok s ρ2 =>
    rw [ea] at h
    simp only [Out.bind_ok] at h
    split at h
    · split at h
      · cases h; trivial
      · cases h
    · cases h
def tYesD : DEnv → Out Bool := fun ρ => .ok true ρ
@[simp] theorem tYesD_eq (ρ : DEnv) : tYesD ρ = .ok true ρ := rfl
theorem PTs.imp {ifs : List Expr} {t t' : TT} (h : PTs X ifs t) (i : ∀ σ H Q, t' σ H Q → t σ H Q) : PTs X ifs t' := ⟨fun pins s σ H Q I q => h.run pins s σ H Q I (i σ H Q q)⟩
theorem pd_yes : PTs X [] (tT W Ew tYesD) := PTs.imp pts_nil fun σ H Q ⟨ts, tss, ρ, w, q⟩ => q H w

/-! ### one's own object in a slot -/
theorem World.env {i : Nat} (w : World W ts tss σ H ρ) (e2 : ρ[i]? = some (.ow c)) : ∃ a, σ[i]? = some (some (.ref a)) := by
  obtain ⟨H0, fp, _, h, _⟩ := w.ex
  obtain ⟨g1, g2, _, _, hD⟩ := SlotsOk.split (by simpa using w.len) h
  obtain ⟨ov, f1, f2, f3, e3, _, h1, _⟩ := hD.at e2
  cases ov with
  | none => exact h1.elim
  | some v => obtain ⟨a, rfl, _⟩ := h1; exact ⟨a, e3⟩
theorem World.envW {i : Nat} {a : Addr} {c : Cont} (w : World W (vs ++ ts) (ss ++ tss) σ H ρ) (hl : vs.length = ss.length) (e1 : σ[i]? = some (some (.ref a))) (e2 : ρ[i]? = some (.ow c)) (hlk : ∀ t kvs, c ≠ .lk t kvs := by intro _ _ z; cases z) :
    ∃ H0, Le H0 H ∧ Rdys W H0 H vs ss ∧ ContOk W.K W.cl H0 H a c ∧ ∀ {u : HO} {c' : Cont} {vs' : List V} {ds' : List D}, ContOk W.K W.cl H0 (upd H a u) a c' → RpL W.K W.cl H0 vs' ds' → World W (vs' ++ ts) (ds'.map Slot.fz ++ tss) σ (upd H a u) (ρ.set i (.ow c')) := by
  have hi := (List.getElem?_eq_some_iff.mp e2).1
  have w1 := ((w.pushNo (.ref a)).xch e1 e2)
  have w2 : World W (vs ++ .ref a :: ts) (ss ++ .ow c :: tss) σ H (ρ.set i .no) := World.back (vs := vs) (ss := ss) w1 hl
  obtain ⟨H0, hle, rd, hc, _, kw⟩ := World.write w2 hl hlk
  refine ⟨H0, hle, rd, hc, fun {u c' vs' ds'} h1 h2 => ?_⟩
  have w3 := World.move (kw h1 h2) (by simpa using h2.length)
  have w4 := (w3.xch e1 (by rw [List.getElem?_set_self (by simpa using hi)])).pop
  simpa using w4
def small (n : Nat) : Bool := decide (n ≤ 1000000)
theorem small_lt {n : Nat} (h : small n = true) : n < sizeLine := by
  have h2 : n ≤ 1000000 := by simpa [small] using h
  have : 2000001 ≤ sizeLine := million
  omega
/-! xs.append(e), xs.pop(), xs.pop(i), xs.extend(ys) -/
def ownL (i : Nat) (ρ : DEnv) : Option (List D) := match ρ.getD i .no with
  | .ow (.lst ds) => some ds
  | _ => none
theorem ownL_inv {i : Nat} {ds : List D} (h : ownL i ρ = some ds) : ρ[i]? = some (.ow (.lst ds)) := by
  unfold ownL at h
  split at h
  · rename_i ds' e; cases h; exact getD_some e (by simp)
  · cases h
def eApp (i : Nat) (f : EM) : EM := fun ρ => match ownL i ρ with
  | none => .no
  | some _ => (f ρ).bind fun s ρ1 => match s.shared with
    | none => .no
    | some d => match ownL i ρ1 with
      | none => .no
      | some ds => if small ds.length then .ok (.fz .none) (ρ1.set i (.ow (.lst (ds ++ [d])))) else .no
theorem World.tyL {i : Nat} {ds : List D} {K : Frag} (w : World W ts tss σ H ρ) (h : ownL i ρ = some ds) : ∃ a, σ[i]? = some (some (.ref a)) ∧ tyV K "list" (.ref a) H := by
  have e := ownL_inv h
  obtain ⟨a, ha⟩ := w.env e
  obtain ⟨H0, _, _, hc, _⟩ := World.envW (vs := []) (ss := []) w rfl ha e
  obtain ⟨xs, h1, _⟩ := hc
  exact ⟨a, ha, .inl ⟨rfl, xs, SqL.of h1⟩⟩
def ePop (i : Nat) (f : EM) : EM := fun ρ => match ownL i ρ with
  | none => .no
  | some _ => (f ρ).bind fun s ρ1 => match s.d? with
    | some (.int j) => match ownL i ρ1 with
      | none => .no
      | some ds => if 0 ≤ j then match ds[j.toNat]? with
        | some d => if small ds.length then .ok (.fz d) (ρ1.set i (.ow (.lst (ds.eraseIdx j.toNat)))) else .no
        | none => .no
       else .no
    | _ => .no
def eExt (i : Nat) (f : EM) : EM := fun ρ => match ownL i ρ with
  | none => .no
  | some _ => (f ρ).bind fun s ρ1 => match s with
    | .ow (.lst es) => match ownL i ρ1 with
      | none => .no
      | some ds => if small (ds.length + es.length) then .ok (.fz .none) (ρ1.set i (.ow (.lst (ds ++ es)))) else .no
    | _ => .no
theorem ext_red {i : Nat} {K : Frag} : ∀ σ H Q, tO W Ew .t (eExt i f) σ H Q → tBM K "list" rExtend (tVar i) (tAr W Ew [.t] (eArgs [(.t, f)])) σ H Q := fun σ H Q ⟨ts, tss, ρ, w, q⟩ => by
  unfold eExt at q
  cases e0 : ownL i ρ with
  | none => rw [e0] at q; exact q.elim
  | some ds0 =>
    rw [e0] at q
    simp only at q
    obtain ⟨a, ha, ty⟩ := w.tyL (K := K) e0
    refine ⟨_, ha, ty, ts, tss, ρ, w, ?_⟩
    simp only [eArgs]
    cases ea : f ρ with
    | no => rw [ea] at q; exact q
    | er c d ρ' => rw [ea] at q; exact q
    | ok s ρ1 =>
      rw [ea] at q
      simp only [Out.bind_ok] at q ⊢
      split at q
      · rename_i es
        cases e1 : ownL i ρ1 with
        | none => rw [e1] at q; exact q.elim
        | some ds =>
          rw [e1] at q
          simp only at q
          intro vs H1 hl w1 _
          match vs, hl with
          | [v], _ =>
            split at q
            · rename_i hs
              obtain ⟨H0, hle, rd, hc, kw⟩ := World.envW (vs := [v]) (ss := [.ow (.lst es)]) w1 rfl ha (ownL_inv e1)
              obtain ⟨xs, h1, h2⟩ := hc
              cases rd with
              | cons rd _ =>
                obtain ⟨fp, b, rfl, ⟨zs, h3, h4⟩, _⟩ := rd
                have := small_lt hs
                exact ⟨a, b, xs, zs, rfl, rfl, h1, h3, by have := h2.length; have := h4.length; omega, q _ _ (World.push (kw (vs' := []) (ds' := []) ⟨_, upd_same, h2.append h4⟩ .nil) .non) trivial⟩
            · exact q.elim
      · exact q.elim
section
variable {i : Nat} {x : Str} {px apos cpos : Pos} {a : Expr}
theorem pd_ext (ho : PE X (.Name x px) (tVar i)) (ha : PA X [a] (tAr W Ew [.t] (eArgs [(.t, f)])))
    (hbase : attributeBase (.Name x px) "extend" X.env (eval (.Name x px) X.env) = eval (.Name x px) X.env := by rfl)
    (hfew : ((backTo cpos (starEach [a] X.env)).all (fun x => !x.1) && (backToKw cpos (keywordEach [] X.env)).all (fun x => x.1.isSome)
      && decide ([a].length + ([] : List Keyword).length + (if ([] : List Keyword).isEmpty then 0 else 1) < 30)) = true := by rfl)
    (hline : (apos.endLine == cpos.line) = true := by rfl) (hs : starEach [a] X.env = (false, eval a X.env) :: starEach [] X.env := by rfl) (hplain : (backTo cpos (starEach [] X.env)).any (·.1) = false := by rfl) :
    PE X (.Call (.Attribute (.Name x px) "extend" apos) [a] [] cpos) (tO W Ew .t (eExt i f)) :=
  PE.imp (pe_bm PySem.F.plainAttrs_list PySem.F.slot_list_extend PySem.F.type_list_extend mt_extend ho ha hbase hfew hline hs hplain) ext_red
end
/-! ### o[k] = e -/
def dPut (kvs : List (D × D)) (k x : D) : List (D × D) := if (kvs.any fun e => PyData.eqv e.1 k) then kvs.map (fun e => if PyData.eqv e.1 k then (e.1, x) else e) else kvs ++ [(k, x)]
def stoOp : Cont → D → D → Option Cont
  | .lst ds, .int i, d => (ixN ds.length i).map fun k => .lst (ds.set k d)
  | .dct t kvs, k, d => if isKey t k && small kvs.length then some (.dct t (dPut kvs k d)) else none
  | _, _, _ => none
theorem put_any {κ : Type} [DecidableEq κ] (enc : κ → D) (he : ∀ a b, PyData.eqv (enc a) (enc b) = decide (a = b)) : ∀ {l : List (κ × V)} {kvs : List (D × D)} (k : κ), kvs.map (·.1) = l.map (fun e => enc e.1) →
    (kvs.any fun e => PyData.eqv e.1 (enc k)) = (l.any fun e => decide (e.1 = k))
  | [], [], _, _ => rfl
  | [], _ :: _, _, e => by simp at e
  | _ :: _, [], _, e => by simp at e
  | (k0, v0) :: l, (d0, e0) :: kvs, k, e => by
    simp only [List.map_cons, List.cons.injEq] at e
    obtain ⟨e1, e2⟩ := e
    subst e1
    simp only [List.any_cons, he, put_any enc he k e2]
theorem put_map {κ : Type} [DecidableEq κ] (enc : κ → D) (he : ∀ a b, PyData.eqv (enc a) (enc b) = decide (a = b)) {K : Frag} {cl : ClsT} {y : V} {x : D} (hx : Rp K cl H y x) : ∀ {l : List (κ × V)} {kvs : List (D × D)} (k : κ), kvs.map (·.1) = l.map (fun e => enc e.1) → RpL K cl H (l.map (·.2)) (kvs.map (·.2)) →
    (kvs.map fun e => if PyData.eqv e.1 (enc k) then (e.1, x) else e).map (·.1) = (l.map fun e => if e.1 = k then (e.1, y) else e).map (fun e => enc e.1) ∧
    RpL K cl H ((l.map fun e => if e.1 = k then (e.1, y) else e).map (·.2)) ((kvs.map fun e => if PyData.eqv e.1 (enc k) then (e.1, x) else e).map (·.2))
  | [], [], _, _, h => ⟨rfl, .nil⟩
  | [], _ :: _, _, e, _ => by simp at e
  | _ :: _, [], _, e, _ => by simp at e
  | (k0, v0) :: l, (d0, e0) :: kvs, k, e, h => by
    simp only [List.map_cons, List.cons.injEq] at e h
    obtain ⟨e1, e2⟩ := e
    subst e1
    cases h with
    | cons h1 h2 =>
      obtain ⟨i1, i2⟩ := put_map enc he hx k e2 h2
      by_cases q : k0 = k
      · subst q
        simp only [List.map_cons, he, decide_true, if_true]
        exact ⟨by rw [i1], .cons hx i2⟩
      · simp only [List.map_cons, he, decide_eq_false q, if_neg q]
        exact ⟨by simp only [Bool.false_eq_true, if_false]; rw [i1], .cons (by simpa using h1) i2⟩
theorem put_ok {κ : Type} [DecidableEq κ] (enc : κ → D) (he : ∀ a b, PyData.eqv (enc a) (enc b) = decide (a = b)) {K : Frag} {cl : ClsT} {y : V} {x : D} (hx : Rp K cl H y x) {l : List (κ × V)} {kvs : List (D × D)} (k : κ) (h1 : kvs.map (·.1) = l.map (fun e => enc e.1)) (h2 : RpL K cl H (l.map (·.2)) (kvs.map (·.2))) :
    (dPut kvs (enc k) x).map (·.1) = (putK l k y).map (fun e => enc e.1) ∧ RpL K cl H ((putK l k y).map (·.2)) ((dPut kvs (enc k) x).map (·.2)) := by
  unfold dPut putK
  rw [put_any enc he k h1]
  split
  · exact put_map enc he hx k h1 h2
  · refine ⟨by simp [h1], ?_⟩
    simp only [List.map_append, List.map_cons, List.map_nil]
    exact h2.append (.cons hx .nil)
def rSto : V → V → V → Hp → (Hp → Prop) → Prop := fun o i v H Q => rSetL o i v H Q ∨ ∃ a H', o = .ref a ∧ DPut H a i v H' ∧ Q H'
theorem set_sto (hu : X.A.units + 1 < cLine) : PSet X rSto := by
  intro pins s σ H o i v ov iv u Q I ro ri rv h
  rcases h with h | ⟨a, H', rfl, g, q⟩
  · exact set_list pins s σ H o i v ov iv u Q I ro ri rv h
  · obtain rfl : ov = Value.ref a := ro
    exact d_setItem hu I g ri rv fun s' I' => ⟨H', I', q⟩
def ownC (j : Nat) (ρ : DEnv) : Option Cont := match ρ.getD j .no with
  | .ow c => some c
  | _ => none
theorem ownC_inv {i : Nat} {c : Cont} (h : ownC i ρ = some c) : ρ[i]? = some (.ow c) := by
  unfold ownC at h
  split at h
  · rename_i ds' e; cases h; exact getD_some e (by simp)
  · cases h
def sSto (j : Nat) (fv fi : EM) : SM := fun ρ => (fv ρ).bindS fun sv ρ1 => match sv.shared with
  | none => .no
  | some d => match ownC j ρ1 with
    | none => .no
    | some _ => (fi ρ1).bindS fun si ρ2 => match si.d? with
      | none => .no
      | some di => match ownC j ρ2 with
        | none => .no
        | some c => match stoOp c di d with
          | some c' => .nx (ρ2.set j (.ow c'))
          | none => .no
theorem RpL.keyV {K : Frag} {cl : ClsT} : ∀ {key : List Key} {ys : List V}, RpL K cl H ys (key.map keyD) → ys = key.map kV
  | [], _, h => by cases h; rfl
  | k0 :: key, _, h => by
    cases h with
    | cons r1 r2 => rw [RpL.keyV r2]; cases k0 <;> (cases r1; rfl)
theorem sto_ok {a : Addr} {c c' : Cont} {i v : V} {di d : D} {Qh : Hp → Prop} (hle : Le H0 H) (hc : ContOk W.K W.cl H0 H a c) (hi : Rp W.K W.cl H i di) (hv : Rp W.K W.cl H0 v d) (h : stoOp c di d = some c')
    (q : ∀ u, ContOk W.K W.cl H0 (upd H a u) a c' → Qh (upd H a u)) : rSto (.ref a) i v H Qh := by
  cases c with
  | lst ds =>
    obtain ⟨xs, h1, h2⟩ := hc
    cases di <;> simp only [stoOp] at h <;> first | cases h | skip
    rename_i n
    obtain ⟨k, hk, rfl⟩ := Option.map_eq_some_iff.mp h
    cases hi
    exact .inl ⟨a, xs, n, k, rfl, rfl, h1, by rw [h2.length]; exact hk, q _ ⟨_, upd_same, h2.set k hv⟩⟩
  | dct t kvs =>
    simp only [stoOp] at h
    split at h
    · rename_i hk
      cases h
      simp only [Bool.and_eq_true] at hk
      obtain ⟨hk, hs⟩ := hk
      obtain ⟨u, h1, h2⟩ := hc
      cases t with
      | false =>
        obtain ⟨l, rfl, h3, h4⟩ := h2
        simp only [isKey, Option.isSome_iff_exists] at hk
        obtain ⟨key, hk⟩ := hk
        have ek := flatD_key hk
        subst ek
        obtain ⟨p1, p2⟩ := put_ok keyD eqv_keyD hv key h3 h4
        have ei : i = kV key := by cases key <;> (cases hi; rfl)
        subst ei
        refine .inr ⟨a, _, rfl, .k h1 ?_, q _ ⟨_, upd_same, _, rfl, p1, p2⟩⟩
        have := small_lt hs
        have := congrArg List.length h3
        simp at this
        omega
      | true =>
        obtain ⟨l, rfl, h3, h4⟩ := h2
        cases di <;> simp only [isKey] at hk <;> first | cases hk | skip
        rename_i kds
        rw [Option.isSome_iff_exists] at hk
        obtain ⟨key, hk⟩ := hk
        have ek := flatsD_keys hk
        subst ek
        obtain ⟨p1, p2⟩ := put_ok keysD eqv_keysD hv key h3 h4
        cases hi with
        | @tup b ys _ e r =>
          have ey : ys = key.map kV := RpL.keyV r
          subst ey
          refine .inr ⟨a, _, rfl, .t h1 e ?_, q _ ⟨_, upd_same, _, rfl, p1, p2⟩⟩
          have := small_lt hs
          have := congrArg List.length h3
          simp at this
          omega
    · cases h
  | lk t kvs => cases h
  | gd kvs => cases h
theorem sto_red {j : Nat} : ∀ Dn σ H, tS W Ew (sSto j fa fb) Dn σ H → tAsg (tO W Ew .t fa) (gSub (tVar j) (tO W Ew .t fb) rSto) Dn σ H := fun Dn σ H ⟨ts, tss, ρ, w, q⟩ => by
  refine ⟨ts, tss, ρ, w, ?_⟩
  unfold sSto at q
  cases ea : fa ρ with
  | no => rw [ea] at q; exact q
  | er c d ρ' => rw [ea] at q; exact q
  | ok sv ρ1 =>
    rw [ea] at q
    simp only [Out.bindS_ok] at q
    cases es : sv.shared with
    | none => rw [es] at q; exact q.elim
    | some d =>
      rw [es] at q
      simp only at q
      intro v H1 w1 _
      have w2 := w1.freeze es
      cases e0 : ownC j ρ1 with
      | none => rw [e0] at q; exact q.elim
      | some c0 =>
        rw [e0] at q
        simp only at q
        obtain ⟨a, ha⟩ := w2.env (ownC_inv e0)
        refine ⟨.ref a, ha, v :: ts, .fz d :: tss, ρ1, w2, ?_⟩
        cases eb : fb ρ1 with
        | no => rw [eb] at q; exact q
        | er c d ρ' => rw [eb] at q; exact q
        | ok si ρ2 =>
          rw [eb] at q
          simp only [Out.bindS_ok] at q
          intro vi H2 w3 _
          cases edi : si.d? with
          | none => rw [edi] at q; exact q.elim
          | some di =>
            rw [edi] at q
            simp only at q
            cases e1 : ownC j ρ2 with
            | none => rw [e1] at q; exact q.elim
            | some c =>
              rw [e1] at q
              simp only at q
              cases e2 : stoOp c di d with
              | none => rw [e2] at q; exact q.elim
              | some c' =>
                rw [e2] at q
                obtain ⟨H0, hle, rd, hc, kw⟩ := World.envW (vs := [vi, v]) (ss := [si, .fz d]) (ts := ts) (tss := tss) w3 rfl ha (ownC_inv e1) (fun t kvs z => by subst z; cases e2)
                cases rd with
                | cons r1 rd =>
                  cases rd with
                  | cons r2 _ =>
                    obtain ⟨_, r2, _⟩ := r2
                    exact sto_ok hle hc (r1.rp hle edi) r2 e2 fun u hu => q σ _ (kw (vs' := []) (ds' := []) hu .nil)
section
variable {j : Nat} {x : Str} {px pos pos' : Pos} {ix : Expr}
theorem pd_sto (hu : X.A.units + 1 < cLine) (ho : PE X (.Name x px) (tVar j)) (hi : PE X ix (tO W Ew .t fb)) (hv : PE X e (tO W Ew .t fa))
    (ha : ∀ v, assign (.Subscript (.Name x px) ix pos') X.env v = (do
      let ov ← holding [v] (eval (.Name x px) X.env)
      let iv ← holding [v, ov] (eval ix X.env)
      standAt pos'
      holding [v, ov, iv] (setItem ov iv v)
      release [v, ov, iv] []) := by intro _; rfl)
    (hs : swapsWithSole [.Subscript (.Name x px) ix pos'] e pos.line X.env = pure false := by rfl) (hw : swappedStores [.Subscript (.Name x px) ix pos'] e X.env = pure none := by rfl)
    (h1 : (assignEach [.Subscript (.Name x px) ix pos'] X.env).map (·.2) = [assign (.Subscript (.Name x px) ix pos') X.env] := by rfl) : PS X (.Assign [.Subscript (.Name x px) ix pos'] e pos) (tS W Ew (sSto j fa fb)) :=
  PS.imp (ps_asg hv (pg_sub ho hi (set_sto hu) ha) hs hw h1) sto_red
end
end
end Dl
end
section
set_option maxHeartbeats 1000000
/-! zip of lists and tuples, mixed -/
namespace DlZ
open PySem
open PySem.Sem (wp)
abbrev zO (T : Bool) (l : Addr) : Obj := { cls := .type (if T then "tuple_iterator" else "list_iterator"), data := .fields #[.ref l, .int 0 0] }
def IsSq (T : Bool) (h : Heap) (l : Addr) (xs : Array Value) : Prop := match T with
  | true => h.IsTuple l xs
  | false => h.IsList l xs
def IsIt (T : Bool) (h : Heap) (it l : Addr) (i : Nat) : Prop := match T with
  | true => h.IsTupleIter it l i
  | false => h.IsListIter it l i
abbrev zH1 (T1 : Bool) (h : Heap) (l1 : Addr) : Heap := h.push (zO T1 l1)
abbrev zH2 (T1 T2 : Bool) (h : Heap) (l1 l2 : Addr) : Heap := (zH1 T1 h l1).push (zO T2 l2)
abbrev zH3 (T1 T2 : Bool) (h : Heap) (l1 l2 : Addr) : Heap := (zH2 T1 T2 h l1 l2).push { cls := .type "tuple", data := .seq #[.ref h.objs.size, .ref (zH1 T1 h l1).objs.size] }
abbrev zH4 (T1 T2 : Bool) (h : Heap) (l1 l2 : Addr) : Heap := (zH3 T1 T2 h l1 l2).push { cls := .type "tuple", data := .seq #[.none, .none] }
abbrev zH5 (T1 T2 : Bool) (h : Heap) (l1 l2 : Addr) : Heap := (zH4 T1 T2 h l1 l2).push { cls := .type "zip", data := .fields #[.none, .bool false, .bool false, .ref (zH2 T1 T2 h l1 l2).objs.size, .ref (zH3 T1 T2 h l1 l2).objs.size] }
section
variable {prog : Program} {w : World} {A : Around} {E : Value → Shared → Prop} {s : Shared}
theorem drawsB (T : Bool) (hh : A.handled = none) (it l : Addr) (hne : l ≠ it) (items : Array Value) :
    Draws prog w A it [it, l] items.size (fun i v => items[i]? = some v) (fun i h => IsIt T h it l i ∧ IsSq T h l items) := by
  cases T
  · exact Draws.list hh it l hne items
  · exact Draws.tuple hh it l hne items
theorem isIt_at {T : Bool} {h h' : Heap} {it l : Addr} {i : Nat} (x : IsIt T h it l i) (k : ∀ o, h.get? it = some o → h'.get? it = some o) : IsIt T h' it l i := by
  cases T
  · exact Heap.IsListIter.at x k
  · exact Heap.IsTupleIter.at x k
theorem isIt_obj {T : Bool} {h : Heap} {it l : Addr} {i : Nat} (x : IsIt T h it l i) : ∃ o, h.get? it = some o ∧ ∀ v, o.data ≠ .cell v := by
  cases T <;> (obtain ⟨o, e, _, d⟩ := x; exact ⟨o, e, fun v q => by rw [d] at q; cases q⟩)
end
end DlZ
namespace DlZ
open PySem PySem.Spec PyProof.Rows L2
def SqB (T : Bool) (K : PySem.W.Frag) (H : Hp) (a : Addr) (xs : List V) : Prop := match T with
  | true => SqT K H a xs
  | false => SqL K H a xs
theorem sqB_inv {X : Cx} {pins : List (Addr × Obj)} {σ : L2.St} {H : Hp} {s : Shared} {T : Bool} {a : Addr} {xs : List V} (I : Inv X pins σ H s) (h : SqB T X.K H a xs) : ∃ its : List Value, Vals xs its ∧ IsSq T s.heap a its.toArray ∧ xs.length ≤ sizeLine := by
  cases T
  · obtain ⟨its, r, p, z⟩ := I.list h; exact ⟨its, r, p.isList, z⟩
  · obtain ⟨its, r, p, z⟩ := I.tuple h; exact ⟨its, r, (show s.heap.IsTuple a its.toArray from p), z⟩
theorem sqB_inj {X : Cx} {pins : List (Addr × Obj)} {σ : L2.St} {H : Hp} {s : Shared} {T : Bool} {a : Addr} {xs ys : List V} (I : Inv X pins σ H s) (h : SqB T X.K H a xs) (h' : SqB T X.K H a ys) : xs = ys := by
  cases T
  · exact I.list_inj h h'
  · exact I.tuple_inj h h'
def ItzB (T1 T2 : Bool) (K : PySem.W.Frag) (a b : Addr) : It :=
  ⟨fun i H => ∃ (xs ys : List V) (x y : V), SqB T1 K H a xs ∧ SqB T2 K H b ys ∧ xs[i]? = some x ∧ ys[i]? = some y,
    fun i H v H' => ∃ T x y, v = .ref T ∧ H T = none ∧ H' = upd H T (.tup [x, y]) ∧ (∀ xs, SqB T1 K H a xs → xs[i]? = some x) ∧ ∀ ys, SqB T2 K H b ys → ys[i]? = some y,
    fun i H => ∃ xs ys : List V, SqB T1 K H a xs ∧ SqB T2 K H b ys ∧ (i = xs.length ∧ i ≤ ys.length ∨ i = ys.length ∧ i ≤ xs.length)⟩
def iZipB (K : PySem.W.Frag) (ta : TA) : TI := fun σ H R => ta σ H fun vs H1 => ∃ T1 T2 a b xs ys, vs = [.ref a, .ref b] ∧ SqB T1 K H1 a xs ∧ SqB T2 K H1 b ys ∧ (xs.length ≤ sizeLine → R (ItzB T1 T2 K a b) H1)
end DlZ
end
section
set_option maxHeartbeats 1000000
/-! dict(zip(a, b)) with keys that are tuples -/
namespace DlZ
open PySem
open PySem.Sem (wp)
section
variable {prog : Program} {w : World} {A : Around} {E : Value → Shared → Prop} {s : Shared} {z TI TO T i1 i2 : Addr} {f : Bool} {oT : Obj} {fp1 fp2 : List Addr} {n1 n2 i : Nat} {P1 P2 : Nat → Value → Prop} {St1 St2 : Nat → Heap → Prop}
end
section
variable {prog : Program} {w : World}
end
end DlZ
end
section
namespace Dl
open PySem L2
open PySem.W (EachIs)

def sortB (ds : List D) : Bool := (ds.all fun d => match d with | .tuple (_ :: _) => true | _ => false) || ds.all fun d => match d with | .none => false | .tuple _ => false | _ => true
def sortK (ds : List D) : Option (List D) := if layL 60 ds && allAlike ds && sortB ds then some (ds.mergeSort (PySem.W.dataLe false id)) else none
def sortL (ds : List D) : Option (List D) := if ds.length ≤ 1 then some ds else sortK ds
section
variable {X : Cx} {W : Wc} {Ew : XK} {pins : List (Addr × Obj)} {σ : L2.St} {H H0 : Hp} {s : Shared} {v : V} {u : Value} {sl sl' : Slot} {d : D} {a : Addr} {xs : List V} {ds : List D}
def Rr (W : Wc) (H0 : Hp) (u : Value) (d : D) : Prop := ∃ v, RelV v u ∧ Rp W.K W.cl H0 v d
def sortedOp : D → Option Slot
  | .list ds => (sortL ds).map fun es => .ow (.lst es)
  | d => match asDct d with
    | some (true, kvs) => (sortK (kvs.map (·.1))).map fun es => .ow (.lst es)
    | _ => none
mutual
theorem reads_lt {h : Heap} : ∀ (d : D) (v : Value) (as : List Addr), d.plain = true → Reads h v d as → ∀ a ∈ as, a < h.objs.size
  | .none, _, _, _, r, a, ha => by cases r; cases ha
  | .bool _, _, _, _, r, a, ha => by cases r; cases ha
  | .int _, _, _, _, r, a, ha => by cases r; cases ha
  | .str _, _, _, _, r, a, ha => by cases r; cases ha
  | .list xs, _, _, hp, r, a, ha => by
    cases r with
    | list h1 h2 h3 h4 =>
      rcases List.mem_cons.mp ha with rfl | ha
      · exact Heap.lt_size h1
      · exact readsAll_lt xs _ _ (by simpa [PyData.plain] using hp) h4 a ha
  | .tuple xs, _, _, hp, r, a, ha => by
    cases r with
    | tuple h1 h2 h3 h4 => exact readsAll_lt xs _ _ (by simpa [PyData.plain] using hp) h4 a ha
  | .dict _, _, _, hp, _, _, _ => by simp [PyData.plain] at hp
theorem readsAll_lt {h : Heap} : ∀ (ds : List D) (vs : List Value) (as : List Addr), PyData.plainAll ds = true → ReadsAll h vs ds as → ∀ a ∈ as, a < h.objs.size
  | [], _, _, _, r, a, ha => by cases r; cases ha
  | d :: ds, _, _, hp, r, a, ha => by
    rw [PyData.plainAll, Bool.and_eq_true] at hp
    cases r with
    | cons h1 h2 => exact (List.mem_append.mp ha).elim (reads_lt d _ _ hp.1 h1 a) (readsAll_lt ds _ _ hp.2 h2 a)
end
def adT (H0 H : Hp) : Hp := fun a => match H0 a with
  | some o => some o
  | none => match H a with
    | some (.tup xs) => some (.tup xs)
    | _ => none
end
end Dl
end
section
set_option maxHeartbeats 1000000
namespace DlZ
open PySem PySem.Spec PyProof.Rows L2
abbrev putAll (l : List (List Key × V)) : List (List Key × V) := l.foldl (fun acc e => putK acc e.1 e.2) []
def tDZ (K : PySem.W.Frag) (ta : TA) : TE := fun σ H Q => ta σ H fun vs H1 => ∃ (T1 T2 : Bool) (a b : Addr) (ys : List V) (bs : List (List Key × Addr)), vs = [.ref a, .ref b] ∧ SqB T1 K H1 a (bs.map fun e => V.ref e.2) ∧ SqB T2 K H1 b ys ∧
  (∀ e ∈ bs, H1 e.2 = some (.tup (e.1.map kV))) ∧ ∀ p, H1 p = none → Q (.ref p) (upd H1 p (.dT (putAll ((bs.map (·.1)).zip ys))))
end DlZ
namespace Dl
open PySem L2 DlZ
/-! ### in the data layer -/
def seqOf : D → Option (Bool × List D)
  | .list ds => some (false, ds)
  | .tuple ds => some (true, ds)
  | _ => none
section
variable {X : Cx} {W : Wc} {Ew : XK} {js is vl : List Nat} {ts vs us : List V} {tss ss sus : List Slot} {σ σ' : L2.St} {H H' H0 H0' : Hp} {ρ : DEnv} {v v1 v2 : V} {s s1 s2 : Slot} {e e2 : Expr} {k ka kb kc : Kd} {f fa fb fc : EM} {Q Q' : VK} {d d1 d2 : D} {p : Addr}
theorem Rdy.sq {T : Bool} {ds : List D} {K : Frag} (hle : Le H0 H) (h : Rdy W H0 H v s) (e : s.d? = some d) (hd : seqOf d = some (T, ds)) : ∃ a xs, v = .ref a ∧ SqB T K H a xs ∧ RpL W.K W.cl H0 xs ds := by
  cases d <;> simp only [seqOf] at hd <;> cases hd
  · obtain ⟨a, xs, rfl, h1, h2⟩ := h.lst hle e; exact ⟨a, xs, rfl, .inl h1, h2⟩
  · obtain ⟨a, xs, rfl, h1, h2⟩ := h.tup hle e; exact ⟨a, xs, rfl, SqT.of h1, h2⟩
theorem rdys_tail : ∀ {pre us : List V} {preS ss : List Slot}, pre.length = preS.length → Rdys W H0 H (pre ++ us) (preS ++ ss) → Rdys W H0 H us ss
  | [], _, [], _, _, h => h
  | _ :: pre, us, _ :: preS, ss, hl, h => by
    cases h with
    | cons _ t => exact rdys_tail (by simpa using hl) t
  | [], _, _ :: _, _, hl, _ => by simp at hl
  | _ :: _, _, [], _, hl, _ => by simp at hl
theorem kds_keep {σ0 : L2.St} : ∀ {ks : List Kd} {vs : List V}, KdsOk W σ0 ks vs → (∀ j ∈ ks.flatMap Kd.ix, σ[j]? = σ0[j]?) → KdsOk W σ ks vs
  | _, _, .nil, _ => .nil
  | _, _, .cons h t, hj => .cons (kd_keep h fun j hm => hj j (by simp [hm])) (kds_keep t fun j hm => hj j (by rw [List.flatMap_cons]; exact List.mem_append_right _ hm))
theorem World.atN {ks : List Kd} {pre : List V} {preS : List Slot} (w : World W (pre ++ (us ++ ts)) (preS ++ (ss ++ tss)) σ H ρ) (hl : pre.length = preS.length) (hu : us.length = ss.length) (hk : KdsOk W σ ks us) :
    ∃ H0, Le H0 H ∧ Rdys W H0 H us (slL ks ss ρ) ∧ ∀ {x : V} {d : Slot} {H' H0' : Hp}, Res W H0 H H0' H' x d → World W (x :: (pre ++ (us ++ ts))) (d :: (preS ++ (ss ++ tss))) σ H' ρ := by
  obtain ⟨H0, hle, rd, en, kr⟩ := World.res0 (vs := pre ++ us) (ss := preS ++ ss) (ts := ts) (tss := tss) (by simpa using w) (by simp [hl, hu])
  exact ⟨H0, hle, rdys_sl en (rdys_tail hl rd) hk, fun r => by simpa using kr r⟩
def iZp (ka kb : Kd) (fa fb : EM) : DEnv → Out IS := fun ρ => (eArgs [(ka, fa), (kb, fb)] ρ).bind fun ss ρ1 => match slL [ka, kb] ss ρ1 with
  | [s, t] => match s.d?, t.d? with
    | some a, some b => match seqOf a, seqOf b with
      | some (_, ds), some (_, es) => .ok ⟨List.zipWith (fun x y => .tuple [x, y]) ds es, fun ρ' => gdOf ka a ρ' ∧ gdOf kb b ρ'⟩ ρ1
      | _, _ => .no
    | _, _ => .no
  | _ => .no
/-! dict(zip(a, b)) -/
def isKeys : List D → Bool
  | [] => true
  | d :: ds => isKey true d && isKeys ds
theorem RpL.keysT : ∀ {ds : List D} {xs : List V}, RpL W.K W.cl H0 xs ds → isKeys ds = true → ∃ bs : List (List Key × Addr), xs = bs.map (fun e => V.ref e.2) ∧ ds = bs.map (fun e => keysD e.1) ∧ ∀ e ∈ bs, H0 e.2 = some (.tup (e.1.map kV))
  | [], _, h, _ => by cases h; exact ⟨[], rfl, rfl, fun e he => nomatch he⟩
  | d :: ds, _, h, hk => by
    simp only [isKeys, Bool.and_eq_true] at hk
    cases h with
    | cons h1 h2 =>
      obtain ⟨bs, rfl, rfl, hb⟩ := RpL.keysT h2 hk.2
      have hk1 := hk.1
      cases d <;> simp only [isKey] at hk1 <;> first | cases hk1 | skip
      rename_i kds
      rw [Option.isSome_iff_exists] at hk1
      obtain ⟨key, hk1⟩ := hk1
      have := flatsD_keys hk1
      subst this
      cases h1 with
      | @tup b ys _ e r =>
        refine ⟨(key, b) :: bs, rfl, rfl, fun x hx => ?_⟩
        rcases List.mem_cons.mp hx with rfl | hx
        · rw [e, RpL.keyV r]
        · exact hb x hx
def dPutAll (l : List (D × D)) : List (D × D) := l.foldl (fun acc e => dPut acc e.1 e.2) []
def dzOp (a b : D) : Option Slot := match seqOf a, seqOf b with
  | some (_, ds), some (_, es) => if isKeys ds then some (.ow (.dct true (dPutAll (ds.zip es)))) else none
  | _, _ => none
end
end Dl
end
section
namespace Dl
open PySem L2
abbrev Wc.at (W : Wc) (G : Gm) : Wc := { W with G := G }
section
variable {X : Cx} {W : Wc} {Ew : XK} {js is vl : List Nat} {ts vs us : List V} {tss ss sus : List Slot} {σ σ' : L2.St} {H H' H0 H0' : Hp} {ρ : DEnv} {v v1 v2 : V} {s s1 s2 : Slot} {e e2 : Expr} {k ka kb kc : Kd} {f fa fb fc : EM} {Q Q' : VK} {d d1 d2 : D} {p a : Addr} {tt : Bool} {kvs : List (D × D)}
theorem PE.ex {α : Type} {t : α → TE} (h : ∀ x, PE X e (t x)) : PE X e (fun σ H Q => ∃ x, t x σ H Q) := ⟨fun pins s σ H Q I ⟨x, q⟩ => (h x).run pins s σ H Q I q⟩
theorem PTs.ex {α : Type} {ifs : List Expr} {t : α → TT} (h : ∀ x, PTs X ifs (t x)) : PTs X ifs (fun σ H Q => ∃ x, t x σ H Q) := ⟨fun pins s σ H Q I ⟨x, q⟩ => (h x).run pins s σ H Q I q⟩
theorem World.locked {o : Obj} {u : HO} (w : World W ts tss σ H ρ) (h : W.G.H a = some (.frz o u)) : H a = some (.frz o u) := by
  obtain ⟨H0, fp, hle, hs, nd, hn, fr⟩ := w.ex
  exact fr.frzs a o u h
def ownD (i : Nat) (ρ : DEnv) : Option (Bool × List (D × D)) := match ρ.getD i .no with
  | .ow (.dct t kvs) => some (t, kvs)
  | _ => none
noncomputable def eLcD (vl : List Nat) (j : Nat) (t : TgD) (c : DEnv → Out Bool) (f : EM) : EM := fun ρ => match ownD j ρ with
  | none => .no
  | some (tt, kvs) => (noEr (lcGo (fun ρ' => ρ'.getD j .no = .ow (.lk tt kvs)) vl t c f (kvs.map (·.1)) (wipeD (ρ.set j (.ow (.lk tt kvs))) vl))).bind fun ys ρ2 => .ok (.ow (.lst ys)) (ρ2.set j (.ow (.dct tt kvs)))
def BndD (x : V) (H : Hp) : Prop := ∀ a, x = .ref a → (∀ o kvs, H a = some (.frz o (.dK kvs)) → kvs.length ≤ sizeLine) ∧ ∀ o kvs, H a = some (.frz o (.dT kvs)) → kvs.length ≤ sizeLine
end
end Dl
end
section
set_option maxHeartbeats 4000000
/-! the length of a set of ints and texts that stand in a list or a tuple -/
namespace DlS
open PySem PySem.Spec PyProof.Rows L2
def inK (l : List Key) (k : Key) : Bool := l.any fun x => decide (x = k)
def dn (ks : List Key) : Nat → Nat
  | 0 => 0
  | i + 1 => match ks[i]? with
    | some k => if inK (ks.take i) k = true then dn ks i else dn ks i + 1
    | none => dn ks i
theorem dn_le (ks : List Key) : ∀ i, dn ks i ≤ i
  | 0 => Nat.le_refl 0
  | i + 1 => by
    have := dn_le ks i
    unfold dn
    split
    · split <;> omega
    · omega
section
variable {P : Program} {w : World} {A : Around} {E : Value → Shared → Prop} {s : Shared}
end
end DlS
end
section
set_option maxHeartbeats 1000000
namespace DlS
open PySem PySem.Spec PyProof.Rows L2 DlZ
def tLenK (K : PySem.W.Frag) (ta : TE) : TE := fun σ H Q => ta σ H fun x H1 => ∃ (T : Bool) (l : Addr) (ks : List Key), x = .ref l ∧ SqB T K H1 l (ks.map kV) ∧ ks.length ≤ 4000 ∧ Q (.int (dn ks ks.length : Nat)) H1
end DlS
namespace Dl
open PySem L2 DlZ DlS
def lsOp (d : D) : Option Slot := match seqOf d with
  | some (_, ds) => match flatsD ds with
    | some ks => if decide (ks.length ≤ 4000) then some (.fz (.int (dn ks ks.length : Nat))) else none
    | none => none
  | none => none
section
variable {X : Cx} {W : Wc} {Ew : XK} {e a : Expr} {k : Kd} {f : EM}
theorem RpL.ofFlats {K : Frag} {cl : ClsT} {H : Hp} : ∀ {ds : List D} {ks : List Key} {xs : List V}, flatsD ds = some ks → RpL K cl H xs ds → xs = ks.map kV := fun h r => by
  have := flatsD_keys h
  subst this
  exact RpL.keyV r
end
end Dl
end
section
namespace Dl
open PySem L2

section
variable {X : Cx} {W : Wc} {Ew : XK} {pins : List (Addr × Obj)} {σ : L2.St} {H H0 : Hp} {s : Shared} {v : V} {u : Value} {sl' : Slot} {d : D} {a : Addr} {xs : List V} {ds : List D} {e : Expr} {k : Kd} {f : EM} {pos p : Pos}
/-! ### {} and dict() -/
def eDct (t : Bool) : EM := fun ρ => .ok (.ow (.dct t [])) ρ
@[simp] theorem eDct_eq (t : Bool) (ρ : DEnv) : eDct t ρ = .ok (.ow (.dct t [])) ρ := rfl
theorem pd_dct0 : PE X (.Dict [] [] pos) (tO W Ew .t (eDct false)) := PE.imp pe_dnewK fun σ H Q ⟨ts, tss, ρ, w, q⟩ p hp => by
  obtain ⟨H0, hle, _, _, kr⟩ := World.res (vs := []) (ss := []) (ts := ts) (tss := tss) w rfl
  exact q _ _ (kr (.newD (l := []) hle hp rfl .nil)) trivial
/-! ### isinstance(x, T) -/
def tyName : D → Option String
  | .none => some "NoneType"
  | .bool _ => some "bool"
  | .int _ => some "int"
  | .str _ => some "str"
  | .list _ => some "list"
  | .tuple _ => some "tuple"
  | .dict _ => none
def tyB (t T : String) : Bool := decide (t = T) || (decide (t = "bool") && decide (T = "int"))
def tyKnown (T : String) : Bool := ["int", "str", "bool", "tuple", "list", "dict"].contains T
def isTy (T : String) (d : D) : Option Bool := (tyName d).bind fun t => if tyKnown T then some (tyB t T) else none
@[simp] theorem isTy_int_none : isTy "int" .none = some false := rfl
@[simp] theorem isTy_int_bool (b : Bool) : isTy "int" (.bool b) = some true := rfl
@[simp] theorem isTy_int_int (i : Int) : isTy "int" (.int i) = some true := rfl
@[simp] theorem isTy_int_str (x : Str) : isTy "int" (.str x) = some false := rfl
@[simp] theorem isTy_int_list (ds : List D) : isTy "int" (.list ds) = some false := rfl
@[simp] theorem isTy_int_tuple (ds : List D) : isTy "int" (.tuple ds) = some false := rfl
@[simp] theorem isTy_str_none : isTy "str" .none = some false := rfl
@[simp] theorem isTy_str_bool (b : Bool) : isTy "str" (.bool b) = some false := rfl
@[simp] theorem isTy_str_int (i : Int) : isTy "str" (.int i) = some false := rfl
@[simp] theorem isTy_str_str (x : Str) : isTy "str" (.str x) = some true := rfl
@[simp] theorem isTy_str_list (ds : List D) : isTy "str" (.list ds) = some false := rfl
@[simp] theorem isTy_str_tuple (ds : List D) : isTy "str" (.tuple ds) = some false := rfl
@[simp] theorem isTy_bool_none : isTy "bool" .none = some false := rfl
@[simp] theorem isTy_bool_bool (b : Bool) : isTy "bool" (.bool b) = some true := rfl
@[simp] theorem isTy_bool_int (i : Int) : isTy "bool" (.int i) = some false := rfl
@[simp] theorem isTy_bool_str (x : Str) : isTy "bool" (.str x) = some false := rfl
@[simp] theorem isTy_bool_list (ds : List D) : isTy "bool" (.list ds) = some false := rfl
@[simp] theorem isTy_bool_tuple (ds : List D) : isTy "bool" (.tuple ds) = some false := rfl
@[simp] theorem isTy_tuple_none : isTy "tuple" .none = some false := rfl
@[simp] theorem isTy_tuple_bool (b : Bool) : isTy "tuple" (.bool b) = some false := rfl
@[simp] theorem isTy_tuple_int (i : Int) : isTy "tuple" (.int i) = some false := rfl
@[simp] theorem isTy_tuple_str (x : Str) : isTy "tuple" (.str x) = some false := rfl
@[simp] theorem isTy_tuple_list (ds : List D) : isTy "tuple" (.list ds) = some false := rfl
@[simp] theorem isTy_tuple_tuple (ds : List D) : isTy "tuple" (.tuple ds) = some true := rfl
@[simp] theorem isTy_list_none : isTy "list" .none = some false := rfl
@[simp] theorem isTy_list_bool (b : Bool) : isTy "list" (.bool b) = some false := rfl
@[simp] theorem isTy_list_int (i : Int) : isTy "list" (.int i) = some false := rfl
@[simp] theorem isTy_list_str (x : Str) : isTy "list" (.str x) = some false := rfl
@[simp] theorem isTy_list_list (ds : List D) : isTy "list" (.list ds) = some true := rfl
@[simp] theorem isTy_list_tuple (ds : List D) : isTy "list" (.tuple ds) = some false := rfl
@[simp] theorem isTy_dict_none : isTy "dict" .none = some false := rfl
@[simp] theorem isTy_dict_bool (b : Bool) : isTy "dict" (.bool b) = some false := rfl
@[simp] theorem isTy_dict_int (i : Int) : isTy "dict" (.int i) = some false := rfl
@[simp] theorem isTy_dict_str (x : Str) : isTy "dict" (.str x) = some false := rfl
@[simp] theorem isTy_dict_list (ds : List D) : isTy "dict" (.list ds) = some false := rfl
@[simp] theorem isTy_dict_tuple (ds : List D) : isTy "dict" (.tuple ds) = some false := rfl
def kitTT (t T : String) : Option Bool := if (Value.type t == Value.type T) = true then some true else if PySem.W.kitMeta T = true then (fastBuiltinMro t).map (·.contains (.type T)) else none
theorem kit_tt (K : Frag) (t T : String) : PySem.W.kitOne K (.type t) (.type T) = kitTT t T := rfl
theorem kit_tab : (["NoneType", "bool", "int", "str", "list", "tuple"].all fun t => ["int", "str", "bool", "tuple", "list", "dict"].all fun T => kitTT t T == some (tyB t T)) = true := by decide +kernel
theorem kit_of {K : Frag} {T t : String} (ht : t ∈ ["NoneType", "bool", "int", "str", "list", "tuple"]) (hT : tyKnown T = true) : PySem.W.kitOne K (.type t) (.type T) = some (tyB t T) := by
  rw [kit_tt]
  have h1 := List.all_eq_true.mp kit_tab t ht
  have h2 := List.all_eq_true.mp h1 T (by simpa [tyKnown] using hT)
  exact eq_of_beq h2
def eIsi (k : Kd) (f : EM) (T : String) : EM := fun ρ => (f ρ).bind fun s ρ1 => ofO (((sl k s ρ1).d?.bind (isTy T)).map fun b => .fz (.bool b)) ρ1
theorem Rdy.tyX {t : String} {s1 : Slot} (hK : X.K = W.K) (hle : Le H0 H) (h : Rdy W H0 H v s1) (e : s1.d? = some d) (ht : tyName d = some t) : t ∈ ["NoneType", "bool", "int", "str", "list", "tuple"] ∧ TyX X.K H v (.type t) := by
  cases d <;> simp only [tyName] at ht <;> cases ht
  · rw [h.non e]; exact ⟨by simp, .base .non⟩
  · rw [h.bl e]; exact ⟨by simp, .base (.bl _)⟩
  · rw [h.int e]; exact ⟨by simp, .base (.int _)⟩
  · rw [h.str e]; exact ⟨by simp, .base (.str _)⟩
  · obtain ⟨a, xs, rfl, h1, _⟩ := h.lst hle e
    exact ⟨by simp, .base (h1.elim .lst fun ⟨o, h1⟩ => .frz h1)⟩
  · obtain ⟨a, xs, rfl, h1, _⟩ := h.tup hle e
    exact ⟨by simp, .base (.tup h1)⟩
end
end Dl
end
section
namespace Dl
open PySem L2
section
variable {X : Cx} {W : Wc} {Ew : XK} {pins : List (Addr × Obj)} {σ : L2.St} {H H0 : Hp} {s : Shared} {v : V} {u : Value} {sl' : Slot} {d : D} {a : Addr} {xs : List V} {ds : List D} {e : Expr} {k : Kd} {f : EM} {pos p : Pos}
/-! ### repr(x) -/
def reprOp (d : D) : Option Slot := if lay 60 d && d.showable && decide (d.shown.length ≤ 1000000) then some (.fz (.str d.shown)) else none
/-! ### max(xs), min(xs) -/
end
end Dl
end
section
namespace DlR
open PySem PySem.Spec PyProof.Rows L2 DlZ
section
variable {prog : Program} {w : World} {A : Around} {E : Value → Shared → Prop} {s : Shared}
end
def tRevB (K : PySem.W.Frag) (te : TE) : TE := fun σ H Q => te σ H fun x H1 => (∃ a xs, x = .ref a ∧ SqL K H1 a xs ∧ ∀ p, H1 p = none → Q (.ref p) (upd H1 p (.lst xs.reverse))) ∨ ∃ a xs, x = .ref a ∧ SqT K H1 a xs ∧ ∀ p, H1 p = none → Q (.ref p) (upd H1 p (.tup xs.reverse))
end DlR
namespace Dl
open PySem L2 DlZ DlR
theorem Ax.blk {X : Cx} (ax : Ax X) {s : Shared} {H : Hp} {scope : Scope} {cenv : Env} {fp : List Addr} : Ax (X.blk s H scope cenv fp) := ⟨ax.un, ax.hd, ax.gd, ax.calm⟩
theorem ax_of {X : Cx} {k : Nat} (hr : Room k X.A) (hg : X.A.guards = some []) (hc : X.calm = true) : Ax X := ⟨by have := hr.un; omega, hr.hd, hg, hc⟩
section
variable {X : Cx} {W : Wc} {Ew : XK} {js is vl : List Nat} {ts vs us : List V} {tss ss sus : List Slot} {σ σ' : L2.St} {H H' H0 H0' : Hp} {ρ : DEnv} {v v1 v2 : V} {s s1 s2 : Slot} {e a b : Expr} {k ka kb kc : Kd} {f fa fb fc : EM} {Q Q' : VK} {d d1 d2 : D} {p : Addr} {pos : Pos}
/-! operations -/
theorem pd_op {op : Operator} {g : Slot → Slot → Option Slot} (ho : OpR X (binaryOp op) (rG2 W g)) (ha : PE X a (tO W Ew ka fa)) (hb : PE X b (tO W Ew kb fb)) : PE X (.BinOp a op b pos) (tO W Ew .t (e2 ka kb fa fb g)) := PE.imp (pe_op ho ha hb) (ro2 roG2)
theorem pd_un {op : UnaryOp} {g : Slot → Option Slot} (ho : UnR X (unaryOp op) (rG1 W g)) (ha : PE X a (tO W Ew ka fa)) : PE X (.UnaryOp op a pos) (tO W Ew .t (e1 ka fa g)) := PE.imp (pe_un ho ha) (ro1 roG1)
theorem pd_cmp {op : CmpOp} {g : Slot → Slot → Option Slot} (ho : OpR X (compareOp op) (rG2 W g)) (ha : PE X a (tO W Ew ka fa)) (hb : PE X b (tO W Ew kb fb)) (hm : behindInMarks op b = false := by rfl) : PE X (.Compare a [op] [b] pos) (tO W Ew .t (e2 ka kb fa fb g)) := PE.imp (pe_cmpR ho ha hb hm) (ro2 roG2)
theorem pt_cmp2 {op : CmpOp} {g : Slot → Slot → Option Slot} (ho : OpR X (compareOp op) (rG2 W g)) (ha : PE X a (tO W Ew ka fa)) (hb : PE X b (tO W Ew kb fb)) (hm : behindInMarks op b = false := by rfl) : PT X (.Compare a [op] [b] pos) (tT W Ew (bV .t (e2 ka kb fa fb g))) := pt_bc ho roG2 ha hb hm
theorem pd_ix (ax : Ax X) (hK : X.K = W.K) (ha : PE X a (tO W Ew ka fa)) (hb : PE X b (tO W Ew kb fb)) (hs : PlainIx b := by intro _ _; rfl) : PE X (.Subscript a b pos) (tO W Ew .t (e2 ka kb fa fb (g2 ixOp))) := PE.imp (pe_ix (og_ix ax hK) ha hb hs) (ro2 roG2)
theorem pd_bi {x : Str} {id : String} {pn : Pos} {es : List Expr} {r : List (Kd × EM)} {g : List Slot → Option Slot} (hc : CallR X (.builtin id) (rGN W g)) (hg : Gl X x) (hm : X.mg x = none) (hv : bootBuiltins x = some (.builtin id)) (ha : PA X (e :: es) (tAr W Ew (r.map (·.1)) (eArgs r))) (hn : x ≠ "__name__" := by decide) (hdb : (x == ("__debug__" : Str)) = false := by decide)
    (he : starEach (e :: es) X.env = (false, eval e X.env) :: starEach es X.env := by rfl) (hpl : (backTo pos (starEach es X.env)).any (·.1) = false := by rfl) : PE X (.Call (.Name x pn) (e :: es) [] pos) (tO W Ew .t (eB r g)) := PE.imp (pe_callB hc hg hm hv ha hn hdb he hpl) (roN rfl roGN)
theorem pd_bt {x : Str} {T : String} {pn : Pos} {es : List Expr} {r : List (Kd × EM)} {g : List Slot → Option Slot} (hc : CallR X (.type T) (rGN W g)) (hg : Gl X x) (hm : X.mg x = none) (hv : bootBuiltins x = some (.type T)) (ha : PA X (e :: es) (tAr W Ew (r.map (·.1)) (eArgs r))) (hn : x ≠ "__name__" := by decide) (hdb : (x == ("__debug__" : Str)) = false := by decide)
    (he : starEach (e :: es) X.env = (false, eval e X.env) :: starEach es X.env := by rfl) (hpl : (backTo pos (starEach es X.env)).any (·.1) = false := by rfl) : PE X (.Call (.Name x pn) (e :: es) [] pos) (tO W Ew .t (eB r g)) := PE.imp (pe_callTy hc hg hm hv ha hn hdb he hpl) (roN rfl roGN)
/-! slices -/
def FinP (W : Wc) (Ew : XK) (ts : List V) (tss : List Slot) (σ : L2.St) (Q : Option Int → Hp → Prop) : Out (Option Int) → Prop
  | .ok o ρ => ∀ H, World W ts tss σ H ρ → Q o H
  | .er c d ρ => ErrTo W Ew c d ρ
  | .no => False
def tP (W : Wc) (Ew : XK) (f : DEnv → Out (Option Int)) : TO := fun σ H Q => ∃ ts tss ρ, World W ts tss σ H ρ ∧ FinP W Ew ts tss σ Q (f ρ)
theorem PO.imp {e : Option Expr} {t t' : TO} (h : PO X e t) (i : ∀ σ H Q, t' σ H Q → t σ H Q) : PO X e t' := ⟨fun pins s σ H Q I q => h.run pins s σ H Q I (i σ H Q q)⟩
def pN : DEnv → Out (Option Int) := fun ρ => .ok none ρ
@[simp] theorem pN_eq (ρ : DEnv) : pN ρ = .ok none ρ := rfl
def pS (k : Kd) (f : EM) : DEnv → Out (Option Int) := fun ρ => (f ρ).bind fun s ρ1 => match (sl k s ρ1).d? with
  | some (.int i) => .ok (some i) ρ1
  | _ => .no
def eSl (k : Kd) (f : EM) (p1 p2 : DEnv → Out (Option Int)) : EM := fun ρ => (f ρ).bind fun s ρ1 => (p1 ρ1).bind fun lo ρ2 => (p2 ρ2).bind fun hi ρ3 => ofO (g1 (slOp lo hi) (sl k s ρ3)) ρ3
/-! e[::-1] -/
def revOp : D → Option Slot
  | .list ds => some (.ow (.lst ds.reverse))
  | .tuple ds => some (.fz (.tuple ds.reverse))
  | _ => none
/-! the name in a slot, handed on -/
def eM (i : Nat) : EM := fun ρ => match ρ.getD i .no with
  | .no => .no
  | s => .ok s (ρ.set i .no)
theorem pd_m {i : Nat} (h : PE X e (tVar i)) : PE X e (tO W Ew .t (eM i)) := PE.imp h fun σ H Q ⟨ts, tss, ρ, w, q⟩ => by
  unfold eM at q
  have key : ∀ s, ρ.getD i .no = s → s ≠ .no → FinO W Ew ts tss σ .t Q (.ok s (ρ.set i .no)) → tVar i σ H Q := fun s es hs q => by
    have hi := getD_some es hs
    obtain ⟨v, hv⟩ := w.val hi hs
    exact ⟨v, hv, q v H ((w.pushNo v).xch hv hi) trivial⟩
  cases es : ρ.getD i .no with
  | no => rw [es] at q; exact q.elim
  | fz d => rw [es] at q; exact key _ es (by simp) q
  | ow c => rw [es] at q; exact key _ es (by simp) q
  | oi c fs => rw [es] at q; exact key _ es (by simp) q
/-! a, b, c = x, y, z with names that blocks read -/
def gNames : List Nat → TGs
  | [] => gNil
  | i :: is => gCons (gName i) (gNames is)
end
end Dl
end
section
set_option maxHeartbeats 2000000
namespace Dl
open PySem L2 PySem.Spec PyProof.Rows
theorem law_callG {P : Program} {w : PySem.World} {K : PySem.W.Frag} {mg mb : Str → Option Value} {CX : CXT} {k : Nat} {fa a : Addr} {x : Str} {sp : Sp} {s₁ : Shared} {vs : List Value} {ns : List Int}
    (KX : K.In s₁.heap) (hns : s₁.heap.Ns mainGlobals mg) (hb : s₁.heap.Ns builtinsNs mb) (hbb : ∀ x : Str, x ≠ "__name__" → mb x = bootBuiltins x) (hlim : s₁.heap.NoLimit) (hg : s₁.gens = #[])
    (ha : s₁.heap.get? a = some { cls := .type "list", data := .seq vs.toArray }) (hi : IntsAre vs ns) (hl : ns.length ≤ sizeLine) (hr : Room k callerA)
    (F : ∀ base : Heap, K.In base → base.Ns mainGlobals mg → ∃ fd : FuncData, FnOkG P w K mg base CX k fa fd [x] sp ∧ ∀ (s : Shared) (u : Value), BindsTo s fd ⟨[u], []⟩ [(x, u)])
    (hsp : ∀ H : Hp, Only H → SqL K H a (ns.map V.int) → sp [.ref a] H (fun v _ => v = .bl true) fun _ _ _ => False)
    (hCX : ∀ H e s', CX [] H s₁ (fun _ _ _ => False) e s' → False) :
    codeAny (model P w) callerA (.call (.ref fa) ⟨[.ref a], []⟩) (fun r s' => r = .ok (.ret (.bool true)) ∧ OldK s₁.heap s'.heap ∧ s'.os = s₁.os ∧ AllBare s'.gens) s₁ := by
  have rv := vals_ints hi
  have lenV := hi.length
  -- from an abstract heap in which nothing but the script may be tracked
  have core : ∀ H : Hp, Only H → SqL K H a (ns.map V.int) → HOk P w H s₁.heap → (∀ b, H b ≠ none → b = a) → (H a ≠ none → K.lookup a = none) →
      codeAny (model P w) callerA (.call (.ref fa) ⟨[.ref a], []⟩) (fun r s' => r = .ok (.ret (.bool true)) ∧ OldK s₁.heap s'.heap ∧ s'.os = s₁.os ∧ AllBare s'.gens) s₁ := by
    intro H hO hS hok hA hK
    have base_of : ∀ {b : Addr} {o : Obj}, s₁.heap.get? b = some o → H b = none → (hidT s₁.heap H).get? b = some o := fun e n => hidT_get e n
    have noA : ∀ {b : Addr} {o : Obj} {es : Array DictEntry} {ep : Nat}, s₁.heap.get? b = some o → o.data = .dict es ep → H b = none := fun {b o es ep} e d => by
      cases q : H b with
      | none => rfl
      | some u =>
        have e' : b = a := hA b (by rw [q]; simp)
        subst e'
        rw [ha] at e; cases e
        have d' : Data.seq vs.toArray _ = Data.dict es ep := d
        cases d'
    have nsK : ∀ {b : Addr} {m : Str → Option Value}, s₁.heap.Ns b m → (hidT s₁.heap H).Ns b m := fun {b m} ⟨o, es, ep, e, d, r⟩ => ⟨o, es, ep, base_of e (noA e d), d, r⟩
    have hKb : K.In (hidT s₁.heap H) := fun b o e => base_of (KX b o e) (by
      cases q : H b with
      | none => rfl
      | some u =>
        have e' : b = a := hA b (by rw [q]; simp)
        subst e'
        rw [hK (by rw [q]; simp)] at e; cases e)
    have hM : Mod K mg (hidT s₁.heap H) := ⟨hKb, nsK hns, ⟨mb, nsK hb, hbb⟩, let ⟨mc, h1, h2⟩ := hlim; ⟨mc, nsK h1, h2⟩⟩
    have e0 : Env0 P w K mg (hidT s₁.heap H) callerA [] s₁ H := ⟨rfl, hM, fun b o e => of_hidT e, Nat.le_of_eq (hidT_size _ _), trivial, fun b hb => absurd (show b ∈ ([] : List Addr) from hb) (by simp), hok, .of_eq hg⟩
    obtain ⟨fd, F1, hbind⟩ := F _ hKb (nsK hns)
    refine codeAny_mono (F1.run callerA [] s₁ H ⟨[.ref a], []⟩ [.ref a] [.ref a] _ _ hr rfl e0 (hbind s₁ (.ref a)) (.cons rfl .nil) (hsp H hO hS)) fun r s' h => ?_
    cases r with
    | error e => exact (hCX H e s' h).elim
    | ok fl =>
      cases fl with
      | next => exact False.elim h
      | brk => exact False.elim h
      | cont => exact False.elim h
      | ret u =>
        obtain ⟨v, H', os, bare, un, hok', r', q⟩ := h
        have q' : v = .bl true := q
        subst q'
        obtain rfl : u = Value.bool true := r'
        refine ⟨rfl, OldK.of_keep fun b o e => ?_, os, bare⟩
        cases q : H b with
        | none => exact un.keep b o e q (by intro z; exact absurd (show b ∈ ([] : List Addr) from z) (by simp)) (by simp)
        | some u =>
          rcases hO b with z | ⟨ob, xs, z⟩
          · rw [q] at z; cases z
          · have z2 := un.frzs b ob _ z
            obtain ⟨e1, _⟩ := hok b _ z
            obtain ⟨e2, _⟩ := hok' b _ z2
            rw [e] at e1; cases e1
            exact e2
  cases hk : K.lookup a with
  | some o =>
    -- the script is one of the module's own objects
    have e := KX a o hk
    rw [ha] at e
    cases e
    refine core (fun _ => none) (fun _ => .inl rfl) (.inr ⟨_, vs.toArray, _, hk, rfl, rfl, rfl, by rw [List.size_toArray, lenV]; exact hl, by simpa using rv⟩) (fun b u z => by have z' : (none : Option HO) = some u := z; cases z') (fun b z => absurd rfl z) fun z => absurd rfl z
  | none =>
    refine core (fun b => if b = a then some (.frz { cls := .type "list", data := .seq vs.toArray } (.lst (ns.map V.int))) else none) (fun b => ?_) (.inl (.inr ⟨{ cls := .type "list", data := .seq vs.toArray }, if_pos rfl⟩)) (fun b u z => ?_) (fun b z => ?_) fun _ => hk
    · by_cases hb : b = a
      · exact .inr ⟨_, _, if_pos hb⟩
      · exact .inl (if_neg hb)
    · by_cases hb : b = a
      · have z' := (if_pos hb).symm.trans z
        cases z'
        subst hb
        exact ⟨ha, by rw [List.length_map]; exact hl, vs, _, rv, ha⟩
      · have z' := (if_neg hb).symm.trans z
        cases z'
    · by_cases hb : b = a
      · exact hb
      · exact absurd (if_neg hb) z
theorem walk_ofG {l : PySem.W.OpenLaw} {n k : Nat} {q : Program} {loose : List Str} {XP : (Str → Option Value) → Heap → Prop} {YP : PySem.World → Heap → Prop} {d : DefRec} {x : Str}
    (hn : l.most = some n) (hn2 : n ≤ sizeLine) (hdf : d.params.defaults = []) (hr : Room k callerA)
    (F : ∀ (w : PySem.World) (mg : Str → Option Value) (fa : Addr) (h : Heap), YP w h → h.Ns mainGlobals mg → mg d.name = some (.ref fa) →
      ∃ (K : PySem.W.Frag) (cl : ClsT) (G : List Slot → FOut), cl.T = [] ∧ K.In h ∧ (∀ ns : List Int, ns.length ≤ n → ∃ ss', G [.fz (scrD (ns.map .int))] = .ok (.fz (.bool true)) ss') ∧
        ∀ base : Heap, K.In base → base.Ns mainGlobals mg → Cld l.prog w K mg base cl k d.name [x] G) :
    PySem.W.WalkO q loose XP YP l.row.toRowW d [] (fun f vs => PySem.call f vs) := by
  refine Att.attach_call hn hdf fun w s₀ s₁ mg mb fa o pm cd doc a vs ns G Y ho hd hcd hmg hobj hints hlen hg => ?_
  obtain ⟨K, cl, Gf, hT, KX, hG, hF⟩ := F w mg fa _ Y G.T.g hmg
  refine law_callG (CX := L2.CX l.prog w) (k := k) KX G.T.g G.T.b G.T.builtins G.T.nolimit hg hobj hints (Nat.le_trans hlen hn2) hr (sp := spF K cl 1 Gf) (x := x) (fun base h1 h2 => ?_) (fun H hO hS => ?_) fun H e s' h => ?_
  · obtain ⟨f, fd, c1, c2, c3, c4⟩ := (hF base h1 h2).ex
    rw [hmg] at c2
    cases c2
    exact ⟨fd, c1, fun s u => by simpa using c4 s [u] [] [] rfl rfl⟩
  · obtain ⟨ss', e⟩ := hG ns hlen
    refine ⟨H, [], [.fz (scrD (ns.map .int))], rfl, Le.refl H, ?_, List.nodup_nil, fun a ha => absurd ha (by simp), fun p hp => absurd hp (by rw [hT]; simp), ?_⟩
    · refine SlotsOk.cons (f1 := []) (f2 := []) ⟨.scr hS ?_, rfl⟩ .nil
      clear hobj hints hlen hG hS e
      induction ns with
      | nil => exact .nil
      | cons i ns ih => exact .cons (.int i) ih
    · rw [e]
      intro v' H' H0' fp' _ h2 _ _ _
      cases h2 with
      | cons h2 _ =>
        cases h2.1
        rfl
  · obtain ⟨_, _, _, _, _, _, _, _, _, _, _, _, z⟩ := h
    exact z.elim
end Dl
end
section
namespace Dl
open PySem L2 DlZ DlR
section
variable {X : Cx} {W : Wc} {Ew : XK} {e a b : Expr} {k : Kd} {f : EM} {pos : Pos} {H : Hp}
def lrOp : D → Option Slot
  | .int j => if j ≤ 1000000 ∧ -1000000 ≤ j then some (.ow (.lst ((List.range j.toNat).map fun (n : Nat) => .int n))) else none
  | _ => none
theorem RpL.ofInts {K : Frag} {cl : ClsT} : ∀ (ns : List Int), RpL K cl H (ns.map .int) (ns.map .int)
  | [] => .nil
  | n :: ns => .cons (.int n) (RpL.ofInts ns)
theorem pd_listRg {p p2 pos2 : Pos} (hc : X.calm = true) (hg : Gl X "list") (hm : X.mg "list" = none) (hg2 : Gl X "range") (hm2 : X.mg "range" = none) (h : PE X a (tO W Ew k f)) (na : starEach [.Call (.Name "range" p2) [a] [] pos2] X.env = (false, eval (.Call (.Name "range" p2) [a] [] pos2) X.env) :: starEach [] X.env := by rfl) (nb : starEach [a] X.env = (false, eval a X.env) :: starEach [] X.env := by rfl) :
    PE X (.Call (.Name "list" p) [.Call (.Name "range" p2) [a] [] pos2] [] pos) (tO W Ew .t (e1 k f (g1 lrOp))) :=
  PE.imp (pe_listRg hc hg hm (prg_1 hg2 hm2 h nb) na) fun σ H Q q => by
    refine ro1 (r := fun x H1 Q => ∃ n, x = .int n ∧ RgOk 0 n ∧ ∀ q, H1 q = none → Q (.ref q) (upd H1 q (.lst (rgV 0 n)))) (fun H0 H v s s' Q hle rd hg q => ?_) σ H Q q
    obtain ⟨d, ed, e3⟩ := g1_inv hg
    cases d <;> simp only [lrOp] at e3 <;> first | cases e3 | skip
    rename_i j
    split at e3
    · rename_i hj
      cases e3
      refine ⟨j, rd.int ed, ⟨by omega, by omega, by omega, by omega, by omega⟩, fun p hp => q _ _ _ (.newL hle hp ?_)⟩
      have := RpL.ofInts (K := W.K) (cl := W.cl) (H := H0) ((List.range j.toNat).map fun (n : Nat) => (n : Int))
      unfold rgV
      simpa [Function.comp_def] using this
    · cases e3
end
/-! what the names of the built-ins mean -/
theorem bt_len : bootBuiltins "len" = some (.builtin "len") := by decide +kernel
theorem bt_abs : bootBuiltins "abs" = some (.builtin "abs") := by decide +kernel
theorem bt_max : bootBuiltins "max" = some (.builtin "max") := by decide +kernel
theorem bt_min : bootBuiltins "min" = some (.builtin "min") := by decide +kernel
theorem bt_all : bootBuiltins "all" = some (.builtin "all") := by decide +kernel
theorem bt_any : bootBuiltins "any" = some (.builtin "any") := by decide +kernel
theorem bt_repr : bootBuiltins "repr" = some (.builtin "repr") := by decide +kernel
theorem bt_int : bootBuiltins "int" = some (.type "int") := by decide +kernel
end Dl
end
section
set_option maxHeartbeats 1000000
/-! enumerate of lists and tuples -/
namespace DlZ
open PySem
open PySem.Sem (wp)
theorem meets_enumB {v : Value} {o : Obj} {H : Heap → Prop} (B : Begins v o H) :
    Meets (Builtin.«enumerate.__new__» ⟨[.type "enumerate", v], []⟩) (fun _ R s => H s.heap ∧
      R (.ok (.ret (.ref (s.heap.push o).objs.size))) { s with heap := (s.heap.push o).push { cls := .type "enumerate", data := .fields #[.none, .bool false, .ref s.heap.objs.size, rawInt 0, .none, .none] } }) :=
  .of_wp fun prog w A R s h => by
    obtain ⟨hp, g, d, tk, os⟩ := s; obtain ⟨h1, h⟩ := h
    have hsub := sub_enumerate
    have q1 : ∀ {A' : Around} {E : Value → Shared → Prop} {Q : Value → Shared → Prop}, Q (.ref hp.objs.size) ⟨hp.push o, g, d, tk, os⟩ → wpAny (model prog w) A' (pyIter v) Q E ⟨hp, g, d, tk, os⟩ :=
      fun q => B.iter prog w _ _ ⟨hp, g, d, tk, os⟩ _ h1 q
    wp_walk using q1
    refine wpAny_stack_any fun st => wpAny_pure ?_
    split
    · rename_i c _ _ _ _ _
      cases (c == Value.type "enumerate")
      · wp_walk using q1
        exact ⟨_, rfl, h⟩
      · wp_walk using q1
        exact ⟨_, rfl, h⟩
    · wp_walk using q1
      exact ⟨_, rfl, h⟩
theorem beginsB (T : Bool) (l : Addr) (items : Array Value) : Begins (.ref l) (zO T l) fun h => IsSq T h l items := by
  cases T
  · exact begins_list l items
  · exact begins_tuple l items
section
variable {prog : Program} {w : World} {A : Around} {E : Value → Shared → Prop} {s : Shared}
theorem call_enumB {T : Bool} {l : Addr} {items : Array Value} {Q : Value → Shared → Prop} (hL : IsSq T s.heap l items)
    (h : ∀ h', IsEnum h' (s.heap.objs.size + 1) s.heap.objs.size 0 .none → IsIt T h' s.heap.objs.size l 0 → h'.objs.size = s.heap.objs.size + 2 →
      (∀ b o, s.heap.get? b = some o → h'.get? b = some o) → Q (.ref (s.heap.objs.size + 1)) { s with heap := h' }) :
    wpAny (model prog w) A (call (.type "enumerate") [.ref l]) Q E s := by
  refine callType_new F.called_enumerate (by decide) (F.typeCall_enumerate_1 _) (F.newCall_enumerate_1 _) (fun obj => F.args_object_init_2 obj _) F.entry_enumerate_new
    (meets_enumB (beginsB T l items)) ⟨hL, ?_⟩
  have hz : (s.heap.push (zO T l)).objs.size = s.heap.objs.size + 1 := Heap.size_push ..
  show _ ∧ _
  rw [hz]
  have he : IsEnum ((s.heap.push (zO T l)).push { cls := .type "enumerate", data := .fields #[.none, .bool false, .ref s.heap.objs.size, rawInt 0, .none, .none] }) (s.heap.objs.size + 1) s.heap.objs.size 0 .none := by
    have := Heap.get?_push_size (s.heap.push (zO T l)) (o := { cls := .type "enumerate", data := .fields #[.none, .bool false, .ref s.heap.objs.size, rawInt 0, .none, .none] }) rfl
    rw [hz] at this; exact this
  have hI : ∀ (T : Bool) (h' : Heap) (it l : Addr), h'.get? it = some (zO T l) → IsIt T h' it l 0 := fun T h' it l e => by
    cases T <;> exact ⟨_, e, rfl, rfl⟩
  refine ⟨⟨_, he, rfl⟩, h _ he (hI T _ _ _ (Heap.get?_push_of_some _ (Heap.get?_push_size _ rfl))) (by rw [Heap.size_push, hz]) fun b o x => Heap.get?_push_of_some _ (Heap.get?_push_of_some _ x)⟩
end
end DlZ
namespace DlZ
open PySem PySem.Spec PyProof.Rows L2
def IteB (T : Bool) (K : PySem.W.Frag) (a : Addr) : It :=
  ⟨fun i H => ∃ (xs : List V) (x : V), SqB T K H a xs ∧ xs[i]? = some x,
    fun i H v H' => ∃ Tn x, v = .ref Tn ∧ H Tn = none ∧ H' = upd H Tn (.tup [.int (i : Nat), x]) ∧ ∀ xs, SqB T K H a xs → xs[i]? = some x,
    fun i H => ∃ xs : List V, SqB T K H a xs ∧ i = xs.length⟩
theorem turn_enumB {P : Program} {w : World} {K : PySem.W.Frag} {elts : List Expr} {kk : Nat} {tpos : Pos} {T : Bool} (a e it : Addr) (hai : a ≠ it) (hea : e ≠ a) :
    Turn P w K (.Tuple elts kk tpos) (IteB T K a) [e, it] e (fun i h => (∃ old, IsEnum h e it ((i : Nat) : Int) old) ∧ IsIt T h it a i ∧ e ≠ it) where
  mem := by simp
  obj := fun i h st b hb => by
    obtain ⟨⟨old, he⟩, hi, _⟩ := st
    have e' : b = e ∨ b = it := by simpa using hb
    rcases e' with z | z
    · rw [z]; exact ⟨_, he, fun v q => nomatch q⟩
    · rw [z]; exact isIt_obj hi
  keep := fun i h h' st k => let ⟨⟨old, he⟩, hi, hne⟩ := st; ⟨⟨old, k e (by simp) _ he⟩, isIt_at hi fun o q => k it (by simp) o q, hne⟩
  item := by
    intro X hP hw hK hc i pins s σ H E I hf st hg
    subst hP hw hK
    obtain ⟨⟨old, he⟩, hit, hne⟩ := st
    obtain ⟨xs, x, hq, hx⟩ := hg
    obtain ⟨its, rv, p, hz⟩ := sqB_inv I hq
    obtain ⟨u, hu, ru⟩ := rv.get hx
    have hel : e < s.heap.objs.size := Heap.lt_size he
    have hil : it < s.heap.objs.size := by obtain ⟨_, q, _⟩ := isIt_obj hit; exact Heap.lt_size q
    have hh : X.A.in1.handled = none := I.ok.hd hc
    have l1 : i < its.toArray.size := by have := (List.getElem?_eq_some_iff.mp hu).1; simpa using this
    refine wpAny_pyNext_enum_itemC (drawsB T hh it a hai its.toArray) he ⟨hit, p⟩ l1 hne (by simp only [List.mem_cons, List.not_mem_nil, or_false, not_or]; exact ⟨hne, hea⟩) fun x1 h' tk e1 ho hst hT hsz hk => ?_
    obtain rfl : x1 = u := by
      have e1' : its.toArray[i]? = some x1 := e1
      rw [List.getElem?_toArray, hu] at e1'; exact (Option.some.inj e1').symm
    refine ⟨_, rfl, wpAny_letOwnedTupleGo_enum (s := { s with heap := h', toks := tk + 1 }) ho fun h'' he' sb => ?_⟩
    have hT2 : h''.get? s.heap.objs.size = some { cls := .type "tuple", data := .seq #[.int i tk, x1] } := (sb.2 _ (Nat.ne_of_gt hel)).trans hT
    have new : ObjOk X.prog X.w (upd H s.heap.objs.size (.tup [.int (i : Nat), x])) h'' s.heap.objs.size (.tup [.int (i : Nat), x]) :=
      ⟨by show 2 ≤ sizeLine; decide, [.int i tk, x1], .cons ⟨_, rfl⟩ (.cons ru .nil), ⟨_, hT2, rfl, _, rfl⟩⟩
    have I1 : Inv X pins σ (upd H s.heap.objs.size (.tup [.int (i : Nat), x])) { s with heap := h'', toks := tk + 1 } :=
      I.turnedNew (ch := [e, it]) (fun b ob hb q => (sb.2 b (fun z => hb (by simp [z]))).trans (hk b ob (fun z => hb (by simp [z])) (fun z => hb (by simp [z])) q)) hf (Nat.le_refl _) new
    refine ⟨.ref s.heap.objs.size, _, I1, rfl, ⟨_, x, rfl, I.hok.fresh (Nat.le_refl _), rfl, fun ys hy => by rw [sqB_inj I hy hq]; exact hx⟩, ⟨⟨x1, ?_⟩, isIt_at hst.1 fun o q => (sb.2 it (Ne.symm hne)).trans q, hne⟩, fun b hb => ?_⟩
    · have e1 : ((i + 1 : Nat) : Int) = (i : Int) + 1 := by omega
      rw [e1]; exact he'
    · have hb' : b < s.heap.objs.size := by
        have e' : b = e ∨ b = it := by simpa using hb
        rcases e' with z | z
        · rw [z]; exact hel
        · rw [z]; exact hil
      rw [upd_ne (Nat.ne_of_lt hb')]
      exact (hf b hb).1
  done := by
    intro X hP hw hK hc i pins s σ H E I hf st hg
    subst hP hw hK
    obtain ⟨⟨old, he⟩, hit, hne⟩ := st
    obtain ⟨xs, hq, hx⟩ := hg
    obtain ⟨its, rv, p, hz⟩ := sqB_inv I hq
    obtain ⟨f0, f1, f2, f3, f4, f5⟩ := hf it (by simp)
    have hl := rv.length
    have hh : X.A.in1.handled = none := I.ok.hd hc
    have hi : i = its.toArray.size := by simp; omega
    subst hi
    exact wpAny_pyNext_enum_endD (drawsB T hh it a hai its.toArray) he ⟨hit, p⟩ fun h' eb => ⟨rfl, I.turned (t' := s.toks) (fun b o hb q => eb b o hb q) f0 f1 f3 f4 f5⟩
  self := fun A i s Q E st h => let ⟨⟨_, he⟩, _⟩ := st; wpAny_pyIter_enum he h
def iEnumB (K : PySem.W.Frag) (ta : TA) : TI := fun σ H R => ta σ H fun vs H1 => ∃ T a xs, vs = [.ref a] ∧ SqB T K H1 a xs ∧ (xs.length ≤ sizeLine → R (IteB T K a) H1)
theorem pi_enumB {X : Cx} {e : Expr} {ta : TA} {p pos tpos : Pos} {elts : List Expr} {kk : Nat} (hg : Gl X "enumerate") (hm : X.mg "enumerate" = none) (ha : PA X [e] ta) (hs : starEach [e] X.env = [(false, eval e X.env)] := by rfl) :
    PI X (.Tuple elts kk tpos) (.Call (.Name "enumerate" p) [e] [] pos) (iEnumB X.K ta) := by
  refine ⟨fun pins s σ H R I h => ?_⟩
  refine Call_ (ld_blt I hg hm boot_enumerate (PyProof.Rows.callWith_type1 (thn (ha.run pos pins s σ H _ I h) fun us s1 ⟨vs, H1, I1, r1, q1⟩ => ?_) hs rfl))
  obtain ⟨T, a, xs, ex, hq, q⟩ := q1
  subst ex
  cases r1 with
  | cons r rr =>
    cases rr
    cases r
    obtain ⟨its, rv, p', hz⟩ := sqB_inv I1 hq
    have hla : a < s1.heap.objs.size := by
      cases T <;> (obtain ⟨o, e, _⟩ := p'; exact Heap.lt_size e)
    refine call_enumB p' fun h' he hit hsz hk => wpAny_pyIter_enum he ?_
    have I2 : Inv X pins σ H1 { s1 with heap := h' } := I1.kept (t' := s1.toks) hk
    refine ⟨s1.heap.objs.size + 1, [s1.heap.objs.size + 1, s1.heap.objs.size], _, _, H1, rfl, I2, turn_enumB a (s1.heap.objs.size + 1) s1.heap.objs.size (Nat.ne_of_lt hla) (Nat.ne_of_gt (Nat.lt_succ_of_lt hla)), ⟨⟨.none, he⟩, hit, Nat.succ_ne_self _⟩, fun b hb => ?_, q hz⟩
    have e' : b = s1.heap.objs.size + 1 ∨ b = s1.heap.objs.size := by simpa using hb
    have hle : s1.heap.objs.size ≤ b := by
      rcases e' with z | z
      · rw [z]; exact Nat.le_add_right _ _
      · rw [z]; exact Nat.le_refl _
    exact I1.fpOk hle (I1.hok.fresh hle)
end DlZ
namespace Dl
open PySem L2 DlZ
def enumD (ds : List D) : List D := ds.zipIdx.map fun p => .tuple [.int (p.2 : Nat), p.1]
def iEn (k : Kd) (f : EM) : DEnv → Out IS := fun ρ => (eArgs [(k, f)] ρ).bind fun ss ρ1 => match slL [k] ss ρ1 with
  | [s] => match s.d? with
    | some a => match seqOf a with
      | some (_, ds) => .ok ⟨enumD ds, gdOf k a⟩ ρ1
      | _ => .no
    | _ => .no
  | _ => .no
section
variable {X : Cx} {W : Wc} {Ew : XK} {js is vl : List Nat} {ts vs us : List V} {tss ss sus : List Slot} {σ σ' : L2.St} {H H' H0 H0' : Hp} {ρ : DEnv} {v v1 v2 : V} {s s1 s2 : Slot} {e e2 : Expr} {k ka kb kc : Kd} {f fa fb fc : EM}
theorem pi_en {p pos tpos : Pos} {elts : List Expr} {kk : Nat} (hg : Gl X "enumerate") (hm : X.mg "enumerate" = none) (h1 : PE X e (tO W Ew k f))
    (hs : starEach [e] X.env = (false, eval e X.env) :: starEach [] X.env := by rfl) (hs2 : starEach [e] X.env = [(false, eval e X.env)] := by rfl) :
    PI X (.Tuple elts kk tpos) (.Call (.Name "enumerate" p) [e] [] pos) (tI W Ew k.ix (iEn k f)) :=
  PI.imp (pi_enumB hg hm (pd_acons (r := []) h1 pd_anil hs) hs2) fun σ H R ⟨ts, tss, ρ, w, q⟩ => by
    refine ⟨ts, tss, ρ, w, ?_⟩
    unfold iEn at q
    simp only [List.map_cons, List.map_nil]
    cases ea : eArgs [(k, f)] ρ with
    | no => rw [ea] at q; exact q.elim
    | er c d ρ' => rw [ea] at q; exact q
    | ok ss ρ1 =>
      rw [ea] at q
      simp only [Out.bind_ok] at q ⊢
      intro vs H1 hl w1 k1
      have l2 := eArgs_length ea
      match vs, ss, hl, l2 with
      | [x], [sx], _, _ =>
        simp only [slL_cons, slL_nil] at q
        cases e1 : (sl k sx ρ1).d? with
        | none => rw [e1] at q; exact q.elim
        | some a =>
          rw [e1] at q
          simp only at q
          cases s1 : seqOf a with
          | none => rw [s1] at q; exact q.elim
          | some Td =>
            obtain ⟨T1, ds⟩ := Td
            rw [s1] at q
            simp only at q
            obtain ⟨H0, hle, rd, _⟩ := World.atN (pre := []) (preS := []) (us := [x]) (ss := [sx]) w1 rfl rfl k1
            cases rd with
            | cons r1 rd =>
              obtain ⟨pa, xs, rfl, p1, p2⟩ := r1.sq (K := X.K) hle e1 s1
              refine ⟨T1, pa, xs, rfl, p1, fun hz => q (IteB T1 X.K pa) H1 [.ref pa] [sx] rfl w1 (gd_of e1) (by have := p2.length; simp only [enumD, List.length_map, List.length_zipIdx]; omega) ⟨fun pre preS ts tss σ2 H2 ρ2 i hl2 w2 g2 hj => ?_⟩⟩
              have k2 : KdsOk W σ2 [k] [V.ref pa] := kds_keep k1 fun j hm => hj j (by simpa using hm)
              obtain ⟨H0, hle, rd, kr⟩ := World.atN (ks := [k]) w2 hl2 rfl k2
              simp only [slL_cons, slL_nil] at rd
              cases rd with
              | cons r1 rd =>
                obtain ⟨pa', xs', ea', p1', p2'⟩ := r1.sq (K := X.K) hle (gd_sl e1 g2) s1
                cases ea'
                have hl1 := p2'.length
                refine ⟨fun d ed => ?_, fun ei => ?_⟩
                · simp only [enumD, List.getElem?_map, List.getElem?_zipIdx, Nat.zero_add, Option.map_map] at ed
                  obtain ⟨dx, g1, rfl⟩ := Option.map_eq_some_iff.mp ed
                  have hi1 := (List.getElem?_eq_some_iff.mp g1).1
                  refine ⟨⟨xs', xs'[i]'(by omega), p1', by simp⟩, fun v H' hy => ?_⟩
                  obtain ⟨T, vx, rfl, hT, rfl, n1⟩ := hy
                  obtain ⟨_, f1, f2⟩ := p2'.get (n1 xs' p1')
                  rw [g1] at f1
                  cases f1
                  exact kr (.newT hle hT (.cons (.int _) (.cons f2 .nil)))
                · refine ⟨xs', p1', ?_⟩
                  simp only [enumD, List.length_map, List.length_zipIdx] at ei
                  omega
end
end Dl
end
section
set_option maxHeartbeats 2000000
/-! zip of three lists or tuples -/
namespace DlZ
open PySem
open PySem.Sem (wp)
structure Apart3 (z TI TO i1 i2 i3 a b c : Nat) : Prop where
  lo : a < i1 ∧ b < i1 ∧ c < i1
  n2 : i2 = i1 + 1
  n3 : i3 = i1 + 2
  nT : TI = i1 + 3
  nO : TO = i1 + 4
  nz : z = i1 + 5
end DlZ
namespace DlZ
open PySem PySem.Spec PyProof.Rows L2
def Itz3 (T1 T2 T3 : Bool) (K : PySem.W.Frag) (a b c : Addr) : It :=
  ⟨fun i H => ∃ (xs ys us : List V) (x y u : V), SqB T1 K H a xs ∧ SqB T2 K H b ys ∧ SqB T3 K H c us ∧ xs[i]? = some x ∧ ys[i]? = some y ∧ us[i]? = some u,
    fun i H v H' => ∃ T x y u, v = .ref T ∧ H T = none ∧ H' = upd H T (.tup [x, y, u]) ∧ (∀ xs, SqB T1 K H a xs → xs[i]? = some x) ∧ (∀ ys, SqB T2 K H b ys → ys[i]? = some y) ∧ ∀ us, SqB T3 K H c us → us[i]? = some u,
    fun i H => ∃ xs ys us : List V, SqB T1 K H a xs ∧ SqB T2 K H b ys ∧ SqB T3 K H c us ∧ i ≤ xs.length ∧ i ≤ ys.length ∧ i ≤ us.length ∧ (i = xs.length ∨ i = ys.length ∨ i = us.length)⟩
def iZip3 (K : PySem.W.Frag) (ta : TA) : TI := fun σ H R => ta σ H fun vs H1 => ∃ T1 T2 T3 a b c xs ys us, vs = [.ref a, .ref b, .ref c] ∧ SqB T1 K H1 a xs ∧ SqB T2 K H1 b ys ∧ SqB T3 K H1 c us ∧ (xs.length ≤ sizeLine → R (Itz3 T1 T2 T3 K a b c) H1)
end DlZ
namespace Dl
open PySem L2 DlZ
def zip3D : List D → List D → List D → List D
  | a :: as, b :: bs, c :: cs => .tuple [a, b, c] :: zip3D as bs cs
  | _, _, _ => []
def iZ3 (ka kb kc : Kd) (fa fb fc : EM) : DEnv → Out IS := fun ρ => (eArgs [(ka, fa), (kb, fb), (kc, fc)] ρ).bind fun ss ρ1 => match slL [ka, kb, kc] ss ρ1 with
  | [s, t, u] => match s.d?, t.d?, u.d? with
    | some a, some b, some c => match seqOf a, seqOf b, seqOf c with
      | some (_, ds), some (_, es), some (_, gs) => .ok ⟨zip3D ds es gs, fun ρ' => gdOf ka a ρ' ∧ gdOf kb b ρ' ∧ gdOf kc c ρ'⟩ ρ1
      | _, _, _ => .no
    | _, _, _ => .no
  | _ => .no
section
variable {X : Cx} {W : Wc} {Ew : XK} {js is vl : List Nat} {ts vs us : List V} {tss ss sus : List Slot} {σ σ' : L2.St} {H H' H0 H0' : Hp} {ρ : DEnv} {v v1 v2 : V} {s s1 s2 : Slot} {e e2 e3 : Expr} {k ka kb kc : Kd} {f fa fb fc : EM}
end
end Dl
end
section
set_option maxHeartbeats 1000000
/-! sorted(tuple) -/
namespace Dl
open PySem L2 DlZ DlR DlS
open PySem.W (EachIs)
section
variable {X : Cx} {W : Wc} {Ew : XK} {pins : List (Addr × Obj)} {σ : L2.St} {H H0 : Hp} {s : Shared} {v : V} {u : Value} {sl sl' : Slot} {d : D} {a : Addr} {xs : List V} {ds : List D}
def sortedOp2 : D → Option Slot
  | .tuple ds => (sortK ds).map fun es => .ow (.lst es)
  | d => sortedOp d
end
end Dl
end
section
set_option maxHeartbeats 4000000
/-! sorted(set(xs)) of ints -/
namespace DlS
open PySem PySem.Spec PyProof.Rows L2 DlZ
open PySem.Sem (wp)
section
variable {P : Program} {w : World} {A : Around} {E : Value → Shared → Prop} {s : Shared}
end
end DlS
namespace DlS
open PySem PySem.Spec PyProof.Rows L2 DlZ
open PySem.W (EachIs)
def dd : List Int → List Int
  | [] => []
  | a :: l => if a ∈ dd l then dd l else a :: dd l
def sdI (ns : List Int) : List Int := (dd ns).mergeSort fun a b => decide (a ≤ b)
end DlS
namespace DlS
open PySem PySem.Spec PyProof.Rows L2 DlZ
open PySem.W (EachIs)
def tSortI (K : PySem.W.Frag) (ta : TE) : TE := fun σ H Q => ta σ H fun x H1 => ∃ (T : Bool) (l : Addr) (ns : List Int), x = .ref l ∧ SqB T K H1 l (ns.map V.int) ∧ ns.length ≤ 4000 ∧ ∀ p, H1 p = none → Q (.ref p) (upd H1 p (.lst ((sdI ns).map V.int)))
end DlS
namespace Dl
open PySem L2 DlZ DlS
def ssOp (d : D) : Option Slot := match seqOf d with
  | some (_, ds) => match asInts ds with
    | some ns => if decide (ns.length ≤ 4000) then some (.ow (.lst ((sdI ns).map .int))) else none
    | none => none
  | none => none
section
variable {X : Cx} {W : Wc} {Ew : XK} {e a : Expr} {k : Kd} {f : EM}
theorem RpL.asInts {K : Frag} {cl : ClsT} {H : Hp} : ∀ {ds : List D} {ns : List Int} {xs : List V}, asInts ds = some ns → RpL K cl H xs ds → xs = ns.map V.int
  | [], ns, _, h, r => by cases r; cases h; rfl
  | d :: ds, ns, _, h, r => by
    cases d <;> simp only [Dl.asInts] at h <;> first | cases h | skip
    rename_i i
    obtain ⟨ms, hm, rfl⟩ := Option.map_eq_some_iff.mp h
    cases r with
    | cons r1 r2 =>
      cases r1
      rw [RpL.asInts hm r2]
      rfl
end
end Dl
end
section
set_option maxHeartbeats 4000000
/-! list(d.values()), d a dict with tuples as keys -/
namespace DlV
open PySem PySem.Spec PyProof.Rows L2
section
variable {prog : Program} {w : World}
end
def tListVals (td : TE) : TE := fun σ H Q => td σ H fun x H1 => ∃ d kvs, x = V.ref d ∧ Rd H1 d (.dT kvs) ∧ ∀ p, H1 p = none → Q (.ref p) (upd H1 p (.lst (kvs.map (·.2))))
variable {X : Cx} {o : Expr} {p pos apos mpos : Pos} {td : TE}
end DlV
namespace Dl
open PySem L2 DlZ DlS DlV
def lvOp (d : D) : Option Slot := match asDct d with
  | some (true, kvs) => some (.ow (.lst (kvs.map (·.2))))
  | _ => none
section
variable {X : Cx} {W : Wc} {Ew : XK} {o : Expr} {k : Kd} {f : EM} {p pos apos mpos : Pos}
end
end Dl
end
section
/-! x is True, x is None -/
namespace Dl
open PySem L2
section
variable {X : Cx} {W : Wc} {Ew : XK}
def isNonD : D → Bool
  | .none => true
  | _ => false
def isOp (neg : Bool) : D → D → Option Slot
  | .bool a, .bool b => some (.fz (.bool (neg != decide (a = b))))
  | a, .none => some (.fz (.bool (neg != isNonD a)))
  | _, _ => none
@[simp] theorem isOp_bool (neg a b : Bool) : isOp neg (.bool a) (.bool b) = some (.fz (.bool (neg != decide (a = b)))) := rfl
@[simp] theorem isOp_none (neg : Bool) (a : D) : isOp neg a .none = some (.fz (.bool (neg != isNonD a))) := by cases a <;> rfl
@[simp] theorem isNonD_none : isNonD .none = true := rfl
@[simp] theorem isNonD_bool (b : Bool) : isNonD (.bool b) = false := rfl
@[simp] theorem isNonD_int (i : Int) : isNonD (.int i) = false := rfl
@[simp] theorem isNonD_str (x : Str) : isNonD (.str x) = false := rfl
@[simp] theorem isNonD_list (ds : List D) : isNonD (.list ds) = false := rfl
@[simp] theorem isNonD_tuple (ds : List D) : isNonD (.tuple ds) = false := rfl
@[simp] theorem isNonD_dict (ds : List (D × D)) : isNonD (.dict ds) = false := rfl
theorem isOp_inv {neg : Bool} {a b : D} {s' : Slot} (h : isOp neg a b = some s') : (∃ x y, a = .bool x ∧ b = .bool y ∧ s' = .fz (.bool (neg != decide (x = y)))) ∨ (b = .none ∧ s' = .fz (.bool (neg != isNonD a))) := by
  cases b <;> cases a <;> simp only [isOp] at h <;> first | (cases h; exact .inr ⟨rfl, rfl⟩) | (cases h; exact .inl ⟨_, _, rfl, rfl, rfl⟩) | cases h
end
end Dl
end
section
set_option maxHeartbeats 4000000
/-! dict(pairs) with tuples as keys, list(d) of such a dict -/
namespace DlZ
open PySem PySem.Spec PyProof.Rows L2
section
variable {X : Cx}
abbrev PrT := Addr × List Key × Addr × V
end
end DlZ
namespace Dl
open PySem L2 DlZ DlS DlV
def pairsOf : List D → Option (List (D × D))
  | [] => some []
  | .tuple [k, v] :: r => (pairsOf r).map ((k, v) :: ·)
  | _ => none
def dpOp : D → Option Slot
  | .list ds => match pairsOf ds with
    | some ps => if isKeys (ps.map (·.1)) then some (.ow (.dct true (dPutAll ps))) else none
    | none => none
  | _ => none
def lkOp (d : D) : Option Slot := match asDct d with
  | some (true, kvs) => some (.ow (.lst (kvs.map (·.1))))
  | _ => none
section
variable {X : Cx} {W : Wc} {Ew : XK} {H0 H : Hp}
theorem RpL.prs : ∀ {ds : List D} {xs : List V} {ps : List (D × D)}, RpL W.K W.cl H0 xs ds → pairsOf ds = some ps → isKeys (ps.map (·.1)) = true →
    ∃ bs : List PrT, xs = bs.map (fun e => V.ref e.1) ∧ ps.map (·.1) = bs.map (fun e => keysD e.2.1) ∧ RpL W.K W.cl H0 (bs.map fun e => e.2.2.2) (ps.map (·.2)) ∧ (∀ e ∈ bs, H0 e.1 = some (.tup [V.ref e.2.2.1, e.2.2.2])) ∧ ∀ e ∈ bs, H0 e.2.2.1 = some (.tup (e.2.1.map kV))
  | [], _, ps, h, hp, _ => by
    cases h; cases hp
    exact ⟨[], rfl, rfl, .nil, (by simp), (by simp)⟩
  | d :: ds, _, ps, h, hp, hk => by
    unfold pairsOf at hp
    split at hp
    · rename_i heq; cases heq
    · rename_i k v r heq
      cases heq
      cases hq : pairsOf ds with
      | none => rw [hq] at hp; cases hp
      | some qs =>
        rw [hq] at hp
        cases hp
        cases h with
        | cons h1 h2 =>
          simp only [List.map_cons, isKeys, Bool.and_eq_true] at hk
          obtain ⟨bs, rfl, p1, p2, p3, p4⟩ := RpL.prs h2 hq hk.2
          cases h1 with
          | @tup c ys _ e r =>
            cases r with
            | cons r1 r =>
              cases r with
              | cons r2 r =>
                cases r
                obtain ⟨b1, f1, f2, f3⟩ := RpL.keysT (W := W) (ds := [k]) (.cons r1 .nil) (by simp [isKeys, hk.1])
                match b1, f1, f2, f3 with
                | [(key, a)], f1, f2, f3 =>
                  simp only [List.map_cons, List.map_nil, List.cons.injEq, and_true] at f1 f2
                  subst f1 f2
                  refine ⟨(c, key, a, _) :: bs, rfl, by simp [p1], .cons r2 p2, fun x hx => ?_, fun x hx => ?_⟩
                  · rcases List.mem_cons.mp hx with rfl | hx
                    · exact e
                    · exact p3 x hx
                  · rcases List.mem_cons.mp hx with rfl | hx
                    · exact f3 _ List.mem_cons_self
                    · exact p4 x hx
    · cases hp
end
end Dl
end
section
set_option maxHeartbeats 1000000
/-! instances: attributes -/
namespace Dl
open PySem L2 DlZ DlS DlV
def hasF (f : Str) : Slot → Bool
  | .oi _ fs => (fget f fs).isSome
  | .fz d => (insGet f d).isSome
  | _ => false
def EntI (W : Wc) (i : Nat) : Prop := i ∈ W.kp ∧ ∃ a C dx fvs, fvs ≠ [] ∧ W.G.vs[i]? = some (V.ref a) ∧ W.G.H a = some (.ins C dx fvs)
def IniI (W : Wc) (i : Nat) : Prop := i ∈ W.kp ∧ ∃ a C dx, W.G.vs[i]? = some (V.ref a) ∧ W.G.H a = some (.ins C dx [])
def ClsF (K : Frag) (cl : ClsT) (cs : List Str) (f : Str) : Prop := ∀ c ∈ cs, ∀ C, cl c = some C → Cls K C ∧ NoAttr K C f
section
variable {X : Cx} {W : Wc} {Ew : XK} {ts vs us : List V} {tss ss sus : List Slot} {σ σ' : L2.St} {H H' H0 H0' : Hp} {ρ : DEnv} {v v1 v2 : V} {s s1 s2 : Slot} {e e2 : Expr} {k ka kb kc : Kd} {f fa fb fc : EM} {Q Q' : VK} {d d1 d2 : D} {p : Addr}
theorem isSome_keys {α β : Type} {f : Str} {fs : List (Str × α)} {gs : List (Str × β)} (h : fs.map (·.1) = gs.map (·.1)) : (fget f fs).isSome = (fget f gs).isSome := by
  have := fget_none (f := f) h
  cases e1 : fget f fs <;> cases e2 : fget f gs <;> simp_all
theorem Rp.insRef {c : Str} (h : Rp W.K W.cl H0 v d) (hc : insCls d = some c) : ∃ a, v = .ref a := by
  cases h <;> first | exact ⟨_, rfl⟩ | simp [insCls] at hc
theorem Rdy.inst {c : Str} (h : Rdy W H0 H v s) (hle : Le H0 H) (hc : clsS s = some c) : ∃ a C dx fvs, v = .ref a ∧ W.cl c = some C ∧ H a = some (.ins C dx fvs) ∧ ∀ g, (fget g fvs).isSome = hasF g s := by
  obtain ⟨fp, h⟩ := h
  cases s with
  | no => cases hc
  | ow c => cases hc
  | fz d =>
    obtain ⟨a, rfl⟩ := h.1.insRef hc
    obtain ⟨C, dx, fvs, fs, rfl, h1, h2, h3, h4⟩ := h.1.insOf hc
    exact ⟨a, C, dx, fvs, rfl, h1, hle.ins h2, fun g => by rw [← isSome_keys h3]; simp only [hasF, insGet_eq]⟩
  | oi c' fs =>
    cases hc
    obtain ⟨a, rfl, C, dx, fvs, ff, i1, i2, i3, i4, i5⟩ := h
    exact ⟨a, C, dx, fvs, rfl, i1, i2, fun g => by rw [← isSome_keys i4.keys]; rfl⟩
theorem World.inst {i : Nat} {c : Str} (w : World W ts tss σ H ρ) (hc : clsS (ρ.getD i .no) = some c) : ∃ a C dx fvs, σ[i]? = some (some (.ref a)) ∧ W.cl c = some C ∧ H a = some (.ins C dx fvs) ∧ ∀ g, (fget g fvs).isSome = hasF g (ρ.getD i .no) := by
  have hn : ρ.getD i .no ≠ .no := fun z => by rw [z] at hc; cases hc
  have hi := getD_some rfl hn
  obtain ⟨v, hv⟩ := w.val hi hn
  obtain ⟨H0, hle, _, en, _⟩ := World.res (vs := []) (ss := []) (ts := ts) (tss := tss) w rfl
  obtain ⟨a, C, dx, fvs, rfl, h⟩ := (en.nm i _ v hi hv).inst hle hc
  exact ⟨a, C, dx, fvs, hv, h⟩
/-! e.f, to be read -/
def eF (cs : List Str) (i : Nat) (g : Str) : EM := fun ρ => match clsS (ρ.getD i .no) with
  | some c => if cs.contains c && hasF g (ρ.getD i .no) then .ok .no ρ else .no
  | none => .no
theorem putFl_putFl (g : Str) (l l' : Fl) : ∀ fs : List (Str × Fl), putFl g l (putFl g l' fs) = putFl g l fs
  | [] => by simp [putFl]
  | (h, x) :: r => by
    by_cases e : h = g
    · simp [putFl, e]
    · simp only [putFl, if_neg e, putFl_putFl g l l' r]
theorem setFl_setFl (g : Str) (l l' : Fl) (s : Slot) : setFl g l (setFl g l' s) = setFl g l s := by
  cases s <;> simp [setFl, putFl_putFl]
/-! e.f, shared -/
def eFX (cs : List Str) (i : Nat) (g : Str) : EM := fun ρ => match clsS (ρ.getD i .no) with
  | some c => if cs.contains c && hasF g (ρ.getD i .no) then match (fldS g (ρ.getD i .no)).shared with
      | some d => .ok (.fz d) (ρ.set i (setFl g (.fz d) (ρ.getD i .no)))
      | none => .no
    else .no
  | none => .no
/-! self.f = e in __init__ -/
theorem FlsOk.put {K : Frag} {cl : ClsT} {g : Str} {l : Fl} {gp : List Addr} (h : FlOk K cl H0 H v l gp) : ∀ {fvs : List (Str × V)} {fs : List (Str × Fl)} {ff : List Addr}, FlsOk K cl H0 H fvs fs ff → ∃ ff' fr, FlsOk K cl H0 H (L2.putF g v fvs) (putFl g l fs) ff' ∧ ff'.Perm (gp ++ fr) ∧ fr.Sublist ff
  | _, _, _, .nil => ⟨gp ++ [], [], .cons h .nil, List.Perm.refl _, List.Sublist.refl _⟩
  | _, _, _, .cons (f := g0) (f1 := f1) (f2 := f2) h0 t => by
    by_cases e : g0 = g
    · refine ⟨gp ++ f2, f2, ?_, List.Perm.refl _, List.sublist_append_right _ _⟩
      simp only [L2.putF, putFl, if_pos e]
      exact .cons h t
    · obtain ⟨ff', fr, h1, h2, h3⟩ := FlsOk.put h t
      refine ⟨f1 ++ ff', f1 ++ fr, ?_, ?_, h3.append_left f1⟩
      · simp only [L2.putF, putFl, if_neg e]
        exact .cons h0 h1
      · refine (List.Perm.append_left f1 h2).trans ?_
        rw [← List.append_assoc, ← List.append_assoc]
        exact List.Perm.append_right _ List.perm_append_comm
def sSetF (cs : List Str) (i : Nat) (g : Str) (f : EM) : SM := fun ρ => (f ρ).bindS fun s ρ1 => match ρ1.getD i .no with
  | .oi c fs => if cs.contains c && decide (fs.length < 1000) then .nx (ρ1.set i (.oi c (putFl g s.fl fs))) else .no
  | _ => .no
end
end Dl
end
section
set_option maxHeartbeats 1000000
/-! instances: methods, properties, new ones -/
namespace Dl
open PySem L2 DlZ DlS DlV
open PyProof.Rows (envOfC)
def entS (c : Str) : List Slot → Bool
  | .oi c' (_ :: _) :: _ => decide (c' = c)
  | .fz (.dict ((.none, .str c') :: _ :: _)) :: _ => decide (c' = c)
  | _ => false
def iniS (c : Str) : List Slot → Bool
  | .oi c' [] :: _ => decide (c' = c)
  | _ => false
/-! ### contracts -/
structure CldM (P : Program) (w : PySem.World) (K : Frag) (mg : Str → Option Value) (base : Heap) (cl : ClsT) (k : Nat) (c mn : Str) (ps : List Str) (F : List Slot → FOut) : Prop where
  ex : ∃ (C f : Addr) (fd : FuncData), cl c = some C ∧ Cls K C ∧ Meth K C mn f ∧ FnOkG P w K mg base (L2.CX P w) k f fd ps (spF K cl ps.length F) ∧
    ∀ (s : Shared) (us ws : List Value) (ks : List Str), us.length + ws.length = ps.length → ks = ps.drop us.length → BindsTo s fd ⟨us, ks.zip ws⟩ (ps.zip (us ++ ws))
structure CldP (P : Program) (w : PySem.World) (K : Frag) (mg : Str → Option Value) (base : Heap) (cl : ClsT) (k : Nat) (c pn : Str) (F : List Slot → FOut) : Prop where
  ex : ∃ (C p f : Addr) (fd : FuncData), cl c = some C ∧ Cls K C ∧ PropOf K C pn p f ∧ FnOkG P w K mg base (L2.CX P w) k f fd ["self"] (spF K cl 1 F) ∧
    ∀ (s : Shared) (us ws : List Value) (ks : List Str), us.length + ws.length = 1 → ks = (["self"] : List Str).drop us.length → BindsTo s fd ⟨us, ks.zip ws⟩ ((["self"] : List Str).zip (us ++ ws))
structure CldI (P : Program) (w : PySem.World) (K : Frag) (mg : Str → Option Value) (base : Heap) (cl : ClsT) (k : Nat) (c : Str) (ps : List Str) (F : List Slot → FOut) : Prop where
  ex : ∃ (C f : Addr) (fd : FuncData), cl c = some C ∧ mg c = some (.ref C) ∧ Mk K C f ∧ FnOkG P w K mg base (L2.CX P w) k f fd ps (spF K cl ps.length F) ∧
    ∀ (s : Shared) (us ws : List Value) (ks : List Str), us.length + ws.length = ps.length → ks = ps.drop us.length → BindsTo s fd ⟨us, ks.zip ws⟩ (ps.zip (us ++ ws))
section
variable {X : Cx} {W : Wc} {Ew : XK} {ts vs us : List V} {tss ss sus : List Slot} {σ σ' : L2.St} {H H' H0 H0' : Hp} {ρ : DEnv} {v v1 v2 : V} {s s1 s2 : Slot} {e e2 o : Expr} {es : List Expr} {kws : List Keyword} {k ka kb kc : Kd} {f fa fb fc : EM} {Q Q' : VK} {d d1 d2 : D} {p pos apos : Pos} {ks : List Str} {kl : Nat} {r r' : List (Kd × EM)} {F : List Slot → FOut} {c mn : Str} {ps : List Str}
/-! ### o.m(..) -/
def callT (ks : List Kd) (ss : List Slot) (F : List Slot → FOut) : EM := fun ρ => match F (lend ks ss ρ).1 with
  | .ok s ss' => .ok s (unlend ks ss' (lend ks ss ρ).2)
  | .er c d ss' => .er c d (unlend ks ss' (lend ks ss ρ).2)
  | .no => .no
def eMeth (c mn : Str) (kb : Kd) (fb : EM) (r : List (Kd × EM)) (F : List Slot → FOut) : EM := fun ρ => (fb ρ).bind fun s0 ρ1 => if clsS (sl kb s0 ρ1) = some c ∧ hasF mn (sl kb s0 ρ1) = false then
    (eArgs r ρ1).bind fun ss ρ2 => callT (kb :: r.map (·.1)) (s0 :: ss) F ρ2
  else .no
end
end Dl
end
section
set_option maxHeartbeats 1000000
namespace Dl
open PySem L2 DlZ DlS DlV
open PySem.Spec PyProof.Rows
section
variable {X : Cx} {W : Wc} {Ew : XK} {ts vs us : List V} {tss ss sus : List Slot} {σ σ' : L2.St} {H H' H0 H0' : Hp} {ρ : DEnv} {v v1 v2 : V} {s s1 s2 : Slot} {e e2 o : Expr} {es : List Expr} {kws : List Keyword} {k ka kb kc : Kd} {f fa fb fc : EM} {Q Q' : VK} {d d1 d2 : D} {p pos apos : Pos} {ks : List Str} {kl : Nat} {r r' : List (Kd × EM)} {F : List Slot → FOut} {c mn : Str} {ps : List Str}
/-! ### o.p, a property -/
def eProp (c : Str) (kb : Kd) (fb : EM) (F : List Slot → FOut) : EM := fun ρ => (fb ρ).bind fun s0 ρ1 => if clsS (sl kb s0 ρ1) = some c then
    match F (lend [kb] [s0] ρ1).1 with
    | .ok s ss' => .ok s (unlend [kb] ss' (lend [kb] [s0] ρ1).2)
    | _ => .no
  else .no
/-! ### C(..) -/
def eMake (c : Str) (r : List (Kd × EM)) (F : List Slot → FOut) : EM := fun ρ => (eArgs r ρ).bind fun ss ρ1 => match F (.oi c [] :: (lend (r.map (·.1)) ss ρ1).1) with
  | .ok (.fz .none) (s' :: ss') => .ok s' (unlend (r.map (·.1)) ss' (lend (r.map (·.1)) ss ρ1).2)
  | _ => .no
end
end Dl
end
section
set_option maxHeartbeats 1000000
namespace Dl
open PySem L2 DlZ DlS DlV
open PySem.Spec PyProof.Rows
def ownTys : List String := ["NoneType", "bool", "int", "str", "list", "tuple", "dict"]
def tyD (d : D) : Option String := match tyName d with
  | some t => some t
  | none => match asDct d with
    | some (false, _) => some "dict"
    | _ => none
structure IsiC (K : Frag) (cl : ClsT) (mg : Str → Option Value) (c : Str) : Prop where
  ex : ∃ C, cl c = some C ∧ mg c = some (.ref C) ∧ Cls K C ∧ PySem.W.findIn K (.ref C) "__class__" = some (some (.builtin "object.__class__")) ∧
    PySem.W.specialIn K (.builtin "object.__class__") "__get__" = some (some (.builtin "getset_descriptor.__get__")) ∧ PySem.W.takesIn K (.builtin "object.__class__") = some true ∧ PySem.W.mroIn K C (.type "object") = some true ∧
    PySem.W.kitOne K (.ref C) (.ref C) = some true ∧ ∀ t ∈ ownTys, PySem.W.kitOne K (.type t) (.ref C) = some false
def isCls (c : Str) (s : Slot) : Option Bool := if clsS s = some c then some true else match s.d? with
  | some d => (tyD d).map fun _ => false
  | none => none
def eIsC (c : Str) (k : Kd) (f : EM) : EM := fun ρ => (f ρ).bind fun s ρ1 => ofO ((isCls c (sl k s ρ1)).map fun b => .fz (.bool b)) ρ1
section
variable {X : Cx} {W : Wc} {Ew : XK} {ts vs us : List V} {tss ss sus : List Slot} {σ σ' : L2.St} {H H' H0 H0' : Hp} {ρ : DEnv} {v v1 v2 : V} {s s1 s2 : Slot} {e e2 o a b : Expr} {es : List Expr} {kws : List Keyword} {k ka kb kc : Kd} {f fa fb fc : EM} {Q Q' : VK} {d d1 d2 : D} {p pos apos : Pos} {ks : List Str} {kl : Nat} {r r' : List (Kd × EM)} {F : List Slot → FOut} {c mn : Str} {ps : List Str}
theorem Rdy.tyX2 {t : String} {s1 : Slot} (hK : X.K = W.K) (hle : Le H0 H) (h : Rdy W H0 H v s1) (e : s1.d? = some d) (ht : tyD d = some t) : t ∈ ownTys ∧ TyX X.K H v (.type t) := by
  unfold tyD at ht
  cases hn : tyName d with
  | some t' =>
    rw [hn] at ht
    cases ht
    obtain ⟨h1, h2⟩ := h.tyX hK hle e hn
    refine ⟨?_, h2⟩
    simp only [List.mem_cons, List.not_mem_nil, or_false] at h1
    simp only [ownTys, List.mem_cons, List.not_mem_nil, or_false]
    rcases h1 with z | z | z | z | z | z <;> simp [z]
  | none =>
    rw [hn] at ht
    simp only at ht
    split at ht
    · rename_i kvs ha
      cases ht
      obtain ⟨ed, hnn⟩ := asDct_inv ha
      rw [ed] at e
      obtain ⟨a, u, rfl, h1, ⟨l, rfl, h2, h3⟩⟩ := h.dct hle e hnn
      refine ⟨by simp [ownTys], ?_⟩
      rcases h1 with h1 | ⟨o, h1⟩
      · exact .base (.dK h1)
      · exact .fDict h1
    · cases ht
/-! ### a == b by the __eq__ of a's class -/
structure EqC (K : Frag) (cl : ClsT) (c : Str) : Prop where
  ex : ∃ C, cl c = some C ∧ ∀ t ∈ ownTys, PySem.W.notFirst K C (.type t) = true
def eqArg (c : Str) (s : Slot) : Bool := decide (clsS s = some c) || (match s.d? with
  | some d => (tyD d).isSome
  | none => false)
def eOwnEq (c : Str) (ka kb : Kd) (fa fb : EM) (F : List Slot → FOut) : EM := fun ρ => (fa ρ).bind fun s ρ1 => (fb ρ1).bind fun t ρ2 => if clsS (sl ka s ρ2) = some c ∧ eqArg c (sl kb t ρ2) = true then callT [ka, kb] [s, t] F ρ2 else .no
end
end Dl
end
section
set_option maxHeartbeats 1000000
/-! instances: self.f, self.g = a tuple; self.f.append(e); o.m(k = v) -/
namespace Dl
open PySem L2 DlZ DlS DlV
section
variable {X : Cx} {W : Wc} {Ew : XK} {ts vs us : List V} {tss ss sus : List Slot} {σ σ' : L2.St} {H H' H0 H0' : Hp} {ρ : DEnv} {v v1 v2 : V} {s s1 s2 : Slot} {e e2 o a : Expr} {es : List Expr} {kws : List Keyword} {k ka kb kc : Kd} {f fa fb fc : EM} {Q Q' : VK} {d d1 d2 : D} {p px pos apos cpos : Pos} {ks : List Str} {kl : Nat} {r r' : List (Kd × EM)} {F : List Slot → FOut} {c mn : Str} {ps : List Str}
/-! targets that may change the heap -/
def TgOkH (W : Wc) (g : TG) (t : TgD) : Prop := ∀ (ts : List V) (tss : List Slot) (σ : L2.St) (H : Hp) (ρ : DEnv) (v : V) (d : D) (ρ' : DEnv) (Q : L2.St → Hp → Prop), World W (v :: ts) (.fz d :: tss) σ H ρ → t d ρ = some ρ' →
  (∀ σ' H', World W ts tss σ' H' ρ' → Q σ' H') → g v σ H Q
def TgsOkH (W : Wc) (g : TGs) (t : List D → DEnv → Option DEnv) : Prop := ∀ (ts : List V) (tss : List Slot) (σ : L2.St) (H : Hp) (ρ : DEnv) (vs : List V) (ds : List D) (ρ' : DEnv) (Q : L2.St → Hp → Prop), vs.length = ds.length → World W (vs ++ ts) (ds.map Slot.fz ++ tss) σ H ρ → t ds ρ = some ρ' →
  (∀ σ' H', World W ts tss σ' H' ρ' → Q σ' H') → g vs σ H Q
def gFld (K : Frag) (to : TE) (f : Str) : TG := fun v σ H Q => to σ H fun x H2 => ∃ a C dx fs, x = .ref a ∧ H2 a = some (.ins C dx fs) ∧ Cls K C ∧ NoAttr K C f ∧ fs.length < 1000 ∧ Q σ (upd H2 a (.ins C dx (L2.putF f v fs)))
def tgF (cs : List Str) (i : Nat) (g : Str) : TgD := fun d ρ => match ρ.getD i .no with
  | .oi c fs => if cs.contains c && decide (fs.length < 1000) then some (ρ.set i (.oi c (putFl g (.fz d) fs))) else none
  | _ => none
/-! self.f.append(e) -/
def eAppF (cs : List Str) (i : Nat) (g : Str) (f : EM) : EM := fun ρ => match clsS (ρ.getD i .no) with
  | some c => if cs.contains c then match fldS g (ρ.getD i .no) with
      | .ow (.lst _) => (f ρ).bind fun s ρ1 => match s.shared with
        | some d => match fldS g (ρ1.getD i .no) with
          | .ow (.lst ds) => if small ds.length then .ok (.fz .none) (ρ1.set i (setFl g (.ow (.lst (ds ++ [d]))) (ρ1.getD i .no))) else .no
          | _ => .no
        | none => .no
      | _ => .no
    else .no
  | none => .no
/-! o.m(k = v, ..) -/
end
end Dl
end
section
set_option maxHeartbeats 4000000
/-! sorted(d.items()) of a dict with tuples as keys -/
namespace Dl
open PySem PySem.Spec PyProof.Rows L2 DlZ DlS DlV
open PySem.W (EachIs)
def siOp (d : D) : Option Slot := match asDct d with
  | some (true, kvs) => (sortK (kvs.map fun e => .tuple [e.1, e.2])).map fun es => .ow (.lst es)
  | _ => none
section
variable {X : Cx} {W : Wc} {Ew : XK} {pins : List (Addr × Obj)} {σ : L2.St} {H H0 H1 : Hp} {s : Shared} {v : V} {u : Value} {sl sl' : Slot} {d : D} {a : Addr} {xs : List V} {ds : List D} {k : Kd} {f : EM} {o : Expr} {p pos apos mpos : Pos} {Q : VK}
end
end Dl
end
section
set_option maxHeartbeats 1000000
/-! texts: split, join, int -/
namespace Dl
open PySem L2 DlZ DlS DlV
def splitOp : D → D → Option Slot
  | .str a, .str b => if (b.length == 0) = false ∧ a.length + 2 ≤ sizeLine then some (.ow (.lst ((Txt.split a b).map .str))) else none
  | _, _ => none
def joinOp : D → D → Option Slot
  | .str a, c => match seqOf c with
    | some (_, ds) => match asStrs ds with
      | some ys => if (ys.map (·.length)).sum + ys.length * a.length ≤ 16777216 then some (.fz (.str (Txt.join a ys))) else none
      | none => none
    | none => none
  | _, _ => none
def isStr : D → Bool
  | .str _ => true
  | _ => false
def eM1 (ka kb : Kd) (fa fb : EM) (op : D → D → Option Slot) : EM := fun ρ => (fa ρ).bind fun s ρ1 => if ((sl ka s ρ1).d?.map isStr) = some true then (fb ρ1).bind fun t ρ2 => ofO (g2 op (sl ka s ρ2) (sl kb t ρ2)) ρ2 else .no
def intOf2 : D → Option Slot
  | .str a => match PySem.intText? a with
    | some n => if a.length ≤ 640 then some (.fz (.int n)) else none
    | none => none
  | d => intOf d
section
variable {X : Cx} {W : Wc} {Ew : XK} {ts vs us : List V} {tss ss sus : List Slot} {σ σ' : L2.St} {H H' H0 H0' : Hp} {ρ : DEnv} {v v1 v2 : V} {s s1 s2 : Slot} {e e2 o a b : Expr} {k ka kb kc : Kd} {f fa fb fc : EM} {Q Q' : VK} {d d1 d2 : D} {pos apos : Pos}
end
end Dl
end
section
set_option maxHeartbeats 1000000
/-! d.get(k, x); displays of dicts with texts as keys -/
namespace Dl
open PySem L2 DlZ DlS DlV
def isDctS (s : Slot) : Bool := match s.d? with
  | some d => (asDct d).isSome
  | none => false
def getR (d k : D) (u : Slot) : Option Slot := match asDct d with
  | some (tt, kvs) => if isKey tt k then some (match dGet kvs k with
      | some x => .fz x
      | none => u) else none
  | none => none
def eGet (kd kk : Kd) (fd fk fx : EM) : EM := fun ρ => (fd ρ).bind fun s ρ1 => if isDctS (sl kd s ρ1) = true then (fk ρ1).bind fun t ρ2 => (fx ρ2).bind fun u ρ3 =>
    ofO ((sl kd s ρ3).d?.bind fun d => (sl kk t ρ3).d?.bind fun k => getR d k u) ρ3 else .no
section
variable {X : Cx} {W : Wc} {Ew : XK} {ts vs us : List V} {tss ss sus : List Slot} {σ σ' : L2.St} {H H' H0 H0' : Hp} {ρ : DEnv} {v v1 v2 : V} {s s1 s2 : Slot} {e e2 o a b : Expr} {k ka kb kc kd kk : Kd} {f fa fb fc fd fk fx : EM} {Q Q' : VK} {d d1 d2 : D} {pos apos cpos : Pos} {p : Addr}
/-! displays -/
def eVals : List EM → DEnv → Out (List D)
  | [], ρ => .ok [] ρ
  | f :: r, ρ => (f ρ).bind fun s ρ1 => match s with
    | .fz d => (eVals r ρ1).bind fun ds ρ2 => .ok (d :: ds) ρ2
    | _ => .no
theorem eVals_len : ∀ {r : List EM} {ρ ρ1 : DEnv} {ds : List D}, eVals r ρ = .ok ds ρ1 → ds.length = r.length
  | [], _, _, _, h => by cases h; rfl
  | f :: r, ρ, ρ1, ds, h => by
    simp only [eVals] at h
    cases ea : f ρ with
    | no => rw [ea] at h; cases h
    | er c d ρ' => rw [ea] at h; cases h
    | ok s ρ2 =>
      rw [ea] at h
      simp only [Out.bind_ok] at h
      split at h
      · rename_i d
        cases eb : eVals r ρ2 with
        | no => rw [eb] at h; cases h
        | er c d ρ' => rw [eb] at h; cases h
        | ok es ρ3 =>
          rw [eb] at h
          cases h
          simp [eVals_len eb]
      · cases h
theorem disp_red {K : List (V × V) → Hp → Prop} : ∀ (l : List (Str × EM)) {pre : List V} {preD : List D} {ρ : DEnv} {H : Hp}, pre.length = preD.length → World W (pre ++ V.ref p :: ts) (preD.map Slot.fz ++ .ow (.dct false []) :: tss) σ H ρ →
    (match eVals (l.map (·.2)) ρ with
      | .ok ds ρ2 => ∀ vs H2, vs.length = ds.length → World W ((vs.reverse ++ pre) ++ V.ref p :: ts) ((ds.reverse ++ preD).map Slot.fz ++ .ow (.dct false []) :: tss) σ H2 ρ2 → K ((l.map fun e => V.str e.1).zip vs) H2
      | .er c d ρ' => ErrTo W Ew c d ρ'
      | .no => False) → tPairs (l.map fun e => (tC (.str e.1), tO W Ew .t e.2)) σ H K
  | [], pre, preD, ρ, H, _, w, q => q [] H rfl (by simpa using w)
  | (x, f) :: l, pre, preD, ρ, H, hl, w, q => by
    refine ⟨pre ++ V.ref p :: ts, preD.map Slot.fz ++ .ow (.dct false []) :: tss, ρ, w, ?_⟩
    show FinO W Ew _ _ σ .t _ (f ρ)
    simp only [List.map_cons, eVals] at q
    cases ea : f ρ with
    | no => rw [ea] at q; exact q
    | er c d ρ' => rw [ea] at q; exact q
    | ok s ρ1 =>
      rw [ea] at q
      simp only [Out.bind_ok] at q
      intro v H1 w1 _
      cases s with
      | no => exact q.elim
      | ow c => exact q.elim
      | oi c fs => exact q.elim
      | fz d =>
        refine disp_red l (pre := v :: pre) (preD := d :: preD) (ρ := ρ1) (K := fun ps H3 => K ((V.str x, v) :: ps) H3) (by simp [hl]) (by simpa using w1) ?_
        cases eb : eVals (l.map (·.2)) ρ1 with
        | no => rw [eb] at q; exact q
        | er c d ρ' => rw [eb] at q; exact q
        | ok ds ρ2 =>
          rw [eb] at q
          intro vs H2 hv w2
          exact q (v :: vs) H2 (by simp [hv]) (by simpa using w2)
def nodupK : List Str → Bool
  | [] => true
  | x :: r => !r.contains x && nodupK r
def eDisp (l : List (Str × EM)) : EM := fun ρ => (eVals (l.map (·.2)) ρ).bind fun ds ρ1 => if nodupK (l.map (·.1)) = true then .ok (.ow (.dct false ((l.map fun e => PyData.str e.1).zip ds))) ρ1 else .no
theorem putK_new {k : Key} {v : V} {kvs : List (Key × V)} (h : ∀ e ∈ kvs, e.1 ≠ k) : putK kvs k v = kvs ++ [(k, v)] := by
  unfold putK
  rw [if_neg]
  simp only [List.any_eq_true, decide_eq_true_eq, not_exists, not_and]
  exact h
theorem mergeK_new : ∀ {more kvs : List (Key × V)}, (∀ e ∈ more, ∀ e' ∈ kvs, e'.1 ≠ e.1) → (more.map (·.1)).Nodup → mergeK kvs more = kvs ++ more
  | [], kvs, _, _ => by simp [mergeK]
  | (k, v) :: r, kvs, h, nd => by
    have h1 : putK kvs k v = kvs ++ [(k, v)] := putK_new fun e he => h (k, v) (by simp) e he
    show mergeK (putK kvs k v) r = _
    rw [h1, mergeK_new (more := r) (fun e he e' he' => ?_) (by simpa using (List.nodup_cons.mp (by simpa using nd)).2)]
    · simp
    · rcases List.mem_append.mp he' with z | z
      · exact h e (by simp [he]) e' z
      · obtain rfl : e' = (k, v) := by simpa using z
        intro ee
        have := (List.nodup_cons.mp (show ((k :: r.map (·.1)).Nodup) by simpa using nd)).1
        exact this (by rw [show k = e.1 from ee]; exact List.mem_map_of_mem he)
theorem nodupK_of : ∀ {xs : List Str}, nodupK xs = true → xs.Nodup
  | [], _ => List.nodup_nil
  | x :: r, h => by
    simp only [nodupK, Bool.and_eq_true, Bool.not_eq_true'] at h
    refine List.nodup_cons.mpr ⟨fun z => ?_, nodupK_of h.2⟩
    have := h.1
    simp [z] at this
theorem pd_disp {keys : List (Option Expr)} {values : List Expr} {l : List (Str × EM)} (h : PPs X pos keys values (l.map fun e => (tC (.str e.1), tO W Ew .t e.2))) (hall : keys.all (·.isSome) = true := by rfl) (hl : keys.length = values.length := by rfl) (h0 : keys ≠ [] := by exact List.cons_ne_nil _ _)
    (h15 : keys.length ≤ 15 := by decide) (hk : keys.length = l.length := by rfl) : PE X (.Dict keys values pos) (tO W Ew .t (eDisp l)) := PE.imp (pe_disp h hall hl h0 h15) fun σ H Q ⟨ts, tss, ρ, w, q⟩ p hp => by
  obtain ⟨H0, hle, _, _, kr⟩ := World.res (vs := []) (ss := []) (ts := ts) (tss := tss) w rfl
  refine disp_red (W := W) (Ew := Ew) (ts := ts) (tss := tss) l (pre := []) (preD := []) rfl (kr (.newD (l := []) hle hp rfl .nil)) ?_
  unfold eDisp at q
  cases ea : eVals (l.map (·.2)) ρ with
  | no => rw [ea] at q; exact q
  | er c d ρ' => rw [ea] at q; exact q
  | ok ds ρ2 =>
    rw [ea] at q
    simp only [Out.bind_ok] at q
    intro vs H2 hv w2
    split at q
    · rename_i nd
      rw [List.append_nil, List.append_nil] at w2
      have hd : ds.length = l.length := by simpa using eVals_len ea
      rw [hk] at h15
      obtain ⟨H0, hle, rd, hc, ha0, kw⟩ := World.write (vs := vs.reverse) (ss := (ds.reverse).map Slot.fz) (c := .dct false []) w2 (by simp [hv]) (fun _ _ z => nomatch z)
      obtain ⟨u, e1, l0, rfl, e3, e4⟩ := hc
      have el : l0 = [] := by simpa using e3.symm
      subst el
      refine ⟨e1, (l.map fun e => (Sum.inr e.1 : Key)).zip vs, ?_, by simp [hv, hd, h15], ?_⟩
      · clear q kw rd e1 ea nd w2 h
        have : ∀ (l : List (Str × EM)) (vs : List V), (l.map fun e => V.str e.1).zip vs = ((l.map fun e => (Sum.inr e.1 : Key)).zip vs).map fun kv => (kV kv.1, kv.2) := fun l => by
          induction l with
          | nil => intro vs; simp
          | cons e l ih => intro vs; cases vs with
            | nil => simp
            | cons v vs => simp [ih vs, kV]
        exact this l vs
      · have hr : RpL W.K W.cl H0 vs.reverse ds.reverse := by
          clear kw
          generalize vs.reverse = xs at rd
          generalize ds.reverse = ys at rd
          induction ys generalizing xs with
          | nil => cases rd; exact .nil
          | cons y ys ih => cases rd with
            | cons a b => obtain ⟨fp, a, _⟩ := a; exact .cons a (ih _ b)
        have hr' : RpL W.K W.cl H0 vs ds := by simpa using hr.reverse
        have hm : mergeK ([] : List (Key × V)) ((l.map fun e => (Sum.inr e.1 : Key)).zip vs) = (l.map fun e => (Sum.inr e.1 : Key)).zip vs := by
          rw [mergeK_new (fun _ _ e' he' => by cases he') ?_]
          · rfl
          · rw [List.map_fst_zip (by simp [hv, hd])]
            have := nodupK_of nd
            rw [show (l.map fun e => (Sum.inr e.1 : Key)) = (l.map (·.1)).map Sum.inr by simp]
            exact List.Pairwise.map _ (fun a b hab z => hab (Sum.inr.inj z)) this
        rw [hm]
        have hrr : RpL W.K W.cl H0 (((l.map fun e => (Sum.inr e.1 : Key)).zip vs).map (·.2)) (((l.map fun e => PyData.str e.1).zip ds).map (·.2)) := by
          rw [List.map_snd_zip (by simp [hv, hd]), List.map_snd_zip (by simp [hd])]
          exact hr'
        have := kw (u := .dK ((l.map fun e => (Sum.inr e.1 : Key)).zip vs)) (c' := .dct false ((l.map fun e => PyData.str e.1).zip ds)) (vs' := []) (ds' := []) ⟨_, upd_same, _, rfl, ?_, hrr⟩ .nil
        · exact q _ _ this trivial
        · rw [List.map_fst_zip (by simp [hd])]
          rw [show (((l.map fun e => (Sum.inr e.1 : Key)).zip vs).map fun e => keyD e.1) = (((l.map fun e => (Sum.inr e.1 : Key)).zip vs).map (·.1)).map keyD by simp, List.map_fst_zip (by simp [hv, hd])]
          simp [keyD]
    · exact q.elim
end
end Dl
end
section
set_option maxHeartbeats 1000000
/-! d.get(k, x) in short; a == b of an own class as a test; isinstance where dicts may come -/
namespace Dl
open PySem L2 DlZ DlS DlV
section
variable {X : Cx} {W : Wc} {Ew : XK} {ts vs us : List V} {tss ss sus : List Slot} {σ σ' : L2.St} {H H' H0 H0' : Hp} {ρ : DEnv} {v v1 v2 : V} {s s1 s2 : Slot} {e e2 o a b : Expr} {es : List Expr} {kws : List Keyword} {k ka kb kc : Kd} {f fa fb fc : EM} {Q Q' : VK} {d d1 d2 : D} {p pos apos : Pos} {ks : List Str} {kl : Nat} {r r' : List (Kd × EM)} {F : List Slot → FOut} {c mn : Str} {ps : List Str}
/-! isinstance -/
def isTy2 (T : String) (d : D) : Option Bool := (tyD d).bind fun t => if tyKnown T then some (tyB t T) else none
def eIsi2 (k : Kd) (f : EM) (T : String) : EM := fun ρ => (f ρ).bind fun s ρ1 => ofO (((sl k s ρ1).d?.bind (isTy2 T)).map fun b => .fz (.bool b)) ρ1
end
end Dl
end
section
set_option maxHeartbeats 1000000
/-! dict(pairs), dict(zip(a, b)) with ints and texts as keys -/
namespace DlZ
open PySem PySem.Spec PyProof.Rows L2
def tDZK (K : PySem.W.Frag) (ta : TA) : TE := fun σ H Q => ta σ H fun vs H1 => ∃ (T1 T2 : Bool) (a b : Addr) (ys : List V) (ks : List Key), vs = [.ref a, .ref b] ∧ SqB T1 K H1 a (ks.map kV) ∧ SqB T2 K H1 b ys ∧
  ∀ p, H1 p = none → Q (.ref p) (upd H1 p (.dK (mergeK [] (ks.zip ys))))
end DlZ
namespace Dl
open PySem L2 DlZ DlS DlV
def isFlats (ds : List D) : Bool := (flatsD ds).isSome
def dpkOp : D → Option Slot
  | .list ds => match pairsOf ds with
    | some ps => if isFlats (ps.map (·.1)) then some (.ow (.dct false (dPutAll ps))) else none
    | none => none
  | _ => none
def dzkOp (a b : D) : Option Slot := match seqOf a, seqOf b with
  | some (_, ds), some (_, es) => if isFlats ds then some (.ow (.dct false (dPutAll (ds.zip es)))) else none
  | _, _ => none
section
variable {X : Cx} {W : Wc} {Ew : XK} {ts vs us : List V} {tss ss sus : List Slot} {σ σ' : L2.St} {H H' H0 H0' : Hp} {ρ : DEnv} {v v1 v2 : V} {s s1 s2 : Slot} {e e2 o a b : Expr} {k ka kb kc : Kd} {f fa fb fc : EM} {Q Q' : VK} {d d1 d2 : D} {p pos apos mpos : Pos}
/-! s.upper() -/
def upperOp : D → Option Slot
  | .str z => if z.length ≤ 5592405 then some (.fz (.str (Txt.upper z))) else none
  | _ => none
def eM0 (k : Kd) (f : EM) (op : D → Option Slot) : EM := fun ρ => (f ρ).bind fun s ρ1 => ofO (g1 op (sl k s ρ1)) ρ1
end
end Dl
end
section
set_option maxHeartbeats 2000000
/-! list(zip(a, b)) -/
namespace DlZ
open PySem PySem.Spec PyProof.Rows L2
structure ZSrc (prog : Program) (w : World) (A : Around) (I S : Addr) (wr : List Addr) (n : Nat) (Rel : Nat → Value → Value → Prop) (St : Nat → Heap → Prop) : Prop where
  off : S ∉ wr
  frame : ∀ i h h', St i h → (∀ b o, b ≠ S → h.get? b = some o → h'.get? b = some o) → St i h'
  item : ∀ i (s : Shared) (Q : Option Value → Shared → Prop) (E : Value → Shared → Prop), i < n → St i s.heap → S < s.heap.objs.size →
    (∀ k v h' tk, Rel i k v → h'.IsTuple s.heap.objs.size #[k, v] → St (i + 1) h' → (∀ b o, b ∉ wr → s.heap.get? b = some o → h'.get? b = some o) → Q (some (.ref s.heap.objs.size)) { s with heap := h', toks := tk }) → wpAny (model prog w) A (pyNext (.ref I)) Q E s
  done : ∀ (s : Shared) (Q : Option Value → Shared → Prop) (E : Value → Shared → Prop), St n s.heap →
    (∀ h' tk, (∀ b o, b ∉ wr → s.heap.get? b = some o → h'.get? b = some o) → Q none { s with heap := h', toks := tk }) → wpAny (model prog w) A (pyNext (.ref I)) Q E s
def ZAcc (Rel : Nat → Value → Value → Prop) (S : Addr) (i : Nat) (acc : Array Value) (h : Heap) : Prop :=
  ∃ Ts : List Addr, acc.toList = Ts.map Value.ref ∧ Ts.length = i ∧ Ts.Pairwise (· < ·) ∧ ∀ (j : Nat) (T : Addr), Ts[j]? = some T → S < T ∧ ∃ k v, Rel j k v ∧ h.IsTuple T #[k, v]
theorem isTuple_keep {h h' : Heap} {T : Addr} {xs : Array Value} (x : h.IsTuple T xs) (e : ∀ o, h.get? T = some o → h'.get? T = some o) : h'.IsTuple T xs := by
  obtain ⟨o, h1, h2⟩ := x
  exact ⟨o, e o h1, h2⟩
theorem ZAcc.size {Rel : Nat → Value → Value → Prop} {S : Addr} {i : Nat} {acc : Array Value} {h : Heap} (x : ZAcc Rel S i acc h) : acc.size = i := by
  obtain ⟨Ts, h1, h2, _⟩ := x
  rw [← Array.length_toList, h1, List.length_map, h2]
theorem ZAcc.keep {Rel : Nat → Value → Value → Prop} {S : Addr} {i : Nat} {acc : Array Value} {h h' : Heap} (x : ZAcc Rel S i acc h) (e : ∀ b o, S < b → h.get? b = some o → h'.get? b = some o) : ZAcc Rel S i acc h' := by
  obtain ⟨Ts, h1, h2, h3, h4⟩ := x
  refine ⟨Ts, h1, h2, h3, fun j T hj => ?_⟩
  obtain ⟨a1, k, v, a2, a3⟩ := h4 j T hj
  exact ⟨a1, k, v, a2, isTuple_keep a3 fun o ho => e T o a1 ho⟩
section
variable {prog : Program} {w : World} {A : Around} {E : Value → Shared → Prop} {s : Shared} {I S : Addr} {wr : List Addr} {n : Nat} {Rel : Nat → Value → Value → Prop} {St : Nat → Heap → Prop} {R : Result → Shared → Prop}
end
section
variable {prog : Program} {w : World} {A : Around} {E : Value → Shared → Prop} {s : Shared}
end
end DlZ

namespace Dl
open PySem L2 DlZ DlS DlV PySem.Spec PyProof.Rows
def lzOp (a b : D) : Option Slot := match seqOf a, seqOf b with
  | some (_, ds), some (_, es) => some (.ow (.lst (List.zipWith (fun x y => .tuple [x, y]) ds es)))
  | _, _ => none
section
variable {X : Cx} {W : Wc} {Ew : XK} {ts vs us : List V} {tss ss sus : List Slot} {σ σ' : L2.St} {H H' H0 H0' : Hp} {ρ : DEnv} {v v1 v2 : V} {s s1 s2 : Slot} {e e2 o a b : Expr} {k ka kb kc : Kd} {f fa fb fc : EM} {Q Q' : VK} {d d1 d2 : D}
def tLZ (K : PySem.W.Frag) (ta : TA) : TE := fun σ H Q => ta σ H fun vs H1 => ∃ (T1 T2 : Bool) (a b : Addr) (xs ys : List V), vs = [.ref a, .ref b] ∧ SqB T1 K H1 a xs ∧ SqB T2 K H1 b ys ∧
  ∀ (Ts : List Addr) (H2 : Hp) (p : Addr), (∀ c o, H1 c = some o → H2 c = some o) → H2 p = none → Ts.length = min xs.length ys.length → (∀ (j : Nat) (T : Addr) (x y : V), Ts[j]? = some T → xs[j]? = some x → ys[j]? = some y → H2 T = some (.tup [x, y])) → Q (.ref p) (upd H2 p (.lst (Ts.map V.ref)))
end
end Dl
end
section
set_option maxHeartbeats 1000000
/-! instances: self.f[k] = v -/
namespace Dl
open PySem L2 DlZ DlS DlV
section
variable {X : Cx} {W : Wc} {Ew : XK} {ts vs us : List V} {tss ss sus : List Slot} {σ σ' : L2.St} {H H' H0 H0' : Hp} {ρ : DEnv} {v v1 v2 : V} {s s1 s2 : Slot} {e e2 o a ix : Expr} {f fa fb fc : EM} {d d1 d2 : D} {p px pos pos' apos cpos : Pos}
def isLk : Cont → Bool
  | .lk _ _ => true
  | _ => false
def sStoF (cs : List Str) (i : Nat) (g : Str) (fv fi : EM) : SM := fun ρ => (fv ρ).bindS fun sv ρ1 => match sv.shared with
  | none => .no
  | some d => match clsS (ρ1.getD i .no) with
    | none => .no
    | some c => if cs.contains c then match fldS g (ρ1.getD i .no) with
      | .ow c0 => if isLk c0 then .no else (fi ρ1).bindS fun si ρ2 => match si.shared with
        | none => .no
        | some di => match fldS g (ρ2.getD i .no) with
          | .ow c1 => match stoOp c1 di d with
            | some c' => .nx (ρ2.set i (setFl g (.ow c') (ρ2.getD i .no)))
            | none => .no
          | _ => .no
      | _ => .no
      else .no
end
end Dl
end
section
set_option maxHeartbeats 1000000
/-! a, b = a list, or a tuple -/
namespace Dl
open PySem PySem.Spec PyProof.Rows L2 DlZ DlS DlV
def gSeq (K : PySem.W.Frag) (n : Nat) (t : TGs) : TG := fun v σ H Q => ∃ a xs, v = .ref a ∧ (SqT K H a xs ∨ SqL K H a xs) ∧ xs.length = n ∧ t xs σ H Q
section
variable {X : Cx} {W : Wc} {Ew : XK} {ts vs us : List V} {tss ss sus : List Slot} {σ σ' : L2.St} {H H' H0 H0' : Hp} {ρ : DEnv} {v v1 v2 : V} {pos : Pos}
def tgU (n : Nat) (u : List D → DEnv → Option DEnv) : TgD
  | .tuple ds, ρ => if ds.length = n then u ds ρ else none
  | .list ds, ρ => if ds.length = n then u ds ρ else none
  | _, _ => none
end
end Dl
end
section
set_option maxHeartbeats 1000000
/-! a list times a number -/
namespace DlZ
open PySem PySem.Spec PyProof PyProof.Rows L2
section
variable {prog : Program} {w : World} {A : Around} {E : Value → Shared → Prop} {s : Shared}
end
end DlZ
namespace Dl
open PySem PySem.Spec PyProof.Rows L2 DlZ DlS DlV
def mulLOp : D → D → Option Slot
  | .list ds, .int n => if ds.length * n.toNat ≤ 1000000 ∧ -1000000 ≤ n ∧ n ≤ 1000000 then some (.ow (.lst (List.replicate n.toNat ds).flatten)) else none
  | a, b => mulOp a b
section
variable {X : Cx} {W : Wc} {Ew : XK} {H H0 : Hp}
theorem Vals.rep {xs : List V} {its : List Value} (h : Vals xs its) : ∀ k : Nat, Vals (List.replicate k xs).flatten (List.replicate k its).flatten
  | 0 => .nil
  | k + 1 => by
    rw [List.replicate_succ, List.replicate_succ, List.flatten_cons, List.flatten_cons]
    exact h.append (Vals.rep h k)
theorem RpL.rep {K : Frag} {cl : ClsT} {xs : List V} {ds : List D} (h : RpL K cl H xs ds) : ∀ k : Nat, RpL K cl H (List.replicate k xs).flatten (List.replicate k ds).flatten
  | 0 => .nil
  | k + 1 => by
    rw [List.replicate_succ, List.replicate_succ, List.flatten_cons, List.flatten_cons]
    exact h.append (RpL.rep h k)
end
end Dl
end
section
set_option maxHeartbeats 1000000
/-! a comprehension over a dict that is shared -/
namespace Dl
open PySem L2 DlZ DlS DlV
def tLk (te : TE) : TE := fun σ H Q => te σ H fun x H1 => ∃ d u, x = .ref d ∧ ((∃ o, H1 d = some (.frz o u) ∧ Q x H1) ∨ (H1 d = some u ∧ Mut (some u) ∧ ∀ o, Q x (upd H1 d (.frz o u))))
section
variable {X : Cx} {W : Wc} {Ew : XK} {js is vl : List Nat} {ts vs us : List V} {tss ss sus : List Slot} {σ σ' : L2.St} {H H' H0 H0' : Hp} {ρ : DEnv} {v v1 v2 : V} {s s1 s2 : Slot} {e e2 : Expr} {k ka kb kc : Kd} {f fa fb fc fd : EM} {Q Q' : VK} {d d1 d2 : D} {p a : Addr} {tt : Bool} {kvs : List (D × D)}
theorem PE.lk {te : TE} (h : PE X e te) : PE X e (tLk te) := ⟨fun pins s σ H Q I q => thn (h.run pins s σ H _ I q) fun v s1 ⟨x, H1, I1, r1, d, u, ex, q1⟩ => by
  rcases q1 with ⟨o, _, q1⟩ | ⟨hd, mu, q1⟩
  · exact ⟨x, H1, I1, r1, q1⟩
  · obtain ⟨od, I2⟩ := I1.lock hd mu
    exact ⟨x, _, I2, r1, q1 od⟩⟩
noncomputable def eLcS (vl : List Nat) (fd : EM) (t : TgD) (c : DEnv → Out Bool) (f : EM) : EM := fun ρ => (fd ρ).bind fun s ρ1 => match s.shared with
  | none => .no
  | some d => match asDct d with
    | none => .no
    | some (_, kvs) => (noEr (lcGo (fun _ => True) vl t c f (kvs.map (·.1)) (wipeD ρ1 vl))).bind fun ys ρ2 => .ok (.ow (.lst ys)) ρ2
end
end Dl
end
section
set_option maxHeartbeats 1000000
/-! d.get(k) -/
namespace Dl
open PySem L2 DlZ DlS DlV
def eGet1 (kd kk : Kd) (fd fk : EM) : EM := fun ρ => (fd ρ).bind fun s ρ1 => if isDctS (sl kd s ρ1) = true then (fk ρ1).bind fun t ρ2 =>
    ofO ((sl kd s ρ2).d?.bind fun d => (sl kk t ρ2).d?.bind fun k => getR d k (.fz .none)) ρ2 else .no
section
variable {X : Cx} {W : Wc} {Ew : XK} {ts vs us : List V} {tss ss sus : List Slot} {σ σ' : L2.St} {H H' H0 H0' : Hp} {ρ : DEnv} {v v1 v2 : V} {s s1 s2 : Slot} {e e2 o a b : Expr} {k ka kb kc kd kk : Kd} {f fa fb fc fd fk fx : EM} {Q Q' : VK} {d d1 d2 : D} {pos apos cpos : Pos} {p : Addr}
end
end Dl
end
section
set_option maxHeartbeats 1000000
/-! range(i, j, -1) -/
namespace Dl
open PySem L2 DlZ DlS DlV
def iRg3 (f g h : EM) : DEnv → Out IS := fun ρ => (eArgs [(.t, f), (.t, g), (.t, h)] ρ).bind fun ss ρ1 => match ss with
  | [s, t, u] => match s.d?, t.d?, u.d? with
    | some (.int i), some (.int j), some (.int c) => if j ≤ 1000000 ∧ -1000000 ≤ j ∧ i ≤ 1000000 ∧ -1000000 ≤ i ∧ c = -1 then .ok ⟨(List.range (i - j).toNat).map fun (n : Nat) => .int (i - n), fun _ => True⟩ ρ1 else .no
    | _, _, _ => .no
  | _ => .no
section
variable {X : Cx} {W : Wc} {Ew : XK} {ts vs us : List V} {tss ss sus : List Slot} {σ σ' : L2.St} {H H' H0 H0' : Hp} {ρ : DEnv} {v v1 v2 : V} {f g h : EM}
end
end Dl
end
section
set_option maxHeartbeats 1000000
/-! xs.index(x), xs.count(x) of lists (a tuple's methods want to know that it has no __dict__, which the heap's tuples do not tell) -/
namespace Dl
open PySem L2 DlZ DlS DlV
def lixOp : D → D → Option Slot
  | .list ds, x => if lay 60 x && layL 60 ds && small ds.length then (SeqAt.dataPlace ds x).map fun (j : Nat) => .fz (.int j) else none
  | _, _ => none
def lctOp : D → D → Option Slot
  | .list ds, x => if lay 60 x && layL 60 ds && small ds.length then some (.fz (.int (ds.countP fun y => PyData.eqv y x : Nat))) else none
  | _, _ => none
def isLst : D → Bool
  | .list _ => true
  | _ => false
def eL1 (ka kb : Kd) (fa fb : EM) (op : D → D → Option Slot) : EM := fun ρ => (fa ρ).bind fun s ρ1 => if ((sl ka s ρ1).d?.map isLst) = some true then (fb ρ1).bind fun t ρ2 => ofO (g2 op (sl ka s ρ2) (sl kb t ρ2)) ρ2 else .no
section
variable {X : Cx} {W : Wc} {Ew : XK} {ts vs us : List V} {tss ss sus : List Slot} {σ σ' : L2.St} {H H' H0 H0' : Hp} {ρ : DEnv} {v v1 v2 : V} {s s1 s2 : Slot} {e e2 o a b : Expr} {k ka kb kc : Kd} {f fa fb fc : EM} {Q Q' : VK} {d d1 d2 : D} {pos apos : Pos}
def rL (X : Cx) (W : Wc) (op : D → D → Option Slot) : V → List V → Hp → VK → Prop := fun x vs H Q => ∃ y, vs = [y] ∧ rG2 W (g2 op) x y H Q
end
end Dl
end
section
set_option maxHeartbeats 1000000
/-! xs.extend(ys) where ys is shared -/
namespace Dl
open PySem L2 DlZ DlS DlV
def eExtS (i : Nat) (f : EM) : EM := fun ρ => match ownL i ρ with
  | none => .no
  | some _ => (f ρ).bind fun s ρ1 => match s.d? with
    | some (.list es) => match ownL i ρ1 with
      | none => .no
      | some ds => if small (ds.length + es.length) then .ok (.fz .none) (ρ1.set i (.ow (.lst (ds ++ es)))) else .no
    | _ => .no
def rExtR : V → List V → Hp → VK → Prop := fun x vs H Q => ∃ l b xs zs, x = .ref l ∧ vs = [.ref b] ∧ H l = some (.lst xs) ∧ Rd H b (.lst zs) ∧ xs.length + zs.length ≤ sizeLine ∧ Q .non (upd H l (.lst (xs ++ zs)))
section
variable {X : Cx} {W : Wc} {Ew : XK} {ts vs us : List V} {tss ss sus : List Slot} {σ σ' : L2.St} {H H' H0 H0' : Hp} {ρ : DEnv} {v v1 v2 : V} {s s1 s2 : Slot} {e a : Expr} {k : Kd} {f : EM}
end
end Dl
end
section
set_option maxHeartbeats 1000000
/-! min(t), max(t) of a tuple -/
namespace Dl
open PySem L2
def max1TOp : D → Option Slot
  | .tuple (x :: xs) => if layL 60 (x :: xs) && allAlike (x :: xs) && noNone (x :: xs) then some (.fz (PySem.W.maxD x xs)) else none
  | _ => none
def min1TOp : D → Option Slot
  | .tuple (x :: xs) => if layL 60 (x :: xs) && allAlike (x :: xs) && noNone (x :: xs) then some (.fz (PySem.W.minD x xs)) else none
  | _ => none
section
variable {X : Cx} {W : Wc} {pins : List (Addr × Obj)} {σ : L2.St} {H H0 : Hp} {s : Shared} {v : V} {u : Value} {sl : Slot} {a : Addr} {xs : List V} {ds : List D}
end
end Dl
end
section
set_option maxHeartbeats 1000000
/-! sets of tuples of texts and numbers: the search, and adding (over the library's tables of TupSets) -/
namespace DlT
open PySem PySem.Spec PyProof.Rows L2
abbrev TupAt (P : Program) (w : World) (h : Heap) (k : List Key) (a : Addr) : Prop := IsTupleKey (mixKind P w) h k a
abbrev kh (P : Program) (w : World) (k : List Key) : Int := tupleKeyHash (mixKind P w) k
def Leaf (v : Value) : Prop := (∃ i t, v = .int i t) ∨ ∃ x t, v = .str x t
section
variable {P : Program} {w : World} {A : Around} {E : Value → Shared → Prop} {s : Shared}
theorem leaves {k : List Key} {vs : List Value} (h : ItemsAre (mixKind P w) k vs) : ∀ v ∈ vs, Leaf v := by
  induction h with
  | nil => intro v hv; cases hv
  | cons h1 _ ih =>
    intro v hv
    rcases List.mem_cons.mp hv with e | hv
    · rcases keyIs_shape h1 with ⟨i, t, _, e2⟩ | ⟨x, t, _, e2⟩
      · exact .inl ⟨i, t, e.trans e2⟩
      · exact .inr ⟨x, t, e.trans e2⟩
    · exact ih v hv
end
end DlT
end
section
set_option maxHeartbeats 2000000
/-! a set of tuples: the search -/
namespace DlT
open PySem PySem.Spec PyProof.Rows L2
structure TSet (P : Program) (w : World) (h : Heap) (a : Addr) (L : List (Addr × List Key)) (es : Array (Int × Value)) (ep : Nat) (t : SetTable) : Prop where
  at_ : ∃ o, h.get? a = some o ∧ o.ExactSet ∧ o.data = .set es ep t
  rows : es.toList = L.map fun p => (kh P w p.2, Value.ref p.1)
  tab : TabOk t (L.map fun p => kh P w p.2)
  nd : (L.map (·.2)).Nodup
  tup : ∀ p ∈ L, TupAt P w h p.2 p.1
  room : L.length * 5 < t.mask * 3
  led : w.params.followText "set-order" = true ∨ t.led = true
section
variable {P : Program} {w : World} {A : Around} {E : Value → Shared → Prop} {s : Shared} {a : Addr} {L : List (Addr × List Key)} {es : Array (Int × Value)} {ep : Nat} {t : SetTable}
theorem rows_size (h : es.toList = L.map fun p => (kh P w p.2, Value.ref p.1)) : es.size = L.length := by
  have := congrArg List.length h
  simpa using this
theorem TSet.size (R : TSet P w s.heap a L es ep t) : es.size = L.length := rows_size R.rows
theorem fits_of (T : TabOk t (L.map fun p => kh P w p.2)) (hs : es.size = L.length) (hl : L.length ≤ t.mask) : t.fits es.size = true := by
  have h1 := T.sz
  rw [List.length_map] at h1
  unfold SetTable.fits SetTable.fill
  rw [T.dm, Bool.and_eq_true, beq_iff_eq, decide_eq_true_eq]
  show t.place.size = es.size ∧ t.place.size + 0 ≤ t.mask
  omega
theorem TSet.fits (R : TSet P w s.heap a L es ep t) : t.fits es.size = true := fits_of R.tab R.size (by have := R.room; omega)
theorem TSet.entry (R : TSet P w s.heap a L es ep t) {i : Nat} {p : Addr × List Key} (h : L[i]? = some p) : es[i]? = some (kh P w p.2, Value.ref p.1) := by
  rw [← Array.getElem?_toList, R.rows, List.getElem?_map, h]; rfl
theorem TSet.slot (R : TSet P w s.heap a L es ep t) {i j : Nat} (h : t.place.toList[i]? = some j) : ∃ p, L[i]? = some p := by
  have h1 := (List.getElem?_eq_some_iff.mp h).1
  have h2 := R.tab.sz
  rw [List.length_map] at h2
  rw [Array.length_toList] at h1
  exact ⟨_, List.getElem?_eq_getElem (by omega)⟩
abbrev prob (t : SetTable) (h : Int) (c : Nat) : SetTable.Probe := nth t.mask (runAt t.mask (SetTable.bits h % (t.mask + 1)) (SetTable.bits h)) c
end
end DlT
end
section
set_option maxHeartbeats 2000000
/-! a set of tuples: adding one -/
namespace DlT
open PySem PySem.Spec PyProof.Rows L2
section
variable {P : Program} {w : World} {A : Around} {E : Value → Shared → Prop} {s : Shared} {a : Addr} {L : List (Addr × List Key)} {es : Array (Int × Value)} {ep : Nat} {t : SetTable}
theorem TupAt.same {h h' : Heap} {k : List Key} {b : Addr} {o : Obj} (hb : TupAt P w h k b) (ho : h.get? a = some o) (hd : o.data = .set es ep t) (hs : Heap.SameBut a h h') : TupAt P w h' k b := by
  obtain ⟨o', its, n, ho', hc, hd', hi⟩ := hb
  have hne : b ≠ a := fun z => by
    rw [z, ho] at ho'
    rw [← Option.some.inj ho', hd] at hd'
    cases hd'
  exact ⟨o', its, n, (hs.2 b hne).trans ho', hc, hd', hi⟩
theorem TupAt.keep {h h' : Heap} {k : List Key} {b : Addr} (x : TupAt P w h k b) (hk : ∀ c o, h.get? c = some o → h'.get? c = some o) : TupAt P w h' k b := by
  obtain ⟨o, its, n, ho, r⟩ := x
  exact ⟨o, its, n, hk b o ho, r⟩
end
end DlT
end
section
set_option maxHeartbeats 4000000
/-! len(set(xs)) of tuples of texts and numbers, fewer than 64 -/
namespace DlT
open PySem PySem.Spec PyProof.Rows L2
def nub {α : Type} [DecidableEq α] (l : List α) : List α := l.foldl (fun acc k => if k ∈ acc then acc else acc ++ [k]) []
section
variable {P : Program} {w : World} {A : Around} {E : Value → Shared → Prop} {s : Shared}
theorem TSet.keep {h h' : Heap} {a : Addr} {L : List (Addr × List Key)} {es : Array (Int × Value)} {ep : Nat} {t : SetTable} (R : TSet P w h a L es ep t) (ha : ∀ o, h.get? a = some o → h'.get? a = some o) (ht : ∀ p ∈ L, TupAt P w h' p.2 p.1) : TSet P w h' a L es ep t := by
  obtain ⟨o, ho, r⟩ := R.at_
  exact ⟨⟨o, ha o ho, r⟩, R.rows, R.tab, R.nd, ht, R.room, R.led⟩
def Some_ (P : Program) (w : World) (h : Heap) (S : Addr) (ks : List (Addr × List Key)) (i : Nat) : Prop :=
  ∃ L es ep t, TSet P w h S L es ep t ∧ (∀ p ∈ L, p ∈ ks) ∧ (L.map (·.2)).Perm (nub ((ks.take i).map (·.2)))
end
end DlT
end
section
set_option maxHeartbeats 4000000
/-! set(xs) of tuples (the road of SetLen) -/
namespace DlT
open PySem PySem.Spec PyProof.Rows L2
section
variable {P : Program} {w : World} {A : Around} {E : Value → Shared → Prop} {s : Shared}
end
end DlT
end
section
set_option maxHeartbeats 1000000
namespace DlT
open PySem PySem.Spec PyProof.Rows L2 DlZ
def tLenT (K : PySem.W.Frag) (ta : TE) : TE := fun σ H Q => ta σ H fun x H1 => ∃ (T : Bool) (l : Addr) (bs : List (Addr × List Key)), x = .ref l ∧ SqB T K H1 l (bs.map fun p => V.ref p.1) ∧ (∀ p ∈ bs, H1 p.1 = some (.tup (p.2.map kV))) ∧ bs.length < 64 ∧ Q (.int ((nub (bs.map (·.2))).length : Nat)) H1
end DlT
namespace Dl
open PySem L2 DlZ DlS DlT
def tupsD : List D → Option (List (List Key))
  | [] => some []
  | .tuple ds :: r => match flatsD ds with
    | some ks => (tupsD r).map (ks :: ·)
    | none => none
  | _ => none
def lsTOp (d : D) : Option Slot := match seqOf d with
  | some (_, ds) => match tupsD ds with
    | some ks => if decide (ks.length < 64) then some (.fz (.int ((nub ks).length : Nat))) else none
    | none => none
  | none => none
section
variable {X : Cx} {W : Wc} {Ew : XK} {e a : Expr} {k : Kd} {f : EM}
theorem RpL.tups {K : Frag} {cl : ClsT} {H : Hp} : ∀ {ds : List D} {ks : List (List Key)} {xs : List V}, tupsD ds = some ks → RpL K cl H xs ds → ∃ bs : List (Addr × List Key), xs = (bs.map fun p => V.ref p.1) ∧ bs.map (·.2) = ks ∧ ∀ p ∈ bs, H p.1 = some (.tup (p.2.map kV))
  | [], _, _, h, r => by cases h; cases r; exact ⟨[], rfl, rfl, by simp⟩
  | d :: ds, _, _, h, r => by
    unfold tupsD at h
    split at h
    · rename_i heq; cases heq
    · rename_i es r' heq
      cases heq
      split at h
      · rename_i ks hks
        obtain ⟨kss, hk2, rfl⟩ := Option.map_eq_some_iff.mp h
        cases r with
        | cons r1 r2 =>
          obtain ⟨bs, rfl, e2, e3⟩ := RpL.tups hk2 r2
          cases r1 with
          | @tup c ys _ e q =>
            have := RpL.ofFlats hks q
            subst this
            refine ⟨(c, ks) :: bs, rfl, by simp [e2], fun p hp => ?_⟩
            rcases List.mem_cons.mp hp with rfl | hp
            · exact e
            · exact e3 p hp
      · cases h
    · cases h
end
end Dl
end
section
set_option maxHeartbeats 1000000
/-! __init__: behind the fields that are made, self is as the self of a method -/
namespace Dl
open PySem L2 DlZ DlS DlV
def sReb (i : Nat) (g : Str) (b : SM) : SM := fun ρ => match clsS (ρ.getD i .no) with
  | none => .no
  | some _ => if hasF g (ρ.getD i .no) then b ρ else .no
section
variable {X : Cx} {Ew : XK} {K : Frag} {cl : ClsT} {kp : List Nat} {G : Gm} {body : List Stmt} {b : SM}
end
end Dl
end
section
set_option maxHeartbeats 1000000
/-! (*x, y, ..): a tuple display with starred tuples -/
namespace Dl
open PySem L2 DlZ DlS DlV
def eSt : List (Bool × EM) → DEnv → Out (List Slot)
  | [], ρ => .ok [] ρ
  | (false, f) :: r, ρ => (f ρ).bind fun s ρ1 => (eSt r ρ1).bind fun ss ρ2 => .ok (s :: ss) ρ2
  | (true, f) :: r, ρ => (f ρ).bind fun s ρ1 => match s with
    | .fz (.tuple ds) => (eSt r ρ1).bind fun ss ρ2 => .ok (ds.map Slot.fz ++ ss) ρ2
    | _ => .no
def eStT (r : List (Bool × EM)) : EM := fun ρ => (eSt r ρ).bind fun ss ρ1 => ofO (tupG ss) ρ1
section
variable {X : Cx} {W : Wc} {Ew : XK} {es : List Expr} {e : Expr} {f : EM} {r : List (Bool × EM)} {p pos : Pos}
def FinSt (W : Wc) (Ew : XK) (ts : List V) (tss : List Slot) (σ : L2.St) (Q : List V → Hp → Prop) : Out (List Slot) → Prop
  | .ok ss ρ => ∀ vs H, vs.length = ss.length → World W (vs ++ ts) (ss ++ tss) σ H ρ → Q vs H
  | .er c d ρ => ErrTo W Ew c d ρ
  | .no => False
def tSt (W : Wc) (Ew : XK) (r : List (Bool × EM)) : TA := fun σ H Q => ∃ ts tss ρ, World W ts tss σ H ρ ∧ FinSt W Ew ts tss σ Q (eSt r ρ)
end
end Dl
end
section
set_option maxHeartbeats 2000000
/-! d.update(e): dicts with tuples as keys, d not empty -/
namespace DlZ
open PySem PySem.Spec PyProof.Rows L2
def putOn (l m : List (List Key × V)) : List (List Key × V) := m.foldl (fun acc e => putK acc e.1 e.2) l
def rUpdT : V → List V → Hp → VK → Prop := fun x xs H Q => ∃ (a b : Addr) (l m : List (List Key × V)), x = .ref a ∧ xs = [.ref b] ∧ a ≠ b ∧ H a = some (.dT l) ∧ l ≠ [] ∧ Rd H b (.dT m) ∧ l.length + m.length ≤ sizeLine ∧ Q .non (upd H a (.dT (putOn l m)))
section
variable {X : Cx}
end
end DlZ
namespace Dl
open PySem L2 DlZ DlS DlV
def ownT (i : Nat) (ρ : DEnv) : Option (List (D × D)) := match ρ.getD i .no with
  | .ow (.dct true kvs) => some kvs
  | _ => none
def dPutOn (l m : List (D × D)) : List (D × D) := m.foldl (fun acc e => dPut acc e.1 e.2) l
def eUpd (i : Nat) (f : EM) : EM := fun ρ => match ownT i ρ with
  | none => .no
  | some _ => (f ρ).bind fun s ρ1 => match s.shared with
    | none => .no
    | some d => match asDct d with
      | some (true, more) => match ownT i ρ1 with
        | none => .no
        | some kvs => if decide (kvs ≠ []) && small kvs.length && small more.length then .ok (.fz .none) (ρ1.set i (.ow (.dct true (dPutOn kvs more)))) else .no
      | _ => .no
section
variable {X : Cx} {W : Wc} {Ew : XK} {ts vs us : List V} {tss ss sus : List Slot} {σ σ' : L2.St} {H H' H0 H0' : Hp} {ρ : DEnv} {v v1 v2 : V} {s s1 s2 : Slot} {e e2 o : Expr} {f fa fb : EM} {Q Q' : VK} {d d1 d2 : D} {c : Cont} {pos apos cpos : Pos} {p : Addr}
end
end Dl
end
section
set_option maxHeartbeats 2000000
/-! f(z = .., y = .., x = ..): all by name, from the last one to the first one -/
namespace Dl
open PySem L2 DlZ DlS DlV
open PyProof.Rows (envOfC)
section
variable {X : Cx} {CX : CXT} {k : Nat} {f : Addr} {fd : FuncData} {ps : List Str} {sp : Sp} {E : XK} {x : Str} {p pos : Pos} {kws : List Keyword} {tk : TA}
end
section
variable {X : Cx} {W : Wc} {Ew : XK} {ts vs us : List V} {tss ss sus : List Slot} {σ : L2.St} {H : Hp} {ρ : DEnv} {e : Expr} {r : List (Kd × EM)} {pn pos : Pos} {kws : List Keyword}
theorem World.rev : ∀ {vs : List V} {ss : List Slot} {ts : List V} {tss : List Slot}, vs.length = ss.length → World W (vs ++ ts) (ss ++ tss) σ H ρ → World W (vs.reverse ++ ts) (ss.reverse ++ tss) σ H ρ
  | [], [], _, _, _, w => w
  | v :: vs, s :: ss, ts, tss, hl, w => by
    have w2 : World W (vs ++ v :: ts) (ss ++ s :: tss) σ H ρ := World.back (vs := vs) (ss := ss) w (by simpa using hl)
    have := World.rev (by simpa using hl) w2
    simpa using this
theorem KdsOk.rev : ∀ {ks : List Kd} {vs : List V}, KdsOk W σ ks vs → KdsOk W σ ks.reverse vs.reverse
  | _, _, .nil => .nil
  | _, _, .cons a b => by
    rw [List.reverse_cons, List.reverse_cons]
    exact KdsOk.append (KdsOk.rev b) (.cons a .nil)
def eCallR (r : List (Kd × EM)) (F : List Slot → FOut) : EM := fun ρ => (eArgs r ρ).bind fun ss ρ1 => match F (lend (r.map (·.1)).reverse ss.reverse ρ1).1 with
  | .ok s ss' => .ok s (unlend (r.map (·.1)).reverse ss' (lend (r.map (·.1)).reverse ss.reverse ρ1).2)
  | .er c d ss' => .er c d (unlend (r.map (·.1)).reverse ss' (lend (r.map (·.1)).reverse ss.reverse ρ1).2)
  | .no => .no
structure CldR (P : Program) (w : PySem.World) (K : Frag) (mg : Str → Option Value) (base : Heap) (cl : ClsT) (k : Nat) (x : Str) (ps : List Str) (F : List Slot → FOut) : Prop where
  ex : ∃ (f : Addr) (fd : FuncData), FnOkG P w K mg base (L2.CX P w) k f fd ps (spF K cl ps.length F) ∧ mg x = some (.ref f) ∧ PySem.W.keepIn K (.ref f) = true ∧
    ∀ (s : Shared) (ws : List Value), ws.length = ps.length → BindsTo s fd ⟨[], ps.reverse.zip ws⟩ (ps.zip ws.reverse)
end
end Dl
end
section
/-! all of the layer -/
end
section
set_option maxHeartbeats 1000000
/-! an exception class of the program's own, over ValueError, whose __init__ says super().__init__(value); self.value = value -/
namespace Dl
open PySem PySem.Spec PyProof.Rows L2
open PySem.W (Looks)
structure ErrI (P : PySem.Program) (K : Frag) (mg : Str → Option Value) (D fI : Addr) (q : Str) (st : Stmt) : Prop where
  fn : ∃ oc od kV doc pm an cda ct cc osl, K.lookup fI = some ⟨oc, od, .func (PySem.W.fnX "__init__" q (defArgs st) (defBody st) (defScope st) [("__class__", cc)] .none kV doc pm an (.ref cda) ct), osl⟩ ∧ PySem.W.codeIn K (.ref cda) q = true ∧
    (∃ ccl cdd vs ccs file tf, K.lookup cda = some ⟨ccl, cdd, .fields vs, ccs⟩ ∧ vs[2]? = some (.str file tf) ∧ ((P.main.file : Str) == file) = true) ∧ ∃ cl cld csl, K.lookup cc = some ⟨cl, cld, .cell (some (.ref D)), csl⟩
  ty : PySem.W.typeIn K (.ref fI) = some (.type "function")
  any : PySem.W.nsIn K PySem.cStatics "thirdparty.any" = some none
  top : (P.main.scope.names.lookup ("super" : Str)).isSome = false
  mgS : mg "super" = none
  cD : ∃ cd, PySem.W.clsIn K D = some cd
structure ErrC (K : Frag) (D fI C : Addr) : Prop where
  ox : OexC K C
  ini : PySem.W.findIn K (.ref C) "__init__" = some (some (.ref fI))
  sup : PySem.W.ks_superIn K C D "__init__" = some (some (.builtin "ValueError.__init__"))
  ve : PySem.W.subIn K (.ref C) (.type "ValueError") = some true
  sub : PySem.W.mroIn K C (.ref D) = some true
  val : PySem.W.findIn K (.ref C) "value" = some none
structure ErrT (st : Stmt) : Prop where
  body : ∃ p0 p1 p2 p3 p4 p5 p6 p7 p8 p9, defBody st = [.Expr (.Call (.Attribute (.Call (.Name "super" p0) [] [] p1) "__init__" p2) [.Name "value" p3] [] p4) p5, .Assign [.Attribute (.Name "self" p6) "value" p7] (.Name "value" p8) p9] ∧ ∀ env : Env, ∃ pl : Sem Bool, eval (.Call (.Attribute (.Call (.Name "super" p0) [] [] p1) "__init__" p2) [.Name "value" p3] [] p4) env = (do
      let ov ← attributeBase (.Call (.Name "super" p0) [] [] p1) "__init__" env (eval (.Call (.Name "super" p0) [] [] p1) env)
      standAt p2.atName
      let (f, first) ← holding [ov] (getMethod ov "__init__" pl)
      callWith p4 f first (backTo p4 (starEach [.Name "value" p3] env)) [])
  par : ∃ ar, ((defArgs st).posonlyargs ++ (defArgs st).args).head? = some ar ∧ ar.arg = "self"
  bnd : ∀ (q : Str) (cl : List (Str × Addr)) (kV doc pm : Value) (an : Option Addr) (cdv ct a b : Value), bindArgs (PySem.W.fnX "__init__" q (defArgs st) (defBody st) (defScope st) cl .none kV doc pm an cdv ct) ⟨[a, b], []⟩ = pure [(("self" : Str), a), (("value" : Str), b)]
  kind : (defScope st).kind = .function
  co : (defScope st).isCoroutine = false
  gen : (defScope st).isGenerator = false
  cell : ∀ x ∈ (defScope st).names, x.2 ≠ .cell
  sup : (defScope st).names.lookup ("super" : Str) = some .globalImplicit
  cls : (defScope st).names.lookup ("__class__" : Str) = some .free
  self : (defScope st).names.lookup ("self" : Str) = some .local
  val : (defScope st).names.lookup ("value" : Str) = some .local
abbrev excD1 (C t dx : Addr) : Obj := { cls := .ref C, dict := some dx, data := .fields #[.ref t, .none, .none, .none, .bool false, .none] }
section
variable {P : PySem.Program} {w : PySem.World} {K : Frag} {mg mb : Str → Option Value} {D fI C : Addr} {q : Str} {st : Stmt} {A : Around} {R : Result → Shared → Prop} {h : Heap} {g : Array GenState} {d : Drawn} {t : Nat} {os : OsState}
theorem err_run (I : ErrI P K mg D fI q st) (T : ErrT st) (EC : ErrC K D fI C) (hroom : A.depth < recursionLimit) (X : K.In h) (hg : h.Ns mainGlobals mg) (hb : h.Ns builtinsNs mb) (hbb : ∀ x : Str, x ≠ "__name__" → mb x = bootBuiltins x) (hlim : h.NoLimit)
    {e t0 : Addr} {v : Value} (hK : K.lookup e = none) (he : h.get? e = some (PySem.HandSPX.excO C t0))
    (hq : ∀ h' tk dx t1, (∀ b o, b ≠ e → h.get? b = some o → h'.get? b = some o) → h.objs.size ≤ dx → h'.get? e = some (excD1 C t1 dx) → h'.Ns1 dx (fun y => if y = ("value" : Str) then some v else none) → R (.ok (.ret .none)) ⟨h', g, d, tk, os⟩) :
    codeAny (model P w) A (.call (.ref fI) ⟨[.ref e, v], []⟩) R ⟨h, g, d, t, os⟩ := by
  obtain ⟨oc, od, kV, doc, pm, an, cda, ct, cc, osl, lk, hcd, ⟨ccl, cdd, vs, ccs, file, tf, lkc, hvs, hfile⟩, cl, cld, csl, lkcell⟩ := I.fn
  obtain ⟨p0, p1, p2, p3, p4, p5, p6, p7, p8, p9, hbody, hcall⟩ := T.body
  obtain ⟨ar, hpar, har⟩ := T.par
  obtain ⟨cdD, hD⟩ := I.cD
  obtain ⟨nm, qn, N, bs, bm, sn, sub, ab, col, dd, k0, k1, k2, k3, k5, hC, hbm⟩ := EC.ox.cls
  have hcl : PySem.W.clsIn K C = some { name := nm, bases := bs, mro := .ref C :: bm, ns := N, qualname := qn, hasDict := true, slotNames := sn, subclasses := sub, abstract := ab, collection := col, hasDel := false } := by unfold PySem.W.clsIn; rw [hC] <;> rfl
  obtain ⟨oD, hD1, hD2⟩ : ∃ oD, K.lookup D = some oD ∧ oD.data = .cls cdD := by
    unfold PySem.W.clsIn at hD
    split at hD
    · rename_i c d cd' sl ho
      cases hD
      exact ⟨_, ho, rfl⟩
    · cases hD
  refine ks_codeAny_call_defAt (fd := PySem.W.fnX "__init__" q (defArgs st) (defBody st) (defScope st) [("__class__", cc)] .none kV doc pm an (.ref cda) ct) (body := defBody st) (binds := [("self", .ref e), ("value", v)]) hroom (X _ _ lk) rfl hlim (PySem.W.codeRec_of X hcd) rfl (.of_eq (T.bnd _ _ _ _ _ _ _ _ _ _)) T.cell (fun x hx => ?_) (fun h1 hns hk1 => ?_) T.co T.gen T.kind
  · simp only [List.mem_cons, List.not_mem_nil, or_false] at hx
    rcases hx with rfl | rfl
    · exact T.self
    · exact T.val
  have L0 : ∀ b o, h.get? b = some o → b ≠ h.objs.size := fun b o z => Nat.ne_of_lt (Heap.lt_size z)
  have X1 : K.In h1 := X.keeps hk1
  have I0 : PySem.W.InstAt h1 e (PySem.HandSPX.excO C t0) C none := ⟨hk1 _ _ he, rfl, rfl, trivial⟩
  show PySem.wpAt (model P w) _ _ (execs (defBody st) (PySem.W.ksEnv q (defScope st) h.objs.size fI (.ref cda) cc)) _ _ _
  rw [hbody]
  have hNs : ∀ {h2 : Heap}, (∀ b o, h1.get? b = some o → h2.get? b = some o) → h2.Ns h.objs.size (fun x => [(("self" : Str), Value.ref e), ("value", v)].reverse.lookup x) := fun {h2} k => by
    obtain ⟨oL, es, ep, hL, r⟩ := hns
    exact ⟨oL, es, ep, k _ _ hL, r⟩
  obtain ⟨pl, hcall⟩ := hcall (PySem.W.ksEnv q (defScope st) h.objs.size fI (.ref cda) cc)
  refine ks_wpAt_execs_cons (ks_wpAt_Expr_any (ks_wpAt_MethodCall ?_ hcall) ?i1)
  case i1 => show ((defScope st).kind == .module && _) = false; rw [T.kind]; rfl
  refine ks_wpAt_super_base (env := PySem.W.ksEnv q (defScope st) h.objs.size fI (.ref cda) cc) T.sup T.cls rfl rfl (X1 _ _ lk) rfl hpar rfl (X1 _ _ lkc) rfl hvs hfile I.top ?_
  refine PySem.W.ks_loadName_global T.kind T.sup (PySem.Calls.loadGlobal_builtin (env := PySem.W.ksEnv q (defScope st) h.objs.size fI (.ref cda) cc) (hg.keeps hk1) I.mgS (hb.keeps hk1) ((hbb _ (by decide +kernel)).trans PyProof.Rows.Boot.«super») ⟨rfl, ?_⟩)
  refine wpAny_loadName_free T.kind T.cls rfl ⟨_, X1 _ _ lkcell, rfl⟩ ?_
  rw [har]
  refine wpAny_loadName_local T.kind T.self hns rfl ?_
  refine ks_wpAny_isType_cls (X1 _ _ hD1) hD2 ⟨rfl, ?_⟩
  refine ks_wpAny_call_super (X1 _ _ hD1) hD2 I0.at_ rfl (fun c z => by cases z) (PySem.W.looks_mroIn X1 EC.sub) (fun h2 hso hk2 => ?_)
  have X2 : K.In h2 := X1.keeps hk2
  have I2 : PySem.W.InstAt h2 e (PySem.HandSPX.excO C t0) C none := ⟨hk2 _ _ I0.at_, rfl, rfl, trivial⟩
  have hI : Looks (model P w) h2 (isInstance (.ref e) (.type "ValueError")) true := I2.type.andThen (PySem.W.looks_subIn X2 EC.ve)
  have hm := EC.sup
  unfold PySem.W.ks_superIn at hm
  rw [hcl, Option.bind_some] at hm
  refine PySem.W.kxs_getMethod PySem.W.kxs_ValueError hso (PySem.W.looks_opaque X2 I.any) (l₀ := .ref C :: bm) (fun A Q E s k q => wpAny_bind ((PySem.W.looks_clsIn X2 hcl) A _ E s k (wpAny_pure q))) rfl X2 hm hI (PySem.W.ks_ne X2 I2 hcl) rfl ?_
  have k3 : ∀ b o, h1.get? b = some o → (h2.push (PySem.W.kxs_mw "ValueError.__init__" e)).get? b = some o := fun b o z => Heap.get?_push_of_some _ (hk2 b o z)
  have hu : (h2.push (PySem.W.kxs_mw "ValueError.__init__" e)).get? h2.objs.size = some (PySem.W.kxs_mw "ValueError.__init__" e) := Heap.get?_push_size _ rfl
  generalize (h2.push (PySem.W.kxs_mw "ValueError.__init__" e)) = h3 at k3 hu ⊢
  generalize h2.objs.size = u at hu ⊢
  refine PySem.W.kxs_callWith (i := "ValueError.__init__") (x := e) (by rfl) ?_
  show wpAny _ _ (evalArgs (.ref u) true ((false, eval (.Name "value" p3) (PySem.W.ksEnv q (defScope st) h.objs.size fI (.ref cda) cc)) :: _) []) _ _ _
  refine PySem.Calls.evalArgs_plain (Calls.spliced_cons (PySem.ESX.ldL (hNs k3) rfl ?_ T.kind T.val) )
  refine Calls.spliced_nil ⟨hu, ?_⟩
  show wpAny _ _ (call (.ref u) [v]) _ _ _
  have X3 : K.In h3 := X1.keeps k3
  have he3 : h3.get? e = some (PySem.HandSPX.excO C t0) := k3 _ _ I0.at_
  have FB := PySem.F.excBase_ValueError
  refine wpAny_call (codeAny_of_tree ?_)
  show wpAny _ _ (callAny (.ref u) ⟨[v], []⟩) _ _ _
  simp only [callAny]
  refine wpAny_bind (wpAny_load hu ?_)
  simp only [PySem.W.kxs_mw, show (Value.type "method-wrapper" == Value.type "method" || Value.type "method-wrapper" == Value.type "builtin_function_or_method" || Value.type "method-wrapper" == Value.type "method-wrapper") = true by decide, if_true]
  refine PySem.W.KFB.if_so (by decide) ?_
  refine wpAny_bind (PySem.W.check_bound_init FB.toExcCallFacts (X3 _ _ hC) he3 rfl ?_)
  refine wpAny_bind (wpAny_pure (wpAny_pure ?_))
  refine ⟨plainId_quiet FB.init.plain _, codeAny_builtin FB.initEntry ?_⟩
  refine PySem.W.exc_init_tree (cls := .ref C) (t0 := t0) (dv := none) (c2 := .none) (c3 := .none) (b4 := .bool false) he3 (by show 1 ≤ sizeLine; rw [sizeLine_eq]; omega) fun h4 k4 he4 _ => ?_
  have k5 : ∀ b o, b ≠ e → h1.get? b = some o → h4.get? b = some o := fun b o hb z => k4 b o hb (k3 b o z)
  have X4 : K.In h4 := fun b o z => k5 b o (fun y => by rw [y, hK] at z; cases z) (X1 _ _ z)
  have hns4 : h4.Ns h.objs.size (fun x => [(("self" : Str), Value.ref e), ("value", v)].reverse.lookup x) := by
    obtain ⟨oL, es, ep, hL, r⟩ := hns
    exact ⟨oL, es, ep, k5 _ _ (Nat.ne_of_gt (Heap.lt_size he)) hL, r⟩
  refine ks_wpAt_execs_cons (ks_wpAt_Assign_Attr (wpAt_of_wpAny (PySem.ESX.ldL hns4 rfl (PySem.ESX.ldL hns4 rfl ?_ T.kind T.self) T.kind T.val)))
  refine PySem.W.set_plain X4 (ox := PySem.HandSPX.excO C h3.objs.size) (od := none) ⟨he4, rfl, rfl, trivial⟩ EC.ox.sa ?_
  refine PySem.HandSPX.exc_osa X4 he4 hcl (show PySem.HandSPX.refsVE (.ref C :: bm) = true from hbm) rfl EC.val (fun h' tk' dx k dn dne hx hn => ?_)
  show PySem.wpAt _ _ _ (execs [] _) _ _ _
  refine wpAt_of_wpAny (wpAny_execs_nil ?_)
  refine hq h' _ dx _ (fun b o hb z => k b o hb (k5 b o hb (hk1 b o z))) ?_ hx hn
  refine Nat.le_trans (Nat.le_of_lt ?_) dn
  obtain ⟨oL, es, ep, hL, r⟩ := hns4
  exact Heap.lt_size hL
end
end Dl
end
section
set_option maxHeartbeats 1000000
/-! C(e) of such a class: as a value, and raised -/
namespace Dl
open PySem PySem.Spec PyProof.Rows L2
open PySem.W (Looks)
theorem exA_ok {P : PySem.Program} {w : PySem.World} {H : Hp} {h : Heap} {a C dx t : Addr} (e : h.get? a = some (excD1 C t dx)) : ObjOk P w H h a (exA a C dx) :=
  ⟨⟨_, _, e, rfl, rfl, rfl⟩, ⟨_, e⟩, fun h1 h2 ⟨o, vs, q, r⟩ k => ⟨o, vs, k o q, r⟩⟩
theorem xd_ok {P : PySem.Program} {w : PySem.World} {H : Hp} {h : Heap} {dx : Addr} {v : V} {u : Value} (hn : h.Ns1 dx (fun y => if y = ("value" : Str) then some u else none)) (r : RelV v u) : ObjOk P w H h dx (.xd [("value", v)]) :=
  ⟨_, hn, relO_put (fs := []) r fun g => True.intro⟩
section
variable {X : Cx} {pins : List (Addr × Obj)} {σ : L2.St} {H : Hp} {D fI C : Addr} {q : Str} {st : Stmt} {A : Around} {u : Value} {v : V}
theorem err_call {s : Shared} {k : Nat} {Q : Value → Shared → Prop} (EI : ErrI X.prog X.K X.mg D fI q st) (T : ErrT st) (EC : ErrC X.K D fI C) (hr : Room (k + 1) X.A) (I : Inv X pins σ H s) (r : RelV v u)
    (h : ∀ (h' : Heap) (tk dx t1 a : Addr), (∀ b o, s.heap.get? b = some o → h'.get? b = some o) → s.heap.objs.size ≤ a → s.heap.objs.size ≤ dx → dx ≠ a → h'.get? a = some (excD1 C t1 dx) → h'.Ns1 dx (fun y => if y = ("value" : Str) then some u else none) →
      Q (.ref a) { s with heap := h', toks := tk }) : wpAny (model X.prog X.w) X.A (call (.ref C) [u]) Q X.xe s := by
  obtain ⟨nm, qn, N, bs, bm, sn, sub, ab, col, dd, k0, k1, k2, k3, k5, hC, hbm⟩ := EC.ox.cls
  have hG := I.mod.glob.keeps I.bk
  have hlim := I.nolimit
  obtain ⟨mb, hb, hbb⟩ := I.mod.blt
  have hB := hb.keeps I.bk
  have KI := I.kIn
  obtain ⟨hp, g, d, t, os⟩ := s
  have kk : ∀ b o, hp.get? b = some o → ((hp.push (PySem.W.kdv_tup [u])).push (PySem.HandSPX.excO C hp.objs.size)).get? b = some o := fun b o e => Heap.get?_push_of_some _ (Heap.get?_push_of_some _ e)
  have hget : ((hp.push (PySem.W.kdv_tup [u])).push (PySem.HandSPX.excO C hp.objs.size)).get? (hp.objs.size + 1) = some (PySem.HandSPX.excO C hp.objs.size) := by heap_get
  have hK : X.K.lookup (hp.objs.size + 1) = none := by
    cases z : X.K.lookup (hp.objs.size + 1) with
    | none => rfl
    | some o => exact absurd (Heap.lt_size (KI _ _ z)) (by simp)
  have hsz : ((hp.push (PySem.W.kdv_tup [u])).push (PySem.HandSPX.excO C hp.objs.size)).objs.size = hp.objs.size + 2 := by rw [Heap.size_push, Heap.size_push]
  refine wpAny_call (PySem.HandSPX.call_own PySem.F.excBase_ValueError (fun Y => PySem.HandSPX.refsVE_contains Y bm hbm) (KI _ _ hC) (PySem.W.looks_findIn KI EC.ini) (fun self => PySem.W.bind_fn KI self EI.ty) (by show 1 ≤ sizeLine; rw [sizeLine_eq]; omega)
    (err_run EI T EC (hr.make C [u] []).depth (KI.keeps kk) (hG.keeps kk) (hB.keeps kk) hbb (hlim.keeps kk) hK hget fun h' tk dx t1 k1 l1 he hn => ?_))
  have na : ∀ {b : Addr} {o : Obj}, hp.get? b = some o → b ≠ hp.objs.size + 1 := fun {b o} z => Nat.ne_of_lt (Nat.lt_succ_of_lt (Heap.lt_size z))
  rw [hsz] at l1
  exact ⟨rfl, h h' tk dx t1 (hp.objs.size + 1) (fun b o z => k1 b o (na z) (kk b o z)) (Nat.le_succ _) (show hp.objs.size ≤ dx by omega) (fun z => by have z' : dx = hp.objs.size + 1 := z; omega) he hn⟩
theorem err_laid {s : Shared} {h' : Heap} {tk dx t1 a : Nat} (I : Inv X pins σ H s) (r : RelV v u) (k : ∀ b o, s.heap.get? b = some o → h'.get? b = some o) (l1 : s.heap.objs.size ≤ a) (l2 : s.heap.objs.size ≤ dx) (ne : dx ≠ a) (he : h'.get? a = some (excD1 C t1 dx)) (hn : h'.Ns1 dx (fun y => if y = ("value" : Str) then some u else none)) :
    H a = none ∧ H dx = none ∧ Inv X pins σ (upd (upd H dx (.xd [("value", v)])) a (exA a C dx)) { s with heap := h', toks := tk } := by
  have n1 := I.hok.fresh l1
  have n2 := I.hok.fresh l2
  have o1 : ∀ {b : Addr} {o : Obj}, s.heap.get? b = some o → b ≠ a := fun {b o} z => Nat.ne_of_lt (Nat.lt_of_lt_of_le (Heap.lt_size z) l1)
  have o2 : ∀ {b : Addr} {o : Obj}, s.heap.get? b = some o → b ≠ dx := fun {b o} z => Nat.ne_of_lt (Nat.lt_of_lt_of_le (Heap.lt_size z) l2)
  have at_ : ∀ {b : Addr} {o : HO}, H b = some o → upd (upd H dx (.xd [("value", v)])) a (exA a C dx) b = some o := fun {b o} z => by rw [upd_ne (ne_of_none z n1), upd_ne (ne_of_none z n2)]; exact z
  refine ⟨n1, n2, I.un ⟨fun b o z _ _ _ => k b o z, fun b o z _ _ _ => ⟨o.slots, k b o z⟩, fun b o z n _ => by rw [upd_ne (o1 z), upd_ne (o2 z)]; exact n, fun b o z _ => ⟨o, k b o z⟩, fun b xs z => at_ z, fun b o u z => at_ z, fun b ps z => ⟨#[], by rw [at_ z]; simp⟩⟩ fun b o z => ?_⟩
  by_cases hb : b = a
  · subst hb
    rw [upd_same] at z
    cases z
    exact exA_ok he
  · rw [upd_ne hb] at z
    by_cases hd : b = dx
    · subst hd
      rw [upd_same] at z
      cases z
      exact xd_ok hn r
    · rw [upd_ne hd] at z
      exact (I.hok b o z).stay (fun c w _ q => k c w q) (fun c q => at_ q) fun c xs q => at_ q
theorem pe_excV {k : Nat} {x : Str} {e : Expr} {te : TE} {p pos : Pos} (EI : ErrI X.prog X.K X.mg D fI q st) (T : ErrT st) (EC : ErrC X.K D fI C) (hr : Room (k + 1) X.A) (hg : Gl X x) (hm : X.mg x = some (.ref C)) (he : PE X e te)
    (hs : starEach [e] X.env = (false, eval e X.env) :: starEach [] X.env := by rfl) (hdb : (x == ("__debug__" : Str)) = false := by decide) :
    PE X (.Call (.Name x p) [e] [] pos) (fun σ H Q => te σ H fun v H1 => ∀ a dx, H1 a = none → H1 dx = none → dx ≠ a → Q (.ref a) (upd (upd H1 dx (.xd [("value", v)])) a (exA a C dx))) := by
  refine ⟨fun pins s σ H Q I h => ?_⟩
  refine wpAny_Call_Name_kw (ld_glob I hg hm ?_ hdb)
  refine PySem.W.callWith_K (h₀ := X.base) I.ok.mod.kin EC.ox.kC ?_ hs (by rfl)
  rw [hs]
  show wpAny _ _ (spliced ((false, eval e X.env) :: backTo pos (starEach [] X.env))) _ _ s
  refine Calls.spliced_cons (thn (he.run pins s σ H _ I h) fun u s1 ⟨v, H1, I1, r1, q1⟩ => ?_)
  refine Calls.spliced_nil ⟨I1.kIn, ?_⟩
  refine err_call EI T EC hr I1 r1 fun h' tk dx t1 a k1 l1 l2 ne he hn => ?_
  obtain ⟨n1, n2, J⟩ := err_laid (tk := tk) I1 r1 k1 l1 l2 ne he hn
  exact ⟨.ref a, _, J, rfl, q1 a dx n1 n2 ne⟩
end
end Dl
end
section
set_option maxHeartbeats 1000000
/-! exceptions over data: C(e) as a value, raise C(e), isinstance(x, C), x.value -/
namespace Dl
open PySem PySem.Spec PyProof.Rows L2 DlV
def exAll : List Str := (["DigError", "BadBand", "BadCores", "BadDeed", "BadDig", "BadDigs", "BadFace", "BadJournal", "BadLabs", "BadLetters"] : List Str) ++ (["BadLikes", "BadLine", "BadLot", "BadLots", "BadNotes", "BadNumber", "BadPair", "BadQuestion", "BadRow", "BadRows"] : List Str) ++ (["BadStructures", "BadUnit", "BadYears", "Clash", "Full", "Growing", "Known", "Late", "NoBook", "NoDig"] : List Str) ++ (["NoLike", "NoNote", "NoTrial", "NotSure", "NothingToRedo", "NothingToUndo", "TooMany", "Turning", "Unlike", "Unsure"] : List Str)
structure ExcH (P : PySem.Program) (K : Frag) (cl : ClsT) (mg : Str → Option Value) (root : Str) (q : Str) (st : Stmt) (cs : List Str) : Prop where
  ex : ∃ D fI, cl root = some D ∧ root ∈ cs ∧ ErrI P K mg D fI q st ∧ ErrT st ∧ (∀ c ∈ cs, ∃ C, cl c = some C ∧ mg c = some (.ref C) ∧ ErrC K D fI C ∧ ExcC K C ∧ ∃ cd, PySem.W.clsIn K C = some cd ∧ cd.mro = .ref C :: ((if c = root then [] else [Value.ref D]) ++ PySem.HandSPX.veTail)) ∧
    (∀ c ∈ cs, ∀ c' ∈ cs, cl c = cl c' → c = c') ∧ (∀ c ∈ cs, ∀ C, cl c = some C → ∀ t ∈ ownTys, PySem.W.kitOne K (.type t) (.ref C) = some false) ∧ PySem.W.kitMeta "ValueError" = true ∧ (∀ t ∈ ownTys, PySem.W.kitOne K (.type t) (.type "ValueError") = some false) ∧ ∀ c ∈ exAll, ∀ C, cl c = some C → c ∈ cs
def excO (d : D) : Option (Str × D) := match d with
  | .dict [(.none, .tuple [.str c, d])] => some (c, d)
  | _ => none
@[simp] theorem excO_exc (c : Str) (d : D) : excO (excD c d) = some (c, d) := rfl
theorem excO_inv {d d' : D} {c : Str} (h : excO d = some (c, d')) : d = excD c d' := by
  unfold excO at h
  split at h
  · cases h; rfl
  · cases h
section
variable {X : Cx} {W : Wc} {Ew : XK} {ts vs us : List V} {tss ss sus : List Slot} {σ σ' : L2.St} {H H' H0 H0' : Hp} {ρ : DEnv} {v v1 v2 : V} {s s1 s2 : Slot} {e e2 o a b : Expr} {k ka kb kc : Kd} {f fa fb fc : EM} {Q Q' : VK} {d d1 d2 : D} {p pos apos : Pos} {kl : Nat} {c root q : Str} {st : Stmt} {cs : List Str}
theorem Rp.excInv {K : Frag} {cl : ClsT} (h : Rp K cl H v (excD c d)) : ∃ a C dx u, v = .ref a ∧ cl c = some C ∧ H a = some (exA a C dx) ∧ H dx = some (.xd [("value", u)]) ∧ Rp K cl H u d := by
  generalize hd : excD c d = d' at h
  cases h with
  | exc h1 h2 h3 h4 =>
    unfold excD at hd
    simp only [PyData.dict.injEq, List.cons.injEq, Prod.mk.injEq, PyData.tuple.injEq, PyData.str.injEq, and_true, true_and] at hd
    obtain ⟨rfl, rfl⟩ := hd
    exact ⟨_, _, _, _, rfl, h1, h2, h3, h4⟩
  | dk h1 h2 h3 =>
    rename_i a l kvs
    unfold excD dctD at hd
    simp only [PyData.dict.injEq] at hd
    subst hd
    cases l with
    | nil => cases h2
    | cons e l =>
      simp only [List.map_cons, List.cons.injEq] at h2
      obtain ⟨kk, _⟩ := e
      have := h2.1
      cases kk <;> cases this
  | _ => unfold excD at hd; first | cases hd | (unfold dctD at hd; cases hd) | (unfold insD at hd; cases hd) | (unfold scrD at hd; cases hd)
theorem Le.ext {H H' : Hp} (h : Le H H') {a : Addr} {φ : Heap → Prop} (e : H a = some (.ext φ)) : H' a = some (.ext φ) := h.any id e
theorem Res.newE {C a dx : Addr} {u : V} (hle : Le H0 H) (hc : W.cl c = some C) (h1 : H a = none) (h2 : H dx = none) (ne : dx ≠ a) (h : Rp W.K W.cl H0 u d) :
    Res W H0 H (upd (upd H0 dx (.xd [("value", u)])) a (exA a C dx)) (upd (upd H dx (.xd [("value", u)])) a (exA a C dx)) (.ref a) (.fz (excD c d)) := by
  have m1 := hle.free h1
  have m2 := hle.free h2
  have m3 : upd H0 dx (.xd [("value", u)]) a = none := by rw [upd_ne (Ne.symm ne)]; exact m1
  have l1 : Le H0 (upd (upd H0 dx (.xd [("value", u)])) a (exA a C dx)) := (upd_le m2).trans (upd_le m3)
  refine ⟨[], ⟨.exc hc upd_same (by rw [upd_ne ne, upd_same]) (h.mono l1), rfl⟩, List.nodup_nil, fun a h => (nomatch h), fun b o e => ?_, fun b o e => ?_, upd_le3 (upd_le3 hle m2) m3, fun b o e1 _ e2 => ?_⟩
  · rw [upd_ne (ne_of_none e m1), upd_ne (ne_of_none e m2)]; exact e
  · rw [upd_ne (ne_of_none e h1), upd_ne (ne_of_none e h2)]; exact e
  · rw [upd_ne (ne_of_none e1 h1), upd_ne (ne_of_none e1 h2)]; exact e2
def eExc (c : Str) (f : EM) : EM := fun ρ => (f ρ).bind fun s ρ1 => match s.shared with
  | some d => .ok (.fz (excD c d)) ρ1
  | none => .no
theorem pd_exc (E : ExcH X.prog X.K W.cl X.mg root q st cs) (hcs : c ∈ cs) (hr : Room kl X.A) (hk : 1 ≤ kl) (hg : Gl X c) (he : PE X e (tO W Ew .t f))
    (hs : starEach [e] X.env = (false, eval e X.env) :: starEach [] X.env := by rfl) (hdb : (c == ("__debug__" : Str)) = false := by decide) :
    PE X (.Call (.Name c p) [e] [] pos) (tO W Ew .t (eExc c f)) := by
  obtain ⟨D, fI, hD, _, EI, T, EC, _⟩ := E.ex
  obtain ⟨C, hc, hm, EC, _⟩ := EC c hcs
  refine PE.imp (pe_excV (k := 0) EI T EC (hr.mono hk) hg hm he hs hdb) fun σ H Q ⟨ts, tss, ρ, w, q⟩ => ⟨ts, tss, ρ, w, ?_⟩
  unfold eExc at q
  cases ef : f ρ with
  | no => rw [ef] at q; exact q
  | er c d ρ' => rw [ef] at q; exact q
  | ok s ρ' =>
    rw [ef] at q
    simp only [Out.bind_ok] at q
    intro v H1 w1 _ a dx n1 n2 ne
    cases es : s.shared with
    | none => rw [es] at q; exact q.elim
    | some d =>
      rw [es] at q
      obtain ⟨H0, hle, rd, _, kf⟩ := World.res (vs := [v]) (ss := [.fz d]) (ts := ts) (tss := tss) (w1.freeze es) rfl
      cases rd with
      | cons r1 _ =>
        obtain ⟨fp, hrp, _⟩ := r1
        exact q _ _ (kf (Res.newE hle hc n1 n2 ne hrp)) trivial
def sRaise (c : Str) (f : EM) : SM := fun ρ => (f ρ).bindS fun s ρ1 => match s.shared with
  | some d => .er c d ρ1
  | none => .no
end
end Dl
end
section
set_option maxHeartbeats 1000000
/-! isinstance(x, C) and x.value of exceptions -/
namespace Dl
open PySem PySem.Spec PyProof.Rows L2 DlV
def rIsx (K : PySem.W.Frag) : List V → Hp → VK → Prop := fun xs H Q => ∃ (x c : V) (u : Value) (b : Bool), xs = [x, c] ∧ ClsV c u ∧ ((∃ t, TyX K H x t ∧ PySem.W.kitOne K t u = some b) ∨ ∃ a C dx w, x = .ref a ∧ H a = some (exA a C dx) ∧ H dx = some (.xd [("value", w)]) ∧ ExcC K C ∧ PySem.W.kitOne K (.ref C) u = some b) ∧ Q (.bl b) H
theorem instA {X : Cx} {pins : List (Addr × Obj)} {σ : L2.St} {H : Hp} {s : Shared} {a C dx : Addr} {w : V} (I : Inv X pins σ H s) (ha : H a = some (exA a C dx)) (hd : H dx = some (.xd [("value", w)])) :
    ∃ oe od, PySem.W.InstAt s.heap a oe C (some od) ∧ ∃ u, RelV w u ∧ PySem.W.lookIn "value" od = some (some u) := by
  obtain ⟨⟨oe, vs, h1, h2, h3, h4⟩, _, _⟩ := (show ObjOk X.prog X.w H s.heap a (.ext fun h => ∃ (o : Obj) (vs : Array Value), h.get? a = some o ∧ o.cls = .ref C ∧ o.dict = some dx ∧ o.data = .fields vs) from I.hok a _ ha)
  obtain ⟨mA, hns, hr⟩ := (show ObjOk X.prog X.w H s.heap dx (.xd [("value", w)]) from I.hok dx _ hd)
  obtain ⟨od, ho, hl⟩ := lookIn_ns hns
  obtain ⟨u, hu, ru⟩ := RelO.some_of (v := w) (o := mA "value") (hr "value")
  exact ⟨oe, od, ⟨h1, h2, by unfold PySem.W.notCls; rw [h4] <;> rfl, by rw [h3]; exact ho⟩, u, ru, by rw [hl, hu]⟩
theorem call_isx {X : Cx} : CallR X (.builtin "isinstance") (rIsx X.K) := by
  intro pins s σ H xs us Q I r h
  obtain ⟨x, c, u, b, rfl, k, h, q⟩ := h
  obtain ⟨u1, u2, rfl, r1, r2⟩ := vals2 r
  have e2 := k.eq r2
  subst e2
  rcases h with ⟨t, ty, e⟩ | ⟨a, C, dx, w, rfl, ha, hd, EC, e⟩
  · obtain ⟨P, Z, p, hx⟩ := L2.kit_of I r1 ty
    exact PySem.W.kia_one Z I.kIn p e hx fun tk => ⟨.bl b, H, I.tok tk, rfl, q⟩
  · cases (show u1 = Value.ref a from r1)
    obtain ⟨oe, od, J, _⟩ := instA I ha hd
    obtain ⟨cd, hcd, _⟩ := PySem.W.any_some EC.hd
    exact PySem.W.kia_one (PySem.W.kitx_exc (by rw [hcd]; rfl) EC.hg EC.hk EC.hs EC.ha EC.hn EC.ht EC.hm) I.kIn J e (fun z => nomatch z) fun tk => ⟨.bl b, H, I.tok tk, rfl, q⟩
theorem pe_excval {X : Cx} {e : Expr} {te : TE} {pos : Pos} (he : PE X e te) (hb : attributeBase e "value" X.env (eval e X.env) = eval e X.env := by rfl) :
    PE X (.Attribute e "value" pos) (fun σ H Q => te σ H fun x H1 => ∃ a C dx w, x = .ref a ∧ H1 a = some (exA a C dx) ∧ H1 dx = some (.xd [("value", w)]) ∧ ExcC X.K C ∧ PySem.W.findIn X.K (.ref C) "value" = some none ∧ Q w H1) := by
  refine ⟨fun pins s σ H Q I h => ?_⟩
  refine attr_of hb (thn (he.run pins s σ H _ I h) fun u s1 hh => ?_)
  obtain ⟨x, H1, I1, rx, a, C, dx, w, ex, ha, hd, EC, hno, q⟩ := hh
  subst ex
  obtain rfl : u = Value.ref a := rx
  obtain ⟨oe, od, J, u, ru, hl⟩ := instA I1 ha hd
  exact PySem.HandSPX.exc_get I1.kIn J EC.hg EC.hk EC.hs (PySem.W.findObj_own EC.hd hno rfl hl) (handed_of ru) ⟨w, H1, I1.tok _, ru, q⟩
def isxD (T : Str) (d : D) : Option Bool := match excO d with
  | some (c, _) => if exAll.contains c then some (decide (T = "DigError" ∨ T = "ValueError" ∨ c = T)) else none
  | none => (tyD d).map fun _ => false
def eIsx (T : Str) (k : Kd) (f : EM) : EM := fun ρ => (f ρ).bind fun s ρ1 => ofO (((sl k s ρ1).d?.bind (isxD T)).map fun b => .fz (.bool b)) ρ1
def exvD (d : D) : Option D := match excO d with
  | some (c, d') => if exAll.contains c then some d' else none
  | none => none
def eExV (k : Kd) (f : EM) : EM := fun ρ => (f ρ).bind fun s ρ1 => ofO (((sl k s ρ1).d?.bind exvD).map .fz) ρ1
section
variable {X : Cx} {W : Wc} {Ew : XK} {ts vs us : List V} {tss ss sus : List Slot} {σ σ' : L2.St} {H H' H0 H0' : Hp} {ρ : DEnv} {v v1 v2 : V} {s s1 s2 : Slot} {e e2 o a b : Expr} {k ka kb kc : Kd} {f fa fb fc : EM} {Q Q' : VK} {d d1 d2 : D} {p pos apos : Pos} {kl : Nat} {c T root q : Str} {st : Stmt} {cs : List Str}
theorem Rdy.exc (h : Rdy W H0 H v s) (e : s.d? = some (excD c d)) : Rp W.K W.cl H0 v (excD c d) := by
  obtain ⟨fp, h⟩ := h
  have no : ∀ {u : HO} {t : Bool} {kvs : List (D × D)}, DctOk W.K W.cl H0 u t kvs → dctD t kvs = excD c d → False := fun {u t kvs} hd he => by
    cases t with
    | true => unfold dctD excD at he; cases he
    | false =>
      unfold dctD excD at he
      simp only [PyData.dict.injEq] at he
      subst he
      obtain ⟨l, _, h2, _⟩ := hd
      cases l with
      | nil => cases h2
      | cons e l =>
        simp only [List.map_cons, List.cons.injEq] at h2
        obtain ⟨kk, _⟩ := e
        have := h2.1
        cases kk <;> cases this
  cases s with
  | no => cases e
  | fz d' => cases e; exact h.1
  | oi c fs => cases e
  | ow cc =>
    obtain ⟨a, _, hc, _⟩ := h
    cases cc with
    | lst ds => cases e
    | gd kvs => cases e
    | dct t kvs => obtain ⟨u, _, hd⟩ := hc; exact (no hd (Option.some.inj e)).elim
    | lk t kvs => obtain ⟨u, o, _, hd⟩ := hc; exact (no hd (Option.some.inj e)).elim
theorem kit_exc {K : Frag} {C C' D : Addr} {cd : PySem.ClassData} (h : PySem.W.clsIn K C = some cd) {l : List Value} (hm : cd.mro = .ref C :: (l ++ PySem.HandSPX.veTail)) (hl : l = [] ∨ l = [.ref D]) (h' : (PySem.W.clsIn K C').isSome = true) (ht : PySem.W.typeIn K (.ref C') = some (.type "type")) :
    PySem.W.kitOne K (.ref C) (.ref C') = some (decide (C = C' ∨ (l = [.ref D] ∧ D = C'))) := by
  unfold PySem.W.kitOne
  by_cases e : C = C'
  · subst e
    rw [if_pos (by simp)]
    simp
  · rw [if_neg (by simpa using e)]
    show (if ((PySem.W.clsIn K C').isSome && PySem.W.typeIn K (.ref C') == some (.type "type")) = true then PySem.W.mroIn K C (.ref C') else none) = _
    rw [if_pos (by rw [h', ht]; rfl)]
    unfold PySem.W.mroIn
    rw [h, Option.bind_some, hm, if_neg (by simp)]
    rcases hl with rfl | rfl
    · have e' : ¬ C' = C := fun z => e z.symm
      simp [e, e', PySem.HandSPX.veTail]
    · have e' : ¬ C' = C := fun z => e z.symm
      by_cases e2 : D = C'
      · subst e2; simp
      · have e3 : ¬ C' = D := fun z => e2 z.symm
        simp [e, e', e2, e3, PySem.HandSPX.veTail]
theorem kit_ve {K : Frag} {C : Addr} {cd : PySem.ClassData} (h : PySem.W.clsIn K C = some cd) {l : List Value} (hm : cd.mro = .ref C :: (l ++ PySem.HandSPX.veTail)) (hv : PySem.W.kitMeta "ValueError" = true) : PySem.W.kitOne K (.ref C) (.type "ValueError") = some true := by
  unfold PySem.W.kitOne
  rw [if_neg (by simp)]
  show (if PySem.W.kitMeta "ValueError" = true then PySem.W.mroIn K C (.type "ValueError") else none) = _
  rw [if_pos hv]
  unfold PySem.W.mroIn
  rw [h, Option.bind_some, hm, if_neg (by simp)]
  simp [PySem.HandSPX.veTail]
theorem isx_red (hK : X.K = W.K) {cv : V} {uv : Value} (hcv : ClsV cv uv) (hx : ∀ c ∈ exAll, ∀ C, W.cl c = some C → ExcC X.K C ∧ PySem.W.kitOne X.K (.ref C) uv = some (decide (T = "DigError" ∨ T = "ValueError" ∨ c = T)))
    (ht : ∀ t ∈ ownTys, PySem.W.kitOne X.K (.type t) uv = some false) : ∀ σ H Q, tO W Ew .t (eIsx T k f) σ H Q → tCB (rIsx X.K) (tCons (tO W Ew k f) (tCons (tC cv) tNil)) σ H Q := fun σ H Q ⟨ts, tss, ρ, w, q⟩ => by
  refine ⟨ts, tss, ρ, w, ?_⟩
  unfold eIsx at q
  cases ea : f ρ with
  | no => rw [ea] at q; exact q
  | er c d ρ' => rw [ea] at q; exact q
  | ok s1 ρ1 =>
    rw [ea] at q
    simp only [Out.bind_ok] at q
    intro v H1 w1 k1
    obtain ⟨H0, hle, rd⟩ := World.top w1 k1
    cases ed : (sl k s1 ρ1).d? with
    | none => rw [ed] at q; exact q.elim
    | some d =>
      rw [ed] at q
      simp only [Option.bind_some, isxD] at q
      cases eo : excO d with
      | some p =>
        obtain ⟨c, d'⟩ := p
        rw [eo] at q
        simp only at q
        by_cases hc : exAll.contains c = true
        · rw [if_pos hc] at q
          have := excO_inv eo
          subst this
          obtain ⟨a, C, dx, u, rfl, i1, i2, i3, _⟩ := (rd.rp hle ed).excInv
          obtain ⟨j2, j3⟩ := hx c (by simpa using hc) C i1
          exact ⟨.ref a, cv, uv, _, rfl, hcv, .inr ⟨a, C, dx, u, rfl, i2, i3, j2, j3⟩, q _ _ (w1.pop.push (.bl _)) trivial⟩
        · rw [if_neg hc] at q; exact q.elim
      | none =>
        rw [eo] at q
        simp only at q
        cases et : tyD d with
        | none => rw [et] at q; exact q.elim
        | some t =>
          rw [et] at q
          obtain ⟨m1, m2⟩ := rd.tyX2 hK hle ed et
          exact ⟨v, cv, uv, false, rfl, hcv, .inl ⟨_, m2, ht t m1⟩, q _ _ (w1.pop.push (.bl _)) trivial⟩
theorem ExcH.kits {P : PySem.Program} {K : Frag} {cl : ClsT} {mg : Str → Option Value} (E : ExcH P K cl mg "DigError" q st cs) (hT : T ∈ cs) (hve : T ≠ "ValueError") : ∃ CT, mg T = some (.ref CT) ∧ (∀ c ∈ exAll, ∀ C, cl c = some C → ExcC K C ∧ PySem.W.kitOne K (.ref C) (.ref CT) = some (decide (T = "DigError" ∨ T = "ValueError" ∨ c = T))) ∧ ∀ t ∈ ownTys, PySem.W.kitOne K (.type t) (.ref CT) = some false := by
  obtain ⟨D, fI, hD, hroot, EI, ET, EC, inj, nt, _, _, hall⟩ := E.ex
  obtain ⟨CT, t1, t2, t3, t4, cdT, t5, t6⟩ := EC T hT
  refine ⟨CT, t2, fun c hc C hC => ?_, nt T hT CT t1⟩
  have hc := hall c hc C hC
  obtain ⟨C', c1, c2, c3, c4, cd, c5, c6⟩ := EC c hc
  rw [hC] at c1
  cases c1
  have c1 := hC
  refine ⟨c4, ?_⟩
  rw [kit_exc (D := D) c5 c6 (by by_cases e : c = "DigError" <;> simp [e]) (by rw [t5]; rfl) t3.ox.tyC]
  congr 1
  have i1 : C = CT ↔ c = T := ⟨fun z => inj c hc T hT (by rw [c1, t1, z]), fun z => by subst z; rw [c1] at t1; exact Option.some.inj t1⟩
  have i2 : D = CT ↔ ("DigError" : Str) = T := ⟨fun z => inj "DigError" hroot T hT (by rw [hD, t1, z]), fun z => by subst z; rw [hD] at t1; exact Option.some.inj t1⟩
  rw [decide_eq_decide, i1, i2]
  constructor
  · rintro (h | ⟨_, h⟩)
    · exact .inr (.inr h)
    · exact .inl h.symm
  · rintro (h | h | h)
    · by_cases e : c = "DigError"
      · exact .inl (e.trans h.symm)
      · exact .inr ⟨by rw [if_neg e], h.symm⟩
    · exact absurd h hve
    · exact .inl h
theorem pd_isx {p1 p2 : Pos} (hK : X.K = W.K) (E : ExcH X.prog X.K W.cl X.mg "DigError" q st cs) (hT : T ∈ cs) (hve : T ≠ "ValueError") (hg : Gl X "isinstance") (hm : X.mg "isinstance" = none) (hg2 : Gl X T) (h : PE X a (tO W Ew k f)) (hd2 : (T == ("__debug__" : Str)) = false := by decide)
    (he : starEach [a, .Name T p2] X.env = (false, eval a X.env) :: starEach [.Name T p2] X.env := by rfl) (he2 : starEach [.Name T p2] X.env = (false, eval (.Name T p2) X.env) :: starEach [] X.env := by rfl) (hpl : (backTo pos (starEach [.Name T p2] X.env)).any (·.1) = false := by rfl) :
    PE X (.Call (.Name "isinstance" p1) [a, .Name T p2] [] pos) (tO W Ew .t (eIsx T k f)) := by
  obtain ⟨CT, t2, h1, h2⟩ := E.kits hT hve
  exact PE.imp (pe_callB call_isx hg hm PyProof.Rows.boot_isinstance (pa_cons h (pa_cons (pe_glob (v := .ref CT) hg2 t2 (show RelV (.ref CT) (.ref CT) from rfl) hd2) pa_nil he2) he) (by decide) (by decide) he hpl) (isx_red hK (.own CT) h1 h2)
theorem pd_isxV {p1 p2 : Pos} (hK : X.K = W.K) (E : ExcH X.prog X.K W.cl X.mg "DigError" q st cs) (hg : Gl X "isinstance") (hm : X.mg "isinstance" = none) (hg2 : Gl X "ValueError") (hm2 : X.mg "ValueError" = none) (h : PE X a (tO W Ew k f))
    (he : starEach [a, .Name "ValueError" p2] X.env = (false, eval a X.env) :: starEach [.Name "ValueError" p2] X.env := by rfl) (he2 : starEach [.Name "ValueError" p2] X.env = (false, eval (.Name "ValueError" p2) X.env) :: starEach [] X.env := by rfl) (hpl : (backTo pos (starEach [.Name "ValueError" p2] X.env)).any (·.1) = false := by rfl) :
    PE X (.Call (.Name "isinstance" p1) [a, .Name "ValueError" p2] [] pos) (tO W Ew .t (eIsx "ValueError" k f)) := by
  obtain ⟨D, fI, hD, hroot, EI, ET, EC, inj, nt, hv, hv2, hall⟩ := E.ex
  refine PE.imp (pe_callB call_isx hg hm PyProof.Rows.boot_isinstance (pa_cons h (pa_cons (pe_bltn (v := .ty "ValueError") hg2 hm2 PyProof.Rows.Boot.«ValueError» (show RelV (.ty "ValueError") (.type "ValueError") from rfl) (by decide) (by decide)) pa_nil he2) he) (by decide) (by decide) he hpl) (isx_red hK (.ty "ValueError") (fun c hc C hC => ?_) hv2)
  obtain ⟨C', c1, c2, c3, c4, cd, c5, c6⟩ := EC c (hall c hc C hC)
  rw [hC] at c1
  cases c1
  exact ⟨c4, by rw [kit_ve c5 c6 hv]; simp⟩
theorem pd_exval (hK : X.K = W.K) (E : ExcH X.prog X.K W.cl X.mg "DigError" q st cs) (he : PE X e (tO W Ew k f)) (hb : attributeBase e "value" X.env (eval e X.env) = eval e X.env := by rfl) : PE X (.Attribute e "value" pos) (tO W Ew .t (eExV k f)) := by
  obtain ⟨D, fI, hD, hroot, EI, ET, EC, _, _, _, _, hall⟩ := E.ex
  refine PE.imp (pe_excval he hb) fun σ H Q ⟨ts, tss, ρ, w, q⟩ => ⟨ts, tss, ρ, w, ?_⟩
  unfold eExV at q
  cases ea : f ρ with
  | no => rw [ea] at q; exact q
  | er c d ρ' => rw [ea] at q; exact q
  | ok s1 ρ1 =>
    rw [ea] at q
    simp only [Out.bind_ok] at q
    intro v H1 w1 k1
    obtain ⟨H0, hle, rds, en, kf⟩ := World.res (vs := [v]) (ss := [s1]) (ts := ts) (tss := tss) w1 rfl
    cases rds with
    | cons rd _ =>
      have rd := rdy_sl en rd k1
      cases ed : (sl k s1 ρ1).d? with
      | none => rw [ed] at q; exact q.elim
      | some d =>
        rw [ed] at q
        simp only [Option.bind_some, exvD] at q
        cases eo : excO d with
        | none => rw [eo] at q; exact q.elim
        | some p =>
          obtain ⟨c, d'⟩ := p
          rw [eo] at q
          simp only at q
          by_cases hc : exAll.contains c = true
          · rw [if_pos hc] at q
            have := excO_inv eo
            subst this
            obtain ⟨a, C, dx, u, rfl, i1, i2, i3, i4⟩ := (rd.exc ed).excInv
            obtain ⟨C', j1, _, j3, j4, _⟩ := EC c (hall c (by simpa using hc) C i1)
            rw [i1] at j1
            cases j1
            exact ⟨a, C, dx, u, rfl, hle.any id i2, hle.any id i3, j4, j3.val, q _ _ (kf (.child hle i4)) trivial⟩
          · rw [if_neg hc] at q; exact q.elim
end
end Dl
end
section
set_option maxHeartbeats 1000000
/-! repr of data in which dicts (of ints and texts as keys) may stand -/
namespace Dl
open PySem PySem.Spec PyProof.Rows L2
def atmB : D → Bool
  | .int _ => true
  | .str _ => true
  | _ => false
mutual
def lay2 : Nat → D → Bool
  | _, .none => true
  | _, .bool _ => true
  | _, .int _ => true
  | _, .str _ => true
  | 0, .list _ => false
  | 0, .tuple _ => false
  | 0, .dict _ => false
  | n + 1, .list xs => layL2 n xs
  | n + 1, .tuple xs => layL2 n xs
  | n + 1, .dict kvs => layK2 n kvs
def layL2 : Nat → List D → Bool
  | _, [] => true
  | n, x :: xs => lay2 n x && layL2 n xs
def layK2 : Nat → List (D × D) → Bool
  | _, [] => true
  | n, (k, x) :: xs => atmB k && (lay2 n x && layK2 n xs)
end
theorem layK2_iff : ∀ {n : Nat} {kvs : List (D × D)}, layK2 n kvs = true → (∀ e ∈ kvs, atmB e.1 = true) ∧ layL2 n (kvs.map (·.2)) = true
  | _, [], _ => ⟨by simp, by simp [layL2]⟩
  | n, (k, x) :: xs, h => by
    simp only [layK2, Bool.and_eq_true] at h
    obtain ⟨h1, h2, h3⟩ := h
    obtain ⟨a, b⟩ := layK2_iff h3
    refine ⟨fun e he => ?_, by simp [layL2, h2, b]⟩
    rcases List.mem_cons.mp he with rfl | he
    · exact h1
    · exact a e he
theorem atmB_depth {k : D} (h : atmB k = true) : k.depth = 0 := by cases k <;> first | (simp [PyData.depth]; done) | cases h
mutual
theorem lay2_depth : ∀ (n : Nat) (d : D), lay2 n d = true → d.depth ≤ n
  | _, .none, _ => by simp [PyData.depth]
  | _, .bool _, _ => by simp [PyData.depth]
  | _, .int _, _ => by simp [PyData.depth]
  | _, .str _, _ => by simp [PyData.depth]
  | 0, .list _, h => by simp [lay2] at h
  | 0, .tuple _, h => by simp [lay2] at h
  | 0, .dict _, h => by simp [lay2] at h
  | n + 1, .list xs, h => by
    have := layL2_depth n xs (by simpa [lay2] using h)
    simp only [PyData.depth]; omega
  | n + 1, .tuple xs, h => by
    have := layL2_depth n xs (by simpa [lay2] using h)
    simp only [PyData.depth]; omega
  | n + 1, .dict kvs, h => by
    have := layK2_depth n kvs (by simpa [lay2] using h)
    simp only [PyData.depth]; omega
theorem layL2_depth : ∀ (n : Nat) (ds : List D), layL2 n ds = true → PyData.depthAll ds ≤ n
  | _, [], _ => by simp [PyData.depthAll]
  | n, x :: xs, h => by
    have h' : lay2 n x = true ∧ layL2 n xs = true := by simpa [layL2] using h
    have h1 := lay2_depth n x h'.1
    have h2 := layL2_depth n xs h'.2
    simp only [PyData.depthAll]
    omega
theorem layK2_depth : ∀ (n : Nat) (kvs : List (D × D)), layK2 n kvs = true → PyData.depthKv kvs ≤ n
  | _, [], _ => by simp [PyData.depthKv]
  | n, (k, x) :: xs, h => by
    have h' : atmB k = true ∧ lay2 n x = true ∧ layK2 n xs = true := by simpa [layK2] using h
    have h0 := atmB_depth h'.1
    have h1 := lay2_depth n x h'.2.1
    have h2 := layK2_depth n xs h'.2.2
    simp only [PyData.depthKv]
    omega
end
section
variable {X : Cx} {W : Wc} {Ew : XK} {pins : List (Addr × Obj)} {σ : L2.St} {H H0 : Hp} {s : Shared} {v : V} {u : Value} {sl sl' : Slot} {d : D} {a : Addr} {xs : List V} {ds : List D} {K : Frag} {cl : ClsT}
theorem pairs_reads {h : Heap} {P : PySem.Program} {w : PySem.World} {es : List DictEntry} {kvs : List (Key × Value)} (hp : Pairs (mixKind P w) es kvs) : ∀ {l : List (Key × V)} {ds : List (D × D)}, KV l kvs → ds.map (·.1) = l.map (fun e => keyD e.1) →
    ReadsAll h (es.map (·.key)) (ds.map (·.1)) [] ∧ Vals (l.map (·.2)) (es.map (·.val)) := by
  induction hp with
  | nil =>
    intro l ds q e
    cases q
    cases ds with
    | nil => exact ⟨.nil, .nil⟩
    | cons _ _ => simp at e
  | @cons e0 kv es kvs h1 h2 t ih =>
    intro l ds q e
    cases q with
    | @cons l0 _ l _ q r =>
      cases ds with
      | nil => simp at e
      | cons d ds =>
        simp only [List.map_cons, List.cons.injEq] at e
        obtain ⟨e1, e2⟩ := e
        obtain ⟨a, b⟩ := ih r e2
        obtain ⟨k0, v0⟩ := l0
        obtain ⟨q1, q2⟩ := q
        refine ⟨?_, .cons (show RelV v0 e0.val by rw [h2]; exact q2) b⟩
        simp only [List.map_cons]
        rw [e1]
        have q1' : k0 = kv.1 := q1
        have hk : keyIs k0 e0.key = true := by rw [q1']; exact h1
        rcases keyIs_shape hk with ⟨i, t, rfl, e3⟩ | ⟨x, t, rfl, e3⟩
        · rw [e3]; exact ReadsAll.cons (.int i t) a
        · rw [e3]; exact ReadsAll.cons (.str x t) a
theorem readsL2 {n : Nat} (ih : ∀ {v : V} {d : D} {u : Value}, Rp K cl H v d → lay2 n d = true → RelV v u → ∃ as, Reads s.heap u d as ∧ sysModules ∉ as) {ds : List D} : ∀ {vs : List V} {us : List Value}, RpL K cl H vs ds → layL2 n ds = true → Vals vs us → ∃ as, ReadsAll s.heap us ds as ∧ sysModules ∉ as := by
  induction ds with
  | nil =>
    intro vs us h0 _ r
    cases h0
    cases r
    exact ⟨_, .nil, by simp⟩
  | cons d ds ih2 =>
    intro vs us h0 h r
    cases h0 with
    | cons h1 h2 =>
      cases r with
      | cons r1 r2 =>
        have h' := h
        simp only [layL2, Bool.and_eq_true] at h'
        obtain ⟨as, q1, n1⟩ := ih h1 h'.1 r1
        obtain ⟨bs, q2, n2⟩ := ih2 h2 h'.2 r2
        exact ⟨_, .cons q1 q2, by simp [n1, n2]⟩
theorem lay2_none (n : Nat) (x : D) (r : List (D × D)) : lay2 n (.dict ((.none, x) :: r)) = false := by
  cases n with
  | zero => rfl
  | succ n => show layK2 n ((.none, x) :: r) = false; rfl
theorem ne_sys {u : HO} (hs : H sysModules = none) (h0 : Rd H a u) : sysModules ≠ a := fun z => by
  subst z
  rcases h0 with q | ⟨o, q⟩
  · rw [hs] at q; cases q
  · rw [hs] at q; cases q
theorem Rp.reads2 (I : Inv X pins σ H s) (hs : H sysModules = none) : ∀ (n : Nat) {v : V} {d : D} {u : Value}, Rp K cl H v d → lay2 n d = true → RelV v u → ∃ as, Reads s.heap u d as ∧ sysModules ∉ as := by
  intro n
  induction n with
  | zero =>
    intro v d u hr h r
    cases hr with
    | non => cases r; exact ⟨_, .none, by simp⟩
    | bl b => cases r; exact ⟨_, .bool b, by simp⟩
    | int i => obtain ⟨t, rfl⟩ := r; exact ⟨_, .int i t, by simp⟩
    | str x => obtain ⟨t, rfl⟩ := r; exact ⟨_, .str x t, by simp⟩
    | _ => simp [lay2, dctD, insD, scrD, excD] at h
  | succ n ih =>
    intro v d u hr h r
    cases hr with
    | non => cases r; exact ⟨_, .none, by simp⟩
    | bl b => cases r; exact ⟨_, .bool b, by simp⟩
    | int i => obtain ⟨t, rfl⟩ := r; exact ⟨_, .int i t, by simp⟩
    | str x => obtain ⟨t, rfl⟩ := r; exact ⟨_, .str x t, by simp⟩
    | lst h0 t =>
      rename_i a xs ds
      cases r
      obtain ⟨_, its, k, rv, e⟩ := h0.ok I.hok
      obtain ⟨as, ra, na⟩ := readsL2 ih t (by simpa [lay2] using h) rv
      have ne := ne_sys hs h0
      exact ⟨_, Reads.list (vs := its.toArray) (n := k) e rfl rfl (show ReadsAll s.heap its.toArray.toList ds as from ra), by simp [ne, na]⟩
    | tup h0 t =>
      rename_i a xs ds
      cases r
      obtain ⟨_, its, rv, o, e1, e2, k, e3⟩ := (show ObjOk X.prog X.w H s.heap a (.tup _) from I.hok a _ h0)
      obtain ⟨as, ra, na⟩ := readsL2 ih t (by simpa [lay2] using h) rv
      exact ⟨_, Reads.tuple (vs := its.toArray) (n := k) e1 e2 e3 (show ReadsAll s.heap its.toArray.toList ds as from ra), na⟩
    | dk h0 e t =>
      rename_i a l kvs
      cases r
      obtain ⟨_, ns, vs, hv, o, es, ep, e1, e2, e3, _, e5, _⟩ := h0.ok I.hok
      obtain ⟨_, hl⟩ := layK2_iff (by simpa [lay2, dctD] using h)
      obtain ⟨r1, r2⟩ := pairs_reads (h := s.heap) e5 hv e
      obtain ⟨as, ra, na⟩ := readsL2 ih t hl r2
      have ne := ne_sys hs h0
      exact ⟨_, .dict e1 e2.1 e3 r1 ra, by simp [ne, na]⟩
    | dt _ _ _ => exact absurd h (by rw [show lay2 (n + 1) (dctD true _) = false from lay2_none _ _ _]; decide)
    | ins _ _ _ _ => exact absurd h (by rw [show lay2 (n + 1) (insD _ _) = false from lay2_none _ _ _]; decide)
    | scr _ _ => exact absurd h (by rw [show lay2 (n + 1) (scrD _) = false from lay2_none _ _ _]; decide)
    | exc _ _ _ _ => exact absurd h (by rw [show lay2 (n + 1) (excD _ _) = false from lay2_none _ _ _]; decide)
def reprDOp (d : D) : Option Slot := if lay2 60 d && d.showable && decide (d.shown.length ≤ 1000000) then some (.fz (.str d.shown)) else none
theorem og_reprD (ax : Ax X) (hK : X.K = W.K) (hsys : ∃ o, X.K.lookup sysModules = some o) : CallR X (.builtin "repr") (rGN W (gN1 reprDOp)) := ogN1 fun pins s σ H H0 x us Q s1 s' d I r hle r1 e1 e3 q => by
  unfold reprDOp at e3
  split at e3
  · rename_i hc
    cases e3
    simp only [Bool.and_eq_true, decide_eq_true_eq] at hc
    obtain ⟨⟨h1, h2⟩, h3⟩ := hc
    have hz : d.shown.length ≤ sizeLine := by have := million; omega
    obtain ⟨u, rfl, rx⟩ := vals1 r
    obtain ⟨os, hos⟩ := hsys
    have hs : H sysModules = none := (I.bs _ _ (I.ok.mod.kin _ _ hos)).2
    obtain ⟨as, rd, na⟩ := Rp.reads2 I hs 60 (r1.rp hle e1) h1 rx
    have fin : ∀ {h' : Heap} {tk : Nat} {t : Tok}, (∀ b o, s.heap.get? b = some o → h'.get? b = some o) → EP X pins σ Q (.str d.shown t) { s with heap := h', toks := tk } := fun hk => ⟨.str d.shown, H, I.kept hk, ⟨_, rfl⟩, q _ _ _ (.atom hle (.str _))⟩
    have fin2 : ∀ {tk : Nat} {t : Tok}, EP X pins σ Q (.str d.shown t) { s with toks := tk } := ⟨.str d.shown, H, I.tok _, ⟨_, rfl⟩, q _ _ _ (.atom hle (.str _))⟩
    have hu : X.A.units + (d.depth + 1) < cLine := by have := lay2_depth 60 _ h1; have := ax.un; omega
    cases rd with
    | none => exact PySem.P.repr_of_none fin2
    | bool b => exact PySem.P.repr_of_bool (by simpa [PyData.shown] using fin2)
    | int i t => exact PySem.P.repr_of_int (by simpa [PyData.showable] using h2) fin2
    | str y t => exact PySem.P.repr_of_str fin2 hz
    | list g1 g2 g3 g4 => exact PySem.repr_of_reads' (Reads.list g1 g2 g3 g4) h2 (fun _ => na) ax.gd hu (fun _ _ e => e) (fun h' u tk hk => fin hk) hz
    | tuple g1 g2 g3 g4 => exact PySem.repr_of_reads' (Reads.tuple g1 g2 g3 g4) h2 (fun _ => na) ax.gd hu (fun _ _ e => e) (fun h' u tk hk => fin hk) hz
    | dict g1 g2 g3 g4 g5 => exact PySem.repr_of_reads' (Reads.dict g1 g2 g3 g4 g5) h2 (fun _ => na) ax.gd hu (fun _ _ e => e) (fun h' u tk hk => fin hk) hz
  · cases e3
end
theorem reprDOp_ok {d : D} (h : lay2 60 d = true) (h2 : d.showable = true) (h3 : d.leavesShort 13 = true) (h4 : d.weight ≤ 60000) : ∃ z : Str, reprDOp d = some (.fz (.str z)) := by
  refine ⟨d.shown, ?_⟩
  show (if _ then _ else _) = _
  rw [if_pos]
  simp only [Bool.and_eq_true, decide_eq_true_eq]
  have := PyData.shown_le 13 (by omega) d h3
  exact ⟨⟨h, h2⟩, by omega⟩
end Dl
end
section
set_option maxHeartbeats 4000000
namespace Pg
open PySem L2 Dl
noncomputable def b_is_integer : SM :=
  (sRt (eAnd (.t) (eIsi2 (.n 0) (eN 0) "int") (eNot (.t) (eIsi2 (.n 0) (eN 0) "bool"))))
noncomputable def F_is_integer : List Slot → FOut := runF 1 [true] b_is_integer
noncomputable def b_is_name : SM :=
  (sSeq (sIf (bOr (bNot (bV (.t) (eIsi2 (.n 0) (eN 0) "str"))) (bOr (bNot (bV .t (eCh (.t) (.t) (.t) (eC (.int 0)) (eB [(.n 0, (eN 0))] (gN1 lenOp)) (eC (.int 8)) (g2 ltOp) (g2 leOp)))) (bV .t (e2 (.t) (.t) (e2 (.n 0) (.t) (eN 0) (eC (.int 0)) (g2 ixOp)) (eC (.str "abcdefghijklmnopqrstuvwxyz")) (g2 (inOpD true)))))) (sRt (eC (.bool false))) sNx)
  (sRt (eB [(.t, (eLc [1] (iSeq (.n 0) (eN 0)) (tgN 1) tYesD (eOr (.t) (e2 (.n 1) (.t) (eN 1) (eC (.str "abcdefghijklmnopqrstuvwxyz")) (g2 (inOpD false))) (e2 (.n 1) (.t) (eN 1) (eC (.str "0123456789")) (g2 (inOpD false))))))] (gN1 allOp))))
noncomputable def F_is_name : List Slot → FOut := runF 2 [true] b_is_name
noncomputable def b_row_line : SM :=
  (sRt (eM1 (.t) (.t) (eC (.str " ")) (eLc [1] (iSeq (.n 0) (eN 0)) (tgN 1) tYesD (eB [(.n 1, (eN 1))] (gN1 strOp))) joinOp))
noncomputable def F_row_line : List Slot → FOut := runF 2 [true] b_row_line
noncomputable def b_Reader_init : SM :=
  (sSeq (sSetF ["Reader"] 0 "own_units" (eB [] lstG))
  (sSetF ["Reader"] 0 "own_rows" (eB [] lstG)))
noncomputable def F_Reader_init : List Slot → FOut := fun ss => if iniS "Reader" ss then runF 1 [true] b_Reader_init ss else .no
noncomputable def b_Reader_found : SM :=
  (sRt (eB [(.t, (eB [(.f 0 "own_units", (eF ["Reader"] 0 "own_units"))] (gN1 tupleOp))), (.t, (eB [(.f 0 "own_rows", (eF ["Reader"] 0 "own_rows"))] (gN1 tupleOp)))] tupG))
noncomputable def F_Reader_found : List Slot → FOut := fun ss => if entS "Reader" ss then runF 1 [true] b_Reader_found ss else .no
noncomputable def b_Dig_eq : SM :=
  (sRt (eAnd (.t) (eIsC "Dig" (.n 1) (eN 1)) (e2 (.f 0 "own_text") (.t) (eF ["Dig"] 0 "own_text") (eFX ["Dig"] 1 "own_text") (g2 eqOp))))
noncomputable def F_Dig_eq : List Slot → FOut := fun ss => if entS "Dig" ss then runF 2 [true, true] b_Dig_eq ss else .no
noncomputable def b_Dig_text : SM :=
  (sRt (eFX ["Dig"] 0 "own_text"))
noncomputable def F_Dig_text : List Slot → FOut := fun ss => if entS "Dig" ss then runF 1 [true] b_Dig_text ss else .no
noncomputable def b_Dig_units : SM :=
  (sRt (eFX ["Dig"] 0 "own_units"))
noncomputable def F_Dig_units : List Slot → FOut := fun ss => if entS "Dig" ss then runF 1 [true] b_Dig_units ss else .no
noncomputable def b_Dig_rows : SM :=
  (sRt (eFX ["Dig"] 0 "own_rows"))
noncomputable def F_Dig_rows : List Slot → FOut := fun ss => if entS "Dig" ss then runF 1 [true] b_Dig_rows ss else .no
noncomputable def b_check_dig : SM :=
  (sIf (bNot (bV (.t) (eIsC "Dig" (.n 0) (eN 0)))) sNo sNx)
noncomputable def F_check_dig : List Slot → FOut := runF 1 [true] b_check_dig
noncomputable def b_is_between : SM :=
  (sRt (eAnd (.t) (eCall [(.t, (eX 0))] F_is_integer) (eCh (.n 1) (.n 0) (.n 2) (eN 1) (eN 0) (eN 2) (g2 leOp) (g2 leOp))))
noncomputable def F_is_between : List Slot → FOut := runF 3 [true, true, true] b_is_between
noncomputable def b_read_integer : SM :=
  (sSeq (sSet 1 (eIf (bV .t (e2 (.t) (.t) (eSl (.n 0) (eN 0) pN (pS (.t) (eC (.int 1)))) (eC (.str "-")) (g2 eqOp))) (eSl (.n 0) (eN 0) (pS (.t) (eC (.int 1))) pN) (eX 0)))
  (sSeq (sIf (bOr (bV .t (e2 (.n 1) (.t) (eN 1) (eC (.str "")) (g2 eqOp))) (bOr (bV .t (e2 (.t) (.t) (eB [(.n 1, (eN 1))] (gN1 lenOp)) (eC (.int 12)) (g2 gtOp))) (bNot (bV (.t) (eB [(.t, (eLc [3] (iSeq (.n 1) (eN 1)) (tgN 3) tYesD (e2 (.n 3) (.t) (eN 3) (eC (.str "0123456789")) (g2 (inOpD false)))))] (gN1 allOp)))))) (sRt (eC .none)) sNx)
  (sSeq (sSet 2 (eB [(.n 0, (eN 0))] (gN1 intOf2)))
  (sRt (eIf (bV .t (e2 (.t) (.n 0) (eB [(.n 2, (eN 2))] (gN1 strOp)) (eN 0) (g2 eqOp))) (eX 2) (eC .none))))))
noncomputable def F_read_integer : List Slot → FOut := runF 4 [true] b_read_integer
noncomputable def b_steps_of : SM :=
  (sSeq (sIf (bV .t (e2 (.t) (.t) (e2 (.n 0) (.t) (eN 0) (eC (.int 0)) (g2 ixOp)) (eC (.str "above")) (g2 eqOp))) (sRt (eB [(.t, (eB [(.t, (e2 (.n 0) (.t) (eN 0) (eC (.int 2)) (g2 ixOp))), (.t, (e2 (.n 0) (.t) (eN 0) (eC (.int 1)) (g2 ixOp))), (.t, (eC (.int 1)))] tupG))] tupG)) sNx)
  (sSeq (sIf (bV .t (e2 (.t) (.t) (e2 (.n 0) (.t) (eN 0) (eC (.int 0)) (g2 ixOp)) (eC (.str "same")) (g2 eqOp))) (sRt (eB [(.t, (eB [(.t, (e2 (.n 0) (.t) (eN 0) (eC (.int 1)) (g2 ixOp))), (.t, (e2 (.n 0) (.t) (eN 0) (eC (.int 2)) (g2 ixOp))), (.t, (eC (.int 0)))] tupG)), (.t, (eB [(.t, (e2 (.n 0) (.t) (eN 0) (eC (.int 2)) (g2 ixOp))), (.t, (e2 (.n 0) (.t) (eN 0) (eC (.int 1)) (g2 ixOp))), (.t, (eC (.int 0)))] tupG))] tupG)) sNx)
  (sSeq (sIf (bV .t (e2 (.t) (.t) (e2 (.n 0) (.t) (eN 0) (eC (.int 0)) (g2 ixOp)) (eC (.str "least")) (g2 eqOp))) (sRt (eB [(.t, (eB [(.t, (e2 (.n 0) (.t) (eN 0) (eC (.int 2)) (g2 ixOp))), (.t, (e2 (.n 0) (.t) (eN 0) (eC (.int 1)) (g2 ixOp))), (.t, (e2 (.n 0) (.t) (eN 0) (eC (.int 3)) (g2 ixOp)))] tupG))] tupG)) sNx)
  (sRt (eB [(.t, (eB [(.t, (e2 (.n 0) (.t) (eN 0) (eC (.int 1)) (g2 ixOp))), (.t, (e2 (.n 0) (.t) (eN 0) (eC (.int 2)) (g2 ixOp))), (.t, (e2 (.t) (.t) (eC (.int 0)) (e2 (.n 0) (.t) (eN 0) (eC (.int 3)) (g2 ixOp)) (g2 subOp)))] tupG))] tupG)))))
noncomputable def F_steps_of : List Slot → FOut := runF 1 [true] b_steps_of
noncomputable def b_Reader_takes_unit : SM :=
  (sSeq (sIf (bOr (bV .t (e2 (.t) (.t) (eB [(.n 1, (eN 1))] (gN1 lenOp)) (eC (.int 2)) (g2 neOp))) (bOr (bV .t (e2 (.f 0 "own_rows") (.t) (eF ["Reader"] 0 "own_rows") (eB [] lstG) (g2 neOp))) (bV .t (e2 (.t) (.t) (eB [(.f 0 "own_units", (eF ["Reader"] 0 "own_units"))] (gN1 lenOp)) (eC (.int 40)) (g2 eqOp))))) (sRt (eC (.bool false))) sNx)
  (sSeq (sIf (bOr (bNot (bV (.t) (eCall [(.t, (e2 (.n 1) (.t) (eN 1) (eC (.int 1)) (g2 ixOp)))] F_is_name))) (bV .t (e2 (.t) (.f 0 "own_units") (e2 (.n 1) (.t) (eN 1) (eC (.int 1)) (g2 ixOp)) (eF ["Reader"] 0 "own_units") (g2 (inOpD false))))) (sRt (eC (.bool false))) sNx)
  (sSeq (sDrop (eAppF ["Reader"] 0 "own_units" (e2 (.n 1) (.t) (eN 1) (eC (.int 1)) (g2 ixOp))))
  (sRt (eC (.bool true))))))
noncomputable def F_Reader_takes_unit : List Slot → FOut := fun ss => if entS "Reader" ss then runF 2 [true, true] b_Reader_takes_unit ss else .no
noncomputable def b_has_row_form : SM :=
  (sSeq (sIf (bOr (bNot (bV (.t) (eIsi2 (.n 1) (eN 1) "tuple"))) (bV .t (e2 (.t) (.t) (eB [(.n 1, (eN 1))] (gN1 lenOp)) (eB [(.t, (eC (.int 3))), (.t, (eC (.int 4)))] tupG) (g2 (inOpD true))))) (sRt (eC (.bool false))) sNx)
  (sSeq (sIf (bNot (bV (.t) (eB [(.t, (eLc [2] (iSeq (.t) (eSl (.n 1) (eN 1) pN (pS (.t) (eC (.int 3))))) (tgN 2) tYesD (eIsi2 (.n 2) (eN 2) "str")))] (gN1 allOp)))) (sRt (eC (.bool false))) sNx)
  (sSeq (sIf (bOr (bV .t (e2 (.t) (.n 0) (e2 (.n 1) (.t) (eN 1) (eC (.int 1)) (g2 ixOp)) (eN 0) (g2 (inOpD true)))) (bOr (bV .t (e2 (.t) (.n 0) (e2 (.n 1) (.t) (eN 1) (eC (.int 2)) (g2 ixOp)) (eN 0) (g2 (inOpD true)))) (bV .t (e2 (.t) (.t) (e2 (.n 1) (.t) (eN 1) (eC (.int 1)) (g2 ixOp)) (e2 (.n 1) (.t) (eN 1) (eC (.int 2)) (g2 ixOp)) (g2 eqOp))))) (sRt (eC (.bool false))) sNx)
  (sSeq (sIf (bV .t (e2 (.t) (.t) (eB [(.n 1, (eN 1))] (gN1 lenOp)) (eC (.int 3)) (g2 eqOp))) (sRt (e2 (.t) (.t) (e2 (.n 1) (.t) (eN 1) (eC (.int 0)) (g2 ixOp)) (eB [(.t, (eC (.str "above"))), (.t, (eC (.str "same")))] tupG) (g2 (inOpD false)))) sNx)
  (sRt (eAnd (.t) (e2 (.t) (.t) (e2 (.n 1) (.t) (eN 1) (eC (.int 0)) (g2 ixOp)) (eB [(.t, (eC (.str "least"))), (.t, (eC (.str "most")))] tupG) (g2 (inOpD false))) (eFz (eCall [(.t, (e2 (.n 1) (.t) (eN 1) (eC (.int 3)) (g2 ixOp))), (.t, (eC (.int 0))), (.t, (eC (.int 9999)))] F_is_between))))))))
noncomputable def F_has_row_form : List Slot → FOut := runF 3 [true, true] b_has_row_form
noncomputable def b_row_of : SM :=
  (sSeq (sIf (bV .t (e2 (.t) (.t) (eB [(.n 0, (eN 0))] (gN1 lenOp)) (eC (.int 4)) (g2 eqOp))) (sRt (e2 (.t) (.t) (eB [(.t, (eSl (.n 0) (eN 0) pN (pS (.t) (eC (.int 3)))))] (gN1 tupleOp)) (eB [(.t, (eFz (eCall [(.t, (e2 (.n 0) (.t) (eN 0) (eC (.int 3)) (g2 ixOp)))] F_read_integer)))] tupG) (g2 addOp))) sNx)
  (sRt (eB [(.n 0, (eN 0))] (gN1 tupleOp))))
noncomputable def F_row_of : List Slot → FOut := runF 1 [true] b_row_of
noncomputable def b_step_table : SM :=
  (sSeq (sSet 1 (eDct true))
  (sSeq (sFor (iSeq (.t) (eX 0)) (tgN 2) (sFor (iSeq (.t) (eFz (eCall [(.t, (eX 2))] F_steps_of))) (tgT 3 (tgCons (tgN 3) (tgCons (tgN 4) (tgCons (tgN 5) tgNil)))) (sSto 1 (eB [(.n 5, (eN 5)), (.t, (eGet (.n 1) (.t) (eN 1) (eB [(.t, (eX 3)), (.t, (eX 4))] tupG) (eX 5)))] (gN2 max2Op)) (eB [(.t, (eX 3)), (.t, (eX 4))] tupG))))
  (sRt (eM 1))))
noncomputable def F_step_table : List Slot → FOut := runF 6 [true] b_step_table
noncomputable def b_Reader_takes : SM :=
  (sSeq (sSet 2 (eM1 (.n 1) (.t) (eN 1) (eC (.str " ")) splitOp))
  (sSeq (sIf (bV .t (e2 (.t) (.t) (e2 (.n 2) (.t) (eN 2) (eC (.int 0)) (g2 ixOp)) (eC (.str "unit")) (g2 eqOp))) (sRt (eMeth "Reader" "takes_unit" (.n 0) (eN 0) [(.t, (eX 2))] F_Reader_takes_unit)) sNx)
  (sSeq (sSet 3 (eCall [(.t, (eX 2))] F_row_of))
  (sSeq (sIf (bOr (bNot (bV (.t) (eCall [(.f 0 "own_units", (eF ["Reader"] 0 "own_units")), (.t, (eX 3))] F_has_row_form))) (bOr (bV .t (e2 (.n 3) (.f 0 "own_rows") (eN 3) (eF ["Reader"] 0 "own_rows") (g2 (inOpD false)))) (bV .t (e2 (.t) (.t) (eB [(.f 0 "own_rows", (eF ["Reader"] 0 "own_rows"))] (gN1 lenOp)) (eC (.int 200)) (g2 eqOp))))) (sRt (eC (.bool false))) sNx)
  (sSeq (sDrop (eAppF ["Reader"] 0 "own_rows" (eX 3)))
  (sRt (eC (.bool true))))))))
noncomputable def F_Reader_takes : List Slot → FOut := fun ss => if entS "Reader" ss then runF 4 [true, true] b_Reader_takes ss else .no
noncomputable def b_is_row : SM :=
  (sSeq (sDrop (eCall [(.t, (eX 0))] F_check_dig))
  (sRt (eCall [(.t, (eProp "Dig" (.n 0) (eN 0) F_Dig_units)), (.t, (eX 1))] F_has_row_form)))
noncomputable def F_is_row : List Slot → FOut := runF 2 [true, true] b_is_row
noncomputable def b_row_steps : SM :=
  (sSeq (sDrop (eCall [(.t, (eX 0))] F_check_dig))
  (sSeq (sIf (bNot (bV (.t) (eCall [(.t, (eProp "Dig" (.n 0) (eN 0) F_Dig_units)), (.t, (eX 1))] F_has_row_form))) sNo sNx)
  (sRt (eCall [(.t, (eX 1))] F_steps_of))))
noncomputable def F_row_steps : List Slot → FOut := runF 2 [true, true] b_row_steps
noncomputable def b_steps_in : SM :=
  (sRt (eB [(.t, (eLc [2, 3, 1] (iSeq (.t) (e1 (.t) (eCall [(.t, (eX 0))] F_step_table) (g1 siOp))) (tgT 2 (tgCons (tgT 2 (tgCons (tgN 2) (tgCons (tgN 3) tgNil))) (tgCons (tgN 1) tgNil))) tYesD (eB [(.t, (eX 2)), (.t, (eX 3)), (.t, (eX 1))] tupG)))] (gN1 tupleOp)))
noncomputable def F_steps_in : List Slot → FOut := runF 4 [true] b_steps_in
noncomputable def b_Dig_init : SM :=
  (sSeq (sIf (bNot (bV (.t) (eIsi2 (.n 1) (eN 1) "str"))) sNo sNx)
  (sSeq (sSet 2 (eMake "Reader" [] F_Reader_init))
  (sSeq (sFor (iEn (.t) (eFz (eM1 (.n 1) (.t) (eN 1) (eC (.str "\n")) splitOp))) (tgT 2 (tgCons (tgN 3) (tgCons (tgN 4) tgNil))) (sIf (bNot (bV (.t) (eMeth "Reader" "takes" (.n 2) (eN 2) [(.t, (eX 4))] F_Reader_takes))) sNo sNx))
  (sSeq (sSetF ["Dig"] 0 "own_text" (eX 1))
  (sAsg (tgT 2 (tgCons (tgF ["Dig"] 0 "own_units") (tgCons (tgF ["Dig"] 0 "own_rows") tgNil))) (eProp "Reader" (.n 2) (eN 2) F_Reader_found))))))
noncomputable def F_Dig_init : List Slot → FOut := fun ss => if iniS "Dig" ss then runF 5 [true, true] b_Dig_init ss else .no
noncomputable def b_steps : SM :=
  (sSeq (sDrop (eCall [(.t, (eX 0))] F_check_dig))
  (sRt (eCall [(.t, (eProp "Dig" (.n 0) (eN 0) F_Dig_rows))] F_steps_in)))
noncomputable def F_steps : List Slot → FOut := runF 1 [true] b_steps
noncomputable def b_Dig_more : SM :=
  (sSeq (sIf (bOr (bNot (bV (.t) (eIsi2 (.n 1) (eN 1) "tuple"))) (bNot (bV (.t) (eB [(.t, (eLc [3] (iSeq (.n 1) (eN 1)) (tgN 3) tYesD (eCall [(.f 0 "own_units", (eF ["Dig"] 0 "own_units")), (.t, (eX 3))] F_has_row_form)))] (gN1 allOp))))) sNo sNx)
  (sSeq (sSet 2 (e2 (.f 0 "own_rows") (.n 1) (eF ["Dig"] 0 "own_rows") (eN 1) (g2 addOp)))
  (sSeq (sIf (bOr (bV .t (e2 (.t) (.t) (e1 (.n 2) (eN 2) (g1 lsTOp)) (eB [(.n 2, (eN 2))] (gN1 lenOp)) (g2 neOp))) (bV .t (e2 (.t) (.t) (eB [(.n 2, (eN 2))] (gN1 lenOp)) (eC (.int 200)) (g2 gtOp)))) sNo sNx)
  (sRt (eMake "Dig" [(.t, (eM1 (.t) (.t) (eC (.str "\n")) (e2 (.t) (.t) (eB [(.t, (eFX ["Dig"] 0 "own_text"))] lstG) (eLc [3] (iSeq (.n 1) (eN 1)) (tgN 3) tYesD (eCall [(.t, (eX 3))] F_row_line)) (g2 addOp)) joinOp))] F_Dig_init)))))
noncomputable def F_Dig_more : List Slot → FOut := fun ss => if entS "Dig" ss then runF 4 [true, true] b_Dig_more ss else .no
noncomputable def b_Dig_without : SM :=
  (sSeq (sIf (bNot (bV (.t) (eCall [(.t, (eX 1)), (.t, (eC (.int 0))), (.t, (e2 (.t) (.t) (eB [(.f 0 "own_rows", (eF ["Dig"] 0 "own_rows"))] (gN1 lenOp)) (eC (.int 1)) (g2 subOp)))] F_is_between))) sNo sNx)
  (sSeq (sSet 2 (e2 (.t) (.t) (eSl (.f 0 "own_rows") (eF ["Dig"] 0 "own_rows") pN (pS (.n 1) (eN 1))) (eSl (.f 0 "own_rows") (eF ["Dig"] 0 "own_rows") (pS (.t) (e2 (.n 1) (.t) (eN 1) (eC (.int 1)) (g2 addOp))) pN) (g2 addOp)))
  (sRt (eMake "Dig" [(.t, (eM1 (.t) (.t) (eC (.str "\n")) (e2 (.t) (.t) (eLc [3] (iSeq (.f 0 "own_units") (eF ["Dig"] 0 "own_units")) (tgN 3) tYesD (e2 (.t) (.n 3) (e2 (.t) (.t) (eC (.str "unit")) (eC (.str " ")) (g2 addOp)) (eN 3) (g2 addOp))) (eLc [4] (iSeq (.n 2) (eN 2)) (tgN 4) tYesD (eCall [(.t, (eX 4))] F_row_line)) (g2 addOp)) joinOp))] F_Dig_init))))
noncomputable def F_Dig_without : List Slot → FOut := fun ss => if entS "Dig" ss then runF 5 [true, true] b_Dig_without ss else .no

end Pg
end
section
set_option maxHeartbeats 4000000
namespace Pg
open PySem L2 Dl
noncomputable def b__wall : SM :=
  (sWhile (bV (.t) (eC (.bool true))) sNx)
noncomputable def F__wall : List Slot → FOut := runF 1 [true] b__wall
noncomputable def b_Years_go : SM :=
  (sSeq (sSet 1 (eC .none))
  (sSeq (sFor (iSeq (.t) (eFX ["Years"] 0 "own_rows")) (tgT 3 (tgCons (tgN 2) (tgCons (tgN 3) (tgCons (tgN 4) tgNil)))) (sIf (bAnd (bV .t (e2 (.n 2) (.f 0 "own_far") (eN 2) (eF ["Years"] 0 "own_far") (g2 (inOpD false)))) (bV .t (e2 (.t) (.t) (e2 (.t) (.n 4) (e2 (.f 0 "own_far") (.n 2) (eF ["Years"] 0 "own_far") (eN 2) (g2 ixOp)) (eN 4) (g2 addOp)) (eGet (.f 0 "own_far") (.n 3) (eF ["Years"] 0 "own_far") (eN 3) (e2 (.t) (.t) (e2 (.t) (.n 4) (e2 (.f 0 "own_far") (.n 2) (eF ["Years"] 0 "own_far") (eN 2) (g2 ixOp)) (eN 4) (g2 addOp)) (eC (.int 1)) (g2 subOp))) (g2 gtOp)))) (sSeq (sStoF ["Years"] 0 "own_far" (e2 (.t) (.n 4) (e2 (.f 0 "own_far") (.n 2) (eF ["Years"] 0 "own_far") (eN 2) (g2 ixOp)) (eN 4) (g2 addOp)) (eX 3))
  (sSeq (sStoF ["Years"] 0 "own_ahead" (eX 2) (eX 3))
  (sSet 1 (eX 3)))) sNx))
  (sRt (eM 1))))
noncomputable def F_Years_go : List Slot → FOut := fun ss => if entS "Years" ss then runF 5 [true] b_Years_go ss else .no
noncomputable def b_Years_ring : SM :=
  (sSeq (sIf (bV .t (e2 (.f 0 "own_last") (.t) (eF ["Years"] 0 "own_last") (eC .none) (g2 (isOp false)))) (sRt (eC .none)) sNx)
  (sSeq (sSet 1 (eFX ["Years"] 0 "own_last"))
  (sSeq (sFor (iSeq (.t) (eFX ["Years"] 0 "own_units")) (tgN 2) (sSet 1 (e2 (.f 0 "own_ahead") (.n 1) (eF ["Years"] 0 "own_ahead") (eN 1) (g2 ixOp))))
  (sSeq (sSet 3 (eB [(.t, (eX 1))] lstG))
  (sSeq (sWhile (bV .t (e2 (.t) (.n 1) (e2 (.f 0 "own_ahead") (.t) (eF ["Years"] 0 "own_ahead") (e2 (.n 3) (.t) (eN 3) (e1 (.t) (eC (.int 1)) (g1 negOp)) (g2 ixOp)) (g2 ixOp)) (eN 1) (g2 neOp))) (sDrop (eApp 3 (e2 (.f 0 "own_ahead") (.t) (eF ["Years"] 0 "own_ahead") (e2 (.n 3) (.t) (eN 3) (e1 (.t) (eC (.int 1)) (g1 negOp)) (g2 ixOp)) (g2 ixOp)))))
  (sRt (eB [(.t, (e1 (.n 3) (eN 3) (g1 revOp)))] (gN1 tupleOp))))))))
noncomputable def F_Years_ring : List Slot → FOut := fun ss => if entS "Years" ss then runF 4 [true] b_Years_ring ss else .no
noncomputable def b_Years_far : SM :=
  (sRt (eFX ["Years"] 0 "own_far"))
noncomputable def F_Years_far : List Slot → FOut := fun ss => if entS "Years" ss then runF 1 [true] b_Years_far ss else .no
noncomputable def b_Years_chain : SM :=
  (sSeq (sSet 2 (eB [(.t, (eX 1))] lstG))
  (sSeq (sWhile (bV .t (e2 (.t) (.f 0 "own_ahead") (e2 (.n 2) (.t) (eN 2) (e1 (.t) (eC (.int 1)) (g1 negOp)) (g2 ixOp)) (eF ["Years"] 0 "own_ahead") (g2 (inOpD false)))) (sDrop (eApp 2 (e2 (.f 0 "own_ahead") (.t) (eF ["Years"] 0 "own_ahead") (e2 (.n 2) (.t) (eN 2) (e1 (.t) (eC (.int 1)) (g1 negOp)) (g2 ixOp)) (g2 ixOp)))))
  (sRt (eB [(.t, (e1 (.n 2) (eN 2) (g1 revOp)))] (gN1 tupleOp)))))
noncomputable def F_Years_chain : List Slot → FOut := fun ss => if entS "Years" ss then runF 3 [true, true] b_Years_chain ss else .no
noncomputable def b_Years_init : SM :=
  (sSeq (sSetF ["Years"] 0 "own_units" (eX 1))
  (sSeq (sSetF ["Years"] 0 "own_rows" (eLc [5, 6] (iSeq (.t) (eB [(.n 2, (eN 2))] (gN1 sortedOp2))) (tgT 2 (tgCons (tgN 5) (tgCons (tgN 6) tgNil))) tYesD (eB [(.t, (eX 5)), (.t, (eX 6)), (.t, (e2 (.n 2) (.t) (eN 2) (eB [(.t, (eX 5)), (.t, (eX 6))] tupG) (g2 ixOp)))] tupG)))
  (sSeq (sSetF ["Years"] 0 "own_far" (eB [(.t, (eLc [7] (iSeq (.n 3) (eN 3)) (tgN 7) tYesD (eB [(.t, (eX 7)), (.t, (eC (.int 0)))] tupG)))] (gN1 dpkOp)))
  (sSeq (sSetF ["Years"] 0 "own_ahead" (eDct false))
  (sSeq (sSetF ["Years"] 0 "own_last" (eC .none))
  (sFor (iRg (eB [(.n 1, (eN 1))] (gN1 lenOp))) (tgN 4) (sSeq (sSetF ["Years"] 0 "own_last" (eMeth "Years" "go" (.n 0) (eN 0) [] F_Years_go))
  (sIf (bV .t (e2 (.t) (.t) (eFX ["Years"] 0 "own_last") (eC .none) (g2 (isOp false)))) sBk sNx))))))))
noncomputable def F_Years_init : List Slot → FOut := fun ss => if iniS "Years" ss then runF 8 [true, true, true, true] b_Years_init ss else .no
noncomputable def b_check_unit : SM :=
  (sIf (bOr (bNot (bV (.t) (eIsi2 (.n 1) (eN 1) "str"))) (bV .t (e2 (.n 1) (.t) (eN 1) (eProp "Dig" (.n 0) (eN 0) F_Dig_units) (g2 (inOpD true))))) sNo sNx)
noncomputable def F_check_unit : List Slot → FOut := runF 2 [true, true] b_check_unit
noncomputable def b_are_units : SM :=
  (sSeq (sIf (bOr (bNot (bV (.t) (eIsi2 (.n 1) (eN 1) "tuple"))) (bNot (bV (.t) (eB [(.t, (eLc [2] (iSeq (.n 1) (eN 1)) (tgN 2) tYesD (eAnd (.t) (eIsi2 (.n 2) (eN 2) "str") (e2 (.n 2) (.t) (eN 2) (eProp "Dig" (.n 0) (eN 0) F_Dig_units) (g2 (inOpD false))))))] (gN1 allOp))))) (sRt (eC (.bool false))) sNx)
  (sRt (e2 (.t) (.t) (e1 (.n 1) (eN 1) (g1 lsOp)) (eB [(.n 1, (eN 1))] (gN1 lenOp)) (g2 eqOp))))
noncomputable def F_are_units : List Slot → FOut := runF 3 [true, true] b_are_units
noncomputable def b_ring_of : SM :=
  (sRt (eProp "Years" (.t) (eMake "Years" [(.t, (eProp "Dig" (.n 0) (eN 0) F_Dig_units)), (.t, (eCall [(.t, (eProp "Dig" (.n 0) (eN 0) F_Dig_rows))] F_step_table)), (.t, (eProp "Dig" (.n 0) (eN 0) F_Dig_units))] F_Years_init) F_Years_ring))
noncomputable def F_ring_of : List Slot → FOut := runF 1 [true] b_ring_of
noncomputable def b_length : SM :=
  (sSeq (sSet 2 (eCall [(.t, (eProp "Dig" (.n 0) (eN 0) F_Dig_rows))] F_step_table))
  (sSeq (sSet 3 (eB [(.n 1, (eN 1)), (.t, (eSl (.n 1) (eN 1) (pS (.t) (eC (.int 1))) pN))] (gN2 lzOp)))
  (sSeq (sIf (bNot (bV (.t) (eB [(.t, (eLc [4] (iSeq (.n 3) (eN 3)) (tgN 4) tYesD (e2 (.n 4) (.n 2) (eN 4) (eN 2) (g2 (inOpD false)))))] (gN1 allOp)))) (sRt (eC .none)) sNx)
  (sRt (eB [(.t, (eLc [4] (iSeq (.n 3) (eN 3)) (tgN 4) tYesD (e2 (.n 2) (.n 4) (eN 2) (eN 4) (g2 ixOp))))] (gN1 sumOp))))))
noncomputable def F_length : List Slot → FOut := runF 5 [true, true] b_length
noncomputable def b_is_laying : SM :=
  (sSeq (sIf (bOr (bNot (bV (.t) (eIsi2 (.n 1) (eN 1) "tuple"))) (bOr (bV .t (e2 (.t) (.t) (eB [(.n 1, (eN 1))] (gN1 lenOp)) (eB [(.t, (eProp "Dig" (.n 0) (eN 0) F_Dig_units))] (gN1 lenOp)) (g2 neOp))) (bNot (bV (.t) (eB [(.t, (eLc [6] (iSeq (.n 1) (eN 1)) (tgN 6) tYesD (eCall [(.t, (eX 6))] F_is_integer)))] (gN1 allOp)))))) (sRt (eC (.bool false))) sNx)
  (sSeq (sSet 2 (eB [(.t, (eProp "Dig" (.n 0) (eN 0) F_Dig_units)), (.n 1, (eN 1))] (gN2 dzkOp)))
  (sSeq (sSet 3 (eCall [(.t, (eProp "Dig" (.n 0) (eN 0) F_Dig_rows))] F_step_table))
  (sRt (eB [(.t, (eLcD [4, 5] 3 (tgT 2 (tgCons (tgN 4) (tgCons (tgN 5) tgNil))) tYesD (e2 (.t) (.t) (e2 (.n 2) (.n 5) (eN 2) (eN 5) (g2 ixOp)) (e2 (.t) (.t) (e2 (.n 2) (.n 4) (eN 2) (eN 4) (g2 ixOp)) (e2 (.n 3) (.t) (eN 3) (eB [(.t, (eX 4)), (.t, (eX 5))] tupG) (g2 ixOp)) (g2 addOp)) (g2 geOp))))] (gN1 allOp))))))
noncomputable def F_is_laying : List Slot → FOut := runF 7 [true, true] b_is_laying
noncomputable def b_years_from : SM :=
  (sSeq (sSet 3 (eCall [(.t, (eProp "Dig" (.n 0) (eN 0) F_Dig_rows))] F_step_table))
  (sSeq (sSet 4 (eB [(.t, (e2 (.t) (.t) (eB [(.t, (eC (.int 0)))] lstG) (eLcS [9] (eX 2) (tgN 9) tYesD (e2 (.n 2) (.n 9) (eN 2) (eN 9) (g2 ixOp))) (g2 addOp)))] (gN1 min1Op)))
  (sSeq (sSet 5 (eB [(.t, (eLcS [8] (eX 3) (tgN 8) tYesD (e2 (.t) (.t) (eB [(.t, (eC (.int 0))), (.t, (e2 (.n 3) (.n 8) (eN 3) (eN 8) (g2 ixOp)))] (gN2 max2Op)) (eB [(.t, (eC (.int 0))), (.t, (e2 (.n 3) (.n 8) (eN 3) (eN 8) (g2 ixOp)))] (gN2 min2Op)) (g2 subOp))))] (gN1 sumOp)))
  (sSeq (sSet 6 (eProp "Years" (.t) (eMake "Years" [(.t, (eProp "Dig" (.n 0) (eN 0) F_Dig_units)), (.t, (eX 3)), (.t, (eProp "Dig" (.n 0) (eN 0) F_Dig_units))] F_Years_init) F_Years_far))
  (sSeq (sSet 7 (e2 (.t) (.t) (e2 (.t) (.n 4) (e2 (.t) (.n 5) (eB [(.t, (eLc [9] (iSeq (.t) (eProp "Dig" (.n 0) (eN 0) F_Dig_units)) (tgN 9) tYesD (e2 (.n 6) (.n 9) (eN 6) (eN 9) (g2 ixOp))))] (gN1 max1Op)) (eN 5) (g2 addOp)) (eN 4) (g2 subOp)) (eC (.int 1)) (g2 addOp)))
  (sRt (eB [(.t, (eLc [9] (iSeq (.t) (eProp "Dig" (.n 0) (eN 0) F_Dig_units)) (tgN 9) tYesD (eIf (bV .t (e2 (.n 9) (.n 2) (eN 9) (eN 2) (g2 (inOpD false)))) (e2 (.n 2) (.n 9) (eN 2) (eN 9) (g2 ixOp)) (e2 (.t) (.n 7) (e2 (.n 6) (.n 9) (eN 6) (eN 9) (g2 ixOp)) (eN 7) (g2 subOp)))))] (gN1 tupleOp))))))))
noncomputable def F_years_from : List Slot → FOut := runF 10 [true, true, true] b_years_from
noncomputable def b_is_free_lot : SM :=
  (sSeq (sIf (bOr (bNot (bV (.t) (eCall [(.t, (eX 0)), (.t, (eX 3))] F_are_units))) (bOr (bV .t (e2 (.n 1) (.n 3) (eN 1) (eN 3) (g2 (inOpD true)))) (bV .t (e2 (.n 2) (.n 3) (eN 2) (eN 3) (g2 (inOpD false)))))) (sRt (eC (.bool false))) sNx)
  (sSeq (sIf (bV .t (e2 (.n 3) (.t) (eN 3) (eB [(.t, (eLc [5] (iSeq (.t) (eProp "Dig" (.n 0) (eN 0) F_Dig_units)) (tgN 5) (bV .t (e2 (.n 5) (.n 3) (eN 5) (eN 3) (g2 (inOpD false)))) (eX 5)))] (gN1 tupleOp)) (g2 neOp))) (sRt (eC (.bool false))) sNx)
  (sRt (eB [(.t, (eLcS [4] (eFz (eCall [(.t, (eProp "Dig" (.n 0) (eN 0) F_Dig_rows))] F_step_table)) (tgN 4) (bV .t (e2 (.t) (.n 3) (e2 (.n 4) (.t) (eN 4) (eC (.int 0)) (g2 ixOp)) (eN 3) (g2 (inOpD false)))) (e2 (.t) (.n 3) (e2 (.n 4) (.t) (eN 4) (eC (.int 1)) (g2 ixOp)) (eN 3) (g2 (inOpD false)))))] (gN1 allOp)))))
noncomputable def F_is_free_lot : List Slot → FOut := runF 6 [true, true, true, true] b_is_free_lot
noncomputable def b_far_from : SM :=
  (sRt (eProp "Years" (.t) (eMake "Years" [(.t, (eProp "Dig" (.n 0) (eN 0) F_Dig_units)), (.t, (eCall [(.t, (eProp "Dig" (.n 0) (eN 0) F_Dig_rows))] F_step_table)), (.t, (eB [(.t, (eX 1))] tupG))] F_Years_init) F_Years_far))
noncomputable def F_far_from : List Slot → FOut := runF 2 [true, true] b_far_from
noncomputable def b_check_grown : SM :=
  (sSeq (sSet 1 (eCall [(.t, (eX 0))] F_ring_of))
  (sIf (bV .t (e2 (.n 1) (.t) (eN 1) (eC .none) (g2 (isOp true)))) sNo sNx))
noncomputable def F_check_grown : List Slot → FOut := runF 2 [true] b_check_grown
noncomputable def b_later_of : SM :=
  (sSeq (sSet 3 (eMake "Years" [(.t, (eProp "Dig" (.n 0) (eN 0) F_Dig_units)), (.t, (eCall [(.t, (eProp "Dig" (.n 0) (eN 0) F_Dig_rows))] F_step_table)), (.t, (eB [(.t, (eX 1))] tupG))] F_Years_init))
  (sSeq (sIf (bV .t (e2 (.n 2) (.t) (eN 2) (eProp "Years" (.n 3) (eN 3) F_Years_far) (g2 (inOpD true)))) (sRt (eB [(.t, (eC (.str "free"))), (.t, (eB [(.t, (eLc [4] (iSeq (.t) (eProp "Dig" (.n 0) (eN 0) F_Dig_units)) (tgN 4) (bV .t (e2 (.n 4) (.t) (eN 4) (eProp "Years" (.n 3) (eN 3) F_Years_far) (g2 (inOpD false)))) (eX 4)))] (gN1 tupleOp)))] tupG)) sNx)
  (sRt (eB [(.t, (eC (.str "later"))), (.t, (e2 (.t) (.n 2) (eProp "Years" (.n 3) (eN 3) F_Years_far) (eN 2) (g2 ixOp))), (.t, (eFz (eMeth "Years" "chain" (.n 3) (eN 3) [(.t, (eX 2))] F_Years_chain))), (.t, (eFz (eCall [(.t, (eX 0)), (.t, (eX 1)), (.t, (eProp "Years" (.n 3) (eN 3) F_Years_far))] F_years_from)))] tupG))))
noncomputable def F_later_of : List Slot → FOut := runF 5 [true, true, true] b_later_of
noncomputable def b_is_chain : SM :=
  (sSeq (sIf (bOr (bNot (bV (.t) (eCall [(.t, (eX 0)), (.t, (eX 3))] F_are_units))) (bOr (bV .t (e2 (.n 3) (.t) (eN 3) (eB [] tupG) (g2 eqOp))) (bOr (bV .t (e2 (.t) (.n 1) (e2 (.n 3) (.t) (eN 3) (eC (.int 0)) (g2 ixOp)) (eN 1) (g2 neOp))) (bV .t (e2 (.t) (.n 2) (e2 (.n 3) (.t) (eN 3) (e1 (.t) (eC (.int 1)) (g1 negOp)) (g2 ixOp)) (eN 2) (g2 neOp)))))) (sRt (eC (.bool false))) sNx)
  (sRt (e2 (.t) (.t) (eCall [(.t, (eX 0)), (.t, (eX 3))] F_length) (eC .none) (g2 (isOp true)))))
noncomputable def F_is_chain : List Slot → FOut := runF 4 [true, true, true, true] b_is_chain
noncomputable def b_check_pair : SM :=
  (sSeq (sDrop (eCall [(.t, (eX 0))] F_check_dig))
  (sSeq (sDrop (eCall [(.t, (eX 0)), (.t, (eX 1))] F_check_unit))
  (sSeq (sDrop (eCall [(.t, (eX 0)), (.t, (eX 2))] F_check_unit))
  (sDrop (eCall [(.t, (eX 0))] F_check_grown)))))
noncomputable def F_check_pair : List Slot → FOut := runF 3 [true, true, true] b_check_pair
noncomputable def b_later : SM :=
  (sSeq (sDrop (eCall [(.t, (eX 0)), (.t, (eX 1)), (.t, (eX 2))] F_check_pair))
  (sRt (eCall [(.t, (eX 0)), (.t, (eX 1)), (.t, (eX 2))] F_later_of)))
noncomputable def F_later : List Slot → FOut := runF 3 [true, true, true] b_later
noncomputable def b_shows_later : SM :=
  (sSeq (sDrop (eCall [(.t, (eX 0)), (.t, (eX 1)), (.t, (eX 2))] F_check_pair))
  (sSeq (sIf (bOr (bNot (bV (.t) (eIsi2 (.n 3) (eN 3) "tuple"))) (bOr (bV .t (e2 (.t) (.t) (eB [(.n 3, (eN 3))] (gN1 lenOp)) (eB [(.t, (eC (.int 2))), (.t, (eC (.int 4)))] tupG) (g2 (inOpD true)))) (bNot (bV (.t) (eIsi2 (.t) (e2 (.n 3) (.t) (eN 3) (eC (.int 0)) (g2 ixOp)) "str"))))) (sRt (eC (.bool false))) sNx)
  (sSeq (sIf (bAnd (bV .t (e2 (.t) (.t) (e2 (.n 3) (.t) (eN 3) (eC (.int 0)) (g2 ixOp)) (eC (.str "free")) (g2 eqOp))) (bV .t (e2 (.t) (.t) (eB [(.n 3, (eN 3))] (gN1 lenOp)) (eC (.int 2)) (g2 eqOp)))) (sRt (eCall [(.t, (eX 0)), (.t, (eX 1)), (.t, (eX 2)), (.t, (e2 (.n 3) (.t) (eN 3) (eC (.int 1)) (g2 ixOp)))] F_is_free_lot)) sNx)
  (sSeq (sIf (bOr (bV .t (e2 (.t) (.t) (e2 (.n 3) (.t) (eN 3) (eC (.int 0)) (g2 ixOp)) (eC (.str "later")) (g2 neOp))) (bOr (bV .t (e2 (.t) (.t) (eB [(.n 3, (eN 3))] (gN1 lenOp)) (eC (.int 4)) (g2 neOp))) (bOr (bNot (bV (.t) (eCall [(.t, (e2 (.n 3) (.t) (eN 3) (eC (.int 1)) (g2 ixOp)))] F_is_integer))) (bNot (bV (.t) (eCall [(.t, (eX 0)), (.t, (eX 1)), (.t, (eX 2)), (.t, (e2 (.n 3) (.t) (eN 3) (eC (.int 2)) (g2 ixOp)))] F_is_chain)))))) (sRt (eC (.bool false))) sNx)
  (sSeq (sIf (bOr (bV .t (e2 (.t) (.t) (eCall [(.t, (eX 0)), (.t, (e2 (.n 3) (.t) (eN 3) (eC (.int 2)) (g2 ixOp)))] F_length) (e2 (.n 3) (.t) (eN 3) (eC (.int 1)) (g2 ixOp)) (g2 neOp))) (bNot (bV (.t) (eCall [(.t, (eX 0)), (.t, (e2 (.n 3) (.t) (eN 3) (eC (.int 3)) (g2 ixOp)))] F_is_laying)))) (sRt (eC (.bool false))) sNx)
  (sSeq (sSet 4 (eB [(.t, (eProp "Dig" (.n 0) (eN 0) F_Dig_units)), (.t, (e2 (.n 3) (.t) (eN 3) (eC (.int 3)) (g2 ixOp)))] (gN2 dzkOp)))
  (sRt (e2 (.t) (.t) (e2 (.t) (.t) (e2 (.n 4) (.n 2) (eN 4) (eN 2) (g2 ixOp)) (e2 (.n 4) (.n 1) (eN 4) (eN 1) (g2 ixOp)) (g2 subOp)) (e2 (.n 3) (.t) (eN 3) (eC (.int 1)) (g2 ixOp)) (g2 eqOp)))))))))
noncomputable def F_shows_later : List Slot → FOut := runF 5 [true, true, true, true] b_shows_later
noncomputable def b_spread : SM :=
  (sSeq (sDrop (eCall [(.t, (eX 0)), (.t, (eX 1)), (.t, (eX 2))] F_check_pair))
  (sSeq (sPar [3, 4] [(.t, (eGet1 (.t) (.n 2) (eCall [(.t, (eX 0)), (.t, (eX 1))] F_far_from) (eN 2))), (.t, (eGet1 (.t) (.n 1) (eCall [(.t, (eX 0)), (.t, (eX 2))] F_far_from) (eN 1)))])
  (sRt (eB [(.t, (eX 3)), (.t, (eIf (bV .t (e2 (.n 4) (.t) (eN 4) (eC .none) (g2 (isOp false)))) (eC .none) (e2 (.t) (.n 4) (eC (.int 0)) (eN 4) (g2 subOp))))] tupG))))
noncomputable def F_spread : List Slot → FOut := runF 5 [true, true, true] b_spread

end Pg
end
section
set_option maxHeartbeats 4000000
namespace Pg
open PySem L2 Dl
noncomputable def b__law_pot : SM :=
  (sSeq (sSet 2 (eIf (bV .t (e2 (.n 1) (.t) (eN 1) (eB [(.n 0, (eN 0))] (gN1 lenOp)) (g2 ltOp))) (e2 (.n 0) (.n 1) (eN 0) (eN 1) (g2 ixOp)) (e2 (.t) (.t) (e2 (.t) (.n 1) (eC (.int 397)) (eN 1) (g2 mulOp)) (eC (.int 263)) (g2 addOp))))
  (sSeq (sSet 3 (e2 (.t) (.t) (e2 (.t) (.t) (eB [(.t, (eB [(.n 2, (eN 2))] (gN1 absOp)))] (gN1 intOf)) (e2 (.t) (.t) (e2 (.t) (.t) (eC (.int 10)) (eC (.int 60)) (g2 powOp)) (eC (.int 5)) (g2 powOp)) (g2 modOp)) (eB [(.t, (e2 (.t) (.t) (eB [(.n 2, (eN 2))] (gN1 absOp)) (e2 (.t) (.t) (eC (.int 10)) (eC (.int 18)) (g2 powOp)) (g2 geOp)))] (gN1 intOf)) (g2 mulOp)))
  (sSeq (sSet 4 (e2 (.t) (.t) (eB [(.n 2, (eN 2))] (gN1 intOf)) (eC (.int 2305843009213693951)) (g2 modOp)))
  (sRt (eB [(.t, (eX 3)), (.t, (e2 (.t) (.t) (eB [(.t, (e2 (.t) (.t) (e2 (.t) (.t) (e2 (.n 4) (.t) (eN 4) (eC (.int 69997)) (g2 mulOp)) (e2 (.t) (.n 1) (e2 (.t) (.n 1) (eC (.int 9029)) (eN 1) (g2 mulOp)) (eN 1) (g2 mulOp)) (g2 addOp)) (eC (.int 733)) (g2 addOp)))] (gN1 intOf)) (eC (.int 2305843009213693921)) (g2 modOp))), (.t, (eC (.int 0)))] lstG)))))
noncomputable def F__law_pot : List Slot → FOut := runF 5 [true, true] b__law_pot
noncomputable def b__law_take : SM :=
  (sSeq (sIf (bV .t (e2 (.t) (.t) (e2 (.n 0) (.t) (eN 0) (eC (.int 0)) (g2 ixOp)) (eC (.int 0)) (g2 gtOp))) (sSeq (sSet 4 (e2 (.t) (.n 1) (eB [(.t, (e2 (.n 0) (.t) (eN 0) (eC (.int 0)) (g2 ixOp)))] (gN1 intOf)) (eN 1) (g2 modOp)))
  (sSeq (sSto 0 (e2 (.t) (.n 1) (e2 (.n 0) (.t) (eN 0) (eC (.int 0)) (g2 ixOp)) (eN 1) (g2 fdivOp)) (eC (.int 0)))
  (sRt (eM 4)))) sNx)
  (sSeq (sSto 0 (e2 (.t) (.t) (e2 (.n 0) (.t) (eN 0) (eC (.int 2)) (g2 ixOp)) (eC (.int 1)) (g2 addOp)) (eC (.int 2)))
  (sSeq (sSet 2 (e2 (.t) (.t) (eB [(.t, (eC (.int 2147483647))), (.t, (eC (.int 2147483629))), (.t, (eC (.int 2147483587))), (.t, (eC (.int 2147483579))), (.t, (eC (.int 2147483563)))] lstG) (e2 (.t) (.t) (eB [(.t, (e2 (.n 0) (.t) (eN 0) (eC (.int 2)) (g2 ixOp)))] (gN1 intOf)) (eC (.int 5)) (g2 modOp)) (g2 ixOp)))
  (sSeq (sSet 3 (e2 (.t) (.n 2) (eB [(.t, (e2 (.t) (.t) (eB [(.t, (e2 (.t) (.t) (e2 (.t) (.t) (e2 (.n 0) (.t) (eN 0) (eC (.int 1)) (g2 ixOp)) (e2 (.t) (.t) (e2 (.t) (.t) (eC (.int 90017)) (e2 (.n 0) (.t) (eN 0) (eC (.int 2)) (g2 ixOp)) (g2 mulOp)) (e2 (.n 0) (.t) (eN 0) (eC (.int 2)) (g2 ixOp)) (g2 mulOp)) (g2 addOp)) (eC (.int 107)) (g2 addOp)))] (gN1 intOf)) (eC (.int 3)) (g2 powOp)))] (gN1 intOf)) (eN 2) (g2 modOp)))
  (sSeq (sSet 3 (e2 (.t) (.t) (eB [(.t, (e2 (.n 3) (.t) (eN 3) (e2 (.t) (.t) (e2 (.t) (.t) (eB [(.n 3, (eN 3))] (gN1 intOf)) (eC (.int 10099)) (g2 modOp)) (e2 (.t) (.t) (eC (.int 211)) (e2 (.n 0) (.t) (eN 0) (eC (.int 2)) (g2 ixOp)) (g2 mulOp)) (g2 addOp)) (g2 mulOp)))] (gN1 intOf)) (eC (.int 2305843009213693907)) (g2 modOp)))
  (sRt (e2 (.t) (.n 1) (eB [(.t, (e2 (.n 3) (.t) (eN 3) (eC (.int 191)) (g2 fdivOp)))] (gN1 intOf)) (eN 1) (g2 modOp))))))))
noncomputable def F__law_take : List Slot → FOut := runF 5 [true, true] b__law_take
noncomputable def b__law_cells : SM :=
  (sRt (e1 (.t) (eB [(.t, (eC (.int 1))), (.t, (eB [(.n 1, (eN 1)), (.t, (eB [(.n 0, (eN 0))] (gN1 lenOp)))] (gN2 min2Op)))] (gN2 max2Op)) (g1 lrOp)))
noncomputable def F__law_cells : List Slot → FOut := runF 2 [true, true] b__law_cells
noncomputable def b__law_text : SM :=
  (sSeq (sSet 1 (eLc [2] (iSeq (.t) (e2 (.n 0) (.t) (eN 0) (eC (.str "units")) (g2 ixOp))) (tgN 2) tYesD (e2 (.t) (.n 2) (eC (.str "unit ")) (eN 2) (g2 addOp))))
  (sRt (eM1 (.t) (.t) (eC (.str "\n")) (e2 (.n 1) (.t) (eN 1) (eLc [3] (iSeq (.t) (e2 (.n 0) (.t) (eN 0) (eC (.str "rows")) (g2 ixOp))) (tgN 3) tYesD (eM1 (.t) (.t) (eC (.str " ")) (eLc [4] (iSeq (.n 3) (eN 3)) (tgN 4) tYesD (eB [(.n 4, (eN 4))] (gN1 strOp))) joinOp)) (g2 addOp)) joinOp)))
noncomputable def F__law_text : List Slot → FOut := runF 5 [true] b__law_text
noncomputable def b__law_is_whole : SM :=
  (sRt (eAnd (.t) (eIsi2 (.n 0) (eN 0) "int") (eNot (.t) (eIsi2 (.n 0) (eN 0) "bool"))))
noncomputable def F__law_is_whole : List Slot → FOut := runF 1 [true] b__law_is_whole
noncomputable def b__law_of : SM :=
  (sRt (e2 (.n 1) (.t) (eN 1) (eCall [(.n 0, (eN 0)), (.t, (eB [(.n 1, (eN 1))] (gN1 lenOp)))] F__law_take) (g2 ixOp)))
noncomputable def F__law_of : List Slot → FOut := runF 2 [true, true] b__law_of
noncomputable def b__law_some : SM :=
  (sSeq (sPar [4, 5] [(.t, (eB [(.n 1, (eN 1))] (gN1 listOp))), (.t, (eB [] lstG))])
  (sSeq (sFor (iRg (eX 2)) (tgN 3) (sDrop (eApp 5 (ePop 4 (eCall [(.n 0, (eN 0)), (.t, (eB [(.n 4, (eN 4))] (gN1 lenOp)))] F__law_take)))))
  (sRt (eM 5))))
noncomputable def F__law_some : List Slot → FOut := runF 6 [true, true, true] b__law_some
noncomputable def b__law_row_steps : SM :=
  (sSeq (sIf (bV .t (e2 (.t) (.t) (e2 (.n 0) (.t) (eN 0) (eC (.int 0)) (g2 ixOp)) (eC (.str "above")) (g2 eqOp))) (sRt (eB [(.t, (eB [(.t, (e2 (.n 0) (.t) (eN 0) (eC (.int 2)) (g2 ixOp))), (.t, (e2 (.n 0) (.t) (eN 0) (eC (.int 1)) (g2 ixOp))), (.t, (eC (.int 1)))] tupG))] tupG)) sNx)
  (sSeq (sIf (bV .t (e2 (.t) (.t) (e2 (.n 0) (.t) (eN 0) (eC (.int 0)) (g2 ixOp)) (eC (.str "same")) (g2 eqOp))) (sRt (eB [(.t, (eB [(.t, (e2 (.n 0) (.t) (eN 0) (eC (.int 1)) (g2 ixOp))), (.t, (e2 (.n 0) (.t) (eN 0) (eC (.int 2)) (g2 ixOp))), (.t, (eC (.int 0)))] tupG)), (.t, (eB [(.t, (e2 (.n 0) (.t) (eN 0) (eC (.int 2)) (g2 ixOp))), (.t, (e2 (.n 0) (.t) (eN 0) (eC (.int 1)) (g2 ixOp))), (.t, (eC (.int 0)))] tupG))] tupG)) sNx)
  (sRt (eIf (bV .t (e2 (.t) (.t) (e2 (.n 0) (.t) (eN 0) (eC (.int 0)) (g2 ixOp)) (eC (.str "least")) (g2 eqOp))) (eB [(.t, (eB [(.t, (e2 (.n 0) (.t) (eN 0) (eC (.int 2)) (g2 ixOp))), (.t, (e2 (.n 0) (.t) (eN 0) (eC (.int 1)) (g2 ixOp))), (.t, (e2 (.n 0) (.t) (eN 0) (eC (.int 3)) (g2 ixOp)))] tupG))] tupG) (eB [(.t, (eB [(.t, (e2 (.n 0) (.t) (eN 0) (eC (.int 1)) (g2 ixOp))), (.t, (e2 (.n 0) (.t) (eN 0) (eC (.int 2)) (g2 ixOp))), (.t, (e2 (.t) (.t) (eC (.int 0)) (e2 (.n 0) (.t) (eN 0) (eC (.int 3)) (g2 ixOp)) (g2 subOp)))] tupG))] tupG)))))
noncomputable def F__law_row_steps : List Slot → FOut := runF 1 [true] b__law_row_steps
noncomputable def b__law_are_units : SM :=
  (sSeq (sIf (bOr (bNot (bV (.t) (eIsi2 (.n 1) (eN 1) "tuple"))) (bNot (bV (.t) (eB [(.t, (eLc [2] (iSeq (.n 1) (eN 1)) (tgN 2) tYesD (eAnd (.t) (eIsi2 (.n 2) (eN 2) "str") (e2 (.n 2) (.t) (eN 2) (e2 (.n 0) (.t) (eN 0) (eC (.str "units")) (g2 ixOp)) (g2 (inOpD false))))))] (gN1 allOp))))) (sRt (eC (.bool false))) sNx)
  (sRt (e2 (.t) (.t) (e1 (.n 1) (eN 1) (g1 lsOp)) (eB [(.n 1, (eN 1))] (gN1 lenOp)) (g2 eqOp))))
noncomputable def F__law_are_units : List Slot → FOut := runF 3 [true, true] b__law_are_units
noncomputable def b__law_odd : SM :=
  (sSeq (sSet 1 (eB [(.t, (eC .none)), (.t, (eC (.bool true))), (.t, (eC (.bool false))), (.t, (eC (.int 0))), (.t, (eC (.int 1))), (.t, (e1 (.t) (eC (.int 1)) (g1 negOp))), (.t, (eC (.int 2))), (.t, (eC (.int 9999))), (.t, (eC (.int 10000))), (.t, (eC (.str ""))), (.t, (eC (.str "a"))), (.t, (eC (.str "A"))), (.t, (eC (.str "unit"))), (.t, (eC (.str "above"))), (.t, (eB [] tupG)), (.t, (eFz (eB [] lstG))), (.t, (eFz (eDct false))), (.t, (eB [(.t, (eC (.int 0)))] tupG)), (.t, (eB [(.t, (eB [] tupG))] tupG)), (.t, (eFz (eB [(.t, (eC (.int 0)))] lstG)))] lstG))
  (sSeq (sDrop (eExt 1 (eB [(.t, (eB [(.t, (eC (.str "a")))] tupG)), (.t, (eB [(.t, (eC (.str "a"))), (.t, (eC (.str "b")))] tupG)), (.t, (eB [(.t, (eC (.int 1))), (.t, (eC (.int 2)))] tupG)), (.t, (eB [(.t, (eC .none))] tupG)), (.t, (eB [(.t, (eC (.str "above"))), (.t, (eC (.str "a"))), (.t, (eC (.str "b")))] tupG)), (.t, (e2 (.t) (.t) (eC (.int 10)) (eC (.int 11)) (g2 powOp)))] lstG)))
  (sRt (eCall [(.n 0, (eN 0)), (.t, (eX 1))] F__law_of))))
noncomputable def F__law_odd : List Slot → FOut := runF 2 [true] b__law_odd
noncomputable def b__law_names : SM :=
  (sSeq (sSet 2 (eB [(.t, (eC (.str "a"))), (.t, (eC (.str "b"))), (.t, (eC (.str "c"))), (.t, (eC (.str "floor"))), (.t, (eC (.str "pit"))), (.t, (eC (.str "wall1"))), (.t, (eC (.str "ash"))), (.t, (eC (.str "x9"))), (.t, (eC (.str "unit"))), (.t, (eC (.str "above"))), (.t, (eC (.str "same"))), (.t, (eC (.str "least"))), (.t, (eC (.str "most"))), (.t, (eC (.str "zzzzzzzz")))] lstG))
  (sRt (eCall [(.n 0, (eN 0)), (.t, (e2 (.n 2) (.t) (eN 2) (eLc [3] (iRg (eC (.int 30))) (tgN 3) tYesD (e2 (.t) (.t) (eC (.str "n")) (eB [(.n 3, (eN 3))] (gN1 strOp)) (g2 addOp))) (g2 addOp))), (.t, (eX 1))] F__law_some)))
noncomputable def F__law_names : List Slot → FOut := runF 4 [true, true] b__law_names
noncomputable def b__law_row : SM :=
  (sSeq (sAsg (tgU 2 (tgCons (tgN 4) (tgCons (tgN 5) tgNil))) (eCall [(.n 0, (eN 0)), (.t, (eX 1)), (.t, (eC (.int 2)))] F__law_some))
  (sSeq (sSet 3 (eCall [(.n 0, (eN 0)), (.t, (eB [(.t, (eC (.str "above"))), (.t, (eC (.str "above"))), (.t, (eC (.str "same"))), (.t, (eC (.str "least"))), (.t, (eC (.str "least"))), (.t, (eC (.str "most"))), (.t, (eC (.str "most")))] lstG))] F__law_of))
  (sSeq (sIf (bV .t (e2 (.n 3) (.t) (eN 3) (eB [(.t, (eC (.str "above"))), (.t, (eC (.str "same")))] tupG) (g2 (inOpD false)))) (sRt (eB [(.t, (eX 3)), (.t, (eX 4)), (.t, (eX 5))] tupG)) sNx)
  (sRt (eB [(.t, (eX 3)), (.t, (eX 4)), (.t, (eX 5)), (.t, (eB [(.t, (eCall [(.n 0, (eN 0)), (.t, (e2 (.n 2) (.t) (eN 2) (eC (.int 1)) (g2 addOp)))] F__law_take))] (gN1 intOf)))] tupG)))))
noncomputable def F__law_row : List Slot → FOut := runF 6 [true, true, true] b__law_row
noncomputable def b__law_table : SM :=
  (sSeq (sSet 1 (eDct true))
  (sSeq (sFor (iSeq (.t) (eX 0)) (tgN 2) (sFor (iSeq (.t) (eFz (eCall [(.t, (eX 2))] F__law_row_steps))) (tgT 3 (tgCons (tgN 3) (tgCons (tgN 4) (tgCons (tgN 5) tgNil)))) (sSto 1 (eB [(.n 5, (eN 5)), (.t, (eGet (.n 1) (.t) (eN 1) (eB [(.t, (eX 3)), (.t, (eX 4))] tupG) (eX 5)))] (gN2 max2Op)) (eB [(.t, (eX 3)), (.t, (eX 4))] tupG))))
  (sRt (eM 1))))
noncomputable def F__law_table : List Slot → FOut := runF 6 [true] b__law_table
noncomputable def b__law_dig : SM :=
  (sSeq (sPar [5, 6] [(.t, (eCall [(.n 0, (eN 0)), (.t, (eX 1))] F__law_names)), (.t, (eB [] lstG))])
  (sSeq (sFor (iRg (eIf (bV .t (e2 (.n 1) (.t) (eN 1) (eC (.int 1)) (g2 gtOp))) (eX 2) (eC (.int 0)))) (tgN 4) (sSeq (sSet 7 (eCall [(.n 0, (eN 0)), (.t, (eX 5)), (.t, (eX 3))] F__law_row))
  (sIf (bV .t (e2 (.n 7) (.n 6) (eN 7) (eN 6) (g2 (inOpD true)))) (sDrop (eApp 6 (eX 7))) sNx)))
  (sRt (eDisp [("units", (eX 5)), ("rows", (eX 6))]))))
noncomputable def F__law_dig : List Slot → FOut := runF 8 [true, true, true, true] b__law_dig
noncomputable def b__law_keeps : SM :=
  (sSeq (sPar [2, 3] [(.t, (eB [(.t, (e2 (.n 0) (.t) (eN 0) (eC (.str "units")) (g2 ixOp))), (.n 1, (eN 1))] (gN2 dzkOp))), (.t, (eCall [(.t, (e2 (.n 0) (.t) (eN 0) (eC (.str "rows")) (g2 ixOp)))] F__law_table))])
  (sRt (eB [(.t, (eLcD [4, 5] 3 (tgT 2 (tgCons (tgN 4) (tgCons (tgN 5) tgNil))) tYesD (e2 (.t) (.t) (e2 (.n 2) (.n 5) (eN 2) (eN 5) (g2 ixOp)) (e2 (.t) (.t) (e2 (.n 2) (.n 4) (eN 2) (eN 4) (g2 ixOp)) (e2 (.n 3) (.t) (eN 3) (eB [(.t, (eX 4)), (.t, (eX 5))] tupG) (g2 ixOp)) (g2 addOp)) (g2 geOp))))] (gN1 allOp))))
noncomputable def F__law_keeps : List Slot → FOut := runF 6 [true, true] b__law_keeps
noncomputable def b__law_length : SM :=
  (sSeq (sPar [2, 3] [(.t, (eCall [(.t, (e2 (.n 0) (.t) (eN 0) (eC (.str "rows")) (g2 ixOp)))] F__law_table)), (.t, (eB [(.n 1, (eN 1)), (.t, (eSl (.n 1) (eN 1) (pS (.t) (eC (.int 1))) pN))] (gN2 lzOp)))])
  (sRt (eIf (bV (.t) (eB [(.t, (eLc [4] (iSeq (.n 3) (eN 3)) (tgN 4) tYesD (e2 (.n 4) (.n 2) (eN 4) (eN 2) (g2 (inOpD false)))))] (gN1 allOp))) (eB [(.t, (eLc [4] (iSeq (.n 3) (eN 3)) (tgN 4) tYesD (e2 (.n 2) (.n 4) (eN 2) (eN 4) (g2 ixOp))))] (gN1 sumOp)) (eC .none))))
noncomputable def F__law_length : List Slot → FOut := runF 5 [true, true] b__law_length
noncomputable def b__law_is_ring : SM :=
  (sSeq (sIf (bOr (bNot (bV (.t) (eCall [(.t, (eX 0)), (.t, (eX 1))] F__law_are_units))) (bV .t (e2 (.t) (.t) (eB [(.n 1, (eN 1))] (gN1 lenOp)) (eC (.int 2)) (g2 ltOp)))) (sRt (eC (.bool false))) sNx)
  (sSeq (sSet 2 (eCall [(.t, (eX 0)), (.t, (e2 (.n 1) (.t) (eN 1) (eSl (.n 1) (eN 1) pN (pS (.t) (eC (.int 1)))) (g2 addOp)))] F__law_length))
  (sRt (eAnd (.t) (e2 (.n 2) (.t) (eN 2) (eC .none) (g2 (isOp true))) (e2 (.n 2) (.t) (eN 2) (eC (.int 0)) (g2 gtOp))))))
noncomputable def F__law_is_ring : List Slot → FOut := runF 3 [true, true] b__law_is_ring
noncomputable def b__law_is_laying : SM :=
  (sSeq (sIf (bOr (bNot (bV (.t) (eIsi2 (.n 1) (eN 1) "tuple"))) (bV .t (e2 (.t) (.t) (eB [(.n 1, (eN 1))] (gN1 lenOp)) (eB [(.t, (e2 (.n 0) (.t) (eN 0) (eC (.str "units")) (g2 ixOp)))] (gN1 lenOp)) (g2 neOp)))) (sRt (eC (.bool false))) sNx)
  (sRt (eAnd (.t) (eB [(.t, (eLc [2] (iSeq (.n 1) (eN 1)) (tgN 2) tYesD (eCall [(.t, (eX 2))] F__law_is_whole)))] (gN1 allOp)) (eFz (eCall [(.t, (eX 0)), (.t, (eX 1))] F__law_keeps)))))
noncomputable def F__law_is_laying : List Slot → FOut := runF 3 [true, true] b__law_is_laying
noncomputable def b__law_bent (R : List Slot → FOut) : SM :=
  (sSeq (sIf (bAnd (bV (.t) (eIsi2 (.n 1) (eN 1) "tuple")) (bAnd (bV .t (e2 (.n 1) (.t) (eN 1) (eB [] tupG) (g2 neOp))) (bV .t (e2 (.t) (.t) (eCall [(.n 0, (eN 0)), (.t, (eC (.int 6)))] F__law_take) (eC (.int 0)) (g2 gtOp))))) (sSeq (sSet 2 (eCall [(.n 0, (eN 0)), (.t, (eB [(.n 1, (eN 1))] (gN1 lenOp)))] F__law_take))
  (sRt (e2 (.t) (.t) (e2 (.t) (.t) (eSl (.n 1) (eN 1) pN (pS (.n 2) (eN 2))) (eB [(.t, (eFz (eCall [(.n 0, (eN 0)), (.t, (e2 (.n 1) (.n 2) (eN 1) (eN 2) (g2 ixOp)))] R)))] tupG) (g2 addOp)) (eSl (.n 1) (eN 1) (pS (.t) (e2 (.n 2) (.t) (eN 2) (eC (.int 1)) (g2 addOp))) pN) (g2 addOp)))) sNx)
  (sSeq (sIf (bV (.t) (eIsi2 (.n 1) (eN 1) "tuple")) (sSeq (sSet 3 (eB [(.t, (eFz (eB [(.n 1, (eN 1))] (gN1 listOp)))), (.t, (eFz (eSl (.n 1) (eN 1) (pS (.t) (eC (.int 1))) pN))), (.t, (eFz (eSl (.n 1) (eN 1) pN (pS (.t) (e1 (.t) (eC (.int 1)) (g1 negOp)))))), (.t, (eFz (e2 (.n 1) (.t) (eN 1) (eSl (.n 1) (eN 1) (pS (.t) (e1 (.t) (eC (.int 1)) (g1 negOp))) pN) (g2 addOp)))), (.t, (eFz (e1 (.n 1) (eN 1) (g1 revOp)))), (.t, (eB [] tupG)), (.t, (eC .none)), (.t, (eFz (e2 (.n 1) (.t) (eN 1) (eB [(.t, (eC (.int 0)))] tupG) (g2 addOp))))] lstG))
  (sRt (eCall [(.n 0, (eN 0)), (.t, (eX 3))] F__law_of))) sNx)
  (sSeq (sIf (bAnd (bV (.t) (eIsi2 (.n 1) (eN 1) "int")) (bNot (bV (.t) (eIsi2 (.n 1) (eN 1) "bool")))) (sRt (eCall [(.n 0, (eN 0)), (.t, (eB [(.t, (e2 (.n 1) (.t) (eN 1) (eC (.int 1)) (g2 addOp))), (.t, (e2 (.n 1) (.t) (eN 1) (eC (.int 1)) (g2 subOp))), (.t, (e2 (.n 1) (.t) (eN 1) (eC (.int 1)) (g2 eqOp))), (.t, (eB [(.n 1, (eN 1))] (gN1 strOp))), (.t, (eC .none)), (.t, (eC (.int 0))), (.t, (e1 (.n 1) (eN 1) (g1 negOp))), (.t, (e2 (.n 1) (.t) (eN 1) (eC (.int 3)) (g2 addOp)))] lstG))] F__law_of)) sNx)
  (sSeq (sIf (bV (.t) (eIsi2 (.n 1) (eN 1) "str")) (sRt (eCall [(.n 0, (eN 0)), (.t, (eB [(.t, (e2 (.n 1) (.t) (eN 1) (eC (.str "x")) (g2 addOp))), (.t, (eFz (eSl (.n 1) (eN 1) pN (pS (.t) (e1 (.t) (eC (.int 1)) (g1 negOp)))))), (.t, (eFz (eM0 (.n 1) (eN 1) upperOp))), (.t, (eC .none)), (.t, (eC (.str "a"))), (.t, (eC (.str "above"))), (.t, (eC (.str "most"))), (.t, (eFz (eB [(.t, (eX 1))] lstG))), (.t, (eC (.int 0)))] lstG))] F__law_of)) sNx)
  (sRt (eCall [(.n 0, (eN 0))] F__law_odd))))))
noncomputable def FR__law_bent : Nat → List Slot → FOut
  | 0 => runF 4 [true, true] sNo
  | k + 1 => runF 4 [true, true] (b__law_bent (FR__law_bent k))
noncomputable def F__law_bent : List Slot → FOut := FR__law_bent 4

end Pg
end
section
set_option maxHeartbeats 4000000
namespace K00
open PySem L2 Dl Pg
/-! the evaluators of the defs (printed by walk.py) -/
noncomputable def b__law_marks : SM :=
  (sSeq (sSet 1 (eB [(.t, (eIsx "BadBand" (.n 0) (eN 0))), (.t, (eIsx "BadCores" (.n 0) (eN 0))), (.t, (eIsx "BadDeed" (.n 0) (eN 0)))] lstG))
  (sSeq (sDrop (eExt 1 (eB [(.t, (eIsx "BadDig" (.n 0) (eN 0))), (.t, (eIsx "BadDigs" (.n 0) (eN 0))), (.t, (eIsx "BadFace" (.n 0) (eN 0)))] lstG)))
  (sSeq (sDrop (eExt 1 (eB [(.t, (eIsx "BadJournal" (.n 0) (eN 0))), (.t, (eIsx "BadLabs" (.n 0) (eN 0))), (.t, (eIsx "BadLetters" (.n 0) (eN 0)))] lstG)))
  (sSeq (sDrop (eExt 1 (eB [(.t, (eIsx "BadLikes" (.n 0) (eN 0))), (.t, (eIsx "BadLine" (.n 0) (eN 0))), (.t, (eIsx "BadLot" (.n 0) (eN 0)))] lstG)))
  (sSeq (sDrop (eExt 1 (eB [(.t, (eIsx "BadLots" (.n 0) (eN 0))), (.t, (eIsx "BadNotes" (.n 0) (eN 0))), (.t, (eIsx "BadNumber" (.n 0) (eN 0)))] lstG)))
  (sSeq (sDrop (eExt 1 (eB [(.t, (eIsx "BadPair" (.n 0) (eN 0))), (.t, (eIsx "BadQuestion" (.n 0) (eN 0))), (.t, (eIsx "BadRow" (.n 0) (eN 0)))] lstG)))
  (sSeq (sDrop (eExt 1 (eB [(.t, (eIsx "BadRows" (.n 0) (eN 0))), (.t, (eIsx "BadStructures" (.n 0) (eN 0))), (.t, (eIsx "BadUnit" (.n 0) (eN 0)))] lstG)))
  (sSeq (sDrop (eExt 1 (eB [(.t, (eIsx "BadYears" (.n 0) (eN 0))), (.t, (eIsx "Clash" (.n 0) (eN 0))), (.t, (eIsx "Full" (.n 0) (eN 0)))] lstG)))
  (sSeq (sDrop (eExt 1 (eB [(.t, (eIsx "Growing" (.n 0) (eN 0))), (.t, (eIsx "Known" (.n 0) (eN 0))), (.t, (eIsx "Late" (.n 0) (eN 0)))] lstG)))
  (sSeq (sDrop (eExt 1 (eB [(.t, (eIsx "NoBook" (.n 0) (eN 0))), (.t, (eIsx "NoDig" (.n 0) (eN 0))), (.t, (eIsx "NoLike" (.n 0) (eN 0)))] lstG)))
  (sSeq (sDrop (eExt 1 (eB [(.t, (eIsx "NoNote" (.n 0) (eN 0))), (.t, (eIsx "NoTrial" (.n 0) (eN 0))), (.t, (eIsx "NotSure" (.n 0) (eN 0)))] lstG)))
  (sSeq (sDrop (eExt 1 (eB [(.t, (eIsx "NothingToRedo" (.n 0) (eN 0))), (.t, (eIsx "NothingToUndo" (.n 0) (eN 0))), (.t, (eIsx "TooMany" (.n 0) (eN 0)))] lstG)))
  (sSeq (sDrop (eExt 1 (eB [(.t, (eIsx "Turning" (.n 0) (eN 0))), (.t, (eIsx "Unlike" (.n 0) (eN 0))), (.t, (eIsx "Unsure" (.n 0) (eN 0)))] lstG)))
  (sRt (eM 1)))))))))))))))
noncomputable def F__law_marks : List Slot → FOut := runF 2 [true] b__law_marks
noncomputable def b__law_made : SM :=
  (sSeq (sSet 1 (eB [(.t, (eFz (eExc "BadBand" (eX 0)))), (.t, (eFz (eExc "BadCores" (eX 0)))), (.t, (eFz (eExc "BadDeed" (eX 0)))), (.t, (eFz (eExc "BadDig" (eX 0))))] lstG))
  (sSeq (sDrop (eExt 1 (eB [(.t, (eFz (eExc "BadDigs" (eX 0)))), (.t, (eFz (eExc "BadFace" (eX 0)))), (.t, (eFz (eExc "BadJournal" (eX 0)))), (.t, (eFz (eExc "BadLabs" (eX 0))))] lstG)))
  (sSeq (sDrop (eExt 1 (eB [(.t, (eFz (eExc "BadLetters" (eX 0)))), (.t, (eFz (eExc "BadLikes" (eX 0)))), (.t, (eFz (eExc "BadLine" (eX 0)))), (.t, (eFz (eExc "BadLot" (eX 0))))] lstG)))
  (sSeq (sDrop (eExt 1 (eB [(.t, (eFz (eExc "BadLots" (eX 0)))), (.t, (eFz (eExc "BadNotes" (eX 0)))), (.t, (eFz (eExc "BadNumber" (eX 0)))), (.t, (eFz (eExc "BadPair" (eX 0))))] lstG)))
  (sSeq (sDrop (eExt 1 (eB [(.t, (eFz (eExc "BadQuestion" (eX 0)))), (.t, (eFz (eExc "BadRow" (eX 0)))), (.t, (eFz (eExc "BadRows" (eX 0)))), (.t, (eFz (eExc "BadStructures" (eX 0))))] lstG)))
  (sSeq (sDrop (eExt 1 (eB [(.t, (eFz (eExc "BadUnit" (eX 0)))), (.t, (eFz (eExc "BadYears" (eX 0)))), (.t, (eFz (eExc "Clash" (eX 0)))), (.t, (eFz (eExc "Full" (eX 0))))] lstG)))
  (sSeq (sDrop (eExt 1 (eB [(.t, (eFz (eExc "Growing" (eX 0)))), (.t, (eFz (eExc "Known" (eX 0)))), (.t, (eFz (eExc "Late" (eX 0)))), (.t, (eFz (eExc "NoBook" (eX 0))))] lstG)))
  (sSeq (sDrop (eExt 1 (eB [(.t, (eFz (eExc "NoDig" (eX 0)))), (.t, (eFz (eExc "NoLike" (eX 0)))), (.t, (eFz (eExc "NoNote" (eX 0)))), (.t, (eFz (eExc "NoTrial" (eX 0))))] lstG)))
  (sSeq (sDrop (eExt 1 (eB [(.t, (eFz (eExc "NotSure" (eX 0)))), (.t, (eFz (eExc "NothingToRedo" (eX 0)))), (.t, (eFz (eExc "NothingToUndo" (eX 0)))), (.t, (eFz (eExc "TooMany" (eX 0))))] lstG)))
  (sSeq (sDrop (eExt 1 (eB [(.t, (eFz (eExc "Turning" (eX 0)))), (.t, (eFz (eExc "Unlike" (eX 0)))), (.t, (eFz (eExc "Unsure" (eX 0))))] lstG)))
  (sRt (eM 1))))))))))))
noncomputable def F__law_made : List Slot → FOut := runF 2 [true] b__law_made
noncomputable def b__law_right : SM :=
  (sSeq (sSet 1 (eB [(.n 0, (eN 0))] (gN1 reprDOp)))
  (sSeq (sFor (iEn (.t) (eFz (eCall [(.t, (eX 0))] F__law_made))) (tgT 2 (tgCons (tgN 3) (tgCons (tgN 4) tgNil))) (sSeq (sIf (bOr (bNot (bV (.t) (eIsx "DigError" (.n 4) (eN 4)))) (bOr (bNot (bV (.t) (eIsx "ValueError" (.n 4) (eN 4)))) (bV .t (e2 (.t) (.n 1) (eB [(.t, (eExV (.n 4) (eN 4)))] (gN1 reprDOp)) (eN 1) (g2 neOp))))) (sRt (eC (.bool false))) sNx)
  (sIf (bV .t (e2 (.t) (.t) (eCall [(.t, (eX 4))] F__law_marks) (eLc [5] (iRg (eC (.int 39))) (tgN 5) tYesD (e2 (.n 5) (.n 3) (eN 5) (eN 3) (g2 eqOp))) (g2 neOp))) (sRt (eC (.bool false))) sNx)))
  (sSeq (sSet 2 (eExc "DigError" (eX 0)))
  (sSeq (sIf (bOr (bNot (bV (.t) (eIsx "ValueError" (.n 2) (eN 2)))) (bV (.t) (eB [(.t, (eCall [(.t, (eX 2))] F__law_marks))] (gN1 anyOp)))) (sRt (eC (.bool false))) sNx)
  (sRt (eAnd (.t) (e2 (.t) (.n 1) (eB [(.t, (eExV (.n 2) (eN 2)))] (gN1 reprDOp)) (eN 1) (g2 eqOp)) (e2 (.t) (.n 1) (eB [(.n 0, (eN 0))] (gN1 reprDOp)) (eN 1) (g2 eqOp))))))))
noncomputable def F__law_right : List Slot → FOut := runF 6 [true] b__law_right
noncomputable def b__law_nested : SM :=
  (sSeq (sSet 1 (eCall [(.n 0, (eN 0))] F__law_odd))
  (sSeq (sFor (iRg (eFz (eCall [(.n 0, (eN 0)), (.t, (eB [(.t, (eC (.int 0))), (.t, (eC (.int 0))), (.t, (eC (.int 1))), (.t, (eC (.int 2))), (.t, (eC (.int 9)))] lstG))] F__law_of))) (tgN 2) (sSet 1 (eCall [(.n 0, (eN 0)), (.t, (eB [(.t, (eB [(.t, (eX 1))] tupG)), (.t, (eFz (eB [(.t, (eX 1))] lstG))), (.t, (eFz (eDisp [("a", (eX 1))]))), (.t, (eB [(.t, (eC (.str "a"))), (.t, (eX 1))] tupG))] lstG))] F__law_of)))
  (sRt (eM 1))))
noncomputable def F__law_nested : List Slot → FOut := runF 3 [true] b__law_nested
noncomputable def b_law : SM :=
  (sSeq (sFor (iSeq (.t) (eFz (eCall [(.t, (eX 0)), (.t, (eC (.int 3)))] F__law_cells))) (tgN 1) (sSeq (sSet 2 (eCall [(.t, (eX 0)), (.t, (eX 1))] F__law_pot))
  (sIf (bNot (bV (.t) (eB [(.t, (eLc [3] (iRg (eC (.int 6))) (tgN 3) tYesD (eCall [(.t, (eCall [(.n 2, (eN 2))] F__law_nested))] F__law_right)))] (gN1 allOp)))) (sRt (eC (.bool false))) sNx)))
  (sRt (eC (.bool true))))
noncomputable def F_law : List Slot → FOut := runF 4 [true] b_law
/-! the text and what the top leaves -/
def topS (i : Nat) : Stmt := PySem.Challenge.pw_laidthen_k00_each_error_by_itself.main.body.getD i (.Pass ⟨0, 0, 0, 0⟩)
def mtS (i j : Nat) : Stmt := match topS i with
  | .ClassDef _ _ _ body _ _ _ _ _ _ _ => body.getD j (.Pass ⟨0, 0, 0, 0⟩)
  | _ => .Pass ⟨0, 0, 0, 0⟩
abbrev s__law_pot : Stmt := topS 42
abbrev N__law_pot : List Str := ["script", "place", "cell", "own", "small"]
theorem sc__law_pot : FnScope N__law_pot ["script", "place"] (defScope s__law_pot) := ⟨rfl, rfl, rfl, by decide +kernel, rfl, by decide +kernel, by decide +kernel⟩
abbrev s__law_take : Stmt := topS 43
abbrev N__law_take : List Str := ["pot", "upto", "prime", "mixed", "digit"]
theorem sc__law_take : FnScope N__law_take ["pot", "upto"] (defScope s__law_take) := ⟨rfl, rfl, rfl, by decide +kernel, rfl, by decide +kernel, by decide +kernel⟩
abbrev s__law_cells : Stmt := topS 45
abbrev N__law_cells : List Str := ["script", "limit"]
theorem sc__law_cells : FnScope N__law_cells ["script", "limit"] (defScope s__law_cells) := ⟨rfl, rfl, rfl, by decide +kernel, rfl, by decide +kernel, by decide +kernel⟩
abbrev s__law_marks : Stmt := topS 49
abbrev N__law_marks : List Str := ["error", "found"]
theorem sc__law_marks : FnScope N__law_marks ["error"] (defScope s__law_marks) := ⟨rfl, rfl, rfl, by decide +kernel, rfl, by decide +kernel, by decide +kernel⟩
abbrev s__law_of : Stmt := topS 44
abbrev N__law_of : List Str := ["pot", "some"]
theorem sc__law_of : FnScope N__law_of ["pot", "some"] (defScope s__law_of) := ⟨rfl, rfl, rfl, by decide +kernel, rfl, by decide +kernel, by decide +kernel⟩
abbrev s__law_made : Stmt := topS 48
abbrev N__law_made : List Str := ["value", "found"]
theorem sc__law_made : FnScope N__law_made ["value"] (defScope s__law_made) := ⟨rfl, rfl, rfl, by decide +kernel, rfl, by decide +kernel, by decide +kernel⟩
abbrev s__law_odd : Stmt := topS 46
abbrev N__law_odd : List Str := ["pot", "some"]
theorem sc__law_odd : FnScope N__law_odd ["pot"] (defScope s__law_odd) := ⟨rfl, rfl, rfl, by decide +kernel, rfl, by decide +kernel, by decide +kernel⟩
abbrev s__law_right : Stmt := topS 50
abbrev N__law_right : List Str := ["value", "kept", "base", "at", "error", "spot"]
theorem sc__law_right : FnScope N__law_right ["value"] (defScope s__law_right) := ⟨rfl, rfl, rfl, by decide +kernel, rfl, by decide +kernel, by decide +kernel⟩
abbrev s__law_nested : Stmt := topS 47
abbrev N__law_nested : List Str := ["pot", "value", "lap"]
theorem sc__law_nested : FnScope N__law_nested ["pot"] (defScope s__law_nested) := ⟨rfl, rfl, rfl, by decide +kernel, rfl, by decide +kernel, by decide +kernel⟩
abbrev s_law : Stmt := topS 51
abbrev N_law : List Str := ["script", "place", "pot", "lap"]
theorem sc_law : FnScope N_law ["script"] (defScope s_law) := ⟨rfl, rfl, rfl, by decide +kernel, rfl, by decide +kernel, by decide +kernel⟩
abbrev s_DigError_init : Stmt := mtS 1 0
def ecs : List Str := (["DigError", "BadBand", "BadCores", "BadDeed", "BadDig", "BadDigs", "BadFace", "BadJournal", "BadLabs", "BadLetters"] : List Str) ++ (["BadLikes", "BadLine", "BadLot", "BadLots", "BadNotes", "BadNumber", "BadPair", "BadQuestion", "BadRow", "BadRows"] : List Str) ++ (["BadStructures", "BadUnit", "BadYears", "Clash", "Full", "Growing", "Known", "Late", "NoBook", "NoDig"] : List Str) ++ (["NoLike", "NoNote", "NoTrial", "NotSure", "NothingToRedo", "NothingToUndo", "TooMany", "Turning", "Unlike", "Unsure"] : List Str)
structure Ground (P : Program) (w : PySem.World) (K : PySem.W.Frag) (mg : Str → Option Value) (cl : ClsT) : Prop where
  pw : cl.P = P ∧ cl.w = w
  exc : ExcH P K cl mg "DigError" "DigError.__init__" s_DigError_init ecs
  sysm : ∃ o, K.lookup PySem.sysModules = some o
  b_ValueError : mg "ValueError" = none
  b_abs : mg "abs" = none
  b_all : mg "all" = none
  b_any : mg "any" = none
  b_enumerate : mg "enumerate" = none
  b_int : mg "int" = none
  b_isinstance : mg "isinstance" = none
  b_len : mg "len" = none
  b_list : mg "list" = none
  b_max : mg "max" = none
  b_min : mg "min" = none
  b_range : mg "range" = none
  b_repr : mg "repr" = none
  f__law_pot : ∃ f fd, Fun K "_law_pot" "_law_pot" s__law_pot f fd ∧ mg "_law_pot" = some (.ref f)
  f__law_take : ∃ f fd, Fun K "_law_take" "_law_take" s__law_take f fd ∧ mg "_law_take" = some (.ref f)
  f__law_cells : ∃ f fd, Fun K "_law_cells" "_law_cells" s__law_cells f fd ∧ mg "_law_cells" = some (.ref f)
  f__law_marks : ∃ f fd, Fun K "_law_marks" "_law_marks" s__law_marks f fd ∧ mg "_law_marks" = some (.ref f)
  f__law_of : ∃ f fd, Fun K "_law_of" "_law_of" s__law_of f fd ∧ mg "_law_of" = some (.ref f)
  f__law_made : ∃ f fd, Fun K "_law_made" "_law_made" s__law_made f fd ∧ mg "_law_made" = some (.ref f)
  f__law_odd : ∃ f fd, Fun K "_law_odd" "_law_odd" s__law_odd f fd ∧ mg "_law_odd" = some (.ref f)
  f__law_right : ∃ f fd, Fun K "_law_right" "_law_right" s__law_right f fd ∧ mg "_law_right" = some (.ref f)
  f__law_nested : ∃ f fd, Fun K "_law_nested" "_law_nested" s__law_nested f fd ∧ mg "_law_nested" = some (.ref f)
  f_law : ∃ f fd, Fun K "law" "law" s_law f fd ∧ mg "law" = some (.ref f)
section
variable {P : Program} {w : PySem.World} {K : PySem.W.Frag} {mg : Str → Option Value} {base : Heap} {cl : ClsT}
theorem ok__law_pot (G : Ground P w K mg cl) : Cld P w K mg base cl 1 "_law_pot" ["script", "place"] F__law_pot := by
  obtain ⟨f, fd, Ff, hm⟩ := G.f__law_pot
  refine cld_mk Ff hm sc__law_pot rfl (by decide) (fun kV doc pm an cdv ct us ws ks hl hk => ?_) (fun cdv A outer s H E G' hr hg => ?_)
  · subst hk
    match us, hl with
    | [], hl => match ws, (by simp only [List.length_cons, List.length_nil] at hl; omega : ws.length = 2) with
      | [_, _], _ => rfl
    | [_], hl => match ws, (by simp only [List.length_cons, List.length_nil] at hl; omega : ws.length = 1) with
      | [_], _ => rfl
    | [_, _], hl => match ws, (by simp only [List.length_cons, List.length_nil] at hl; omega : ws.length = 0) with
      | [], _ => rfl
    | _ :: _ :: _ :: _, hl => exact absurd hl (by simp only [List.length_cons, List.length_nil]; omega)
  have ax : Ax (cxOf (L2.CX P w) P w K mg base N__law_pot "_law_pot" (defScope s__law_pot) f cdv A outer s H E) := ax_of hr hg rfl
  have hx : Passes (L2.CX P w) (cxOf (L2.CX P w) P w K mg base N__law_pot "_law_pot" (defScope s__law_pot) f cdv A outer s H E) E := passes_call (takes_of rfl rfl rfl rfl) (fun _ _ _ _ h => h)
  exact (pd_cons (pd_set (i := 2) (show (2 : Nat) ∉ kpFrom 0 [true, true] from by decide) sc__law_pot.nd rfl (by first | exact Or.inl rfl | exact Or.inr rfl) (pd_ifx (pt_cmp2 (og_lt ax rfl) (pd_n (pv 1)) (pd_bi (og_len rfl) (by rfl) G.b_len bt_len (pd_acons (pd_n (pv 0)) pd_anil))) (pd_ix ax rfl (pd_n (pv 0)) (pd_n (pv 1))) (pd_op (og_add rfl) (pd_op (og_mul rfl) (pd_c pe_int (.int _)) (pd_n (pv 1))) (pd_c pe_int (.int _)))))
  (pd_cons (pd_set (i := 3) (show (3 : Nat) ∉ kpFrom 0 [true, true] from by decide) sc__law_pot.nd rfl (by first | exact Or.inl rfl | exact Or.inr rfl) (pd_op (og_mul rfl) (pd_op (og_mod rfl) (pd_bt (og_int) (by rfl) G.b_int bt_int (pd_acons (pd_bi (og_abs) (by rfl) G.b_abs bt_abs (pd_acons (pd_n (pv 2)) pd_anil)) pd_anil)) (pd_op (og_pow rfl) (pd_op (og_pow rfl) (pd_c pe_int (.int _)) (pd_c pe_int (.int _))) (pd_c pe_int (.int _)))) (pd_bt (og_int) (by rfl) G.b_int bt_int (pd_acons (pd_cmp (og_ge ax rfl) (pd_bi (og_abs) (by rfl) G.b_abs bt_abs (pd_acons (pd_n (pv 2)) pd_anil)) (pd_op (og_pow rfl) (pd_c pe_int (.int _)) (pd_c pe_int (.int _)))) pd_anil))))
  (pd_cons (pd_set (i := 4) (show (4 : Nat) ∉ kpFrom 0 [true, true] from by decide) sc__law_pot.nd rfl (by first | exact Or.inl rfl | exact Or.inr rfl) (pd_op (og_mod rfl) (pd_bt (og_int) (by rfl) G.b_int bt_int (pd_acons (pd_n (pv 2)) pd_anil)) (pd_c pe_int (.int _))))
  (pd_one (pd_ret (pd_lst (pd_acons (pd_x (pv 3)) (pd_acons (pd_op (og_mod rfl) (pd_bt (og_int) (by rfl) G.b_int bt_int (pd_acons (pd_op (og_add rfl) (pd_op (og_add rfl) (pd_op (og_mul rfl) (pd_n (pv 4)) (pd_c pe_int (.int _))) (pd_op (og_mul rfl) (pd_op (og_mul rfl) (pd_c pe_int (.int _)) (pd_n (pv 1))) (pd_n (pv 1)))) (pd_c pe_int (.int _))) pd_anil)) (pd_c pe_int (.int _))) (pd_acons (pd_c pe_int (.int _)) pd_anil)))))))))
theorem ok__law_take (G : Ground P w K mg cl) : Cld P w K mg base cl 1 "_law_take" ["pot", "upto"] F__law_take := by
  obtain ⟨f, fd, Ff, hm⟩ := G.f__law_take
  refine cld_mk Ff hm sc__law_take rfl (by decide) (fun kV doc pm an cdv ct us ws ks hl hk => ?_) (fun cdv A outer s H E G' hr hg => ?_)
  · subst hk
    match us, hl with
    | [], hl => match ws, (by simp only [List.length_cons, List.length_nil] at hl; omega : ws.length = 2) with
      | [_, _], _ => rfl
    | [_], hl => match ws, (by simp only [List.length_cons, List.length_nil] at hl; omega : ws.length = 1) with
      | [_], _ => rfl
    | [_, _], hl => match ws, (by simp only [List.length_cons, List.length_nil] at hl; omega : ws.length = 0) with
      | [], _ => rfl
    | _ :: _ :: _ :: _, hl => exact absurd hl (by simp only [List.length_cons, List.length_nil]; omega)
  have ax : Ax (cxOf (L2.CX P w) P w K mg base N__law_take "_law_take" (defScope s__law_take) f cdv A outer s H E) := ax_of hr hg rfl
  have hx : Passes (L2.CX P w) (cxOf (L2.CX P w) P w K mg base N__law_take "_law_take" (defScope s__law_take) f cdv A outer s H E) E := passes_call (takes_of rfl rfl rfl rfl) (fun _ _ _ _ h => h)
  exact (pd_cons (pd_if (pt_cmp2 (og_gt ax rfl) (pd_ix ax rfl (pd_n (pv 0)) (pd_c pe_int (.int _))) (pd_c pe_int (.int _))) (pd_cons (pd_set (i := 4) (show (4 : Nat) ∉ kpFrom 0 [true, true] from by decide) sc__law_take.nd rfl (by first | exact Or.inl rfl | exact Or.inr rfl) (pd_op (og_mod rfl) (pd_bt (og_int) (by rfl) G.b_int bt_int (pd_acons (pd_ix ax rfl (pd_n (pv 0)) (pd_c pe_int (.int _))) pd_anil)) (pd_n (pv 1))))
  (pd_cons (pd_sto (by have := ax.un; omega) (pv 0) (pd_c pe_int (.int _)) (pd_op (og_fdiv rfl) (pd_ix ax rfl (pd_n (pv 0)) (pd_c pe_int (.int _))) (pd_n (pv 1))))
  (pd_one (pd_ret (pd_m (pv 4)))))) pd_nil)
  (pd_cons (pd_sto (by have := ax.un; omega) (pv 0) (pd_c pe_int (.int _)) (pd_op (og_add rfl) (pd_ix ax rfl (pd_n (pv 0)) (pd_c pe_int (.int _))) (pd_c pe_int (.int _))))
  (pd_cons (pd_set (i := 2) (show (2 : Nat) ∉ kpFrom 0 [true, true] from by decide) sc__law_take.nd rfl (by first | exact Or.inl rfl | exact Or.inr rfl) (pd_ix ax rfl (pd_lst (pd_acons (pd_c pe_int (.int _)) (pd_acons (pd_c pe_int (.int _)) (pd_acons (pd_c pe_int (.int _)) (pd_acons (pd_c pe_int (.int _)) (pd_acons (pd_c pe_int (.int _)) pd_anil)))))) (pd_op (og_mod rfl) (pd_bt (og_int) (by rfl) G.b_int bt_int (pd_acons (pd_ix ax rfl (pd_n (pv 0)) (pd_c pe_int (.int _))) pd_anil)) (pd_c pe_int (.int _)))))
  (pd_cons (pd_set (i := 3) (show (3 : Nat) ∉ kpFrom 0 [true, true] from by decide) sc__law_take.nd rfl (by first | exact Or.inl rfl | exact Or.inr rfl) (pd_op (og_mod rfl) (pd_bt (og_int) (by rfl) G.b_int bt_int (pd_acons (pd_op (og_pow rfl) (pd_bt (og_int) (by rfl) G.b_int bt_int (pd_acons (pd_op (og_add rfl) (pd_op (og_add rfl) (pd_ix ax rfl (pd_n (pv 0)) (pd_c pe_int (.int _))) (pd_op (og_mul rfl) (pd_op (og_mul rfl) (pd_c pe_int (.int _)) (pd_ix ax rfl (pd_n (pv 0)) (pd_c pe_int (.int _)))) (pd_ix ax rfl (pd_n (pv 0)) (pd_c pe_int (.int _))))) (pd_c pe_int (.int _))) pd_anil)) (pd_c pe_int (.int _))) pd_anil)) (pd_n (pv 2))))
  (pd_cons (pd_set (i := 3) (show (3 : Nat) ∉ kpFrom 0 [true, true] from by decide) sc__law_take.nd rfl (by first | exact Or.inl rfl | exact Or.inr rfl) (pd_op (og_mod rfl) (pd_bt (og_int) (by rfl) G.b_int bt_int (pd_acons (pd_op (og_mul rfl) (pd_n (pv 3)) (pd_op (og_add rfl) (pd_op (og_mod rfl) (pd_bt (og_int) (by rfl) G.b_int bt_int (pd_acons (pd_n (pv 3)) pd_anil)) (pd_c pe_int (.int _))) (pd_op (og_mul rfl) (pd_c pe_int (.int _)) (pd_ix ax rfl (pd_n (pv 0)) (pd_c pe_int (.int _)))))) pd_anil)) (pd_c pe_int (.int _))))
  (pd_one (pd_ret (pd_op (og_mod rfl) (pd_bt (og_int) (by rfl) G.b_int bt_int (pd_acons (pd_op (og_fdiv rfl) (pd_n (pv 3)) (pd_c pe_int (.int _))) pd_anil)) (pd_n (pv 1))))))))))
theorem ok__law_cells (G : Ground P w K mg cl) : Cld P w K mg base cl 1 "_law_cells" ["script", "limit"] F__law_cells := by
  obtain ⟨f, fd, Ff, hm⟩ := G.f__law_cells
  refine cld_mk Ff hm sc__law_cells rfl (by decide) (fun kV doc pm an cdv ct us ws ks hl hk => ?_) (fun cdv A outer s H E G' hr hg => ?_)
  · subst hk
    match us, hl with
    | [], hl => match ws, (by simp only [List.length_cons, List.length_nil] at hl; omega : ws.length = 2) with
      | [_, _], _ => rfl
    | [_], hl => match ws, (by simp only [List.length_cons, List.length_nil] at hl; omega : ws.length = 1) with
      | [_], _ => rfl
    | [_, _], hl => match ws, (by simp only [List.length_cons, List.length_nil] at hl; omega : ws.length = 0) with
      | [], _ => rfl
    | _ :: _ :: _ :: _, hl => exact absurd hl (by simp only [List.length_cons, List.length_nil]; omega)
  have ax : Ax (cxOf (L2.CX P w) P w K mg base N__law_cells "_law_cells" (defScope s__law_cells) f cdv A outer s H E) := ax_of hr hg rfl
  have hx : Passes (L2.CX P w) (cxOf (L2.CX P w) P w K mg base N__law_cells "_law_cells" (defScope s__law_cells) f cdv A outer s H E) E := passes_call (takes_of rfl rfl rfl rfl) (fun _ _ _ _ h => h)
  exact (pd_one (pd_ret (pd_listRg rfl (by rfl) G.b_list (by rfl) G.b_range (pd_bi (og_max2 ax) (by rfl) G.b_max bt_max (pd_acons (pd_c pe_int (.int _)) (pd_acons (pd_bi (og_min2 ax) (by rfl) G.b_min bt_min (pd_acons (pd_n (pv 1)) (pd_acons (pd_bi (og_len rfl) (by rfl) G.b_len bt_len (pd_acons (pd_n (pv 0)) pd_anil)) pd_anil))) pd_anil))))))
theorem ok__law_marks (G : Ground P w K mg cl) : Cld P w K mg base cl 1 "_law_marks" ["error"] F__law_marks := by
  obtain ⟨f, fd, Ff, hm⟩ := G.f__law_marks
  refine cld_mk Ff hm sc__law_marks rfl (by decide) (fun kV doc pm an cdv ct us ws ks hl hk => ?_) (fun cdv A outer s H E G' hr hg => ?_)
  · subst hk
    match us, hl with
    | [], hl => match ws, (by simp only [List.length_cons, List.length_nil] at hl; omega : ws.length = 1) with
      | [_], _ => rfl
    | [_], hl => match ws, (by simp only [List.length_cons, List.length_nil] at hl; omega : ws.length = 0) with
      | [], _ => rfl
    | _ :: _ :: _, hl => exact absurd hl (by simp only [List.length_cons, List.length_nil]; omega)
  have ax : Ax (cxOf (L2.CX P w) P w K mg base N__law_marks "_law_marks" (defScope s__law_marks) f cdv A outer s H E) := ax_of hr hg rfl
  have hx : Passes (L2.CX P w) (cxOf (L2.CX P w) P w K mg base N__law_marks "_law_marks" (defScope s__law_marks) f cdv A outer s H E) E := passes_call (takes_of rfl rfl rfl rfl) (fun _ _ _ _ h => h)
  exact (pd_cons (pd_set (i := 1) (show (1 : Nat) ∉ kpFrom 0 [true] from by decide) sc__law_marks.nd rfl (by first | exact Or.inl rfl | exact Or.inr rfl) (pd_lst (pd_acons (pd_isx rfl G.exc (by decide +kernel) (by decide) (by rfl) G.b_isinstance (by rfl) (pd_n (pv 0))) (pd_acons (pd_isx rfl G.exc (by decide +kernel) (by decide) (by rfl) G.b_isinstance (by rfl) (pd_n (pv 0))) (pd_acons (pd_isx rfl G.exc (by decide +kernel) (by decide) (by rfl) G.b_isinstance (by rfl) (pd_n (pv 0))) pd_anil)))))
  (pd_cons (pd_expr (pd_ext (pv 1) (pd_acons (r := []) (pd_lst (pd_acons (pd_isx rfl G.exc (by decide +kernel) (by decide) (by rfl) G.b_isinstance (by rfl) (pd_n (pv 0))) (pd_acons (pd_isx rfl G.exc (by decide +kernel) (by decide) (by rfl) G.b_isinstance (by rfl) (pd_n (pv 0))) (pd_acons (pd_isx rfl G.exc (by decide +kernel) (by decide) (by rfl) G.b_isinstance (by rfl) (pd_n (pv 0))) pd_anil)))) pd_anil)))
  (pd_cons (pd_expr (pd_ext (pv 1) (pd_acons (r := []) (pd_lst (pd_acons (pd_isx rfl G.exc (by decide +kernel) (by decide) (by rfl) G.b_isinstance (by rfl) (pd_n (pv 0))) (pd_acons (pd_isx rfl G.exc (by decide +kernel) (by decide) (by rfl) G.b_isinstance (by rfl) (pd_n (pv 0))) (pd_acons (pd_isx rfl G.exc (by decide +kernel) (by decide) (by rfl) G.b_isinstance (by rfl) (pd_n (pv 0))) pd_anil)))) pd_anil)))
  (pd_cons (pd_expr (pd_ext (pv 1) (pd_acons (r := []) (pd_lst (pd_acons (pd_isx rfl G.exc (by decide +kernel) (by decide) (by rfl) G.b_isinstance (by rfl) (pd_n (pv 0))) (pd_acons (pd_isx rfl G.exc (by decide +kernel) (by decide) (by rfl) G.b_isinstance (by rfl) (pd_n (pv 0))) (pd_acons (pd_isx rfl G.exc (by decide +kernel) (by decide) (by rfl) G.b_isinstance (by rfl) (pd_n (pv 0))) pd_anil)))) pd_anil)))
  (pd_cons (pd_expr (pd_ext (pv 1) (pd_acons (r := []) (pd_lst (pd_acons (pd_isx rfl G.exc (by decide +kernel) (by decide) (by rfl) G.b_isinstance (by rfl) (pd_n (pv 0))) (pd_acons (pd_isx rfl G.exc (by decide +kernel) (by decide) (by rfl) G.b_isinstance (by rfl) (pd_n (pv 0))) (pd_acons (pd_isx rfl G.exc (by decide +kernel) (by decide) (by rfl) G.b_isinstance (by rfl) (pd_n (pv 0))) pd_anil)))) pd_anil)))
  (pd_cons (pd_expr (pd_ext (pv 1) (pd_acons (r := []) (pd_lst (pd_acons (pd_isx rfl G.exc (by decide +kernel) (by decide) (by rfl) G.b_isinstance (by rfl) (pd_n (pv 0))) (pd_acons (pd_isx rfl G.exc (by decide +kernel) (by decide) (by rfl) G.b_isinstance (by rfl) (pd_n (pv 0))) (pd_acons (pd_isx rfl G.exc (by decide +kernel) (by decide) (by rfl) G.b_isinstance (by rfl) (pd_n (pv 0))) pd_anil)))) pd_anil)))
  (pd_cons (pd_expr (pd_ext (pv 1) (pd_acons (r := []) (pd_lst (pd_acons (pd_isx rfl G.exc (by decide +kernel) (by decide) (by rfl) G.b_isinstance (by rfl) (pd_n (pv 0))) (pd_acons (pd_isx rfl G.exc (by decide +kernel) (by decide) (by rfl) G.b_isinstance (by rfl) (pd_n (pv 0))) (pd_acons (pd_isx rfl G.exc (by decide +kernel) (by decide) (by rfl) G.b_isinstance (by rfl) (pd_n (pv 0))) pd_anil)))) pd_anil)))
  (pd_cons (pd_expr (pd_ext (pv 1) (pd_acons (r := []) (pd_lst (pd_acons (pd_isx rfl G.exc (by decide +kernel) (by decide) (by rfl) G.b_isinstance (by rfl) (pd_n (pv 0))) (pd_acons (pd_isx rfl G.exc (by decide +kernel) (by decide) (by rfl) G.b_isinstance (by rfl) (pd_n (pv 0))) (pd_acons (pd_isx rfl G.exc (by decide +kernel) (by decide) (by rfl) G.b_isinstance (by rfl) (pd_n (pv 0))) pd_anil)))) pd_anil)))
  (pd_cons (pd_expr (pd_ext (pv 1) (pd_acons (r := []) (pd_lst (pd_acons (pd_isx rfl G.exc (by decide +kernel) (by decide) (by rfl) G.b_isinstance (by rfl) (pd_n (pv 0))) (pd_acons (pd_isx rfl G.exc (by decide +kernel) (by decide) (by rfl) G.b_isinstance (by rfl) (pd_n (pv 0))) (pd_acons (pd_isx rfl G.exc (by decide +kernel) (by decide) (by rfl) G.b_isinstance (by rfl) (pd_n (pv 0))) pd_anil)))) pd_anil)))
  (pd_cons (pd_expr (pd_ext (pv 1) (pd_acons (r := []) (pd_lst (pd_acons (pd_isx rfl G.exc (by decide +kernel) (by decide) (by rfl) G.b_isinstance (by rfl) (pd_n (pv 0))) (pd_acons (pd_isx rfl G.exc (by decide +kernel) (by decide) (by rfl) G.b_isinstance (by rfl) (pd_n (pv 0))) (pd_acons (pd_isx rfl G.exc (by decide +kernel) (by decide) (by rfl) G.b_isinstance (by rfl) (pd_n (pv 0))) pd_anil)))) pd_anil)))
  (pd_cons (pd_expr (pd_ext (pv 1) (pd_acons (r := []) (pd_lst (pd_acons (pd_isx rfl G.exc (by decide +kernel) (by decide) (by rfl) G.b_isinstance (by rfl) (pd_n (pv 0))) (pd_acons (pd_isx rfl G.exc (by decide +kernel) (by decide) (by rfl) G.b_isinstance (by rfl) (pd_n (pv 0))) (pd_acons (pd_isx rfl G.exc (by decide +kernel) (by decide) (by rfl) G.b_isinstance (by rfl) (pd_n (pv 0))) pd_anil)))) pd_anil)))
  (pd_cons (pd_expr (pd_ext (pv 1) (pd_acons (r := []) (pd_lst (pd_acons (pd_isx rfl G.exc (by decide +kernel) (by decide) (by rfl) G.b_isinstance (by rfl) (pd_n (pv 0))) (pd_acons (pd_isx rfl G.exc (by decide +kernel) (by decide) (by rfl) G.b_isinstance (by rfl) (pd_n (pv 0))) (pd_acons (pd_isx rfl G.exc (by decide +kernel) (by decide) (by rfl) G.b_isinstance (by rfl) (pd_n (pv 0))) pd_anil)))) pd_anil)))
  (pd_cons (pd_expr (pd_ext (pv 1) (pd_acons (r := []) (pd_lst (pd_acons (pd_isx rfl G.exc (by decide +kernel) (by decide) (by rfl) G.b_isinstance (by rfl) (pd_n (pv 0))) (pd_acons (pd_isx rfl G.exc (by decide +kernel) (by decide) (by rfl) G.b_isinstance (by rfl) (pd_n (pv 0))) (pd_acons (pd_isx rfl G.exc (by decide +kernel) (by decide) (by rfl) G.b_isinstance (by rfl) (pd_n (pv 0))) pd_anil)))) pd_anil)))
  (pd_one (pd_ret (pd_m (pv 1)))))))))))))))))
theorem ok__law_of (G : Ground P w K mg cl) : Cld P w K mg base cl 2 "_law_of" ["pot", "some"] F__law_of := by
  obtain ⟨f, fd, Ff, hm⟩ := G.f__law_of
  refine cld_mk Ff hm sc__law_of rfl (by decide) (fun kV doc pm an cdv ct us ws ks hl hk => ?_) (fun cdv A outer s H E G' hr hg => ?_)
  · subst hk
    match us, hl with
    | [], hl => match ws, (by simp only [List.length_cons, List.length_nil] at hl; omega : ws.length = 2) with
      | [_, _], _ => rfl
    | [_], hl => match ws, (by simp only [List.length_cons, List.length_nil] at hl; omega : ws.length = 1) with
      | [_], _ => rfl
    | [_, _], hl => match ws, (by simp only [List.length_cons, List.length_nil] at hl; omega : ws.length = 0) with
      | [], _ => rfl
    | _ :: _ :: _ :: _, hl => exact absurd hl (by simp only [List.length_cons, List.length_nil]; omega)
  have ax : Ax (cxOf (L2.CX P w) P w K mg base N__law_of "_law_of" (defScope s__law_of) f cdv A outer s H E) := ax_of hr hg rfl
  have hx : Passes (L2.CX P w) (cxOf (L2.CX P w) P w K mg base N__law_of "_law_of" (defScope s__law_of) f cdv A outer s H E) E := passes_call (takes_of rfl rfl rfl rfl) (fun _ _ _ _ h => h)
  exact (pd_one (pd_ret (pd_ix ax rfl (pd_n (pv 1)) (pd_call (ok__law_take G) rfl (hr.mono (by decide)) ax.gd (by rfl) hx rfl (pd_acons (pd_n (pv 0)) (pd_acons (pd_bi (og_len rfl) (by rfl) G.b_len bt_len (pd_acons (pd_n (pv 1)) pd_anil)) pd_anil))))))
theorem ok__law_made (G : Ground P w K mg cl) : Cld P w K mg base cl 2 "_law_made" ["value"] F__law_made := by
  obtain ⟨f, fd, Ff, hm⟩ := G.f__law_made
  refine cld_mk Ff hm sc__law_made rfl (by decide) (fun kV doc pm an cdv ct us ws ks hl hk => ?_) (fun cdv A outer s H E G' hr hg => ?_)
  · subst hk
    match us, hl with
    | [], hl => match ws, (by simp only [List.length_cons, List.length_nil] at hl; omega : ws.length = 1) with
      | [_], _ => rfl
    | [_], hl => match ws, (by simp only [List.length_cons, List.length_nil] at hl; omega : ws.length = 0) with
      | [], _ => rfl
    | _ :: _ :: _, hl => exact absurd hl (by simp only [List.length_cons, List.length_nil]; omega)
  have ax : Ax (cxOf (L2.CX P w) P w K mg base N__law_made "_law_made" (defScope s__law_made) f cdv A outer s H E) := ax_of hr hg rfl
  have hx : Passes (L2.CX P w) (cxOf (L2.CX P w) P w K mg base N__law_made "_law_made" (defScope s__law_made) f cdv A outer s H E) E := passes_call (takes_of rfl rfl rfl rfl) (fun _ _ _ _ h => h)
  exact (pd_cons (pd_set (i := 1) (show (1 : Nat) ∉ kpFrom 0 [true] from by decide) sc__law_made.nd rfl (by first | exact Or.inl rfl | exact Or.inr rfl) (pd_lst (pd_acons (pd_fz (pd_exc G.exc (by decide +kernel) hr (by decide) (by rfl) (pd_x (pv 0)))) (pd_acons (pd_fz (pd_exc G.exc (by decide +kernel) hr (by decide) (by rfl) (pd_x (pv 0)))) (pd_acons (pd_fz (pd_exc G.exc (by decide +kernel) hr (by decide) (by rfl) (pd_x (pv 0)))) (pd_acons (pd_fz (pd_exc G.exc (by decide +kernel) hr (by decide) (by rfl) (pd_x (pv 0)))) pd_anil))))))
  (pd_cons (pd_expr (pd_ext (pv 1) (pd_acons (r := []) (pd_lst (pd_acons (pd_fz (pd_exc G.exc (by decide +kernel) hr (by decide) (by rfl) (pd_x (pv 0)))) (pd_acons (pd_fz (pd_exc G.exc (by decide +kernel) hr (by decide) (by rfl) (pd_x (pv 0)))) (pd_acons (pd_fz (pd_exc G.exc (by decide +kernel) hr (by decide) (by rfl) (pd_x (pv 0)))) (pd_acons (pd_fz (pd_exc G.exc (by decide +kernel) hr (by decide) (by rfl) (pd_x (pv 0)))) pd_anil))))) pd_anil)))
  (pd_cons (pd_expr (pd_ext (pv 1) (pd_acons (r := []) (pd_lst (pd_acons (pd_fz (pd_exc G.exc (by decide +kernel) hr (by decide) (by rfl) (pd_x (pv 0)))) (pd_acons (pd_fz (pd_exc G.exc (by decide +kernel) hr (by decide) (by rfl) (pd_x (pv 0)))) (pd_acons (pd_fz (pd_exc G.exc (by decide +kernel) hr (by decide) (by rfl) (pd_x (pv 0)))) (pd_acons (pd_fz (pd_exc G.exc (by decide +kernel) hr (by decide) (by rfl) (pd_x (pv 0)))) pd_anil))))) pd_anil)))
  (pd_cons (pd_expr (pd_ext (pv 1) (pd_acons (r := []) (pd_lst (pd_acons (pd_fz (pd_exc G.exc (by decide +kernel) hr (by decide) (by rfl) (pd_x (pv 0)))) (pd_acons (pd_fz (pd_exc G.exc (by decide +kernel) hr (by decide) (by rfl) (pd_x (pv 0)))) (pd_acons (pd_fz (pd_exc G.exc (by decide +kernel) hr (by decide) (by rfl) (pd_x (pv 0)))) (pd_acons (pd_fz (pd_exc G.exc (by decide +kernel) hr (by decide) (by rfl) (pd_x (pv 0)))) pd_anil))))) pd_anil)))
  (pd_cons (pd_expr (pd_ext (pv 1) (pd_acons (r := []) (pd_lst (pd_acons (pd_fz (pd_exc G.exc (by decide +kernel) hr (by decide) (by rfl) (pd_x (pv 0)))) (pd_acons (pd_fz (pd_exc G.exc (by decide +kernel) hr (by decide) (by rfl) (pd_x (pv 0)))) (pd_acons (pd_fz (pd_exc G.exc (by decide +kernel) hr (by decide) (by rfl) (pd_x (pv 0)))) (pd_acons (pd_fz (pd_exc G.exc (by decide +kernel) hr (by decide) (by rfl) (pd_x (pv 0)))) pd_anil))))) pd_anil)))
  (pd_cons (pd_expr (pd_ext (pv 1) (pd_acons (r := []) (pd_lst (pd_acons (pd_fz (pd_exc G.exc (by decide +kernel) hr (by decide) (by rfl) (pd_x (pv 0)))) (pd_acons (pd_fz (pd_exc G.exc (by decide +kernel) hr (by decide) (by rfl) (pd_x (pv 0)))) (pd_acons (pd_fz (pd_exc G.exc (by decide +kernel) hr (by decide) (by rfl) (pd_x (pv 0)))) (pd_acons (pd_fz (pd_exc G.exc (by decide +kernel) hr (by decide) (by rfl) (pd_x (pv 0)))) pd_anil))))) pd_anil)))
  (pd_cons (pd_expr (pd_ext (pv 1) (pd_acons (r := []) (pd_lst (pd_acons (pd_fz (pd_exc G.exc (by decide +kernel) hr (by decide) (by rfl) (pd_x (pv 0)))) (pd_acons (pd_fz (pd_exc G.exc (by decide +kernel) hr (by decide) (by rfl) (pd_x (pv 0)))) (pd_acons (pd_fz (pd_exc G.exc (by decide +kernel) hr (by decide) (by rfl) (pd_x (pv 0)))) (pd_acons (pd_fz (pd_exc G.exc (by decide +kernel) hr (by decide) (by rfl) (pd_x (pv 0)))) pd_anil))))) pd_anil)))
  (pd_cons (pd_expr (pd_ext (pv 1) (pd_acons (r := []) (pd_lst (pd_acons (pd_fz (pd_exc G.exc (by decide +kernel) hr (by decide) (by rfl) (pd_x (pv 0)))) (pd_acons (pd_fz (pd_exc G.exc (by decide +kernel) hr (by decide) (by rfl) (pd_x (pv 0)))) (pd_acons (pd_fz (pd_exc G.exc (by decide +kernel) hr (by decide) (by rfl) (pd_x (pv 0)))) (pd_acons (pd_fz (pd_exc G.exc (by decide +kernel) hr (by decide) (by rfl) (pd_x (pv 0)))) pd_anil))))) pd_anil)))
  (pd_cons (pd_expr (pd_ext (pv 1) (pd_acons (r := []) (pd_lst (pd_acons (pd_fz (pd_exc G.exc (by decide +kernel) hr (by decide) (by rfl) (pd_x (pv 0)))) (pd_acons (pd_fz (pd_exc G.exc (by decide +kernel) hr (by decide) (by rfl) (pd_x (pv 0)))) (pd_acons (pd_fz (pd_exc G.exc (by decide +kernel) hr (by decide) (by rfl) (pd_x (pv 0)))) (pd_acons (pd_fz (pd_exc G.exc (by decide +kernel) hr (by decide) (by rfl) (pd_x (pv 0)))) pd_anil))))) pd_anil)))
  (pd_cons (pd_expr (pd_ext (pv 1) (pd_acons (r := []) (pd_lst (pd_acons (pd_fz (pd_exc G.exc (by decide +kernel) hr (by decide) (by rfl) (pd_x (pv 0)))) (pd_acons (pd_fz (pd_exc G.exc (by decide +kernel) hr (by decide) (by rfl) (pd_x (pv 0)))) (pd_acons (pd_fz (pd_exc G.exc (by decide +kernel) hr (by decide) (by rfl) (pd_x (pv 0)))) pd_anil)))) pd_anil)))
  (pd_one (pd_ret (pd_m (pv 1))))))))))))))
theorem ok__law_odd (G : Ground P w K mg cl) : Cld P w K mg base cl 3 "_law_odd" ["pot"] F__law_odd := by
  obtain ⟨f, fd, Ff, hm⟩ := G.f__law_odd
  refine cld_mk Ff hm sc__law_odd rfl (by decide) (fun kV doc pm an cdv ct us ws ks hl hk => ?_) (fun cdv A outer s H E G' hr hg => ?_)
  · subst hk
    match us, hl with
    | [], hl => match ws, (by simp only [List.length_cons, List.length_nil] at hl; omega : ws.length = 1) with
      | [_], _ => rfl
    | [_], hl => match ws, (by simp only [List.length_cons, List.length_nil] at hl; omega : ws.length = 0) with
      | [], _ => rfl
    | _ :: _ :: _, hl => exact absurd hl (by simp only [List.length_cons, List.length_nil]; omega)
  have ax : Ax (cxOf (L2.CX P w) P w K mg base N__law_odd "_law_odd" (defScope s__law_odd) f cdv A outer s H E) := ax_of hr hg rfl
  have hx : Passes (L2.CX P w) (cxOf (L2.CX P w) P w K mg base N__law_odd "_law_odd" (defScope s__law_odd) f cdv A outer s H E) E := passes_call (takes_of rfl rfl rfl rfl) (fun _ _ _ _ h => h)
  exact (pd_cons (pd_set (i := 1) (show (1 : Nat) ∉ kpFrom 0 [true] from by decide) sc__law_odd.nd rfl (by first | exact Or.inl rfl | exact Or.inr rfl) (pd_lst (pd_acons (pd_c pe_non .non) (pd_acons (pd_c pe_bl (.bl _)) (pd_acons (pd_c pe_bl (.bl _)) (pd_acons (pd_c pe_int (.int _)) (pd_acons (pd_c pe_int (.int _)) (pd_acons (pd_un og_neg (pd_c pe_int (.int _))) (pd_acons (pd_c pe_int (.int _)) (pd_acons (pd_c pe_int (.int _)) (pd_acons (pd_c pe_int (.int _)) (pd_acons (pd_c pe_str (.str _)) (pd_acons (pd_c pe_str (.str _)) (pd_acons (pd_c pe_str (.str _)) (pd_acons (pd_c pe_str (.str _)) (pd_acons (pd_c pe_str (.str _)) (pd_acons (pd_tup pd_anil) (pd_acons (pd_fz (pd_lst pd_anil)) (pd_acons (pd_fz pd_dct0) (pd_acons (pd_tup (pd_acons (pd_c pe_int (.int _)) pd_anil)) (pd_acons (pd_tup (pd_acons (pd_tup pd_anil) pd_anil)) (pd_acons (pd_fz (pd_lst (pd_acons (pd_c pe_int (.int _)) pd_anil))) pd_anil))))))))))))))))))))))
  (pd_cons (pd_expr (pd_ext (pv 1) (pd_acons (r := []) (pd_lst (pd_acons (pd_tup (pd_acons (pd_c pe_str (.str _)) pd_anil)) (pd_acons (pd_tup (pd_acons (pd_c pe_str (.str _)) (pd_acons (pd_c pe_str (.str _)) pd_anil))) (pd_acons (pd_tup (pd_acons (pd_c pe_int (.int _)) (pd_acons (pd_c pe_int (.int _)) pd_anil))) (pd_acons (pd_tup (pd_acons (pd_c pe_non .non) pd_anil)) (pd_acons (pd_tup (pd_acons (pd_c pe_str (.str _)) (pd_acons (pd_c pe_str (.str _)) (pd_acons (pd_c pe_str (.str _)) pd_anil)))) (pd_acons (pd_op (og_pow rfl) (pd_c pe_int (.int _)) (pd_c pe_int (.int _))) pd_anil))))))) pd_anil)))
  (pd_one (pd_ret (pd_call (ok__law_of G) rfl (hr.mono (by decide)) ax.gd (by rfl) hx rfl (pd_acons (pd_n (pv 0)) (pd_acons (pd_x (pv 1)) pd_anil)))))))
theorem ok__law_right (G : Ground P w K mg cl) : Cld P w K mg base cl 3 "_law_right" ["value"] F__law_right := by
  obtain ⟨f, fd, Ff, hm⟩ := G.f__law_right
  refine cld_mk Ff hm sc__law_right rfl (by decide) (fun kV doc pm an cdv ct us ws ks hl hk => ?_) (fun cdv A outer s H E G' hr hg => ?_)
  · subst hk
    match us, hl with
    | [], hl => match ws, (by simp only [List.length_cons, List.length_nil] at hl; omega : ws.length = 1) with
      | [_], _ => rfl
    | [_], hl => match ws, (by simp only [List.length_cons, List.length_nil] at hl; omega : ws.length = 0) with
      | [], _ => rfl
    | _ :: _ :: _, hl => exact absurd hl (by simp only [List.length_cons, List.length_nil]; omega)
  have ax : Ax (cxOf (L2.CX P w) P w K mg base N__law_right "_law_right" (defScope s__law_right) f cdv A outer s H E) := ax_of hr hg rfl
  have hx : Passes (L2.CX P w) (cxOf (L2.CX P w) P w K mg base N__law_right "_law_right" (defScope s__law_right) f cdv A outer s H E) E := passes_call (takes_of rfl rfl rfl rfl) (fun _ _ _ _ h => h)
  exact (pd_cons (pd_set (i := 1) (show (1 : Nat) ∉ kpFrom 0 [true] from by decide) sc__law_right.nd rfl (by first | exact Or.inl rfl | exact Or.inr rfl) (pd_bi (og_reprD ax rfl G.sysm) (by rfl) G.b_repr bt_repr (pd_acons (pd_n (pv 0)) pd_anil)))
  (pd_cons (pd_for (tg_tup (tg_cons (tg_name (show (3 : Nat) ∉ kpFrom 0 [true] from by decide)) (tg_cons (tg_name (show (4 : Nat) ∉ kpFrom 0 [true] from by decide)) tg_nil))) (passes_of rfl) rfl (pi_en (by rfl) G.b_enumerate (pd_fz (pd_call (ok__law_made G) rfl (hr.mono (by decide)) ax.gd (by rfl) hx rfl (pd_acons (pd_x (pv 0)) pd_anil)))) (pg_tup rfl (pgs_cons (pg_name (i := 3) sc__law_right.nd rfl (by first | exact Or.inl rfl | exact Or.inr rfl)) (pgs_cons (pg_name (i := 4) sc__law_right.nd rfl (by first | exact Or.inl rfl | exact Or.inr rfl)) pgs_nil))) (pd_cons (pd_if (PW.pt (pw_bor (pt_bnot (pt_bv (pd_isx rfl G.exc (by decide +kernel) (by decide) (by rfl) G.b_isinstance (by rfl) (pd_n (pv 4))))) (pw_bor (pt_bnot (pt_bv (pd_isxV rfl G.exc (by rfl) G.b_isinstance (by rfl) G.b_ValueError (pd_n (pv 4))))) (pw_or1 (pt_cmp2 (og_ne ax rfl) (pd_bi (og_reprD ax rfl G.sysm) (by rfl) G.b_repr bt_repr (pd_acons (pd_exval rfl G.exc (pd_n (pv 4))) pd_anil)) (pd_n (pv 1))))))) (pd_one (pd_ret (pd_c pe_bl (.bl _)))) pd_nil)
  (pd_one (pd_if (pt_cmp2 (og_ne ax rfl) (pd_call (ok__law_marks G) rfl (hr.mono (by decide)) ax.gd (by rfl) hx rfl (pd_acons (pd_x (pv 4)) pd_anil)) (pd_lc (own := [("spot", 5)]) (tg_name (show (5 : Nat) ∉ kpFrom 0 [true] from by decide)) (by decide) (show ∀ i ∈ kpFrom 0 [true], i ∉ ([5] : List Nat) from by decide) (by decide) gd_rg rfl sc__law_right.nd (pi_rg1 (by rfl) G.b_range (pd_c pe_int (.int _))) (blkOk_by (N := N__law_right) (sc := defScope s__law_right) (by decide +kernel)) (fun _ _ _ _ _ => (pg_name (i := 5) sc__law_right.nd rfl (by first | exact Or.inl rfl | exact Or.inr rfl))) (fun _ _ _ _ _ => pd_yes) (fun _ _ _ _ _ => (pd_cmp (og_eq (ax.blk) rfl) (pd_n (pv 5)) (pd_n (pv 3)))))) (pd_one (pd_ret (pd_c pe_bl (.bl _)))) pd_nil))))
  (pd_cons (pd_set (i := 2) (show (2 : Nat) ∉ kpFrom 0 [true] from by decide) sc__law_right.nd rfl (by first | exact Or.inl rfl | exact Or.inr rfl) (pd_exc G.exc (by decide +kernel) hr (by decide) (by rfl) (pd_x (pv 0))))
  (pd_cons (pd_if (PW.pt (pw_bor (pt_bnot (pt_bv (pd_isxV rfl G.exc (by rfl) G.b_isinstance (by rfl) G.b_ValueError (pd_n (pv 2))))) (pw_or1 (pt_bv (pd_bi (og_any ax rfl) (by rfl) G.b_any bt_any (pd_acons (pd_call (ok__law_marks G) rfl (hr.mono (by decide)) ax.gd (by rfl) hx rfl (pd_acons (pd_x (pv 2)) pd_anil)) pd_anil)))))) (pd_one (pd_ret (pd_c pe_bl (.bl _)))) pd_nil)
  (pd_one (pd_ret (pd_and (pd_cmp (og_eq ax rfl) (pd_bi (og_reprD ax rfl G.sysm) (by rfl) G.b_repr bt_repr (pd_acons (pd_exval rfl G.exc (pd_n (pv 2))) pd_anil)) (pd_n (pv 1))) (pe_one (pd_cmp (og_eq ax rfl) (pd_bi (og_reprD ax rfl G.sysm) (by rfl) G.b_repr bt_repr (pd_acons (pd_n (pv 0)) pd_anil)) (pd_n (pv 1)))))))))))
theorem ok__law_nested (G : Ground P w K mg cl) : Cld P w K mg base cl 4 "_law_nested" ["pot"] F__law_nested := by
  obtain ⟨f, fd, Ff, hm⟩ := G.f__law_nested
  refine cld_mk Ff hm sc__law_nested rfl (by decide) (fun kV doc pm an cdv ct us ws ks hl hk => ?_) (fun cdv A outer s H E G' hr hg => ?_)
  · subst hk
    match us, hl with
    | [], hl => match ws, (by simp only [List.length_cons, List.length_nil] at hl; omega : ws.length = 1) with
      | [_], _ => rfl
    | [_], hl => match ws, (by simp only [List.length_cons, List.length_nil] at hl; omega : ws.length = 0) with
      | [], _ => rfl
    | _ :: _ :: _, hl => exact absurd hl (by simp only [List.length_cons, List.length_nil]; omega)
  have ax : Ax (cxOf (L2.CX P w) P w K mg base N__law_nested "_law_nested" (defScope s__law_nested) f cdv A outer s H E) := ax_of hr hg rfl
  have hx : Passes (L2.CX P w) (cxOf (L2.CX P w) P w K mg base N__law_nested "_law_nested" (defScope s__law_nested) f cdv A outer s H E) E := passes_call (takes_of rfl rfl rfl rfl) (fun _ _ _ _ h => h)
  exact (pd_cons (pd_set (i := 1) (show (1 : Nat) ∉ kpFrom 0 [true] from by decide) sc__law_nested.nd rfl (by first | exact Or.inl rfl | exact Or.inr rfl) (pd_call (ok__law_odd G) rfl (hr.mono (by decide)) ax.gd (by rfl) hx rfl (pd_acons (pd_n (pv 0)) pd_anil)))
  (pd_cons (pd_for (tg_name (show (2 : Nat) ∉ kpFrom 0 [true] from by decide)) (passes_of rfl) rfl (pi_rg1 (by rfl) G.b_range (pd_fz (pd_call (ok__law_of G) rfl (hr.mono (by decide)) ax.gd (by rfl) hx rfl (pd_acons (pd_n (pv 0)) (pd_acons (pd_lst (pd_acons (pd_c pe_int (.int _)) (pd_acons (pd_c pe_int (.int _)) (pd_acons (pd_c pe_int (.int _)) (pd_acons (pd_c pe_int (.int _)) (pd_acons (pd_c pe_int (.int _)) pd_anil)))))) pd_anil))))) (pg_name (i := 2) sc__law_nested.nd rfl (by first | exact Or.inl rfl | exact Or.inr rfl)) (pd_one (pd_set (i := 1) (show (1 : Nat) ∉ kpFrom 0 [true] from by decide) sc__law_nested.nd rfl (by first | exact Or.inl rfl | exact Or.inr rfl) (pd_call (ok__law_of G) rfl (hr.mono (by decide)) ax.gd (by rfl) hx rfl (pd_acons (pd_n (pv 0)) (pd_acons (pd_lst (pd_acons (pd_tup (pd_acons (pd_x (pv 1)) pd_anil)) (pd_acons (pd_fz (pd_lst (pd_acons (pd_x (pv 1)) pd_anil))) (pd_acons (pd_fz (pd_disp (l := [("a", (eX 1))]) (pps_cons pe_str (pd_x (pv 1)) pps_nil))) (pd_acons (pd_tup (pd_acons (pd_c pe_str (.str _)) (pd_acons (pd_x (pv 1)) pd_anil))) pd_anil))))) pd_anil))))))
  (pd_one (pd_ret (pd_m (pv 1))))))
theorem ok_law (G : Ground P w K mg cl) : Cld P w K mg base cl 5 "law" ["script"] F_law := by
  obtain ⟨f, fd, Ff, hm⟩ := G.f_law
  refine cld_mk Ff hm sc_law rfl (by decide) (fun kV doc pm an cdv ct us ws ks hl hk => ?_) (fun cdv A outer s H E G' hr hg => ?_)
  · subst hk
    match us, hl with
    | [], hl => match ws, (by simp only [List.length_cons, List.length_nil] at hl; omega : ws.length = 1) with
      | [_], _ => rfl
    | [_], hl => match ws, (by simp only [List.length_cons, List.length_nil] at hl; omega : ws.length = 0) with
      | [], _ => rfl
    | _ :: _ :: _, hl => exact absurd hl (by simp only [List.length_cons, List.length_nil]; omega)
  have ax : Ax (cxOf (L2.CX P w) P w K mg base N_law "law" (defScope s_law) f cdv A outer s H E) := ax_of hr hg rfl
  have hx : Passes (L2.CX P w) (cxOf (L2.CX P w) P w K mg base N_law "law" (defScope s_law) f cdv A outer s H E) E := passes_call (takes_of rfl rfl rfl rfl) (fun _ _ _ _ h => h)
  exact (pd_cons (pd_for (tg_name (show (1 : Nat) ∉ kpFrom 0 [true] from by decide)) (passes_of rfl) rfl (pi_seq rfl (pd_fz (pd_call (ok__law_cells G) rfl (hr.mono (by decide)) ax.gd (by rfl) hx rfl (pd_acons (pd_x (pv 0)) (pd_acons (pd_c pe_int (.int _)) pd_anil))))) (pg_name (i := 1) sc_law.nd rfl (by first | exact Or.inl rfl | exact Or.inr rfl)) (pd_cons (pd_set (i := 2) (show (2 : Nat) ∉ kpFrom 0 [true] from by decide) sc_law.nd rfl (by first | exact Or.inl rfl | exact Or.inr rfl) (pd_call (ok__law_pot G) rfl (hr.mono (by decide)) ax.gd (by rfl) hx rfl (pd_acons (pd_x (pv 0)) (pd_acons (pd_x (pv 1)) pd_anil))))
  (pd_one (pd_if (pt_bnot (pt_bv (pd_bi (og_all ax rfl) (by rfl) G.b_all bt_all (pd_acons (pd_lc (own := [("lap", 3)]) (tg_name (show (3 : Nat) ∉ kpFrom 0 [true] from by decide)) (by decide) (show ∀ i ∈ kpFrom 0 [true], i ∉ ([3] : List Nat) from by decide) (by decide) gd_rg rfl sc_law.nd (pi_rg1 (by rfl) G.b_range (pd_c pe_int (.int _))) (blkOk_by (N := N_law) (sc := defScope s_law) (by decide +kernel)) (fun _ _ _ _ _ => (pg_name (i := 3) sc_law.nd rfl (by first | exact Or.inl rfl | exact Or.inr rfl))) (fun _ _ _ _ _ => pd_yes) (fun _ _ _ _ _ => (pd_call (ok__law_right G) rfl (hr.mono (by decide)) (ax.blk).gd (by rfl) passL rfl (pd_acons (pd_call (ok__law_nested G) rfl (hr.mono (by decide)) (ax.blk).gd (by rfl) passL rfl (pd_acons (pd_n (pv 2)) pd_anil)) pd_anil)))) pd_anil)))) (pd_one (pd_ret (pd_c pe_bl (.bl _)))) pd_nil))))
  (pd_one (pd_ret (pd_c pe_bl (.bl _)))))
end

end K00
end
section
/-! how the evaluators run: equations for simp -/
namespace Dl
open PySem L2 DlZ DlR DlS
section
variable {α β : Type} {ρ : DEnv} {f g fa fb fc : EM} {k ka kb kc : Kd} {a b : SM} {t u : DEnv → Out Bool} {r : List (Kd × EM)} {i j : Nat} {s : Slot} {d : D}
def SOut.seq (o : SOut) (b : SM) : SOut := match o with
  | .nx ρ1 => b ρ1
  | .rt s ρ1 => .rt s ρ1
  | .bk ρ1 => .bk ρ1
  | .ct ρ1 => .ct ρ1
  | .er c d ρ1 => .er c d ρ1
  | .no => .no
@[simp] theorem SOut.seq_nx : (SOut.nx ρ).seq b = b ρ := rfl
@[simp] theorem SOut.seq_rt : (SOut.rt s ρ).seq b = .rt s ρ := rfl
@[simp] theorem SOut.seq_no : SOut.no.seq b = .no := rfl
@[simp] theorem sSeq_eq : sSeq a b ρ = (a ρ).seq b := by unfold sSeq SOut.seq; cases a ρ <;> rfl
@[simp] theorem sIf_eq : sIf t a b ρ = (t ρ).bindS fun c ρ1 => if c then a ρ1 else b ρ1 := rfl
@[simp] theorem sRt_eq : sRt f ρ = (f ρ).bindS fun s ρ1 => .rt s ρ1 := rfl
@[simp] theorem sDrop_eq : sDrop f ρ = (f ρ).bindS fun _ ρ1 => .nx ρ1 := rfl
@[simp] theorem sSet_eq : sSet i f ρ = (f ρ).bindS fun s ρ1 => .nx (ρ1.set i s) := rfl
@[simp] theorem sPar_eq {is : List Nat} : sPar is r ρ = (eArgs r ρ).bindS fun ss ρ1 => .nx (setAll is ss ρ1) := rfl
@[simp] theorem setAll_nil : setAll [] [] ρ = ρ := rfl
@[simp] theorem setAll_cons {is : List Nat} {ss : List Slot} : setAll (i :: is) (s :: ss) ρ = setAll is ss (ρ.set i s) := rfl
@[simp] theorem sNx_eq : sNx ρ = .nx ρ := rfl
@[simp] theorem sRtN_eq : sRtN ρ = .rt (.fz .none) ρ := rfl
@[simp] theorem sFor_eq {fi : DEnv → Out IS} {tg : TgD} : sFor fi tg b ρ = (fi ρ).bindS fun S ρ1 => forGo S.gd tg b S.ds ρ1 := rfl
@[simp] theorem eArgs_nil : eArgs [] ρ = .ok [] ρ := rfl
@[simp] theorem eArgs_cons : eArgs ((k, f) :: r) ρ = (f ρ).bind fun s ρ1 => (eArgs r ρ1).bind fun ss ρ2 => .ok (s :: ss) ρ2 := rfl
@[simp] theorem eB_eq {g : List Slot → Option Slot} : eB r g ρ = (eArgs r ρ).bind fun ss ρ1 => ofO (g (slL (r.map (·.1)) ss ρ1)) ρ1 := rfl
@[simp] theorem e1_eq {g : Slot → Option Slot} : e1 k f g ρ = (f ρ).bind fun s ρ1 => ofO (g (sl k s ρ1)) ρ1 := rfl
@[simp] theorem e2_eq {g : Slot → Slot → Option Slot} : e2 ka kb fa fb g ρ = (fa ρ).bind fun s ρ1 => (fb ρ1).bind fun t ρ2 => ofO (g (sl ka s ρ2) (sl kb t ρ2)) ρ2 := rfl
@[simp] theorem eCh_eq {g g' : Slot → Slot → Option Slot} : eCh ka kb kc fa fb fc g g' ρ = (fa ρ).bind fun s ρ1 => (fb ρ1).bind fun t ρ2 => (ofO ((g (sl ka s ρ2) (sl kb t ρ2)).bind isBl) ρ2).bind fun b _ =>
    if b then (fc ρ2).bind fun u ρ3 => ofO (g' (sl kb t ρ3) (sl kc u ρ3)) ρ3 else .ok (.fz (.bool false)) ρ2 := rfl
@[simp] theorem eIsi_eq {T : String} : eIsi k f T ρ = (f ρ).bind fun s ρ1 => ofO (((sl k s ρ1).d?.bind (isTy T)).map fun b => .fz (.bool b)) ρ1 := rfl
@[simp] theorem bV_eq : bV k f ρ = (f ρ).bind fun s ρ1 => ofO (isBl (sl k s ρ1)) ρ1 := rfl
@[simp] theorem bNot_eq : bNot t ρ = (t ρ).bind fun b ρ1 => .ok (!b) ρ1 := rfl
@[simp] theorem bAnd_eq : bAnd t u ρ = (t ρ).bind fun b ρ1 => if b then u ρ1 else .ok false ρ1 := rfl
@[simp] theorem bOr_eq : bOr t u ρ = (t ρ).bind fun b ρ1 => if b then .ok true ρ1 else u ρ1 := rfl
@[simp] theorem eNot_eq : eNot k f ρ = (bV k f ρ).bind fun b ρ1 => .ok (.fz (.bool (!b))) ρ1 := rfl
@[simp] theorem eAnd_eq : eAnd k f g ρ = (bV k f ρ).bind fun b ρ1 => if b then g ρ1 else .ok (.fz (.bool false)) ρ1 := rfl
@[simp] theorem eOr_eq : eOr k f g ρ = (bV k f ρ).bind fun b ρ1 => if b then .ok (.fz (.bool true)) ρ1 else g ρ1 := rfl
@[simp] theorem eIf_eq : eIf t f g ρ = (t ρ).bind fun b ρ1 => if b then f ρ1 else g ρ1 := rfl
theorem eN_eq : eN i ρ = match ρ.getD i .no with
  | .no => .no
  | _ => .ok .no ρ := rfl
@[simp] theorem eN_fz (h : ρ[i]? = some (.fz d)) : eN i ρ = .ok .no ρ := by unfold eN; rw [List.getD_eq_getElem?_getD, h]; rfl
@[simp] theorem eN_ow {c : Cont} (h : ρ[i]? = some (.ow c)) : eN i ρ = .ok .no ρ := by unfold eN; rw [List.getD_eq_getElem?_getD, h]; rfl
theorem eX_fz (h : ρ[i]? = some (.fz d)) : eX i ρ = .ok (.fz d) (ρ.set i (.fz d)) := by unfold eX; rw [List.getD_eq_getElem?_getD, h]; rfl
theorem eX_ow {c : Cont} (h : ρ[i]? = some (.ow c)) (hc : ∀ t kvs, c ≠ .lk t kvs) (hg : ∀ kvs, c ≠ .gd kvs := by intro _ z; nomatch z) : eX i ρ = .ok (.fz c.view) (ρ.set i (.fz c.view)) := by
  unfold eX
  rw [List.getD_eq_getElem?_getD, h]
  cases c <;> first | rfl | exact absurd rfl (hc _ _) | exact absurd rfl (hg _)
theorem eX_l {ds : List D} (h : ρ[i]? = some (.ow (.lst ds))) : eX i ρ = .ok (.fz (.list ds)) (ρ.set i (.fz (.list ds))) := eX_ow h (fun _ _ z => nomatch z)
theorem eM_fz (h : ρ[i]? = some (.fz d)) : eM i ρ = .ok (.fz d) (ρ.set i .no) := by unfold eM; rw [List.getD_eq_getElem?_getD, h]; rfl
theorem eM_ow {c : Cont} (h : ρ[i]? = some (.ow c)) : eM i ρ = .ok (.ow c) (ρ.set i .no) := by unfold eM; rw [List.getD_eq_getElem?_getD, h]; rfl
@[simp] theorem eFz_eq : eFz f ρ = (f ρ).bind fun s ρ1 => match s.shared with
  | some d => .ok (.fz d) ρ1
  | none => .no := rfl
def FOut.out (o : FOut) (F : List Slot → DEnv) : Out Slot := match o with
  | .ok s ss => .ok s (F ss)
  | .er c d ss => .er c d (F ss)
  | .no => .no
@[simp] theorem FOut.out_ok {ss : List Slot} {F : List Slot → DEnv} : (FOut.ok s ss).out F = .ok s (F ss) := rfl
@[simp] theorem eCall_eq {F : List Slot → FOut} : eCall r F ρ = (eArgs r ρ).bind fun ss ρ1 => (F (lend (r.map (·.1)) ss ρ1).1).out fun ss' => unlend (r.map (·.1)) ss' (lend (r.map (·.1)) ss ρ1).2 := by
  unfold eCall
  congr 1
def SOut.fin (o : SOut) (m : List Bool) : FOut := match o with
  | .nx ρ => .ok (.fz .none) (kept m ρ)
  | .rt s ρ => .ok s (kept m ρ)
  | .er c d ρ => .er c d (kept m ρ)
  | _ => .no
@[simp] theorem SOut.fin_rt {m : List Bool} : (SOut.rt s ρ).fin m = .ok s (kept m ρ) := rfl
@[simp] theorem SOut.fin_nx {m : List Bool} : (SOut.nx ρ).fin m = .ok (.fz .none) (kept m ρ) := rfl
@[simp] theorem runF_eq {n : Nat} {m : List Bool} {ss : List Slot} : runF n m b ss = (b (ss ++ List.replicate (n - m.length) .no)).fin m := by
  unfold runF SOut.fin
  cases b (ss ++ List.replicate (n - m.length) .no) <;> rfl
@[simp] theorem eSl_eq {p1 p2 : DEnv → Out (Option Int)} : eSl k f p1 p2 ρ = (f ρ).bind fun s ρ1 => (p1 ρ1).bind fun lo ρ2 => (p2 ρ2).bind fun hi ρ3 => ofO (g1 (slOp lo hi) (sl k s ρ3)) ρ3 := rfl
@[simp] theorem iSeq_eq : iSeq k f ρ = (f ρ).bind fun s ρ1 => match (sl k s ρ1).d? with
  | some d => match itemsOf d with
    | some ds => .ok ⟨ds, gdOf k d⟩ ρ1
    | none => .no
  | none => .no := rfl
@[simp] theorem eLc_eq {vl : List Nat} {fi : DEnv → Out IS} {tg : TgD} {c : DEnv → Out Bool} : eLc vl fi tg c f ρ = (fi ρ).bind fun S ρ1 => (noEr (lcGo S.gd vl tg c f S.ds (wipeD ρ1 vl))).bind fun ys ρ2 => .ok (.ow (.lst ys)) ρ2 := rfl
/-! data -/
@[simp] theorem ordOk_int (a b : Int) : ordOk (.int a) (.int b) = true := rfl
theorem ordOp_int {f : D → D → Bool} (a b : Int) : ordOp f (.int a) (.int b) = some (.fz (.bool (f (.int a) (.int b)))) := rfl
@[simp] theorem ltOp_int (a b : Int) : ltOp (.int a) (.int b) = some (.fz (.bool (decide (a < b)))) := by rw [ltOp, ordOp_int, PySem.W.dataLt_int]
@[simp] theorem gtOp_int (a b : Int) : gtOp (.int a) (.int b) = some (.fz (.bool (decide (b < a)))) := by rw [gtOp, ordOp_int, PySem.W.dataLt_int]
@[simp] theorem leOp_int (a b : Int) : leOp (.int a) (.int b) = some (.fz (.bool (decide (a ≤ b)))) := by
  rw [leOp, ordOp_int, PySem.W.dataLt_int]
  congr 3
  by_cases h : b < a
  · simp [h, Int.not_le.mpr h]
  · simp [h, Int.not_lt.mp h]
@[simp] theorem geOp_int (a b : Int) : geOp (.int a) (.int b) = some (.fz (.bool (decide (b ≤ a)))) := by
  rw [geOp, ordOp_int, PySem.W.dataLt_int]
  congr 3
  by_cases h : a < b
  · simp [h, Int.not_le.mpr h]
  · simp [h, Int.not_lt.mp h]
@[simp] theorem eqOp_int (a b : Int) : eqOp (.int a) (.int b) = some (.fz (.bool (decide (a = b)))) := by
  unfold eqOp
  rw [if_pos (by rfl)]
  by_cases e : a = b <;> simp [PyData.eqv, e]
@[simp] theorem neOp_int (a b : Int) : neOp (.int a) (.int b) = some (.fz (.bool (decide (a ≠ b)))) := by
  unfold neOp
  rw [if_pos (by rfl)]
  by_cases e : a = b <;> simp [PyData.eqv, e]
@[simp] theorem eqOp_str (a b : Str) : eqOp (.str a) (.str b) = some (.fz (.bool (decide (a = b)))) := by
  unfold eqOp
  rw [if_pos (by rfl)]
  by_cases e : a = b <;> simp [PyData.eqv, e]
@[simp] theorem addOp_int (a b : Int) : addOp (.int a) (.int b) = some (.fz (.int (a + b))) := rfl
@[simp] theorem subOp_int (a b : Int) : subOp (.int a) (.int b) = some (.fz (.int (a - b))) := rfl
theorem mulOp_int {a b : Int} (h : a.natAbs.log2 + b.natAbs.log2 < 1000000) : mulOp (.int a) (.int b) = some (.fz (.int (a * b))) := by
  show (if decide _ = true then _ else _) = _
  rw [if_pos (by simpa using h)]
theorem modOp_int {a b : Int} (h : 0 < b) : modOp (.int a) (.int b) = some (.fz (.int (a % b))) := by
  show (if decide _ = true then _ else _) = _
  rw [if_pos (by simpa using h)]
theorem fdivOp_int {a b : Int} (h : 0 < b) (h2 : b.natAbs.log2 < 9000) : fdivOp (.int a) (.int b) = some (.fz (.int (a / b))) := by
  show (if decide _ = true then _ else _) = _
  rw [if_pos (by simpa using ⟨h, h2⟩)]
@[simp] theorem negOp_int (a : Int) : negOp (.int a) = some (.fz (.int (-a))) := rfl
@[simp] theorem lenOp_list (ds : List D) : lenOp (.list ds) = some (.fz (.int ds.length)) := rfl
@[simp] theorem lenOp_tuple (ds : List D) : lenOp (.tuple ds) = some (.fz (.int ds.length)) := rfl
@[simp] theorem lenOp_scr (ds : List D) : lenOp (scrD ds) = some (.fz (.int ds.length)) := rfl
@[simp] theorem ixOp_list (ds : List D) (i : Int) : ixOp (.list ds) (.int i) = (L2.atI ds i).map .fz := rfl
@[simp] theorem ixOp_tuple (ds : List D) (i : Int) : ixOp (.tuple ds) (.int i) = (L2.atI ds i).map .fz := rfl
@[simp] theorem ixOp_scr (ds : List D) (i : Int) : ixOp (scrD ds) (.int i) = (L2.atI ds i).map .fz := rfl
theorem atI_nat {α : Type} {ds : List α} {i : Nat} (h : i < ds.length) : L2.atI ds (i : Int) = ds[i]? := by
  unfold L2.atI ixN
  rw [if_pos (by omega), if_pos (by omega)]
  rfl
theorem atI_int {α : Type} {ds : List α} {i : Int} (h0 : 0 ≤ i) (h : i < ds.length) : L2.atI ds i = ds[i.toNat]? := by
  obtain ⟨n, rfl⟩ := Int.eq_ofNat_of_zero_le h0
  exact atI_nat (by exact_mod_cast h)
@[simp] theorem listOp_list (ds : List D) : listOp (.list ds) = some (.ow (.lst ds)) := rfl
@[simp] theorem listOp_tuple (ds : List D) : listOp (.tuple ds) = some (.ow (.lst ds)) := rfl
@[simp] theorem tupleOp_list (ds : List D) : tupleOp (.list ds) = some (.fz (.tuple ds)) := rfl
@[simp] theorem tupleOp_tuple (ds : List D) : tupleOp (.tuple ds) = some (.fz (.tuple ds)) := rfl
@[simp] theorem allOp_bools (bs : List Bool) : allOp (.list (bs.map .bool)) = some (.fz (.bool (bs.all id))) := by show (asBools (bs.map .bool)).map _ = _; rw [asBools_map]; rfl
@[simp] theorem anyOp_bools (bs : List Bool) : anyOp (.list (bs.map .bool)) = some (.fz (.bool (bs.any id))) := by show (asBools (bs.map .bool)).map _ = _; rw [asBools_map]; rfl
@[simp] theorem sumOp_ints (ns : List Int) : sumOp (.list (ns.map .int)) = some (.fz (.int ns.sum)) := by show (asInts (ns.map .int)).map _ = _; rw [asInts_map]; rfl
/-! comprehensions -/
def lcStep (vl : List Nat) (t : TgD) (c : DEnv → Out Bool) (f : EM) (d : D) (ρ : DEnv) : Out (Option D) := match t d (wipeD ρ vl) with
  | none => .no
  | some ρ1 => (c ρ1).bind fun b ρ2 => if b then (f ρ2).bind fun s ρ3 => match s.shared with
      | none => .no
      | some y => .ok (some y) (wipeD ρ3 vl)
    else .ok none (wipeD ρ2 vl)
theorem lcGo_cons {gd : DEnv → Prop} {vl : List Nat} {tg : TgD} {c : DEnv → Out Bool} {ds : List D} {y : Option D} {ρ1 ρ2 : DEnv} {ys : List D}
    (h : lcStep vl tg c f d ρ = .ok y ρ1) (hg : gd ρ1) (h2 : lcGo gd vl tg c f ds ρ1 = .ok ys ρ2) : lcGo gd vl tg c f (d :: ds) ρ = .ok (y.toList ++ ys) ρ2 := by
  unfold lcStep at h
  unfold lcGo
  cases e : tg d (wipeD ρ vl) with
  | none => rw [e] at h; cases h
  | some ρ0 =>
    rw [e] at h
    simp only at h ⊢
    cases ec : c ρ0 with
    | er c' d' ρ' => rw [ec] at h; cases h
    | no => rw [ec] at h; cases h
    | ok b ρ' =>
      rw [ec] at h
      simp only [Out.bind] at h ⊢
      cases b with
      | false =>
        simp only [Bool.false_eq_true, if_false] at h ⊢
        cases h
        rw [if_pos hg, h2]; rfl
      | true =>
        simp only [if_true] at h ⊢
        cases ef : f ρ' with
        | er c' d' ρ' => rw [ef] at h; cases h
        | no => rw [ef] at h; cases h
        | ok s ρ'' =>
          rw [ef] at h
          simp only at h ⊢
          cases es : s.shared with
          | none => rw [es] at h; cases h
          | some y' =>
            rw [es] at h
            simp only at h ⊢
            cases h
            rw [if_pos hg, h2]; rfl
@[simp] theorem lcGo_nil {gd : DEnv → Prop} {vl : List Nat} {tg : TgD} {c : DEnv → Out Bool} : lcGo gd vl tg c f [] ρ = .ok [] ρ := rfl
theorem lcGo_same {gd : DEnv → Prop} {vl : List Nat} {tg : TgD} {c : DEnv → Out Bool} {r : D → Option D} (hg : gd ρ) : ∀ {ds : List D}, (∀ d ∈ ds, lcStep vl tg c f d ρ = .ok (r d) ρ) → lcGo gd vl tg c f ds ρ = .ok (ds.filterMap r) ρ
  | [], _ => rfl
  | d :: ds, h => by
    rw [lcGo_cons (h d (by simp)) hg (lcGo_same hg fun x hx => h x (by simp [hx]))]
    congr 1
    cases e : r d <;> simp [List.filterMap_cons, e]
/-! for, while -/
theorem forGo_inv {gd : DEnv → Prop} {tg : TgD} {I : List D → DEnv → Prop} (hg : ∀ ds ρ, I ds ρ → gd ρ) : ∀ {ds pre : List D} {ρ : DEnv}, (∀ l d r ρ, pre ++ ds = l ++ d :: r → I l ρ → ∃ ρ1 ρ2, tg d ρ = some ρ1 ∧ (b ρ1 = .nx ρ2 ∨ b ρ1 = .ct ρ2) ∧ I (l ++ [d]) ρ2) → I pre ρ →
    ∃ ρ', forGo gd tg b ds ρ = .nx ρ' ∧ I (pre ++ ds) ρ'
  | [], pre, ρ, _, h => ⟨ρ, rfl, by simpa using h⟩
  | d :: ds, pre, ρ, h, h0 => by
    obtain ⟨ρ1, ρ2, e1, e2, i2⟩ := h pre d ds ρ rfl h0
    obtain ⟨ρ3, e3, i3⟩ := forGo_inv hg (ds := ds) (pre := pre ++ [d]) (ρ := ρ2) (fun l x r ρ e => h l x r ρ (by simpa using e)) i2
    refine ⟨ρ3, ?_, by simpa using i3⟩
    unfold forGo
    rw [e1]
    rcases e2 with e2 | e2 <;> simp only [e2, if_pos (hg _ _ i2), e3]
@[simp] theorem Slot.d_fz' : (Slot.fz d).d? = some d := rfl
@[simp] theorem Slot.d_lst {ds : List D} : (Slot.ow (.lst ds)).d? = some (.list ds) := rfl
@[simp] theorem Slot.sh_lst {ds : List D} : (Slot.ow (.lst ds)).shared = some (.list ds) := rfl
@[simp] theorem g1_eq {op : D → Option Slot} : g1 op s = s.d?.bind op := rfl
@[simp] theorem g2_eq {op : D → D → Option Slot} {t : Slot} : g2 op s t = s.d?.bind fun a => t.d?.bind fun b => op a b := rfl
@[simp] theorem gN1_eq {op : D → Option Slot} : gN1 op [s] = s.d?.bind op := rfl
@[simp] theorem gN2_eq {op : D → D → Option Slot} {t : Slot} : gN2 op [s, t] = s.d?.bind fun a => t.d?.bind fun b => op a b := rfl
@[simp] theorem wipeD_nil : wipeD ρ [] = ρ := rfl
@[simp] theorem wipeD_cons {is : List Nat} : wipeD ρ (i :: is) = (wipeD ρ is).set i .no := rfl
@[simp] theorem tgN_eq : tgN i d ρ = some (ρ.set i (.fz d)) := rfl
@[simp] theorem gdOf_t : gdOf .t d ρ = True := rfl
@[simp] theorem gdOf_n : gdOf (.n i) d ρ = ((ρ.getD i .no).d? = some d) := rfl
end
end Dl
end
section
/-! more equations for simp -/
namespace Dl
open PySem L2 DlZ DlR DlS
section
variable {ρ : DEnv} {f g fa fb fc : EM} {k ka kb kc : Kd}
theorem iEn_eq : iEn k f ρ = (eArgs [(k, f)] ρ).bind fun ss ρ1 => match slL [k] ss ρ1 with
  | [s] => match s.d? with
    | some a => match seqOf a with
      | some (_, ds) => .ok ⟨enumD ds, gdOf k a⟩ ρ1
      | _ => .no
    | _ => .no
  | _ => .no := rfl
end
@[simp] theorem neOp_str (a b : Str) : neOp (.str a) (.str b) = some (.fz (.bool (decide (a ≠ b)))) := by
  unfold neOp
  rw [if_pos (by rfl)]
  by_cases e : a = b <;> simp [PyData.eqv, e]
@[simp] theorem neOp_bool (a b : Bool) : neOp (.bool a) (.bool b) = some (.fz (.bool (decide (a ≠ b)))) := by
  unfold neOp
  rw [if_pos (by rfl)]
  cases a <;> cases b <;> rfl
@[simp] theorem eqOp_bool (a b : Bool) : eqOp (.bool a) (.bool b) = some (.fz (.bool (decide (a = b)))) := by
  unfold eqOp
  rw [if_pos (by rfl)]
  cases a <;> cases b <;> rfl
@[simp] theorem tgT3 {t u v : TgD} {a b c : D} {ρ : DEnv} : tgT 3 (tgCons t (tgCons u (tgCons v tgNil))) (.tuple [a, b, c]) ρ = (t a ρ).bind fun ρ1 => (u b ρ1).bind fun ρ2 => (v c ρ2).bind fun ρ3 => some ρ3 := by
  show (t a ρ).bind (tgCons u (tgCons v tgNil) [b, c]) = _
  congr 1
theorem eqOp_lay {a b : D} (h : lay 60 a = true) (h2 : lay 60 b = true) : eqOp a b = some (.fz (.bool (PyData.eqv a b))) := by
  unfold eqOp
  rw [if_pos (by rw [h, h2]; rfl)]
end Dl
end
section
/-! sorting what stands for a list -/
namespace Dl
open PySem L2 DlZ DlR DlS
end Dl
end
section
/-! what the plain laws share: loops over encoded lists, texts, names -/
namespace Pg
open PySem L2 Dl DlS DlZ
section
variable {α : Type} {gd : DEnv → Prop} {vl : List Nat} {tg : TgD} {c : DEnv → Out Bool} {f : EM} {ρ : DEnv} {enc : α → D} {b : SM}
theorem lcGo_map {g : D → D} {ds : List D} (hg : gd ρ) (h : ∀ d ∈ ds, lcStep vl tg c f d ρ = .ok (some (g d)) ρ) : lcGo gd vl tg c f ds ρ = .ok (ds.map g) ρ := by
  rw [lcGo_same hg h]
  congr 1
  induction ds with
  | nil => rfl
  | cons d ds ih => simp
theorem lcGo_true {ds : List D} (hg : gd ρ) (h : ∀ d ∈ ds, lcStep vl tg c f d ρ = .ok (some (.bool true)) ρ) : lcGo gd vl tg c f ds ρ = .ok (List.replicate ds.length (.bool true)) ρ := by
  rw [lcGo_map hg h, List.map_const']
@[simp] theorem allOp_rep (n : Nat) : allOp (.list (List.replicate n (.bool true))) = some (.fz (.bool true)) := by
  have := allOp_bools (List.replicate n true)
  simpa using this
theorem lcGo_enc {p : α → Bool} {g : α → D} (hg : gd ρ) : ∀ {E : List α}, (∀ e ∈ E, lcStep vl tg c f (enc e) ρ = .ok (if p e then some (g e) else none) ρ) → lcGo gd vl tg c f (E.map enc) ρ = .ok ((E.filter p).map g) ρ
  | [], _ => rfl
  | e :: E, h => by
    have h1 := h e (by simp)
    rw [List.map_cons, lcGo_cons h1 hg (lcGo_enc hg fun x hx => h x (by simp [hx]))]
    congr 1
    by_cases hp : p e <;> simp [hp]
theorem lcGo_encM {g : α → D} (hg : gd ρ) {E : List α} (h : ∀ e ∈ E, lcStep vl tg c f (enc e) ρ = .ok (some (g e)) ρ) : lcGo gd vl tg c f (E.map enc) ρ = .ok (E.map g) ρ := by
  rw [lcGo_enc (p := fun _ => true) (g := g) hg (fun e he => by simpa using h e he), List.filter_eq_self.mpr (by simp)]
theorem forGo_enc {I : List α → DEnv → Prop} (hg : ∀ P ρ, I P ρ → gd ρ) : ∀ {Q P : List α} {ρ : DEnv}, (∀ A x B ρ, P ++ Q = A ++ x :: B → I A ρ → ∃ ρ1 ρ2, tg (enc x) ρ = some ρ1 ∧ (b ρ1 = .nx ρ2 ∨ b ρ1 = .ct ρ2) ∧ I (A ++ [x]) ρ2) → I P ρ →
    ∃ ρ', forGo gd tg b (Q.map enc) ρ = .nx ρ' ∧ I (P ++ Q) ρ'
  | [], P, ρ, _, h => ⟨ρ, rfl, by simpa using h⟩
  | x :: Q, P, ρ, h, h0 => by
    obtain ⟨ρ1, ρ2, e1, e2, i2⟩ := h P x Q ρ rfl h0
    obtain ⟨ρ3, e3, i3⟩ := forGo_enc hg (Q := Q) (P := P ++ [x]) (ρ := ρ2) (fun A y B ρ e => h A y B ρ (by simpa using e)) i2
    refine ⟨ρ3, ?_, by simpa using i3⟩
    rw [List.map_cons]
    unfold forGo
    rw [e1]
    rcases e2 with e2 | e2 <;> simp only [e2, if_pos (hg _ _ i2), e3]
end
@[simp] theorem allOp_0 : allOp (.list []) = some (.fz (.bool true)) := rfl
@[simp] theorem allOp_1 (a : Bool) : allOp (.list [.bool a]) = some (.fz (.bool a)) := by cases a <;> rfl
@[simp] theorem allOp_2 (a b : Bool) : allOp (.list [.bool a, .bool b]) = some (.fz (.bool (a && b))) := by cases a <;> cases b <;> rfl
@[simp] theorem allOp_3 (a b c : Bool) : allOp (.list [.bool a, .bool b, .bool c]) = some (.fz (.bool (a && (b && c)))) := by cases a <;> cases b <;> cases c <;> rfl
/-! equality of data -/
@[simp] theorem eqv_str (a b : Str) : PyData.eqv (.str a) (.str b) = decide (a = b) := by by_cases h : a = b <;> simp [PyData.eqv, h]
@[simp] theorem eqv_int (a b : Int) : PyData.eqv (.int a) (.int b) = decide (a = b) := by by_cases h : a = b <;> simp [PyData.eqv, h]
@[simp] theorem eqv_tup (a b : List D) : PyData.eqv (.tuple a) (.tuple b) = PyData.eqvAll a b := by simp [PyData.eqv]
@[simp] theorem eqv_lst (a b : List D) : PyData.eqv (.list a) (.list b) = PyData.eqvAll a b := by simp [PyData.eqv]
@[simp] theorem eqvAll_nn : PyData.eqvAll [] [] = true := by simp [PyData.eqvAll]
@[simp] theorem eqvAll_cc (a b : D) (as bs : List D) : PyData.eqvAll (a :: as) (b :: bs) = (PyData.eqv a b && PyData.eqvAll as bs) := by simp [PyData.eqvAll]
@[simp] theorem eqvAll_nc (b : D) (bs : List D) : PyData.eqvAll [] (b :: bs) = false := by simp [PyData.eqvAll]
@[simp] theorem eqvAll_cn (a : D) (as : List D) : PyData.eqvAll (a :: as) [] = false := by simp [PyData.eqvAll]
theorem eqvAll_map {α : Type} [DecidableEq α] {enc : α → D} (h : ∀ a b, PyData.eqv (enc a) (enc b) = decide (a = b)) : ∀ (l m : List α), PyData.eqvAll (l.map enc) (m.map enc) = decide (l = m)
  | [], [] => by simp
  | [], _ :: _ => by simp
  | _ :: _, [] => by simp
  | a :: l, b :: m => by
    simp only [List.map_cons, eqvAll_cc, h, eqvAll_map h l m, List.cons.injEq]
    by_cases h1 : a = b <;> by_cases h2 : l = m <;> simp [h1, h2]
theorem any_enc {α : Type} [DecidableEq α] {enc : α → D} (h : ∀ a b, PyData.eqv (enc a) (enc b) = decide (a = b)) (l : List α) (x : α) : (l.map enc).any (fun y => PyData.eqv y (enc x)) = decide (x ∈ l) := by
  induction l with
  | nil => simp
  | cons a l ih =>
    rw [List.map_cons, List.any_cons, ih, h]
    by_cases e : a = x
    · simp [e]
    · simp [e, show ¬ x = a from fun z => e z.symm]
@[simp] theorem lay_str (n : Nat) (x : Str) : lay n (.str x) = true := by cases n <;> rfl
@[simp] theorem lay_int (n : Nat) (i : Int) : lay n (.int i) = true := by cases n <;> rfl
@[simp] theorem lay_bool (n : Nat) (i : Bool) : lay n (.bool i) = true := by cases n <;> rfl
@[simp] theorem lay_none (n : Nat) : lay n .none = true := by cases n <;> rfl
@[simp] theorem lay_list (n : Nat) (ds : List D) : lay (n + 1) (.list ds) = layL n ds := rfl
@[simp] theorem lay_tuple (n : Nat) (ds : List D) : lay (n + 1) (.tuple ds) = layL n ds := rfl
@[simp] theorem layL_nil (n : Nat) : layL n [] = true := by cases n <;> rfl
@[simp] theorem layL_cons (n : Nat) (d : D) (ds : List D) : layL n (d :: ds) = (lay n d && layL n ds) := by cases n <;> rfl
theorem layL_map {α : Type} {n : Nat} {enc : α → D} : ∀ (l : List α), (∀ a ∈ l, lay n (enc a) = true) → layL n (l.map enc) = true
  | [], _ => by simp
  | a :: l, h => by simp [h a (by simp), layL_map l fun x hx => h x (by simp [hx])]
@[simp] theorem layL_strs (n : Nat) (us : List Str) : layL n (us.map .str) = true := layL_map us fun _ _ => by simp
@[simp] theorem layL_append (n : Nat) (a b : List D) : layL n (a ++ b) = (layL n a && layL n b) := by
  induction a with
  | nil => simp
  | cons x a ih => simp [ih, Bool.and_assoc]
/-! in -/
theorem inOpD_list (neg : Bool) (x : D) (ds : List D) : inOpD neg x (.list ds) = if lay 60 x && layL 60 ds then some (.fz (.bool (neg != ds.any fun y => PyData.eqv y x))) else none := rfl
theorem inOpD_tuple (neg : Bool) (x : D) (ds : List D) : inOpD neg x (.tuple ds) = if lay 60 x && layL 60 ds then some (.fz (.bool (neg != ds.any fun y => PyData.eqv y x))) else none := rfl
@[simp] theorem inOpD_strsL (neg : Bool) (x : Str) (us : List Str) : inOpD neg (.str x) (.list (us.map .str)) = some (.fz (.bool (neg != decide (x ∈ us)))) := by
  rw [inOpD_list, any_enc eqv_str, if_pos (by simp)]
@[simp] theorem inOpD_strsT (neg : Bool) (x : Str) (us : List Str) : inOpD neg (.str x) (.tuple (us.map .str)) = some (.fz (.bool (neg != decide (x ∈ us)))) := by
  rw [inOpD_tuple, any_enc eqv_str, if_pos (by simp)]
@[simp] theorem inOpD_t2s (neg : Bool) (x a b : Str) : inOpD neg (.str x) (.tuple [.str a, .str b]) = some (.fz (.bool (neg != (decide (x = a) || decide (x = b))))) := by
  rw [show ([.str a, .str b] : List D) = [a, b].map .str from rfl, inOpD_strsT]
  by_cases h1 : x = a <;> by_cases h2 : x = b <;> simp [h1, h2]
@[simp] theorem inOpD_t2i (neg : Bool) (x a b : Int) : inOpD neg (.int x) (.tuple [.int a, .int b]) = some (.fz (.bool (neg != (decide (x = a) || decide (x = b))))) := by
  rw [inOpD_tuple, show ([.int a, .int b] : List D) = [a, b].map .int from rfl, any_enc eqv_int, if_pos (by simp)]
  by_cases h1 : x = a <;> by_cases h2 : x = b <;> simp [h1, h2]
@[simp] theorem inOpD_sign (neg : Bool) (c : Nat) (z : Str) : inOpD neg (.str ⟨#[c]⟩) (.str z) = some (.fz (.bool (neg != decide (c ∈ z.cps.toList)))) := by
  show some (Slot.fz (.bool (neg != !(Builtin.Str.occurrences z ⟨#[c]⟩ 0 z.length 1).isEmpty))) = _
  rw [PySem.StrLaws.found_one]
@[simp] theorem isTy2_eq (T : String) (d : D) : isTy2 T d = (tyD d).bind fun t => if tyKnown T then some (tyB t T) else none := rfl
@[simp] theorem tyD_none : tyD .none = some "NoneType" := rfl
@[simp] theorem tyD_bool (b : Bool) : tyD (.bool b) = some "bool" := rfl
@[simp] theorem tyD_int (i : Int) : tyD (.int i) = some "int" := rfl
@[simp] theorem tyD_str (x : Str) : tyD (.str x) = some "str" := rfl
@[simp] theorem tyD_list (ds : List D) : tyD (.list ds) = some "list" := rfl
@[simp] theorem tyD_tuple (ds : List D) : tyD (.tuple ds) = some "tuple" := rfl
@[simp] theorem tyD_dict0 : tyD (.dict []) = some "dict" := rfl
@[simp] theorem eIsi2_eq {k : Kd} {f : EM} {T : String} {ρ : DEnv} : eIsi2 k f T ρ = (f ρ).bind fun s ρ1 => ofO (((sl k s ρ1).d?.bind (isTy2 T)).map fun b => .fz (.bool b)) ρ1 := rfl
@[simp] theorem pS_eq {k : Kd} {f : EM} {ρ : DEnv} : pS k f ρ = (f ρ).bind fun s ρ1 => match (sl k s ρ1).d? with
  | some (.int i) => .ok (some i) ρ1
  | _ => .no := rfl
theorem iZp_eq {ka kb : Kd} {fa fb : EM} {ρ : DEnv} : iZp ka kb fa fb ρ = (eArgs [(ka, fa), (kb, fb)] ρ).bind fun ss ρ1 => match slL [ka, kb] ss ρ1 with
  | [s, t] => match s.d?, t.d? with
    | some a, some b => match seqOf a, seqOf b with
      | some (_, ds), some (_, es) => .ok ⟨List.zipWith (fun x y => .tuple [x, y]) ds es, fun ρ' => gdOf ka a ρ' ∧ gdOf kb b ρ'⟩ ρ1
      | _, _ => .no
    | _, _ => .no
  | _ => .no := rfl
@[simp] theorem seqOf_list (ds : List D) : seqOf (.list ds) = some (false, ds) := rfl
@[simp] theorem seqOf_tuple (ds : List D) : seqOf (.tuple ds) = some (true, ds) := rfl
@[simp] theorem slOp_list (ds : List D) (lo hi : Option Int) : slOp lo hi (.list ds) = some (.ow (.lst (cutD ds lo hi))) := rfl
@[simp] theorem slOp_tup (ds : List D) (lo hi : Option Int) : slOp lo hi (.tuple ds) = some (.fz (.tuple (cutD ds lo hi))) := rfl
@[simp] theorem tgT2 {t u : TgD} {a b : D} {ρ : DEnv} : tgT 2 (tgCons t (tgCons u tgNil)) (.tuple [a, b]) ρ = (t a ρ).bind fun ρ1 => (u b ρ1).bind fun ρ2 => some ρ2 := by
  show (t a ρ).bind (tgCons u tgNil [b]) = _
  congr 1
/-! sorting -/
def sortE {α : Type} (enc : α → D) (E : List α) : List α := E.mergeSort (PySem.W.dataLe false enc)
theorem sortE_perm {α : Type} (enc : α → D) (E : List α) : (sortE enc E).Perm E := List.mergeSort_perm _ _
theorem sortK_ok {α : Type} {enc : α → D} (h1 : ∀ a, lay 60 (enc a) = true) (h2 : ∀ a b, PySem.W.alike (enc a) (enc b) = true) (h3 : (∀ a, ∃ x xs, enc a = .tuple (x :: xs)) ∨ ∀ a, ∃ x, enc a = .str x ∨ ∃ i, enc a = .int i) (E : List α) : sortK (E.map enc) = some ((sortE enc E).map enc) := by
  have ha : allAlike (E.map enc) = true := by
    refine List.all_eq_true.mpr fun a ha => List.all_eq_true.mpr fun b hb => ?_
    obtain ⟨x, _, rfl⟩ := List.mem_map.mp ha
    obtain ⟨y, _, rfl⟩ := List.mem_map.mp hb
    exact h2 x y
  have hs : sortB (E.map enc) = true := by
    unfold sortB
    rw [Bool.or_eq_true]
    rcases h3 with h3 | h3
    · left
      refine List.all_eq_true.mpr fun a ha => ?_
      obtain ⟨x, _, rfl⟩ := List.mem_map.mp ha
      obtain ⟨y, ys, e⟩ := h3 x
      rw [e]
    · right
      refine List.all_eq_true.mpr fun a ha => ?_
      obtain ⟨x, _, rfl⟩ := List.mem_map.mp ha
      obtain ⟨y, e⟩ := h3 x
      rcases e with e | ⟨i, e⟩ <;> rw [e]
  unfold sortK
  rw [layL_map E fun a _ => h1 a, ha, hs, if_pos (by rfl)]
  congr 1
  exact (List.map_mergeSort (r := PySem.W.dataLe false enc) (s := PySem.W.dataLe false id) (f := enc) (l := E) fun a _ b _ => rfl).symm
/-! texts -/
abbrev cs (x : Str) : List Nat := x.cps.toList
theorem len_cs (x : Str) : x.length = (cs x).length := TL.len_tl x
theorem cs_append (x y : Str) : cs (x ++ y) = cs x ++ cs y := TL.tl_append x y
theorem ext_cs {x y : Str} (h : cs x = cs y) : x = y := TL.ext_tl h
def figs (i : Int) : Str := toString i
theorem cs_figs (n : Nat) : cs (figs n) = TL.numL n := TL.tl_num n
end Pg
end
section
/-! how the evaluators of instances, texts, dicts run -/
namespace Dl
open PySem L2 DlZ DlR DlS DlV
section
variable {ρ : DEnv} {f g fa fb fd fk fx : EM} {k ka kb kd kk : Kd} {r : List (Kd × EM)} {i : Nat} {s : Slot} {d : D} {cs : List Str} {c n : Str} {fs : List (Str × D)} {ls : List (Str × Fl)} {F : List Slot → FOut}
@[simp] theorem eN_oi (h : ρ[i]? = some (.oi c ls)) : eN i ρ = .ok .no ρ := by unfold eN; rw [List.getD_eq_getElem?_getD, h]; rfl
theorem eX_oi (h : ρ[i]? = some (.oi c ls)) (h2 : (flsD ls).map (insD c) = some d) : eX i ρ = .ok (.fz d) (ρ.set i (.fz d)) := by unfold eX; rw [List.getD_eq_getElem?_getD, h]; show (match (flsD ls).map (insD c) with | some d => _ | none => _) = _; rw [h2]
@[simp] theorem eF_eq : eF cs i n ρ = match clsS (ρ.getD i .no) with
  | some c => if cs.contains c && hasF n (ρ.getD i .no) then .ok .no ρ else .no
  | none => .no := rfl
@[simp] theorem eFX_eq : eFX cs i n ρ = match clsS (ρ.getD i .no) with
  | some c => if cs.contains c && hasF n (ρ.getD i .no) then match (fldS n (ρ.getD i .no)).shared with
      | some d => .ok (.fz d) (ρ.set i (setFl n (.fz d) (ρ.getD i .no)))
      | none => .no
    else .no
  | none => .no := rfl
@[simp] theorem sl_f (s : Slot) : sl (.f i n) s ρ = fldS n (ρ.getD i .no) := rfl
@[simp] theorem gdOf_f : gdOf (.f i n) d ρ = ((fldS n (ρ.getD i .no)).d? = some d) := rfl
@[simp] theorem clsS_oi : clsS (.oi c ls) = some c := rfl
@[simp] theorem clsS_ins : clsS (.fz (insD c fs)) = some c := rfl
@[simp] theorem hasF_oi : hasF n (.oi c ls) = (fget n ls).isSome := rfl
@[simp] theorem hasF_ins : hasF n (.fz (insD c fs)) = (fget n fs).isSome := by simp only [hasF, insGet_eq]
@[simp] theorem fldS_oi : fldS n (.oi c ls) = match fget n ls with
    | some l => l.slot
    | none => .no := rfl
@[simp] theorem fldS_ins : fldS n (.fz (insD c fs)) = match fget n fs with
    | some x => .fz x
    | none => .no := by
  simp only [fldS, insGet_eq]
  try (cases fget n fs <;> rfl)
@[simp] theorem setFl_oi (l : Fl) : setFl n l (.oi c ls) = .oi c (putFl n l ls) := rfl
@[simp] theorem setFl_fz (l : Fl) : setFl n l (.fz d) = .fz d := rfl
@[simp] theorem Fl.slot_fz : (Fl.fz d).slot = .fz d := rfl
@[simp] theorem Fl.slot_ow (c : Cont) : (Fl.ow c).slot = .ow c := rfl
@[simp] theorem Fl.slot_no : Fl.no.slot = .no := rfl
@[simp] theorem Slot.fl_fz : (Slot.fz d).fl = .fz d := rfl
@[simp] theorem Slot.fl_ow (c : Cont) : (Slot.ow c).fl = .ow c := rfl
@[simp] theorem entS_ins (e : Str × D) (ss : List Slot) : entS c (.fz (insD n (e :: fs)) :: ss) = decide (n = c) := rfl
@[simp] theorem entS_oi (e : Str × Fl) (ss : List Slot) : entS c (.oi n (e :: ls) :: ss) = decide (n = c) := rfl
@[simp] theorem iniS_oi (ss : List Slot) : iniS c (.oi n [] :: ss) = decide (n = c) := rfl
@[simp] theorem callT_eq {ks : List Kd} {ss : List Slot} : callT ks ss F ρ = (F (lend ks ss ρ).1).out fun ss' => unlend ks ss' (lend ks ss ρ).2 := by
  unfold callT
  cases F (lend ks ss ρ).1 <;> rfl
@[simp] theorem eMeth_eq : eMeth c n kb fb r F ρ = (fb ρ).bind fun s0 ρ1 => if clsS (sl kb s0 ρ1) = some c ∧ hasF n (sl kb s0 ρ1) = false then
    (eArgs r ρ1).bind fun ss ρ2 => callT (kb :: r.map (·.1)) (s0 :: ss) F ρ2
  else .no := rfl
def FOut.outP (o : FOut) (F : List Slot → DEnv) : Out Slot := match o with
  | .ok s ss => .ok s (F ss)
  | _ => .no
@[simp] theorem FOut.outP_ok {ss : List Slot} {G : List Slot → DEnv} : (FOut.ok s ss).outP G = .ok s (G ss) := rfl
@[simp] theorem eProp_eq : eProp c kb fb F ρ = (fb ρ).bind fun s0 ρ1 => if clsS (sl kb s0 ρ1) = some c then (F (lend [kb] [s0] ρ1).1).outP fun ss' => unlend [kb] ss' (lend [kb] [s0] ρ1).2 else .no := by
  unfold eProp
  cases fb ρ with
  | no => rfl
  | er c d ρ' => rfl
  | ok s0 ρ1 =>
    simp only [Out.bind_ok]
    split
    · cases F (lend [kb] [s0] ρ1).1 <;> rfl
    · rfl
def FOut.outI (o : FOut) (F : List Slot → DEnv) : Out Slot := match o with
  | .ok (.fz .none) (s' :: ss') => .ok s' (F ss')
  | _ => .no
@[simp] theorem FOut.outI_ok {ss : List Slot} {G : List Slot → DEnv} : (FOut.ok (.fz .none) (s :: ss)).outI G = .ok s (G ss) := rfl
@[simp] theorem eMake_eq : eMake c r F ρ = (eArgs r ρ).bind fun ss ρ1 => (F (.oi c [] :: (lend (r.map (·.1)) ss ρ1).1)).outI fun ss' => unlend (r.map (·.1)) ss' (lend (r.map (·.1)) ss ρ1).2 := by
  unfold eMake
  cases eArgs r ρ with
  | no => rfl
  | er c d ρ' => rfl
  | ok ss ρ1 =>
    simp only [Out.bind_ok, FOut.outI]
    try (rcases F (.oi c [] :: (lend (r.map (·.1)) ss ρ1).1) with ⟨s, ss'⟩ | _ | _ <;> try rfl)
@[simp] theorem sSetF_eq : sSetF cs i n f ρ = (f ρ).bindS fun s ρ1 => match ρ1.getD i .no with
  | .oi c fs => if cs.contains c && decide (fs.length < 1000) then .nx (ρ1.set i (.oi c (putFl n s.fl fs))) else .no
  | _ => .no := rfl
@[simp] theorem eAppF_eq : eAppF cs i n f ρ = match clsS (ρ.getD i .no) with
  | some c => if cs.contains c then match fldS n (ρ.getD i .no) with
      | .ow (.lst _) => (f ρ).bind fun s ρ1 => match s.shared with
        | some d => match fldS n (ρ1.getD i .no) with
          | .ow (.lst ds) => if small ds.length then .ok (.fz .none) (ρ1.set i (setFl n (.ow (.lst (ds ++ [d]))) (ρ1.getD i .no))) else .no
          | _ => .no
        | none => .no
      | _ => .no
    else .no
  | none => .no := rfl
@[simp] theorem tgF_eq : tgF cs i n d ρ = match ρ.getD i .no with
  | .oi c fs => if cs.contains c && decide (fs.length < 1000) then some (ρ.set i (.oi c (putFl n (.fz d) fs))) else none
  | _ => none := rfl
@[simp] theorem eIsC_eq : eIsC c k f ρ = (f ρ).bind fun s ρ1 => ofO ((isCls c (sl k s ρ1)).map fun b => .fz (.bool b)) ρ1 := rfl
@[simp] theorem isCls_ins : isCls c (.fz (insD c fs)) = some true := by simp [isCls]
@[simp] theorem isCls_oi : isCls c (.oi c ls) = some true := by simp [isCls]
@[simp] theorem eOwnEq_eq : eOwnEq c ka kb fa fb F ρ = (fa ρ).bind fun s ρ1 => (fb ρ1).bind fun t ρ2 => if clsS (sl ka s ρ2) = some c ∧ eqArg c (sl kb t ρ2) = true then callT [ka, kb] [s, t] F ρ2 else .no := rfl
@[simp] theorem eM1_eq {op : D → D → Option Slot} : eM1 ka kb fa fb op ρ = (fa ρ).bind fun s ρ1 => if ((sl ka s ρ1).d?.map isStr) = some true then (fb ρ1).bind fun t ρ2 => ofO (g2 op (sl ka s ρ2) (sl kb t ρ2)) ρ2 else .no := rfl
@[simp] theorem isStr_str (x : Str) : isStr (.str x) = true := rfl
@[simp] theorem eGet_eq : eGet kd kk fd fk fx ρ = (fd ρ).bind fun s ρ1 => if isDctS (sl kd s ρ1) = true then (fk ρ1).bind fun t ρ2 => (fx ρ2).bind fun u ρ3 =>
    ofO ((sl kd s ρ3).d?.bind fun d => (sl kk t ρ3).d?.bind fun k => getR d k u) ρ3 else .no := rfl
@[simp] theorem eDisp_eq {l : List (Str × EM)} : eDisp l ρ = (eVals (l.map (·.2)) ρ).bind fun ds ρ1 => if nodupK (l.map (·.1)) = true then .ok (.ow (.dct false ((l.map fun e => PyData.str e.1).zip ds))) ρ1 else .no := rfl
@[simp] theorem eVals_nil : eVals [] ρ = .ok [] ρ := rfl
@[simp] theorem eVals_cons {l : List EM} : eVals (f :: l) ρ = (f ρ).bind fun s ρ1 => match s with
    | .fz d => (eVals l ρ1).bind fun ds ρ2 => .ok (d :: ds) ρ2
    | _ => .no := rfl
@[simp] theorem sAsg_eq {t : TgD} : sAsg t f ρ = (f ρ).bindS fun s ρ1 => match s.shared with
  | some d => match t d ρ1 with
    | some ρ2 => .nx ρ2
    | none => .no
  | none => .no := rfl
end
end Dl
end
section
/-! dicts of typed keys and values -/
namespace Pg
open PySem L2 Dl DlS DlZ
section
variable {α β : Type} [DecidableEq α] {ke : α → D} {ve : β → D}
def mget (m : List (α × β)) (a : α) : Option β := (m.find? fun e => decide (e.1 = a)).map (·.2)
def mput (m : List (α × β)) (a : α) (b : β) : List (α × β) := if m.any (fun e => decide (e.1 = a)) then m.map (fun e => if e.1 = a then (e.1, b) else e) else m ++ [(a, b)]
def encM (ke : α → D) (ve : β → D) (m : List (α × β)) : List (D × D) := m.map fun e => (ke e.1, ve e.2)
theorem dGet_encM (hk : ∀ a b, PyData.eqv (ke a) (ke b) = decide (a = b)) (m : List (α × β)) (a : α) : dGet (encM ke ve m) (ke a) = (mget m a).map ve := by
  unfold dGet encM mget
  induction m with
  | nil => rfl
  | cons e m ih =>
    simp only [List.map_cons, List.find?_cons, hk]
    by_cases h : e.1 = a
    · simp [h]
    · simpa [h] using ih
theorem dPut_encM (hk : ∀ a b, PyData.eqv (ke a) (ke b) = decide (a = b)) (m : List (α × β)) (a : α) (b : β) : dPut (encM ke ve m) (ke a) (ve b) = encM ke ve (mput m a b) := by
  unfold dPut encM mput
  have h1 : ((m.map fun e => (ke e.1, ve e.2)).any fun e => PyData.eqv e.1 (ke a)) = m.any fun e => decide (e.1 = a) := by
    rw [List.any_map]; congr 1; funext e; exact hk e.1 a
  rw [h1]
  split
  · rw [List.map_map, List.map_map]
    congr 1
    funext e
    simp only [Function.comp, hk]
    by_cases h : e.1 = a <;> simp [h]
  · rw [List.map_append]; rfl
theorem mget_some_mem {m : List (α × β)} {a : α} {b : β} (h : mget m a = some b) : (a, b) ∈ m := by
  unfold mget at h
  obtain ⟨e, h1, h2⟩ := Option.map_eq_some_iff.mp h
  have h3 := List.mem_of_find?_eq_some h1
  have h4 := List.find?_some h1
  simp only [decide_eq_true_eq] at h4
  rw [← h4, ← h2]
  exact h3
theorem mem_mget {m : List (α × β)} (nd : (m.map (·.1)).Nodup) {a : α} {b : β} (h : (a, b) ∈ m) : mget m a = some b := by
  induction m with
  | nil => cases h
  | cons e m ih =>
    rw [List.map_cons, List.nodup_cons] at nd
    unfold mget
    rw [List.find?_cons]
    rcases List.mem_cons.mp h with rfl | h
    · simp
    · have hne : ¬ e.1 = a := fun z => nd.1 (by rw [z]; exact List.mem_map.mpr ⟨_, h, rfl⟩)
      simp only [hne, decide_false]
      exact ih nd.2 h
theorem any_key {m : List (α × β)} {a : α} : (m.any fun e => decide (e.1 = a)) = true ↔ a ∈ m.map (·.1) := by
  simp [List.any_eq_true]
theorem mput_keys_in {m : List (α × β)} {a : α} {b : β} (h : a ∈ m.map (·.1)) : (mput m a b).map (·.1) = m.map (·.1) := by
  unfold mput
  rw [if_pos (any_key.mpr h), List.map_map]
  congr 1
  funext e
  simp only [Function.comp]
  split <;> rfl
theorem mput_keys_out {m : List (α × β)} {a : α} {b : β} (h : a ∉ m.map (·.1)) : mput m a b = m ++ [(a, b)] := by
  unfold mput
  rw [if_neg (fun z => h (any_key.mp z))]
theorem mput_nodup {m : List (α × β)} (nd : (m.map (·.1)).Nodup) (a : α) (b : β) : ((mput m a b).map (·.1)).Nodup := by
  by_cases h : a ∈ m.map (·.1)
  · rw [mput_keys_in h]; exact nd
  · rw [mput_keys_out h, List.map_append, List.nodup_append]
    refine ⟨nd, by simp, fun x hx y hy e => ?_⟩
    simp only [List.map_cons, List.map_nil, List.mem_singleton] at hy
    rw [← e] at hy
    exact h (hy ▸ hx)
theorem mput_len (m : List (α × β)) (a : α) (b : β) : (mput m a b).length ≤ m.length + 1 := by
  unfold mput
  split <;> simp
@[simp] theorem encM_len (m : List (α × β)) : (encM ke ve m).length = m.length := by simp [encM]
end
/-! pairs of texts as keys -/
def prD (p : Str × Str) : D := .tuple [.str p.1, .str p.2]
theorem eqv_pr (p q : Str × Str) : PyData.eqv (prD p) (prD q) = decide (p = q) := by
  obtain ⟨a, b⟩ := p
  obtain ⟨c, d⟩ := q
  by_cases h1 : a = c <;> by_cases h2 : b = d <;> simp [prD, h1, h2]
abbrev Tab := List ((Str × Str) × Int)
abbrev encT (t : Tab) : List (D × D) := encM prD .int t
@[simp] theorem isKey_pr (a b : Str) : isKey true (.tuple [.str a, .str b]) = true := rfl
@[simp] theorem asDct_t (kvs : List (D × D)) : asDct (dctD true kvs) = some (true, kvs) := rfl
theorem dGet_pr (t : Tab) (a b : Str) : dGet (encT t) (.tuple [.str a, .str b]) = (mget t (a, b)).map .int := dGet_encM eqv_pr t (a, b)
theorem dPut_pr (t : Tab) (a b : Str) (n : Int) : dPut (encT t) (.tuple [.str a, .str b]) (.int n) = encT (mput t (a, b) n) := dPut_encM (ve := PyData.int) eqv_pr t (a, b) n
end Pg
end
section
/-! digs: how a well-formed text is read -/
namespace Pg
open PySem L2 Dl DlS DlZ
theorem r_is_integer (i : Int) : F_is_integer [.fz (.int i)] = .ok (.fz (.bool true)) [.fz (.int i)] := by
  simp [F_is_integer, b_is_integer, tyB, tyKnown]
theorem r_is_between (i a b : Int) : F_is_between [.fz (.int i), .fz (.int a), .fz (.int b)] = .ok (.fz (.bool (decide (a ≤ i ∧ i ≤ b)))) [.fz (.int i), .fz (.int a), .fz (.int b)] := by
  by_cases h : a ≤ i <;> simp [F_is_between, b_is_between, r_is_integer, eX_fz, h]
def letS : Str := "abcdefghijklmnopqrstuvwxyz"
def figS : Str := "0123456789"
def nameB (z : Str) : Bool := decide (0 < z.length ∧ z.length ≤ 8) && (match cs z with | c :: _ => decide (c ∈ cs letS) | [] => false) && (cs z).all fun c => decide (c ∈ cs letS) || decide (c ∈ cs figS)
theorem lenOp_str {z : Str} (h : z.length ≤ sizeLine) : lenOp (.str z) = some (.fz (.int z.length)) := by show (if _ then _ else _) = _; rw [if_pos h]
theorem itemsOf_str {z : Str} (h : z.length ≤ sizeLine) : itemsOf (.str z) = some ((cs z).map fun c => .str ⟨#[c]⟩) := by show (if _ then _ else _) = _; rw [if_pos (show z.cps.size ≤ sizeLine from h)]
theorem ixOp_str {z : Str} {i : Nat} {c : Nat} (h : z.length ≤ sizeLine) (hc : (cs z)[i]? = some c) : ixOp (.str z) (.int i) = some (.fz (.str ⟨#[c]⟩)) := by
  show (if _ then _ else _) = _
  have hi : i < (cs z).length := (List.getElem?_eq_some_iff.mp hc).1
  rw [if_pos h, show L2.atI z.cps.toList (i : Int) = (cs z)[i]? from atI_nat hi, hc]; rfl
theorem r_is_name {z : Str} (h : nameB z = true) : F_is_name [.fz (.str z)] = .ok (.fz (.bool true)) [.fz (.str z)] := by
  simp only [nameB, Bool.and_eq_true, decide_eq_true_eq] at h
  obtain ⟨⟨⟨h1, h2⟩, h3⟩, h4⟩ := h
  have hz : z.length ≤ sizeLine := Nat.le_trans h2 (by decide)
  cases e : cs z with
  | nil => rw [e] at h3; cases h3
  | cons c r =>
    rw [e] at h3
    have hix : ixOp (.str z) (.int 0) = some (.fz (.str ⟨#[c]⟩)) := ixOp_str (i := 0) hz (by rw [e]; rfl)
    have h1' : (0 : Int) < z.length := by omega
    have h2' : (z.length : Int) ≤ 8 := by omega
    have h3' : c ∈ cs letS := by simpa using h3
    unfold letS at h3'
    have hlc : lcGo (gdOf (.n 0) (.str z)) [1] (tgN 1) tYesD (eOr (.t) (e2 (.n 1) (.t) (eN 1) (eC (.str "abcdefghijklmnopqrstuvwxyz")) (g2 (inOpD false))) (e2 (.n 1) (.t) (eN 1) (eC (.str "0123456789")) (g2 (inOpD false)))) ((cs z).map fun c => .str ⟨#[c]⟩) [.fz (.str z), .no] = .ok (List.replicate ((cs z).map fun c => (.str ⟨#[c]⟩ : D)).length (.bool true)) [.fz (.str z), .no] := by
      refine lcGo_true (by simp) fun d hd => ?_
      obtain ⟨k, hk, rfl⟩ := List.mem_map.mp hd
      have hh := List.all_eq_true.mp h4 k hk
      unfold letS figS at hh
      by_cases hq : k ∈ cs "abcdefghijklmnopqrstuvwxyz"
      · simp [lcStep, hq]
      · have h5 : k ∈ cs "0123456789" := by simpa [hq] using hh
        simp [lcStep, hq, h5]
    simp [F_is_name, b_is_name, tyB, tyKnown, lenOp_str hz, hix, itemsOf_str hz, hlc, h1, h2, h1', h2', h3', -List.map_map]
/-! rows -/
structure Rw where
  w : Str
  a : Str
  b : Str
  n : Option Int
  deriving DecidableEq
def rwD (r : Rw) : D := match r.n with
  | none => .tuple [.str r.w, .str r.a, .str r.b]
  | some i => .tuple [.str r.w, .str r.a, .str r.b, .int i]
structure RwOk (us : List Str) (r : Rw) : Prop where
  ha : r.a ∈ us
  hb : r.b ∈ us
  ne : r.a ≠ r.b
  ws : (r.n = none ∧ (r.w = "above" ∨ r.w = "same")) ∨ ∃ i, r.n = some i ∧ 0 ≤ i ∧ i ≤ 9999 ∧ (r.w = "least" ∨ r.w = "most")
theorem eqv_rw (r q : Rw) : PyData.eqv (rwD r) (rwD q) = decide (r = q) := by
  obtain ⟨w, a, b, n⟩ := r
  obtain ⟨w', a', b', n'⟩ := q
  cases n <;> cases n' <;> simp [rwD] <;> (by_cases h1 : w = w' <;> by_cases h2 : a = a' <;> by_cases h3 : b = b' <;> simp [h1, h2, h3])
@[simp] theorem lay_rw (n : Nat) (r : Rw) : lay (n + 1) (rwD r) = true := by unfold rwD; cases r.n <;> simp
@[simp] theorem layL_rws (n : Nat) (rs : List Rw) : layL (n + 1) (rs.map rwD) = true := layL_map rs fun r _ => lay_rw n r
@[simp] theorem inOpD_rwL (neg : Bool) (r : Rw) (rs : List Rw) : inOpD neg (rwD r) (.list (rs.map rwD)) = some (.fz (.bool (neg != decide (r ∈ rs)))) := by
  rw [inOpD_list, any_enc eqv_rw, if_pos (by rw [lay_rw 59, layL_rws 59]; rfl)]
@[simp] theorem inOpD_rwT (neg : Bool) (r : Rw) (rs : List Rw) : inOpD neg (rwD r) (.tuple (rs.map rwD)) = some (.fz (.bool (neg != decide (r ∈ rs)))) := by
  rw [inOpD_tuple, any_enc eqv_rw, if_pos (by rw [lay_rw 59, layL_rws 59]; rfl)]
def UnS (us : List Str) (s : Slot) : Prop := s = .fz (.tuple (us.map .str)) ∨ s = .fz (.list (us.map .str)) ∨ s = .ow (.lst (us.map .str))
theorem r_has_row_form {us : List Str} {r : Rw} {s : Slot} (hs : UnS us s) (h : RwOk us r) : F_has_row_form [s, .fz (rwD r)] = .ok (.fz (.bool true)) [s, .fz (rwD r)] := by
  obtain ⟨w, a, b, n⟩ := r
  obtain ⟨ha, hb, ne, ws⟩ := h
  simp only at ha hb ne ws
  have hlc : ∀ (u v : D), lcGo (gdOf .t u) [2] (tgN 2) tYesD (eIsi2 (.n 2) (eN 2) "str") [.str w, .str a, .str b] [s, .fz v, .no] = .ok (List.replicate 3 (.bool true)) [s, .fz v, .no] := fun u v => by
    refine lcGo_true (ds := [.str w, .str a, .str b]) trivial fun d hd => ?_
    obtain ⟨k, rfl⟩ : ∃ k, d = .str k := by
      simp only [List.mem_cons, List.not_mem_nil, or_false] at hd
      rcases hd with rfl | rfl | rfl <;> exact ⟨_, rfl⟩
    simp [lcStep, tyB, tyKnown]
  have c3 : cutD [.str w, .str a, .str b] none (some 3) = [.str w, .str a, .str b] := rfl
  have c4 : ∀ i, cutD [.str w, .str a, .str b, .int i] none (some 3) = [.str w, .str a, .str b] := fun _ => rfl
  rcases ws with ⟨rfl, hw⟩ | ⟨i, rfl, i0, i1, hw⟩
  · rcases hs with rfl | rfl | rfl <;> rcases hw with rfl | rfl <;> simp [F_has_row_form, b_has_row_form, rwD, tyB, tyKnown, tupG, c3, hlc, ha, hb, ne , L2.atI, ixN]
  · rcases hs with rfl | rfl | rfl <;> rcases hw with rfl | rfl <;> simp [F_has_row_form, b_has_row_form, rwD, tyB, tyKnown, tupG, c4, hlc, ha, hb, ne , L2.atI, ixN, r_is_between, i0, i1]
/-! texts of names and numbers -/
theorem name_no {z : Str} (h : nameB z = true) {c : Nat} (hc : c = 32 ∨ c = 10) : c ∉ cs z := fun hm => by
  simp only [nameB, Bool.and_eq_true] at h
  have := List.all_eq_true.mp h.2 c hm
  simp only [Bool.or_eq_true, decide_eq_true_eq] at this
  revert this
  rcases hc with rfl | rfl <;> decide +kernel
theorem name_len {z : Str} (h : nameB z = true) : z.length ≤ 8 ∧ 0 < z.length := by
  simp only [nameB, Bool.and_eq_true, decide_eq_true_eq] at h
  omega
theorem figs_no (n : Nat) {c : Nat} (hc : c < 48 ∨ 57 < c) : c ∉ cs (figs n) := by
  rw [cs_figs]; exact TL.numL_free hc
theorem figs_len {n : Nat} (h : n ≤ 9999) : (figs n).length ≤ 4 ∧ 0 < (figs n).length := by
  rw [len_cs, cs_figs]
  have h1 := TL.numL_len (n := n) (k := 4) (by decide) (by omega)
  have h2 : TL.numL n ≠ [] := TL.numL_ne n
  have h3 := List.length_pos_iff.mpr h2
  exact ⟨h1, h3⟩
theorem slOp_str {z : Str} (h : z.length ≤ sizeLine) (lo hi : Option Int) : slOp lo hi (.str z) = some (.fz (.str (cutS z lo hi))) := by show (if _ then _ else _) = _; rw [if_pos h]
theorem cs_cut1 {z : Str} (h : 0 < z.length) : cs (cutS z none (some 1)) = (cs z).take 1 := by
  show ((cs z).drop (HT.sIx z.length 0 none)).take (HT.sIx z.length z.length (some 1) - HT.sIx z.length 0 none) = _
  have e1 : HT.sIx z.length 0 none = 0 := rfl
  have e2 : HT.sIx z.length z.length (some 1) = min 1 z.length := HT.sIx_nat z.length z.length 1
  rw [e1, e2, show min 1 z.length = 1 by omega]
  rfl
theorem small_ln {n m : Nat} (h : n ≤ m) (hm : m ≤ 16777216) : n ≤ sizeLine := Nat.le_trans (Nat.le_trans h hm) (by decide)
theorem intOf2_figs {n : Nat} (h : n ≤ 9999) : intOf2 (.str (figs n)) = some (.fz (.int n)) := by
  have h1 := TL.numL_len (n := n) (k := 4) (by decide) (by omega)
  have e : PySem.intText? (figs n) = some (n : Int) := TL.int_num (by omega)
  have hl := (figs_len h).1
  show (match PySem.intText? (figs n) with | some n_1 => _ | none => _) = _
  rw [e]
  exact if_pos (by omega)
theorem strOp_nat {n : Nat} (h : n ≤ 9999) : strOp (.int n) = some (.fz (.str (figs n))) := by
  show (if _ then _ else _) = _
  rw [if_pos]
  · rfl
  · rw [Int.natAbs_natCast]
    by_cases e : n = 0
    · subst e; decide
    · exact (Nat.log2_lt e).mpr (Nat.lt_of_le_of_lt h (by decide))
theorem r_read_integer {n : Nat} (h : n ≤ 9999) : F_read_integer [.fz (.str (figs n))] = .ok (.fz (.int n)) [.fz (.str (figs n))] := by
  have hl := figs_len h
  have hz : (figs n).length ≤ sizeLine := small_ln (m := 4) hl.1 (by decide)
  have hd : ∀ c ∈ cs (figs n), 48 ≤ c ∧ c ≤ 57 := by rw [cs_figs]; exact TL.numL_digits n
  have hm : ¬ cutS (figs n) none (some 1) = ("-" : Str) := fun e => by
    have e2 := congrArg cs e
    rw [cs_cut1 hl.2] at e2
    have h45 : (45 : Nat) ∈ (cs (figs n)).take 1 := by rw [e2]; decide
    have := hd 45 (List.mem_of_mem_take h45)
    omega
  have he : ¬ figs n = ("" : Str) := fun e => by
    rw [e] at hl
    have : (0 : Nat) < ("" : Str).length := hl.2
    revert this; decide
  have hx : ¬ (12 : Int) < (figs n).length := by omega
  have hlc : lcGo (gdOf (.n 1) (.str (figs n))) [3] (tgN 3) tYesD (e2 (.n 3) (.t) (eN 3) (eC (.str "0123456789")) (g2 (inOpD false))) ((cs (figs n)).map fun c => .str ⟨#[c]⟩) [.fz (.str (figs n)), .fz (.str (figs n)), .no, .no] = .ok (List.replicate ((cs (figs n)).map fun c => (.str ⟨#[c]⟩ : D)).length (.bool true)) [.fz (.str (figs n)), .fz (.str (figs n)), .no, .no] := by
    refine lcGo_true (by simp) fun d hd' => ?_
    obtain ⟨k, hk, rfl⟩ := List.mem_map.mp hd'
    have h5 : k ∈ cs "0123456789" := by
      have := hd k hk
      have e : cs "0123456789" = [48, 49, 50, 51, 52, 53, 54, 55, 56, 57] := by decide +kernel
      rw [e]
      simp only [List.mem_cons, List.not_mem_nil, or_false]
      omega
    simp [lcStep, h5]
  simp [F_read_integer, b_read_integer, slOp_str hz, hm, he, lenOp_str hz, hx, itemsOf_str hz, hlc, intOf2_figs h, strOp_nat h, eX_fz, -List.map_map]
end Pg
end
section
/-! digs: the reader, line by line -/
namespace Pg
open PySem L2 Dl DlS DlZ
@[simp] theorem ne_ur : (("own_units" : Str) = "own_rows") = False := eq_false (by decide)
@[simp] theorem ne_ru : (("own_rows" : Str) = "own_units") = False := eq_false (by decide)
@[simp] theorem ne_tu : (("own_text" : Str) = "own_units") = False := eq_false (by decide)
@[simp] theorem ne_tr : (("own_text" : Str) = "own_rows") = False := eq_false (by decide)
@[simp] theorem ne_ut : (("own_units" : Str) = "own_text") = False := eq_false (by decide)
@[simp] theorem ne_rt : (("own_rows" : Str) = "own_text") = False := eq_false (by decide)
@[simp] theorem ne_tku : (("own_units" : Str) = "takes_unit") = False := eq_false (by decide)
@[simp] theorem ne_tkr : (("own_rows" : Str) = "takes_unit") = False := eq_false (by decide)
@[simp] theorem ne_tk1 : (("own_units" : Str) = "takes") = False := eq_false (by decide)
@[simp] theorem ne_tk2 : (("own_rows" : Str) = "takes") = False := eq_false (by decide)
def rdS (us : List Str) (rs : List Rw) : Dl.Slot := .oi "Reader" [("own_units", .ow (.lst (us.map .str))), ("own_rows", .ow (.lst (rs.map rwD)))]
@[simp] theorem eN_rd0 {ρ : DEnv} {us : List Str} {rs : List Rw} : eN 0 (rdS us rs :: ρ) = .ok .no (rdS us rs :: ρ) := rfl
@[simp] theorem eN_rd2 {ρ : DEnv} {s t : Dl.Slot} {us : List Str} {rs : List Rw} : eN 2 (s :: t :: rdS us rs :: ρ) = .ok .no (s :: t :: rdS us rs :: ρ) := rfl
@[simp] theorem clsS_rd (us : List Str) (rs : List Rw) : clsS (rdS us rs) = some "Reader" := rfl
@[simp] theorem entS_rd (us : List Str) (rs : List Rw) (ss : List Dl.Slot) : entS "Reader" (rdS us rs :: ss) = true := by simp [rdS]
@[simp] theorem hasF_rd1 (us : List Str) (rs : List Rw) : hasF "own_units" (rdS us rs) = true := by simp [rdS, fget]
@[simp] theorem hasF_rd2 (us : List Str) (rs : List Rw) : hasF "own_rows" (rdS us rs) = true := by simp [rdS, fget]
@[simp] theorem hasF_rd3 (us : List Str) (rs : List Rw) : hasF "takes_unit" (rdS us rs) = false := by simp [rdS, fget]
@[simp] theorem hasF_rd4 (us : List Str) (rs : List Rw) : hasF "takes" (rdS us rs) = false := by simp [rdS, fget]
@[simp] theorem fldS_rd1 (us : List Str) (rs : List Rw) : fldS "own_units" (rdS us rs) = .ow (.lst (us.map .str)) := by simp [rdS, fget]
@[simp] theorem fldS_rd2 (us : List Str) (rs : List Rw) : fldS "own_rows" (rdS us rs) = .ow (.lst (rs.map rwD)) := by simp [rdS, fget]
theorem setFl_rd1 (us us' : List Str) (rs : List Rw) : setFl "own_units" (.ow (.lst (us'.map .str))) (rdS us rs) = rdS us' rs := by simp [rdS, putFl]
theorem setFl_rd2 (us : List Str) (rs rs' : List Rw) : setFl "own_rows" (.ow (.lst (rs'.map rwD))) (rdS us rs) = rdS us rs' := by simp [rdS, putFl]
theorem setFl_rd1a (us : List Str) (u : Str) (rs : List Rw) : setFl "own_units" (.ow (.lst (us.map .str ++ [.str u]))) (rdS us rs) = rdS (us ++ [u]) rs := by
  have := setFl_rd1 us (us ++ [u]) rs
  simpa using this
theorem setFl_rd2a (us : List Str) (r : Rw) (rs : List Rw) : setFl "own_rows" (.ow (.lst (rs.map rwD ++ [rwD r]))) (rdS us rs) = rdS us (rs ++ [r]) := by
  have := setFl_rd2 us rs (rs ++ [r])
  simpa using this
theorem setFl_rd1b (us : List Str) (rs : List Rw) : setFl "own_units" (.ow (.lst (us.map .str))) (setFl "own_units" .no (rdS us rs)) = rdS us rs := by rw [setFl_setFl, setFl_rd1]
theorem r_takes_unit {us : List Str} {u : Str} (hn : nameB u = true) (hu : u ∉ us) (hl : us.length < 40) : F_Reader_takes_unit [rdS us [], .fz (.list [.str "unit", .str u])] = .ok (.fz (.bool true)) [rdS (us ++ [u]) [], .fz (.list [.str "unit", .str u])] := by
  have h1 : ¬ (us.length : Int) = 40 := by omega
  have h2 : us.length ≤ 1000000 := by omega
  have h3 : neOp (.list []) (.list []) = some (.fz (.bool false)) := rfl
  simp [F_Reader_takes_unit, b_Reader_takes_unit, h1, h3, lstG, L2.atI, ixN, r_is_name hn, hu, small, h2, setFl_rd1a]
/-! lines -/
def rwWords (r : Rw) : List Str := match r.n with
  | none => [r.w, r.a, r.b]
  | some i => [r.w, r.a, r.b, figs i]
def rwLine (r : Rw) : Str := Txt.join " " (rwWords r)
def unL (u : Str) : Str := ("unit " : Str) ++ u
theorem unL_join (u : Str) : unL u = Txt.join " " ["unit", u] := by
  refine ext_cs ?_
  rw [TL.join_eq]
  show cs (_ ++ u) = TL.tl _
  rw [TL.tl_join, cs_append]
  have e1 : cs ("unit " : Str) = [117, 110, 105, 116, 32] := by decide +kernel
  have e2 : TL.tl ("unit" : Str) = [117, 110, 105, 116] := by decide +kernel
  have e3 : TL.tl (" " : Str) = [32] := by decide +kernel
  rw [e1, e3]
  show _ = TL.joinL [32] [TL.tl ("unit" : Str), TL.tl u]
  rw [e2]
  rfl
theorem split_line {ws : List Str} (hne : ws ≠ []) (h : ∀ w ∈ ws, 32 ∉ cs w) : Txt.split (Txt.join " " ws) " " = ws :=
  TL.split_join (y := " ") (s := 32) (S := []) (by decide +kernel) (by decide +kernel) hne h
theorem split_lines {ws : List Str} (hne : ws ≠ []) (h : ∀ w ∈ ws, 10 ∉ cs w) : Txt.split (Txt.join "\n" ws) "\n" = ws :=
  TL.split_join (y := "\n") (s := 10) (S := []) (by decide +kernel) (by decide +kernel) hne h
theorem word_no {w : Str} {c : Nat} (hw : w = "above" ∨ w = "same" ∨ w = "least" ∨ w = "most" ∨ w = "unit") (hc : c = 32 ∨ c = 10) : c ∉ cs w := by
  rcases hw with rfl | rfl | rfl | rfl | rfl <;> rcases hc with rfl | rfl <;> decide +kernel
theorem word_len {w : Str} (hw : w = "above" ∨ w = "same" ∨ w = "least" ∨ w = "most" ∨ w = "unit") : w.length ≤ 5 := by
  rcases hw with rfl | rfl | rfl | rfl | rfl <;> decide +kernel
theorem RwOk.word {us : List Str} {r : Rw} (h : RwOk us r) : r.w = "above" ∨ r.w = "same" ∨ r.w = "least" ∨ r.w = "most" ∨ r.w = "unit" := by
  rcases h.ws with ⟨_, hw⟩ | ⟨i, _, _, _, hw⟩ <;> rcases hw with e | e <;> simp [e]
theorem words_no {us : List Str} {r : Rw} (hn : ∀ u ∈ us, nameB u = true) (h : RwOk us r) {c : Nat} (hc : c = 32 ∨ c = 10) : ∀ w ∈ rwWords r, c ∉ cs w := by
  have h1 := word_no h.word hc
  have h2 := name_no (hn _ h.ha) hc
  have h3 := name_no (hn _ h.hb) hc
  obtain ⟨w, a, b, n⟩ := r
  rcases h.ws with ⟨e, _⟩ | ⟨i, e, i0, i1, _⟩
  · simp only at e
    subst e
    intro x hx
    simp only [rwWords, List.mem_cons, List.not_mem_nil, or_false] at hx
    rcases hx with rfl | rfl | rfl <;> assumption
  · simp only at e
    subst e
    obtain ⟨k, rfl⟩ := Int.eq_ofNat_of_zero_le i0
    have h4 := figs_no k (c := c) (by omega)
    intro x hx
    simp only [rwWords, List.mem_cons, List.not_mem_nil, or_false] at hx
    rcases hx with rfl | rfl | rfl | rfl <;> assumption
theorem join_len (y : Str) : ∀ parts : List Str, (Txt.join y parts).length ≤ (parts.map (·.length)).sum + parts.length * y.length := fun parts => by
  rw [TL.join_eq, len_cs]
  show (TL.tl _).length ≤ _
  rw [TL.tl_join]
  have key : ∀ ps : List Str, (TL.joinL (TL.tl y) (ps.map TL.tl)).length ≤ (ps.map (·.length)).sum + ps.length * y.length := fun ps => by
    induction ps with
    | nil => simp [TL.joinL]
    | cons p ps ih =>
      cases ps with
      | nil => simp [TL.joinL, TL.len_tl]
      | cons q ps =>
        simp only [List.map_cons, TL.joinL, List.length_append, List.sum_cons, List.length_cons, TL.len_tl] at ih ⊢
        have : (ps.length + 1 + 1) * (TL.tl y).length = (ps.length + 1) * (TL.tl y).length + (TL.tl y).length := by rw [Nat.succ_mul]
        omega
  exact key parts
theorem words_len {us : List Str} {r : Rw} (hn : ∀ u ∈ us, nameB u = true) (h : RwOk us r) : ((rwWords r).map (·.length)).sum + (rwWords r).length * 1 ≤ 40 := by
  have h1 := word_len h.word
  have h2 := (name_len (hn _ h.ha)).1
  have h3 := (name_len (hn _ h.hb)).1
  obtain ⟨w, a, b, n⟩ := r
  rcases h.ws with ⟨e, _⟩ | ⟨i, e, i0, i1, _⟩
  · simp only at e h1 h2 h3
    subst e
    simp only [rwWords, List.map_cons, List.map_nil, List.sum_cons, List.sum_nil, List.length_cons, List.length_nil]
    omega
  · simp only at e h1 h2 h3
    subst e
    obtain ⟨k, rfl⟩ := Int.eq_ofNat_of_zero_le i0
    have h4 := (figs_len (n := k) (by omega)).1
    have h5 : (figs ((k : Nat) : Int)).length ≤ 4 := h4
    simp only [rwWords, List.map_cons, List.map_nil, List.sum_cons, List.sum_nil, List.length_cons, List.length_nil]
    omega
theorem sp_len : (" " : Str).length = 1 := by decide +kernel
theorem nl_len : ("\n" : Str).length = 1 := by decide +kernel
theorem rwLine_len {us : List Str} {r : Rw} (hn : ∀ u ∈ us, nameB u = true) (h : RwOk us r) : (rwLine r).length ≤ 40 := by
  have h1 := join_len " " (rwWords r)
  have h2 := words_len hn h
  rw [sp_len] at h1
  unfold rwLine
  omega
theorem unL_len {u : Str} (h : nameB u = true) : (unL u).length ≤ 40 := by
  have h1 := (name_len h).1
  rw [len_cs] at h1 ⊢
  unfold unL
  rw [cs_append, List.length_append]
  have : (cs ("unit " : Str)).length = 5 := by decide +kernel
  omega
theorem splitOp_ok {a b : Str} (hb : (b.length == 0) = false) (h : a.length ≤ 100000) : splitOp (.str a) (.str b) = some (.ow (.lst ((Txt.split a b).map .str))) := by
  show (if _ then _ else _) = _
  rw [if_pos ⟨hb, Nat.le_trans (Nat.add_le_add_right h 2) (by decide)⟩]
theorem r_row_of {us : List Str} {r : Rw} (h : RwOk us r) : F_row_of [.fz (.list ((rwWords r).map .str))] = .ok (.fz (rwD r)) [.fz (.list ((rwWords r).map .str))] := by
  obtain ⟨w, a, b, n⟩ := r
  rcases h.ws with ⟨e, _⟩ | ⟨i, e, i0, i1, _⟩
  · simp only at e
    subst e
    simp [F_row_of, b_row_of, rwWords, rwD]
  · simp only at e
    subst e
    obtain ⟨k, rfl⟩ := Int.eq_ofNat_of_zero_le i0
    have hc : cutD [.str w, .str a, .str b, .str (figs (k : Int))] none (some 3) = [.str w, .str a, .str b] := rfl
    have ha : addOp (.tuple [.str w, .str a, .str b]) (.tuple [.int k]) = some (.fz (.tuple [.str w, .str a, .str b, .int k])) := rfl
    simp [F_row_of, b_row_of, rwWords, rwD, hc, L2.atI, ixN, r_read_integer (n := k) (by omega), tupG, ha]
theorem r_takes_u {us : List Str} {u : Str} (hn : nameB u = true) (hu : u ∉ us) (hl : us.length < 40) : F_Reader_takes [rdS us [], .fz (.str (unL u))] = .ok (.fz (.bool true)) [rdS (us ++ [u]) [], .fz (.str (unL u))] := by
  have h1 : splitOp (.str (unL u)) (.str " ") = some (.ow (.lst [.str "unit", .str u])) := by
    rw [splitOp_ok (by decide) (Nat.le_trans (unL_len hn) (by decide)), unL_join, split_line (by simp) (fun w hw => by
      simp only [List.mem_cons, List.not_mem_nil, or_false] at hw
      rcases hw with rfl | rfl
      · decide +kernel
      · exact name_no hn (.inl rfl))]
    rfl
  simp [F_Reader_takes, b_Reader_takes, h1, L2.atI, ixN, eX_l, r_takes_unit hn hu hl]
theorem r_takes_r {us : List Str} {rs : List Rw} {r : Rw} (hn : ∀ u ∈ us, nameB u = true) (h : RwOk us r) (hr : r ∉ rs) (hl : rs.length < 200) : F_Reader_takes [rdS us rs, .fz (.str (rwLine r))] = .ok (.fz (.bool true)) [rdS us (rs ++ [r]), .fz (.str (rwLine r))] := by
  have h1 : splitOp (.str (rwLine r)) (.str " ") = some (.ow (.lst ((rwWords r).map .str))) := by
    rw [splitOp_ok (by decide) (Nat.le_trans (rwLine_len hn h) (by decide)), rwLine, split_line _ (words_no hn h (.inl rfl))]
    unfold rwWords
    split <;> simp
  have h2 : L2.atI ((rwWords r).map PyData.str) 0 = some (.str r.w) := by
    unfold rwWords
    split <;> rfl
  have h3 : ¬ r.w = "unit" := by
    rcases h.ws with ⟨_, hw⟩ | ⟨i, _, _, _, hw⟩ <;> rcases hw with e | e <;> rw [e] <;> decide
  have h4 : ¬ (rs.length : Int) = 200 := by omega
  have h5 : rs.length ≤ 1000000 := by omega
  simp [F_Reader_takes, b_Reader_takes, h1, h2, h3, h4, h5, hr, eX_l, eX_fz, r_row_of h, r_has_row_form (.inr (.inr rfl)) h, small, setFl_rd2a, setFl_rd1b, -List.map_map]
end Pg
end
section
/-! digs: made of their texts -/
namespace Pg
open PySem L2 Dl DlS DlZ
def digLines (us : List Str) (rs : List Rw) : List Str := us.map unL ++ rs.map rwLine
def digText (us : List Str) (rs : List Rw) : Str := Txt.join "\n" (digLines us rs)
def digD (us : List Str) (rs : List Rw) : D := insD "Dig" [("own_text", .str (digText us rs)), ("own_units", .tuple (us.map .str)), ("own_rows", .tuple (rs.map rwD))]
abbrev digI (us : List Str) (rs : List Rw) : Dl.Slot := .oi "Dig" [("own_text", .fz (.str (digText us rs))), ("own_units", .fz (.tuple (us.map .str))), ("own_rows", .fz (.tuple (rs.map rwD)))]
structure DigOk (us : List Str) (rs : List Rw) : Prop where
  u1 : 1 ≤ us.length
  u2 : us.length ≤ 40
  un : us.Nodup
  nm : ∀ u ∈ us, nameB u = true
  r2 : rs.length ≤ 200
  rn : rs.Nodup
  ok : ∀ r ∈ rs, RwOk us r
@[simp] theorem flsD_nil : flsD [] = some [] := rfl
@[simp] theorem flsD_cons (n : Str) (l : Fl) (ls : List (Str × Fl)) : flsD ((n, l) :: ls) = l.shared.bind fun d => (flsD ls).map fun r => (n, d) :: r := rfl
@[simp] theorem Fl.shared_fz (d : D) : (Fl.fz d).shared = some d := rfl
@[simp] theorem Fl.shared_owl (ds : List D) : (Fl.ow (.lst ds)).shared = some (.list ds) := rfl
@[simp] theorem digD_fold (us : List Str) (rs : List Rw) : insD "Dig" [("own_text", .str (digText us rs)), ("own_units", .tuple (us.map .str)), ("own_rows", .tuple (rs.map rwD))] = digD us rs := rfl
@[simp] theorem clsS_dig (us : List Str) (rs : List Rw) : clsS (.fz (digD us rs)) = some "Dig" := rfl
@[simp] theorem entS_dig (us : List Str) (rs : List Rw) (ss : List Dl.Slot) : entS "Dig" (.fz (digD us rs) :: ss) = true := rfl
@[simp] theorem isCls_dig (us : List Str) (rs : List Rw) : isCls "Dig" (.fz (digD us rs)) = some true := isCls_ins
@[simp] theorem hasF_dig1 (us : List Str) (rs : List Rw) : hasF "own_text" (.fz (digD us rs)) = true := by simp [digD, fget, -digD_fold]
@[simp] theorem hasF_dig2 (us : List Str) (rs : List Rw) : hasF "own_units" (.fz (digD us rs)) = true := by simp [digD, fget, -digD_fold]
@[simp] theorem hasF_dig3 (us : List Str) (rs : List Rw) : hasF "own_rows" (.fz (digD us rs)) = true := by simp [digD, fget, -digD_fold]
@[simp] theorem hasF_dig4 (us : List Str) (rs : List Rw) : hasF "more" (.fz (digD us rs)) = false := by
  simp [digD, fget, -digD_fold, show (("own_text" : Str) = "more") = False from eq_false (by decide), show (("own_units" : Str) = "more") = False from eq_false (by decide), show (("own_rows" : Str) = "more") = False from eq_false (by decide)]
@[simp] theorem hasF_dig5 (us : List Str) (rs : List Rw) : hasF "without" (.fz (digD us rs)) = false := by
  simp [digD, fget, -digD_fold, show (("own_text" : Str) = "without") = False from eq_false (by decide), show (("own_units" : Str) = "without") = False from eq_false (by decide), show (("own_rows" : Str) = "without") = False from eq_false (by decide)]
@[simp] theorem fldS_dig1 (us : List Str) (rs : List Rw) : fldS "own_text" (.fz (digD us rs)) = .fz (.str (digText us rs)) := by simp [digD, fget, -digD_fold]
@[simp] theorem fldS_dig2 (us : List Str) (rs : List Rw) : fldS "own_units" (.fz (digD us rs)) = .fz (.tuple (us.map .str)) := by simp [digD, fget, -digD_fold]
@[simp] theorem fldS_dig3 (us : List Str) (rs : List Rw) : fldS "own_rows" (.fz (digD us rs)) = .fz (.tuple (rs.map rwD)) := by simp [digD, fget, -digD_fold]
theorem lines_no {us : List Str} {rs : List Rw} (h : DigOk us rs) : ∀ l ∈ digLines us rs, 10 ∉ cs l := fun l hl => by
  rcases List.mem_append.mp hl with h1 | h1
  · obtain ⟨u, hu, rfl⟩ := List.mem_map.mp h1
    unfold unL
    rw [cs_append]
    intro hm
    rcases List.mem_append.mp hm with z | z
    · revert z; decide +kernel
    · exact name_no (h.nm u hu) (.inr rfl) z
  · obtain ⟨r, hr, rfl⟩ := List.mem_map.mp h1
    unfold rwLine
    have hw := words_no h.nm (h.ok r hr) (c := 10) (.inr rfl)
    intro hm
    rw [TL.join_eq] at hm
    have hm' : 10 ∈ TL.tl (Str.join " " (rwWords r)) := hm
    rw [TL.tl_join] at hm'
    have e3 : TL.tl (" " : Str) = [32] := by decide +kernel
    rw [e3] at hm'
    have key : ∀ ps : List Str, (∀ w ∈ ps, 10 ∉ cs w) → 10 ∉ TL.joinL [32] (ps.map TL.tl) := fun ps => by
      induction ps with
      | nil => intro _ z; simp [TL.joinL] at z
      | cons p ps ih =>
        intro hp z
        cases ps with
        | nil => exact hp p (by simp) (by simpa [TL.joinL] using z)
        | cons q ps =>
          simp only [List.map_cons, TL.joinL, List.mem_append, List.mem_singleton] at z ih
          rcases z with z | z | z
          · exact hp p (by simp) z
          · exact absurd z (by decide)
          · exact ih (fun w hw => hp w (by simp [hw])) z
    exact key _ hw hm'
theorem line_len {us : List Str} {rs : List Rw} (h : DigOk us rs) : ∀ l ∈ digLines us rs, l.length ≤ 40 := fun l hl => by
  rcases List.mem_append.mp hl with h1 | h1
  · obtain ⟨u, hu, rfl⟩ := List.mem_map.mp h1
    exact unL_len (h.nm u hu)
  · obtain ⟨r, hr, rfl⟩ := List.mem_map.mp h1
    exact rwLine_len h.nm (h.ok r hr)
theorem sum_le {n : Nat} : ∀ {ls : List Str}, (∀ l ∈ ls, l.length ≤ n) → (ls.map (·.length)).sum ≤ n * ls.length
  | [], _ => by simp
  | l :: ls, h => by
    have h1 := h l (by simp)
    have h2 := sum_le (n := n) (ls := ls) fun x hx => h x (by simp [hx])
    simp only [List.map_cons, List.sum_cons, List.length_cons]
    rw [Nat.mul_succ]
    omega
theorem lines_len {us : List Str} {rs : List Rw} (h : DigOk us rs) : (digLines us rs).length ≤ 240 := by
  have := h.u2; have := h.r2
  simp [digLines]; omega
theorem text_len {us : List Str} {rs : List Rw} (h : DigOk us rs) : (digText us rs).length ≤ 10000 := by
  have h1 := join_len "\n" (digLines us rs)
  have h2 := sum_le (line_len h)
  have h3 := lines_len h
  rw [nl_len] at h1
  unfold digText
  omega
theorem zipIdx_split {α : Type} {l : List α} {A B : List (α × Nat)} {x : α × Nat} (h : l.zipIdx = A ++ x :: B) : x.2 = A.length ∧ l[A.length]? = some x.1 := by
  have h1 : (l.zipIdx)[A.length]? = some x := by rw [h]; simp
  rw [List.getElem?_zipIdx] at h1
  cases e : l[A.length]? with
  | none => rw [e] at h1; cases h1
  | some a => rw [e] at h1; simp at h1; subst h1; simp
@[simp] theorem r_reader_new : F_Reader_init [.oi "Reader" []] = .ok (.fz .none) [rdS [] []] := by
  simp [F_Reader_init, b_Reader_init, lstG, putFl, rdS]
@[simp] theorem r_reader_found (us : List Str) (rs : List Rw) : F_Reader_found [rdS us rs] = .ok (.fz (.tuple [.tuple (us.map .str), .tuple (rs.map rwD)])) [rdS us rs] := by
  have h1 : setFl "own_rows" (.ow (.lst (rs.map rwD))) (setFl "own_rows" .no (rdS us rs)) = rdS us rs := by rw [setFl_setFl, setFl_rd2]
  simp [F_Reader_found, b_Reader_found, tupG]
theorem r_Dig_init {us : List Str} {rs : List Rw} (h : DigOk us rs) : F_Dig_init [.oi "Dig" [], .fz (.str (digText us rs))] = .ok (.fz .none) [digI us rs, .fz (.str (digText us rs))] := by
  have hsp : splitOp (.str (digText us rs)) (.str "\n") = some (.ow (.lst ((digLines us rs).map .str))) := by
    rw [splitOp_ok (by decide) (Nat.le_trans (text_len h) (by decide)), digText, split_lines _ (lines_no h)]
    have := h.u1
    unfold digLines
    intro e
    have e2 := congrArg List.length e
    rw [List.length_append, List.length_map, List.length_nil] at e2
    omega
  have hlen : (digLines us rs).length = us.length + rs.length := by simp [digLines]
  have loop : ∃ ρ', forGo (gdOf .t (.list ((digLines us rs).map .str))) (tgT 2 (tgCons (tgN 3) (tgCons (tgN 4) tgNil))) (sIf (bNot (bV (.t) (eMeth "Reader" "takes" (.n 2) (eN 2) [(.t, (eX 4))] F_Reader_takes))) sNo sNx) (enumD ((digLines us rs).map .str)) [.oi "Dig" [], .fz (.str (digText us rs)), rdS [] [], .no, .no] = .nx ρ' ∧ ∃ s3 s4, ρ' = [.oi "Dig" [], .fz (.str (digText us rs)), rdS us rs, s3, s4] := by
    have := forGo_enc (gd := gdOf .t (.list ((digLines us rs).map .str))) (tg := tgT 2 (tgCons (tgN 3) (tgCons (tgN 4) tgNil))) (b := (sIf (bNot (bV (.t) (eMeth "Reader" "takes" (.n 2) (eN 2) [(.t, (eX 4))] F_Reader_takes))) sNo sNx)) (enc := fun p : D × Nat => (.tuple [.int (p.2 : Nat), p.1] : D))
      (I := fun A ρ => ∃ s3 s4, ρ = [.oi "Dig" [], .fz (.str (digText us rs)), rdS (us.take A.length) (rs.take (A.length - us.length)), s3, s4]) (fun _ _ _ => trivial) (Q := ((digLines us rs).map PyData.str).zipIdx) (P := []) (ρ := [.oi "Dig" [], .fz (.str (digText us rs)), rdS [] [], .no, .no]) (fun A x B ρ el i => by
        obtain ⟨s3, s4, rfl⟩ := i
        rw [List.nil_append] at el
        obtain ⟨x1, x2⟩ := x
        obtain ⟨e1, e2⟩ := zipIdx_split el
        simp only at e1 e2
        subst e1
        have hk : A.length < (digLines us rs).length := by
          have := (List.getElem?_eq_some_iff.mp e2).1
          simpa using this
        rw [List.length_append, List.length_singleton]
        by_cases hc : A.length < us.length
        · have hx : x1 = .str (unL us[A.length]) := by
            rw [List.getElem?_map, digLines, List.getElem?_append_left (by simpa using hc), List.getElem?_map, List.getElem?_eq_getElem hc] at e2
            simpa using e2.symm
          subst hx
          have hn := h.nm _ (List.getElem_mem hc)
          have hni : us[A.length] ∉ us.take A.length := fun hm => by
            have nd := h.un
            rw [← List.take_append_drop A.length us, List.drop_eq_getElem_cons hc] at nd
            exact (List.nodup_append.mp nd).2.2 _ hm _ (List.mem_cons_self ..) rfl
          have ht : us.take (A.length + 1) = us.take A.length ++ [us[A.length]] := by rw [List.take_succ_eq_append_getElem hc]
          have hr0 : rs.take (A.length - us.length) = [] := by rw [show A.length - us.length = 0 by omega]; rfl
          have hr1 : rs.take (A.length + 1 - us.length) = [] := by rw [show A.length + 1 - us.length = 0 by omega]; rfl
          have hst := r_takes_u (us := us.take A.length) (u := us[A.length]) hn hni (by simp; have := h.u2; omega)
          rw [hr0, hr1, ht]
          exact ⟨_, [.oi "Dig" [], .fz (.str (digText us rs)), rdS (us.take A.length ++ [us[A.length]]) [], .fz (.int A.length), .fz (.str (unL us[A.length]))], rfl, .inl (by simp [hst, eX_fz]), _, _, rfl⟩
        · have hj : A.length - us.length < rs.length := by omega
          have hx : x1 = .str (rwLine rs[A.length - us.length]) := by
            rw [List.getElem?_map, digLines, List.getElem?_append_right (by simp; omega), List.getElem?_map, List.length_map, List.getElem?_eq_getElem hj] at e2
            simpa using e2.symm
          subst hx
          have hni : rs[A.length - us.length] ∉ rs.take (A.length - us.length) := fun hm => by
            have nd := h.rn
            rw [← List.take_append_drop (A.length - us.length) rs, List.drop_eq_getElem_cons hj] at nd
            exact (List.nodup_append.mp nd).2.2 _ hm _ (List.mem_cons_self ..) rfl
          have ht : rs.take (A.length + 1 - us.length) = rs.take (A.length - us.length) ++ [rs[A.length - us.length]] := by rw [show A.length + 1 - us.length = A.length - us.length + 1 by omega, List.take_succ_eq_append_getElem hj]
          have hu0 : us.take A.length = us := List.take_of_length_le (by omega)
          have hu1 : us.take (A.length + 1) = us := List.take_of_length_le (by omega)
          have hst := r_takes_r (us := us) (rs := rs.take (A.length - us.length)) (r := rs[A.length - us.length]) h.nm (h.ok _ (List.getElem_mem hj)) hni (by simp; have := h.r2; omega)
          rw [hu0, hu1, ht]
          exact ⟨_, [.oi "Dig" [], .fz (.str (digText us rs)), rdS us (rs.take (A.length - us.length) ++ [rs[A.length - us.length]]), .fz (.int A.length), .fz (.str (rwLine rs[A.length - us.length]))], rfl, .inl (by simp [hst, eX_fz]), _, _, rfl⟩) ⟨.no, .no, by simp⟩
    obtain ⟨ρ', e, s3, s4, e2⟩ := this
    refine ⟨ρ', e, s3, s4, ?_⟩
    rw [e2]
    simp only [List.nil_append, List.length_zipIdx, List.length_map, hlen]
    rw [List.take_of_length_le (show us.length ≤ us.length + rs.length by omega), List.take_of_length_le (show rs.length ≤ us.length + rs.length - us.length by omega)]
  obtain ⟨ρ', e, s3, s4, rfl⟩ := loop
  simp [F_Dig_init, b_Dig_init, tyB, tyKnown, hsp, iEn_eq, e, eX_fz, putFl, digI, -List.map_append]
end Pg
end
section
/-! digs: steps -/
namespace Pg
open PySem L2 Dl DlS DlZ
def stps (r : Rw) : List ((Str × Str) × Int) :=
  if r.w = "above" then [((r.b, r.a), 1)] else if r.w = "same" then [((r.a, r.b), 0), ((r.b, r.a), 0)] else if r.w = "least" then [((r.b, r.a), r.n.getD 0)] else [((r.a, r.b), 0 - r.n.getD 0)]
def stD (s : (Str × Str) × Int) : D := .tuple [.str s.1.1, .str s.1.2, .int s.2]
def RwW (r : Rw) : Prop := (r.n = none ∧ (r.w = "above" ∨ r.w = "same")) ∨ ∃ i, r.n = some i ∧ (r.w = "least" ∨ r.w = "most")
theorem RwOk.ww {us : List Str} {r : Rw} (h : RwOk us r) : RwW r := by
  rcases h.ws with h1 | ⟨i, h1, _, _, h2⟩
  · exact .inl h1
  · exact .inr ⟨i, h1, h2⟩
@[simp] theorem w_sa : (("same" : Str) = "above") = False := eq_false (by decide)
@[simp] theorem w_la : (("least" : Str) = "above") = False := eq_false (by decide)
@[simp] theorem w_ls : (("least" : Str) = "same") = False := eq_false (by decide)
@[simp] theorem w_ma : (("most" : Str) = "above") = False := eq_false (by decide)
@[simp] theorem w_ms : (("most" : Str) = "same") = False := eq_false (by decide)
@[simp] theorem w_ml : (("most" : Str) = "least") = False := eq_false (by decide)
theorem at3 (a b c : D) : L2.atI [a, b, c] 0 = some a ∧ L2.atI [a, b, c] 1 = some b ∧ L2.atI [a, b, c] 2 = some c := ⟨rfl, rfl, rfl⟩
theorem at4 (a b c d : D) : L2.atI [a, b, c, d] 0 = some a ∧ L2.atI [a, b, c, d] 1 = some b ∧ L2.atI [a, b, c, d] 2 = some c ∧ L2.atI [a, b, c, d] 3 = some d := ⟨rfl, rfl, rfl, rfl⟩
theorem r_steps_of {r : Rw} (h : RwW r) : F_steps_of [.fz (rwD r)] = .ok (.fz (.tuple ((stps r).map stD))) [.fz (rwD r)] := by
  obtain ⟨w, a, b, n⟩ := r
  rcases h with ⟨e, hw⟩ | ⟨i, e, hw⟩ <;> simp only at e hw <;> subst e <;> rcases hw with rfl | rfl <;> simp [F_steps_of, b_steps_of, rwD, at3, at4, tupG, stps, stD]
def tstep (t : Tab) (s : (Str × Str) × Int) : Tab := mput t s.1 (max s.2 ((mget t s.1).getD s.2))
def tabR (t : Tab) (r : Rw) : Tab := (stps r).foldl tstep t
def tabOf (rs : List Rw) : Tab := rs.foldl tabR []
theorem tabOf_snoc (rs : List Rw) (r : Rw) : tabOf (rs ++ [r]) = tabR (tabOf rs) r := by simp [tabOf]
theorem stps_len (r : Rw) : (stps r).length ≤ 2 := by unfold stps; split <;> (try split) <;> (try split) <;> simp
theorem tstep_len (t : Tab) (s : (Str × Str) × Int) : (tstep t s).length ≤ t.length + 1 := mput_len _ _ _
theorem foldl_tstep_len : ∀ (ss : List ((Str × Str) × Int)) (t : Tab), (ss.foldl tstep t).length ≤ t.length + ss.length
  | [], t => by simp
  | s :: ss, t => by
    have h1 := foldl_tstep_len ss (tstep t s)
    have h2 := tstep_len t s
    simp only [List.foldl_cons, List.length_cons]
    omega
theorem tabOf_len (rs : List Rw) : (tabOf rs).length ≤ 2 * rs.length := by
  suffices h : ∀ (rs : List Rw) (t : Tab), (rs.foldl tabR t).length ≤ t.length + 2 * rs.length by
    have := h rs []
    simpa [tabOf] using this
  intro rs
  induction rs with
  | nil => intro t; simp
  | cons r rs ih =>
    intro t
    have h1 := ih (tabR t r)
    have h2 : (tabR t r).length ≤ t.length + (stps r).length := foldl_tstep_len _ _
    have h3 := stps_len r
    simp only [List.foldl_cons, List.length_cons]
    omega
theorem max_if (i j : Int) : (if j > i then j else i) = max i j := by
  by_cases h : j > i
  · rw [if_pos h]; omega
  · rw [if_neg h]; omega
@[simp] theorem max2Op_int (i j : Int) : max2Op (.int i) (.int j) = some (.fz (.int (max i j))) := by
  show some (Slot.fz (.int (if j > i then j else i))) = _
  rw [max_if]
@[simp] theorem isDctS_ow (t : Tab) : isDctS (.ow (.dct true (encT t))) = true := rfl
theorem getR_t (t : Tab) (a b : Str) (u : Dl.Slot) : getR (dctD true (encT t)) (.tuple [.str a, .str b]) u = some (match mget t (a, b) with | some n => .fz (.int n) | none => u) := by
  show (if isKey true (.tuple [.str a, .str b]) then some (match dGet (encT t) (.tuple [.str a, .str b]) with | some x => Dl.Slot.fz x | none => u) else none) = _
  rw [isKey_pr, if_pos rfl, dGet_pr]
  cases mget t (a, b) <;> rfl
theorem stoOp_t {t : Tab} (a b : Str) (n : Int) (h : t.length ≤ 1000000) : stoOp (.dct true (encT t)) (.tuple [.str a, .str b]) (.int n) = some (.dct true (encT (mput t (a, b) n))) := by
  show (if isKey true (.tuple [.str a, .str b]) && small (encT t).length then some (Cont.dct true (dPut (encT t) (.tuple [.str a, .str b]) (.int n))) else none) = _
  rw [isKey_pr, encM_len, dPut_pr, if_pos (by simp [small, h])]
theorem r_step_table {rs : List Rw} {s : Dl.Slot} (hs : s = .fz (.tuple (rs.map rwD)) ∨ s = .fz (.list (rs.map rwD))) (h : ∀ r ∈ rs, RwW r) (hl : rs.length ≤ 1000) : F_step_table [s] = .ok (.ow (.dct true (encT (tabOf rs)))) [s] := by
  have inner : ∀ (gd : DEnv → Prop) (t : Tab) (ss : List ((Str × Str) × Int)) (s2 s3 s4 s5 : Dl.Slot), (∀ ρ, gd ρ) → t.length + ss.length ≤ 10000 → ∃ s3' s4' s5', forGo gd (tgT 3 (tgCons (tgN 3) (tgCons (tgN 4) (tgCons (tgN 5) tgNil)))) (sSto 1 (eB [(.n 5, (eN 5)), (.t, (eGet (.n 1) (.t) (eN 1) (eB [(.t, (eX 3)), (.t, (eX 4))] tupG) (eX 5)))] (gN2 max2Op)) (eB [(.t, (eX 3)), (.t, (eX 4))] tupG)) (ss.map stD) [s, .ow (.dct true (encT t)), s2, s3, s4, s5] = .nx [s, .ow (.dct true (encT (ss.foldl tstep t))), s2, s3', s4', s5'] := by
    intro gd t ss s2 s3 s4 s5 hgd hlen
    have := forGo_enc (gd := gd) (tg := tgT 3 (tgCons (tgN 3) (tgCons (tgN 4) (tgCons (tgN 5) tgNil)))) (b := sSto 1 (eB [(.n 5, (eN 5)), (.t, (eGet (.n 1) (.t) (eN 1) (eB [(.t, (eX 3)), (.t, (eX 4))] tupG) (eX 5)))] (gN2 max2Op)) (eB [(.t, (eX 3)), (.t, (eX 4))] tupG)) (enc := stD)
      (I := fun A ρ => ∃ s3' s4' s5', ρ = [s, .ow (.dct true (encT (A.foldl tstep t))), s2, s3', s4', s5']) (fun _ _ _ => hgd _) (Q := ss) (P := []) (ρ := [s, .ow (.dct true (encT t)), s2, s3, s4, s5]) (fun A x B ρ el i => by
        obtain ⟨s3', s4', s5', rfl⟩ := i
        have hA : (A.foldl tstep t).length ≤ 1000000 := by
          have h1 := foldl_tstep_len A t
          have h2 := congrArg List.length el
          simp at h2
          omega
        refine ⟨[s, .ow (.dct true (encT (A.foldl tstep t))), s2, .fz (.str x.1.1), .fz (.str x.1.2), .fz (.int x.2)], [s, .ow (.dct true (encT (tstep (A.foldl tstep t) x))), s2, .fz (.str x.1.1), .fz (.str x.1.2), .fz (.int x.2)], by simp [stD], .inl ?_, _, _, _, by rw [List.foldl_append]; rfl⟩
        have hst := stoOp_t (t := A.foldl tstep t) x.1.1 x.1.2 (max x.2 ((mget (A.foldl tstep t) x.1).getD x.2)) hA
        cases hg : mget (A.foldl tstep t) (x.1.1, x.1.2) with
        | none =>
          rw [show x.1 = (x.1.1, x.1.2) from rfl, hg] at hst
          simp [sSto, ownC, tupG, getR_t, hg, eX_fz] at hst ⊢
          rw [hst]
          simp [tstep, hg]
        | some n =>
          rw [show x.1 = (x.1.1, x.1.2) from rfl, hg] at hst
          simp [sSto, ownC, tupG, getR_t, hg, eX_fz] at hst ⊢
          rw [hst]
          simp [tstep, hg]) ⟨s3, s4, s5, rfl⟩
    obtain ⟨ρ', e, s3', s4', s5', e2⟩ := this
    exact ⟨s3', s4', s5', by rw [e, e2]; rfl⟩
  have outer : ∀ (gd : DEnv → Prop), (∀ ρ, gd ρ) → ∃ s2 s3 s4 s5, forGo gd (tgN 2) (sFor (iSeq (.t) (eFz (eCall [(.t, (eX 2))] F_steps_of))) (tgT 3 (tgCons (tgN 3) (tgCons (tgN 4) (tgCons (tgN 5) tgNil)))) (sSto 1 (eB [(.n 5, (eN 5)), (.t, (eGet (.n 1) (.t) (eN 1) (eB [(.t, (eX 3)), (.t, (eX 4))] tupG) (eX 5)))] (gN2 max2Op)) (eB [(.t, (eX 3)), (.t, (eX 4))] tupG))) (rs.map rwD) [s, .ow (.dct true []), .no, .no, .no, .no] = .nx [s, .ow (.dct true (encT (tabOf rs))), s2, s3, s4, s5] := by
    intro gd hgd
    have := forGo_enc (gd := gd) (tg := tgN 2) (b := sFor (iSeq (.t) (eFz (eCall [(.t, (eX 2))] F_steps_of))) (tgT 3 (tgCons (tgN 3) (tgCons (tgN 4) (tgCons (tgN 5) tgNil)))) (sSto 1 (eB [(.n 5, (eN 5)), (.t, (eGet (.n 1) (.t) (eN 1) (eB [(.t, (eX 3)), (.t, (eX 4))] tupG) (eX 5)))] (gN2 max2Op)) (eB [(.t, (eX 3)), (.t, (eX 4))] tupG))) (enc := rwD)
      (I := fun A ρ => ∃ s2 s3 s4 s5, ρ = [s, .ow (.dct true (encT (tabOf A))), s2, s3, s4, s5]) (fun _ _ _ => hgd _) (Q := rs) (P := []) (ρ := [s, .ow (.dct true []), .no, .no, .no, .no]) (fun A r B ρ el i => by
        obtain ⟨s2, s3, s4, s5, rfl⟩ := i
        rw [List.nil_append] at el
        have hr := h r (by rw [el]; simp)
        have hA := tabOf_len A
        have h2 := stps_len r
        have hAl : A.length ≤ rs.length := by rw [el]; simp
        obtain ⟨s3', s4', s5', e⟩ := inner (gdOf .t (.tuple ((stps r).map stD))) (tabOf A) (stps r) (.fz (rwD r)) s3 s4 s5 (fun _ => trivial) (by omega)
        refine ⟨_, [s, .ow (.dct true (encT (tabR (tabOf A) r))), .fz (rwD r), s3', s4', s5'], rfl, .inl ?_, .fz (rwD r), s3', s4', s5', by rw [tabOf_snoc]⟩
        simp [r_steps_of hr, eX_fz, e, tabR]) ⟨.no, .no, .no, .no, rfl⟩
    obtain ⟨ρ', e, s2, s3, s4, s5, e2⟩ := this
    exact ⟨s2, s3, s4, s5, by rw [e, e2]; rfl⟩
  rcases hs with rfl | rfl
  · obtain ⟨s2, s3, s4, s5, e⟩ := outer (gdOf .t (.tuple (rs.map rwD))) (fun _ => trivial)
    simp [F_step_table, b_step_table, eDct, eX_fz, e, eM_ow]
  · obtain ⟨s2, s3, s4, s5, e⟩ := outer (gdOf .t (.list (rs.map rwD))) (fun _ => trivial)
    simp [F_step_table, b_step_table, eDct, eX_fz, e, eM_ow]
end Pg
end
section
/-! digs: what stands upon them -/
namespace Pg
open PySem L2 Dl DlS DlZ
@[simp] theorem r_Dig_text (us : List Str) (rs : List Rw) : F_Dig_text [.fz (digD us rs)] = .ok (.fz (.str (digText us rs))) [.fz (digD us rs)] := by
  simp [F_Dig_text, b_Dig_text]
@[simp] theorem r_Dig_units (us : List Str) (rs : List Rw) : F_Dig_units [.fz (digD us rs)] = .ok (.fz (.tuple (us.map .str))) [.fz (digD us rs)] := by
  simp [F_Dig_units, b_Dig_units]
@[simp] theorem r_Dig_rows (us : List Str) (rs : List Rw) : F_Dig_rows [.fz (digD us rs)] = .ok (.fz (.tuple (rs.map rwD))) [.fz (digD us rs)] := by
  simp [F_Dig_rows, b_Dig_rows]
@[simp] theorem r_Dig_textI (us : List Str) (rs : List Rw) : F_Dig_text [digI us rs] = .ok (.fz (.str (digText us rs))) [digI us rs] := by
  simp [F_Dig_text, b_Dig_text, fget, putFl]
@[simp] theorem r_Dig_unitsI (us : List Str) (rs : List Rw) : F_Dig_units [digI us rs] = .ok (.fz (.tuple (us.map .str))) [digI us rs] := by
  simp [F_Dig_units, b_Dig_units, fget, putFl]
@[simp] theorem r_Dig_rowsI (us : List Str) (rs : List Rw) : F_Dig_rows [digI us rs] = .ok (.fz (.tuple (rs.map rwD))) [digI us rs] := by
  simp [F_Dig_rows, b_Dig_rows, fget, putFl]
@[simp] theorem r_check_dig (us : List Str) (rs : List Rw) : F_check_dig [.fz (digD us rs)] = .ok (.fz .none) [.fz (digD us rs)] := by
  simp [F_check_dig, b_check_dig]
theorem r_is_row {us : List Str} {rs : List Rw} {r : Rw} (h : RwOk us r) : F_is_row [.fz (digD us rs), .fz (rwD r)] = .ok (.fz (.bool true)) [.fz (digD us rs), .fz (rwD r)] := by
  simp [F_is_row, b_is_row, eX_fz, r_has_row_form (.inl rfl) h]
def itD (e : (Str × Str) × Int) : D := .tuple [prD e.1, .int e.2]
def stepsT (t : Tab) : List ((Str × Str) × Int) := sortE itD t
end Pg
end
section
/-! dicts with texts as keys; the table as a list -/
namespace Pg
open PySem L2 Dl DlS DlZ
section
variable {β : Type} {ve : β → D} {m : List (Str × β)}
theorem eqv_st (a b : Str) : PyData.eqv (PyData.str a) (PyData.str b) = decide (a = b) := eqv_str a b
@[simp] theorem asDct_f (m : List (Str × β)) : asDct (.dict (encM .str ve m)) = some (false, encM .str ve m) := by
  cases m with
  | nil => rfl
  | cons e m => rfl
@[simp] theorem dctD_f (kvs : List (D × D)) : dctD false kvs = .dict kvs := rfl
@[simp] theorem isKey_f (a : Str) : isKey false (.str a) = true := rfl
theorem dGet_f (m : List (Str × β)) (a : Str) : dGet (encM .str ve m) (.str a) = (mget m a).map ve := dGet_encM eqv_st m a
theorem getR_f (m : List (Str × β)) (a : Str) (u : Dl.Slot) : getR (.dict (encM .str ve m)) (.str a) u = some (match mget m a with | some n => .fz (ve n) | none => u) := by
  unfold getR
  rw [asDct_f]
  simp only [isKey_f, if_true, dGet_f]
  cases mget m a <;> rfl
@[simp] theorem ixOp_f (m : List (Str × β)) (a : Str) : ixOp (.dict (encM .str ve m)) (.str a) = (mget m a).map fun n => .fz (ve n) := by
  have h : dIx (.dict (encM .str ve m)) (.str a) = (mget m a).map fun n => .fz (ve n) := by
    unfold dIx
    rw [asDct_f]
    simp only [isKey_f, if_true, dGet_f]
    cases mget m a <;> rfl
  cases m with
  | nil => exact h
  | cons e m => exact h
@[simp] theorem inOpD_f (neg : Bool) (a : Str) (m : List (Str × β)) : inOpD neg (.str a) (.dict (encM .str ve m)) = some (.fz (.bool (neg != (mget m a).isSome))) := by
  unfold inOpD
  rw [asDct_f]
  simp only [isKey_f, if_true, dGet_f, Option.isSome_map]
@[simp] theorem isDctS_f (m : List (Str × β)) : isDctS (.ow (.dct false (encM .str ve m))) = true := by
  show (asDct (dctD false (encM .str ve m))).isSome = true
  rw [dctD_f, asDct_f]; rfl
@[simp] theorem isDctS_ff (m : List (Str × β)) : isDctS (.fz (.dict (encM .str ve m))) = true := by
  show (asDct (.dict (encM .str ve m))).isSome = true
  rw [asDct_f]; rfl
theorem stoOp_f {m : List (Str × β)} (a : Str) (x : β) (h : m.length ≤ 1000000) : stoOp (.dct false (encM .str ve m)) (.str a) (ve x) = some (.dct false (encM .str ve (mput m a x))) := by
  show (if isKey false (.str a) && small (encM .str ve m).length then some (Cont.dct false (dPut (encM .str ve m) (.str a) (ve x))) else none) = _
  rw [isKey_f, encM_len, show dPut (encM .str ve m) (.str a) (ve x) = encM .str ve (mput m a x) from dPut_encM eqv_st m a x, if_pos (by simp [small, h])]
theorem putAll_f (l : List (Str × β)) : dPutAll (encM .str ve l) = encM .str ve (l.foldl (fun acc e => mput acc e.1 e.2) []) := by
  suffices h : ∀ (l acc : List (Str × β)), (encM PyData.str ve l).foldl (fun acc e => dPut acc e.1 e.2) (encM .str ve acc) = encM .str ve (l.foldl (fun acc e => mput acc e.1 e.2) acc) from h l []
  intro l
  induction l with
  | nil => intro acc; rfl
  | cons e l ih =>
    intro acc
    show (encM PyData.str ve l).foldl (fun acc e => dPut acc e.1 e.2) (dPut (encM .str ve acc) (.str e.1) (ve e.2)) = _
    rw [show dPut (encM .str ve acc) (.str e.1) (ve e.2) = encM .str ve (mput acc e.1 e.2) from dPut_encM eqv_st acc e.1 e.2, ih]; rfl
theorem putAll_nd : ∀ {l : List (Str × β)}, (l.map (·.1)).Nodup → l.foldl (fun acc e => mput acc e.1 e.2) [] = l := by
  suffices h : ∀ (l acc : List (Str × β)), ((acc ++ l).map (·.1)).Nodup → l.foldl (fun acc e => mput acc e.1 e.2) acc = acc ++ l from fun {l} nd => h l [] nd
  intro l
  induction l with
  | nil => intro acc _; simp
  | cons e l ih =>
    intro acc nd
    rw [List.foldl_cons, mput_keys_out (fun hm => by
      rw [List.map_append, List.map_cons] at nd
      exact (List.nodup_append.mp nd).2.2 _ hm _ (List.mem_cons_self ..) rfl)]
    rw [ih _ (by simpa using nd)]
    simp
end
theorem isFlats_strs (us : List Str) : isFlats (us.map PyData.str) = true := by
  unfold isFlats
  induction us with
  | nil => rfl
  | cons u us ih =>
    obtain ⟨ks, hk⟩ := Option.isSome_iff_exists.mp ih
    show ((flatsD (us.map PyData.str)).map fun ks => Sum.inr u :: ks).isSome = true
    rw [hk]; rfl
@[simp] theorem ixOp_t (t : Tab) (a b : Str) : ixOp (dctD true (encT t)) (.tuple [.str a, .str b]) = (mget t (a, b)).map fun n => .fz (.int n) := by
  show (dGet (encT t) (.tuple [.str a, .str b])).map Dl.Slot.fz = _
  rw [dGet_pr]
  cases mget t (a, b) <;> rfl
@[simp] theorem inOpD_t (neg : Bool) (t : Tab) (a b : Str) : inOpD neg (.tuple [.str a, .str b]) (dctD true (encT t)) = some (.fz (.bool (neg != (mget t (a, b)).isSome))) := by
  show (if isKey true (.tuple [.str a, .str b]) then some (Dl.Slot.fz (.bool (neg != (dGet (encT t) (.tuple [.str a, .str b])).isSome))) else none) = _
  rw [isKey_pr, if_pos rfl, dGet_pr, Option.isSome_map]
def yrows (t : Tab) : List ((Str × Str) × Int) := sortE (fun e : (Str × Str) × Int => prD e.1) t
theorem yrows_perm (t : Tab) : (yrows t).Perm t := sortE_perm _ _
theorem sorted_t (t : Tab) : sortedOp2 (dctD true (encT t)) = some (.ow (.lst ((yrows t).map fun e => prD e.1))) := by
  have h := sortK_ok (enc := fun e : (Str × Str) × Int => prD e.1) (fun a => by simp [prD]) (fun a b => rfl) (.inl fun a => ⟨_, _, rfl⟩) t
  show (sortK ((encT t).map (·.1))).map (fun es => Dl.Slot.ow (.lst es)) = _
  have e : ((encT t).map (·.1)) = t.map fun e => prD e.1 := by
    unfold encT encM
    rw [List.map_map]; rfl
  rw [e, h]; rfl
theorem iRg_eq {f : EM} {ρ : DEnv} : iRg f ρ = (f ρ).bind fun s ρ1 => match s.d? with
  | some (.int j) => if j ≤ 1000000 ∧ -1000000 ≤ j then .ok ⟨(List.range j.toNat).map fun (i : Nat) => .int i, fun _ => True⟩ ρ1 else .no
  | _ => .no := rfl
end Pg
end
section
/-! Years: what its methods do -/
namespace Pg
open PySem L2 Dl DlS DlZ
def yS (u r f a l : Fl) : Dl.Slot := .oi "Years" [("own_units", u), ("own_rows", r), ("own_far", f), ("own_ahead", a), ("own_last", l)]
section
variable {u r f a l x : Fl}
theorem nm_ur : (("own_units" : Str) = "own_rows") = False := eq_false (by decide)
theorem nm_uf : (("own_units" : Str) = "own_far") = False := eq_false (by decide)
theorem nm_ua : (("own_units" : Str) = "own_ahead") = False := eq_false (by decide)
theorem nm_ul : (("own_units" : Str) = "own_last") = False := eq_false (by decide)
theorem nm_rf : (("own_rows" : Str) = "own_far") = False := eq_false (by decide)
theorem nm_ra : (("own_rows" : Str) = "own_ahead") = False := eq_false (by decide)
theorem nm_rl : (("own_rows" : Str) = "own_last") = False := eq_false (by decide)
theorem nm_fa : (("own_far" : Str) = "own_ahead") = False := eq_false (by decide)
theorem nm_fl : (("own_far" : Str) = "own_last") = False := eq_false (by decide)
theorem nm_al : (("own_ahead" : Str) = "own_last") = False := eq_false (by decide)
theorem nm_ug : (("own_units" : Str) = "go") = False := eq_false (by decide)
theorem nm_rg : (("own_rows" : Str) = "go") = False := eq_false (by decide)
theorem nm_fg : (("own_far" : Str) = "go") = False := eq_false (by decide)
theorem nm_ag : (("own_ahead" : Str) = "go") = False := eq_false (by decide)
theorem nm_lg : (("own_last" : Str) = "go") = False := eq_false (by decide)
@[simp] theorem clsS_y : clsS (yS u r f a l) = some "Years" := rfl
@[simp] theorem entS_y (ss : List Dl.Slot) : entS "Years" (yS u r f a l :: ss) = true := by simp [yS]
@[simp] theorem hasF_yr : hasF "own_rows" (yS u r f a l) = true := by simp [yS, fget, nm_ur]
@[simp] theorem hasF_yu : hasF "own_units" (yS u r f a l) = true := by simp [yS, fget]
@[simp] theorem hasF_yf : hasF "own_far" (yS u r f a l) = true := by simp [yS, fget, nm_uf, nm_rf]
@[simp] theorem hasF_ya : hasF "own_ahead" (yS u r f a l) = true := by simp [yS, fget, nm_ua, nm_ra, nm_fa]
@[simp] theorem hasF_yl : hasF "own_last" (yS u r f a l) = true := by simp [yS, fget, nm_ul, nm_rl, nm_fl, nm_al]
@[simp] theorem hasF_yg : hasF "go" (yS u r f a l) = false := by simp [yS, fget, nm_ug, nm_rg, nm_fg, nm_ag, nm_lg]
@[simp] theorem fldS_yr : fldS "own_rows" (yS u r f a l) = r.slot := by simp [yS, fget, nm_ur]
@[simp] theorem fldS_yu : fldS "own_units" (yS u r f a l) = u.slot := by simp [yS, fget]
@[simp] theorem fldS_yf : fldS "own_far" (yS u r f a l) = f.slot := by simp [yS, fget, nm_uf, nm_rf]
@[simp] theorem fldS_ya : fldS "own_ahead" (yS u r f a l) = a.slot := by simp [yS, fget, nm_ua, nm_ra, nm_fa]
@[simp] theorem fldS_yl : fldS "own_last" (yS u r f a l) = l.slot := by simp [yS, fget, nm_ul, nm_rl, nm_fl, nm_al]
@[simp] theorem setFl_yr : setFl "own_rows" x (yS u r f a l) = yS u x f a l := by simp [yS, putFl, nm_ur]
@[simp] theorem setFl_yu : setFl "own_units" x (yS u r f a l) = yS x r f a l := by simp [yS, putFl]
@[simp] theorem setFl_yf : setFl "own_far" x (yS u r f a l) = yS u r x a l := by simp [yS, putFl, nm_uf, nm_rf]
@[simp] theorem setFl_ya : setFl "own_ahead" x (yS u r f a l) = yS u r f x l := by simp [yS, putFl, nm_ua, nm_ra, nm_fa]
@[simp] theorem setFl_yl : setFl "own_last" x (yS u r f a l) = yS u r f a x := by simp [yS, putFl, nm_ul, nm_rl, nm_fl, nm_al]
@[simp] theorem sStoF_eq {cs : List Str} {i : Nat} {g : Str} {fv fi : EM} {ρ : DEnv} : sStoF cs i g fv fi ρ = (fv ρ).bindS fun sv ρ1 => match sv.shared with
  | none => .no
  | some d => match clsS (ρ1.getD i .no) with
    | none => .no
    | some c => if cs.contains c then match fldS g (ρ1.getD i .no) with
      | .ow c0 => if isLk c0 then .no else (fi ρ1).bindS fun si ρ2 => match si.shared with
        | none => .no
        | some di => match fldS g (ρ2.getD i .no) with
          | .ow c1 => match stoOp c1 di d with
            | some c' => .nx (ρ2.set i (setFl g (.ow c') (ρ2.getD i .no)))
            | none => .no
          | _ => .no
      | _ => .no
      else .no := rfl
end
structure Y where
  far : List (Str × Int)
  ahead : List (Str × Str)
  last : Option Str
def relax (y : Y) (e : (Str × Str) × Int) : Y := match mget y.far e.1.1 with
  | none => y
  | some x => if x + e.2 > (mget y.far e.1.2).getD (x + e.2 - 1) then ⟨mput y.far e.1.2 (x + e.2), mput y.ahead e.1.2 e.1.1, some e.1.2⟩ else y
def ygo (E : List ((Str × Str) × Int)) (y : Y) : Y := E.foldl relax { y with last := none }
def laps (E : List ((Str × Str) × Int)) : Nat → Y → Y
  | 0, y => y
  | n + 1, y => if (ygo E y).last = none then ygo E y else laps E n (ygo E y)
abbrev farC (m : List (Str × Int)) : Cont := .dct false (encM .str .int m)
abbrev ahC (m : List (Str × Str)) : Cont := .dct false (encM .str .str m)
def opD : Option Str → D
  | none => .none
  | some x => .str x
@[simp] theorem opD_none : opD none = .none := rfl
@[simp] theorem opD_some (x : Str) : opD (some x) = .str x := rfl
@[simp] theorem eN_y {u r f a l : Fl} {ss : List Dl.Slot} : eN 0 (yS u r f a l :: ss) = .ok .no (yS u r f a l :: ss) := eN_oi rfl
def setFS (cs : List Str) (i : Nat) (n : Str) (s : Dl.Slot) (ρ1 : DEnv) : SOut := match ρ1.getD i .no with
  | .oi c fs => if cs.contains c && decide (fs.length < 1000) then .nx (ρ1.set i (.oi c (putFl n s.fl fs))) else .no
  | _ => .no
theorem sSetF_S {cs : List Str} {i : Nat} {n : Str} {f : EM} {ρ : DEnv} : sSetF cs i n f ρ = (f ρ).bindS fun s ρ1 => setFS cs i n s ρ1 := rfl
@[simp] theorem setFS_y {u r f a l : Fl} {s : Dl.Slot} {ss : List Dl.Slot} : setFS ["Years"] 0 "own_last" s (yS u r f a l :: ss) = .nx (yS u r f a s.fl :: ss) := by
  simp [setFS, yS, putFl, nm_ul, nm_rl, nm_fl, nm_al]
theorem relax_len (y : Y) (e : (Str × Str) × Int) : (relax y e).far.length ≤ y.far.length + 1 ∧ (relax y e).ahead.length ≤ y.ahead.length + 1 := by
  unfold relax
  split
  · exact ⟨by omega, by omega⟩
  · split
    · exact ⟨mput_len _ _ _, mput_len _ _ _⟩
    · exact ⟨by omega, by omega⟩
theorem relaxs_len : ∀ (E : List ((Str × Str) × Int)) (y : Y), (E.foldl relax y).far.length ≤ y.far.length + E.length ∧ (E.foldl relax y).ahead.length ≤ y.ahead.length + E.length
  | [], y => by simp
  | e :: E, y => by
    have h1 := relaxs_len E (relax y e)
    have h2 := relax_len y e
    simp only [List.foldl_cons, List.length_cons]
    omega
theorem r_Years_go {u r l : Fl} {E : List ((Str × Str) × Int)} {y : Y} (hr : r.shared = some (.list (E.map stD))) (h1 : y.far.length + E.length ≤ 1000000) (h2 : y.ahead.length + E.length ≤ 1000000) :
    F_Years_go [yS u r (.ow (farC y.far)) (.ow (ahC y.ahead)) l] = .ok (.fz (opD (ygo E y).last)) [yS u (.fz (.list (E.map stD))) (.ow (farC (ygo E y).far)) (.ow (ahC (ygo E y).ahead)) l] := by
  have hrs : (r.slot).shared = some (.list (E.map stD)) := by
    cases r with
    | no => cases hr
    | fz d => exact hr
    | ow c => cases c <;> exact hr
  let st : List ((Str × Str) × Int) → Y := fun A => A.foldl relax { y with last := none }
  have loop : ∃ s2 s3 s4, forGo (gdOf .t (.list (E.map stD))) (tgT 3 (tgCons (tgN 2) (tgCons (tgN 3) (tgCons (tgN 4) tgNil)))) (sIf (bAnd (bV .t (e2 (.n 2) (.f 0 "own_far") (eN 2) (eF ["Years"] 0 "own_far") (g2 (inOpD false)))) (bV .t (e2 (.t) (.t) (e2 (.t) (.n 4) (e2 (.f 0 "own_far") (.n 2) (eF ["Years"] 0 "own_far") (eN 2) (g2 ixOp)) (eN 4) (g2 addOp)) (eGet (.f 0 "own_far") (.n 3) (eF ["Years"] 0 "own_far") (eN 3) (e2 (.t) (.t) (e2 (.t) (.n 4) (e2 (.f 0 "own_far") (.n 2) (eF ["Years"] 0 "own_far") (eN 2) (g2 ixOp)) (eN 4) (g2 addOp)) (eC (.int 1)) (g2 subOp))) (g2 gtOp)))) (sSeq (sStoF ["Years"] 0 "own_far" (e2 (.t) (.n 4) (e2 (.f 0 "own_far") (.n 2) (eF ["Years"] 0 "own_far") (eN 2) (g2 ixOp)) (eN 4) (g2 addOp)) (eX 3))
  (sSeq (sStoF ["Years"] 0 "own_ahead" (eX 2) (eX 3))
  (sSet 1 (eX 3)))) sNx) (E.map stD) [yS u (.fz (.list (E.map stD))) (.ow (farC y.far)) (.ow (ahC y.ahead)) l, .fz .none, .no, .no, .no]
      = .nx [yS u (.fz (.list (E.map stD))) (.ow (farC (ygo E y).far)) (.ow (ahC (ygo E y).ahead)) l, .fz (opD (ygo E y).last), s2, s3, s4] := by
    have := forGo_enc (gd := gdOf .t (.list (E.map stD))) (tg := tgT 3 (tgCons (tgN 2) (tgCons (tgN 3) (tgCons (tgN 4) tgNil)))) (b := sIf (bAnd (bV .t (e2 (.n 2) (.f 0 "own_far") (eN 2) (eF ["Years"] 0 "own_far") (g2 (inOpD false)))) (bV .t (e2 (.t) (.t) (e2 (.t) (.n 4) (e2 (.f 0 "own_far") (.n 2) (eF ["Years"] 0 "own_far") (eN 2) (g2 ixOp)) (eN 4) (g2 addOp)) (eGet (.f 0 "own_far") (.n 3) (eF ["Years"] 0 "own_far") (eN 3) (e2 (.t) (.t) (e2 (.t) (.n 4) (e2 (.f 0 "own_far") (.n 2) (eF ["Years"] 0 "own_far") (eN 2) (g2 ixOp)) (eN 4) (g2 addOp)) (eC (.int 1)) (g2 subOp))) (g2 gtOp)))) (sSeq (sStoF ["Years"] 0 "own_far" (e2 (.t) (.n 4) (e2 (.f 0 "own_far") (.n 2) (eF ["Years"] 0 "own_far") (eN 2) (g2 ixOp)) (eN 4) (g2 addOp)) (eX 3))
  (sSeq (sStoF ["Years"] 0 "own_ahead" (eX 2) (eX 3))
  (sSet 1 (eX 3)))) sNx) (enc := stD)
      (I := fun A ρ => ∃ s2 s3 s4, ρ = [yS u (.fz (.list (E.map stD))) (.ow (farC (st A).far)) (.ow (ahC (st A).ahead)) l, .fz (opD (st A).last), s2, s3, s4]) (fun _ _ _ => trivial) (Q := E) (P := []) (ρ := [yS u (.fz (.list (E.map stD))) (.ow (farC y.far)) (.ow (ahC y.ahead)) l, .fz .none, .no, .no, .no]) (fun A e B ρ el i => by
        obtain ⟨s2, s3, s4, rfl⟩ := i
        have hA := relaxs_len A { y with last := none }
        have hl := congrArg List.length el
        simp only [List.nil_append, List.length_append, List.length_cons] at hl
        have hf : (st A).far.length ≤ 1000000 := by show (A.foldl relax { y with last := none }).far.length ≤ _; simp only at hA; omega
        have ha : (st A).ahead.length ≤ 1000000 := by show (A.foldl relax { y with last := none }).ahead.length ≤ _; simp only at hA; omega
        have hs : st (A ++ [e]) = relax (st A) e := by show (A ++ [e]).foldl relax _ = _; rw [List.foldl_append]; rfl
        rw [hs]
        generalize st A = z at hf ha ⊢
        refine ⟨[yS u (.fz (.list (E.map stD))) (.ow (farC z.far)) (.ow (ahC z.ahead)) l, .fz (opD z.last), .fz (.str e.1.1), .fz (.str e.1.2), .fz (.int e.2)], [yS u (.fz (.list (E.map stD))) (.ow (farC (relax z e).far)) (.ow (ahC (relax z e).ahead)) l, .fz (opD (relax z e).last), .fz (.str e.1.1), .fz (.str e.1.2), .fz (.int e.2)], by simp [stD], .inl ?_, _, _, _, rfl⟩
        unfold relax
        cases hx : mget z.far e.1.1 with
        | none => simp [hx]
        | some x =>
          have g1 := stoOp_f (ve := PyData.int) (m := z.far) e.1.2 (x + e.2) hf
          have g2 := stoOp_f (ve := PyData.str) (m := z.ahead) e.1.2 e.1.1 ha
          cases hy : mget z.far e.1.2 with
          | none =>
            have : x + e.2 > x + e.2 - 1 := by omega
            simp [hx, hy, getR_f, eX_fz, g1, g2, isLk, opD, this]
          | some w =>
            by_cases hc : x + e.2 > w
            · have hc' : w < x + e.2 := hc
              simp [hx, hy, getR_f, eX_fz, g1, g2, isLk, opD, hc']
            · have hc' : ¬ w < x + e.2 := hc
              simp [hx, hy, getR_f, eX_fz, hc']) ⟨.no, .no, .no, rfl⟩
    obtain ⟨ρ', e, s2, s3, s4, e2⟩ := this
    exact ⟨s2, s3, s4, by rw [e, e2]; rfl⟩
  obtain ⟨s2, s3, s4, e⟩ := loop
  simp [F_Years_go, b_Years_go, hrs, e, eX_fz, eM]
theorem ygo_len (E : List ((Str × Str) × Int)) (y : Y) : (ygo E y).far.length ≤ y.far.length + E.length ∧ (ygo E y).ahead.length ≤ y.ahead.length + E.length := relaxs_len E { y with last := none }
theorem r_laps {gd : DEnv → Prop} (hgd : ∀ ρ, gd ρ) {u : Fl} {E : List ((Str × Str) × Int)} {s1 s2 s3 s5 s6 s7 : Dl.Slot} : ∀ (ds : List D) (y : Y) (r : Fl) (s4 : Dl.Slot), r.shared = some (.list (E.map stD)) → y.far.length + ds.length * E.length ≤ 1000000 → y.ahead.length + ds.length * E.length ≤ 1000000 →
    ∃ r' s4', r'.shared = some (.list (E.map stD)) ∧ forGo gd (tgN 4) (sSeq (sSetF ["Years"] 0 "own_last" (eMeth "Years" "go" (.n 0) (eN 0) [] F_Years_go))
      (sIf (bV .t (e2 (.t) (.t) (eFX ["Years"] 0 "own_last") (eC .none) (g2 (isOp false)))) sBk sNx)) ds [yS u r (.ow (farC y.far)) (.ow (ahC y.ahead)) (.fz (opD y.last)), s1, s2, s3, s4, s5, s6, s7]
      = .nx [yS u r' (.ow (farC (laps E ds.length y).far)) (.ow (ahC (laps E ds.length y).ahead)) (.fz (opD (laps E ds.length y).last)), s1, s2, s3, s4', s5, s6, s7]
  | [], y, r, s4, hr, h1, h2 => ⟨r, s4, hr, rfl⟩
  | d :: ds, y, r, s4, hr, h1, h2 => by
    simp only [List.length_cons, Nat.succ_mul] at h1 h2
    have hgo := r_Years_go (u := u) (r := r) (l := .fz (opD y.last)) (E := E) (y := y) hr (by omega) (by omega)
    have hl := ygo_len E y
    obtain ⟨r', s4', e1, e2⟩ := r_laps hgd ds (ygo E y) (.fz (.list (E.map stD))) (.fz d) rfl (by omega) (by omega)
    by_cases hn : (ygo E y).last = none
    · refine ⟨.fz (.list (E.map stD)), .fz d, rfl, ?_⟩
      have hx : laps E (ds.length + 1) y = ygo E y := by rw [laps, if_pos hn]
      rw [List.length_cons, hx, hn]
      rw [hn] at hgo
      simp [forGo, hgo, -sSetF_eq, sSetF_S, sBk]
    · refine ⟨r', s4', e1, ?_⟩
      have hx : laps E (ds.length + 1) y = laps E ds.length (ygo E y) := by rw [laps, if_neg hn]
      rw [List.length_cons, hx, ← e2]
      obtain ⟨w, hw⟩ := Option.ne_none_iff_exists'.mp hn
      rw [hw] at hgo ⊢
      simp [forGo, hgo, -sSetF_eq, sSetF_S, sBk, hgd]
def Y0 (bs : List Str) : Y := ⟨bs.map fun b => (b, 0), [], none⟩
def yEnd (t : Tab) (us bs : List Str) : Y := laps (yrows t) us.length (Y0 bs)
theorem dpkOp_0 {bs : List Str} (nd : bs.Nodup) : dpkOp (.list (bs.map fun b => .tuple [.str b, .int 0])) = some (.ow (.dct false (encM .str .int (bs.map fun b => (b, 0))))) := by
  have e1 : pairsOf (bs.map fun b => PyData.tuple [.str b, .int 0]) = some (encM .str .int (bs.map fun b => (b, 0))) := by
    clear nd
    induction bs with
    | nil => rfl
    | cons b bs ih =>
      rw [List.map_cons, pairsOf, ih]; rfl
  have e2 : (encM PyData.str PyData.int (bs.map fun b => (b, 0))).map (·.1) = bs.map .str := by
    unfold encM
    rw [List.map_map, List.map_map]; rfl
  show (match pairsOf _ with | some ps => _ | none => _) = _
  rw [e1]
  simp only [e2, isFlats_strs, if_true]
  rw [putAll_f, putAll_nd]
  rw [List.map_map]
  simpa [Function.comp_def] using nd
theorem r_Years_init {t : Tab} {us bs : List Str} {d3 : D} {st : Dl.Slot} (ht : st = .ow (.dct true (encT t)) ∨ st = .fz (dctD true (encT t))) (hs : itemsOf d3 = some (bs.map .str)) (nt : (t.map (·.1)).Nodup) (nb : bs.Nodup) (hu : us.length ≤ 1000) (hl : bs.length + us.length * t.length ≤ 1000000) :
    ∃ r', r'.shared = some (.list ((yrows t).map stD)) ∧ F_Years_init [.oi "Years" [], .fz (.tuple (us.map .str)), st, .fz d3] =
      .ok (.fz .none) [yS (.fz (.tuple (us.map .str))) r' (.ow (farC (yEnd t us bs).far)) (.ow (ahC (yEnd t us bs).ahead)) (.fz (opD (yEnd t us bs).last)), .fz (.tuple (us.map .str)), st, .fz d3] := by
  have hrows : ∀ (u s4 s7 : Dl.Slot) (x : D), lcGo (gdOf .t x) [5, 6] (tgT 2 (tgCons (tgN 5) (tgCons (tgN 6) tgNil))) tYesD (eB [(.t, (eX 5)), (.t, (eX 6)), (.t, (e2 (.n 2) (.t) (eN 2) (eB [(.t, (eX 5)), (.t, (eX 6))] tupG) (g2 ixOp)))] tupG) ((yrows t).map fun e => prD e.1) [u, .fz (.tuple (us.map .str)), st, .fz d3, s4, .no, .no, s7] = .ok ((yrows t).map stD) [u, .fz (.tuple (us.map .str)), st, .fz d3, s4, .no, .no, s7] := fun u s4 s7 x =>
    lcGo_encM (enc := fun e : (Str × Str) × Int => prD e.1) trivial fun e he => by
      have hm : mget t (e.1.1, e.1.2) = some e.2 := mem_mget nt ((yrows_perm t).mem_iff.mp he)
      rcases ht with rfl | rfl <;> simp [lcStep, prD, stD, eX_fz, tupG, hm]
  have hfar : ∀ (u s4 s5 s6 : Dl.Slot) , lcGo (gdOf (.n 3) d3) [7] (tgN 7) tYesD (eB [(.t, (eX 7)), (.t, (eC (.int 0)))] tupG) (bs.map .str) [u, .fz (.tuple (us.map .str)), st, .fz d3, s4, s5, s6, .no] = .ok (bs.map fun b => .tuple [.str b, .int 0]) [u, .fz (.tuple (us.map .str)), st, .fz d3, s4, s5, s6, .no] := fun u s4 s5 s6 =>
    lcGo_encM (enc := PyData.str) (by simp) fun e he => by simp [lcStep, eX_fz, tupG]
  have hlen : (yrows t).length = t.length := (yrows_perm t).length_eq
  have hl0 : (Y0 bs).far.length = bs.length := by simp [Y0]
  have hds : ((List.range us.length).map fun (i : Nat) => PyData.int i).length = us.length := by simp
  obtain ⟨r', s4', e1, h2⟩ := r_laps (gd := fun _ => True) (fun _ => trivial) (u := .fz (.tuple (us.map .str))) (E := yrows t) (s1 := .fz (.tuple (us.map .str))) (s2 := st) (s3 := .fz d3) (s5 := .no) (s6 := .no) (s7 := .no) ((List.range us.length).map fun (i : Nat) => PyData.int i) (Y0 bs) (.ow (.lst ((yrows t).map stD))) .no rfl (by rw [hds, hlen, hl0]; exact hl) (by rw [hds, hlen]; show 0 + _ ≤ _; omega)
  rw [hds] at h2
  refine ⟨r', e1, ?_⟩
  have hd0 := dpkOp_0 nb
  have hu1 : (us.length : Int) ≤ 1000000 := by omega
  have hu2 : (-1000000 : Int) ≤ (us.length : Int) := by omega
  have e2'' : forGo (fun _ => True) (tgN 4) (sSeq (sSetF ["Years"] 0 "own_last" (eMeth "Years" "go" (.n 0) (eN 0) [] F_Years_go))
      (sIf (bV .t (e2 (.t) (.t) (eFX ["Years"] 0 "own_last") (eC .none) (g2 (isOp false)))) sBk sNx)) ((List.range us.length).map fun (i : Nat) => PyData.int i) [.oi "Years" [("own_units", .fz (.tuple (us.map .str))), ("own_rows", .ow (.lst ((yrows t).map stD))), ("own_far", .ow (.dct false (encM .str .int (bs.map fun b => (b, 0))))), ("own_ahead", .ow (.dct false [])), ("own_last", .fz .none)], .fz (.tuple (us.map .str)), st, .fz d3, .no, .no, .no, .no]
      = .nx [yS (.fz (.tuple (us.map .str))) r' (.ow (farC (yEnd t us bs).far)) (.ow (ahC (yEnd t us bs).ahead)) (.fz (opD (yEnd t us bs).last)), .fz (.tuple (us.map .str)), st, .fz d3, s4', .no, .no, .no] := h2
  rcases ht with rfl | rfl <;> simp [F_Years_init, b_Years_init, eX_fz, sorted_t, hrows, hs, hfar, hd0, putFl, nm_ur, nm_uf, nm_ua, nm_ul, nm_rf, nm_ra, nm_rl, nm_fa, nm_fl, nm_al, eDct, iRg_eq, hu1, hu2, e2'', -List.map_map]
end Pg
end
section
set_option maxHeartbeats 1000000
/-! walking back along a map; what Years.ring tells -/
namespace Pg
open PySem L2 Dl DlS DlZ
def itF (f : Str → Option Str) : Nat → Str → Option Str
  | 0, x => some x
  | n + 1, x => (f x).bind (itF f n)
section
variable {f : Str → Option Str}
end
structure Round (f : Str → Option Str) (L : List Str) : Prop where
  ne : L ≠ []
  nd : L.Nodup
  nx : ∀ i (h : i < L.length), f L[i] = L[if i + 1 < L.length then i + 1 else 0]?
def mR (q : Nat) (ρ : DEnv) : Nat := match ρ.getD 3 .no with
  | .ow (.lst ds) => q - ds.length
  | _ => 0
end Pg
end
section
/-! what holds while Years grows -/
namespace Pg
open PySem L2 Dl DlS DlZ
abbrev Ed := (Str × Str) × Int
def Kept (y : Y) (e : Ed) (x : Int) : Prop := ∃ z, mget y.far e.1.2 = some z ∧ x + e.2 ≤ z
structure GInv (us : List Str) (k : Nat) (P Q : List Ed) (y : Y) (T : Str → Nat) : Prop where
  le : ∀ v, T v ≤ k
  tw : ∀ v u, mget y.ahead v = some u → T v ≤ T u + 1
  ex : ∀ v, 1 ≤ T v → ∃ u, mget y.ahead v = some u
  pr : ∀ e ∈ P, ∀ x, mget y.far e.1.1 = some x → Kept y e x ∨ k ≤ T e.1.1
  qr : ∀ e ∈ Q, ∀ x, mget y.far e.1.1 = some x → Kept y e x ∨ k ≤ T e.1.1 + 1
  ls : ∀ v, y.last = some v → T v = k ∧ v ∈ us
  nn : y.last = none → ∀ e ∈ P, ∀ x, mget y.far e.1.1 = some x → Kept y e x
  en : ∀ v u, mget y.ahead v = some u → u ∈ us
theorem GInv.next {us : List Str} {k : Nat} {E : List Ed} {y : Y} {T : Str → Nat} (h : GInv us k E [] y T) : GInv us (k + 1) [] E { y with last := none } T :=
  ⟨fun v => Nat.le_succ_of_le (h.le v), h.tw, h.ex, fun e he => (by cases he), fun e he x hx => (h.pr e he x hx).imp id fun z => by omega, fun v hv => (by cases hv), fun _ e he => by (cases he), h.en⟩
def FarIn (y : Y) (M : Int) : Prop := ∀ u x, mget y.far u = some x → -M ≤ x ∧ x ≤ M
theorem FarIn.mono {y : Y} {M N : Int} (h : FarIn y M) (hm : M ≤ N) : FarIn y N := fun u x hx => by have := h u x hx; omega
end Pg
end
section
set_option maxHeartbeats 4000000
namespace Pg
open PySem L2 Dl
noncomputable def b_ring : SM :=
  (sSeq (sDrop (eCall [(.t, (eX 0))] F_check_dig))
  (sRt (eCall [(.t, (eX 0))] F_ring_of)))
noncomputable def F_ring : List Slot → FOut := runF 1 [true] b_ring
noncomputable def b_shows_ring : SM :=
  (sSeq (sDrop (eCall [(.t, (eX 0))] F_check_dig))
  (sSeq (sIf (bOr (bNot (bV (.t) (eCall [(.t, (eX 0)), (.t, (eX 1))] F_are_units))) (bV .t (e2 (.t) (.t) (eB [(.n 1, (eN 1))] (gN1 lenOp)) (eC (.int 2)) (g2 ltOp)))) (sRt (eC (.bool false))) sNx)
  (sSeq (sSet 2 (eCall [(.t, (eX 0)), (.t, (e2 (.n 1) (.t) (eN 1) (eSl (.n 1) (eN 1) pN (pS (.t) (eC (.int 1)))) (g2 addOp)))] F_length))
  (sRt (eAnd (.t) (e2 (.n 2) (.t) (eN 2) (eC .none) (g2 (isOp true))) (e2 (.n 2) (.t) (eN 2) (eC (.int 0)) (g2 gtOp)))))))
noncomputable def F_shows_ring : List Slot → FOut := runF 3 [true, true] b_shows_ring
noncomputable def b_shows_laying : SM :=
  (sSeq (sDrop (eCall [(.t, (eX 0))] F_check_dig))
  (sRt (eCall [(.t, (eX 0)), (.t, (eX 1))] F_is_laying)))
noncomputable def F_shows_laying : List Slot → FOut := runF 2 [true, true] b_shows_laying
noncomputable def b_laying : SM :=
  (sSeq (sDrop (eCall [(.t, (eX 0))] F_check_dig))
  (sSeq (sDrop (eCall [(.t, (eX 0))] F_check_grown))
  (sSeq (sSet 1 (eProp "Years" (.t) (eMake "Years" [(.t, (eProp "Dig" (.n 0) (eN 0) F_Dig_units)), (.t, (eCall [(.t, (eProp "Dig" (.n 0) (eN 0) F_Dig_rows))] F_step_table)), (.t, (eProp "Dig" (.n 0) (eN 0) F_Dig_units))] F_Years_init) F_Years_far))
  (sRt (eB [(.t, (eLc [2] (iSeq (.t) (eProp "Dig" (.n 0) (eN 0) F_Dig_units)) (tgN 2) tYesD (e2 (.n 1) (.n 2) (eN 1) (eN 2) (g2 ixOp))))] (gN1 tupleOp))))))
noncomputable def F_laying : List Slot → FOut := runF 3 [true] b_laying

end Pg
end
section
set_option maxHeartbeats 1000000
/-! spans: rings and layings -/
namespace Pg
open PySem L2 Dl DlS DlZ
theorem mput_mem2 {α β : Type} [DecidableEq α] {m : List (α × β)} {a : α} {b : β} {e : α × β} (h : e ∈ mput m a b) : e ∈ m ∨ e = (a, b) := by
  unfold mput at h
  split at h
  · obtain ⟨x, hx, he⟩ := List.mem_map.mp h
    split at he
    · rename_i hxa; right; rw [← he, ← hxa]
    · left; rw [← he]; exact hx
  · rcases List.mem_append.mp h with h | h
    · exact .inl h
    · exact .inr (List.mem_singleton.mp h)
def EdOk (us : List Str) (e : Ed) : Prop := e.1.1 ∈ us ∧ e.1.2 ∈ us ∧ e.1.1 ≠ e.1.2 ∧ -9999 ≤ e.2 ∧ e.2 ≤ 9999
theorem stps_ok {us : List Str} {r : Rw} (h : RwOk us r) : ∀ s ∈ stps r, EdOk us s := by
  obtain ⟨w, a, b, n⟩ := r
  intro s hs
  have ha := h.ha; have hb := h.hb; have hab := h.ne
  have hba : b ≠ a := fun z => hab z.symm
  simp only at ha hb hab
  rcases h.ws with ⟨e, hw⟩ | ⟨i, e, i1, i2, hw⟩ <;> simp only at e hw <;> subst e <;> rcases hw with rfl | rfl <;> simp [stps] at hs
  · subst hs; exact ⟨hb, ha, hba, by show (-9999 : Int) ≤ 1; decide, by show (1 : Int) ≤ 9999; decide⟩
  · rcases hs with rfl | rfl
    · exact ⟨ha, hb, hab, by show (-9999 : Int) ≤ 0; decide, by show (0 : Int) ≤ 9999; decide⟩
    · exact ⟨hb, ha, hba, by show (-9999 : Int) ≤ 0; decide, by show (0 : Int) ≤ 9999; decide⟩
  · subst hs; exact ⟨hb, ha, hba, by show -9999 ≤ i; omega, i2⟩
  · subst hs; exact ⟨ha, hb, hab, by show -9999 ≤ -i; omega, by show -i ≤ 9999; omega⟩
theorem tstep_ok {us : List Str} {t : Tab} {s : Ed} (h : ∀ e ∈ t, EdOk us e) (hs : EdOk us s) : ∀ e ∈ tstep t s, EdOk us e := fun e he => by
  rcases mput_mem2 he with h1 | h1
  · exact h e h1
  · subst h1
    obtain ⟨a1, a2, a3, a4, a5⟩ := hs
    refine ⟨a1, a2, a3, ?_, ?_⟩
    · show -9999 ≤ max s.2 _; omega
    · show max s.2 ((mget t s.1).getD s.2) ≤ 9999
      cases hg : mget t s.1 with
      | none => simp; exact a5
      | some x =>
        obtain ⟨_, _, _, _, b5⟩ := h _ (mget_some_mem hg)
        simp only [Option.getD_some]
        have : x ≤ 9999 := b5
        omega
theorem tabOf_ok {us : List Str} {rs : List Rw} (h : ∀ r ∈ rs, RwOk us r) : (∀ e ∈ tabOf rs, EdOk us e) ∧ ((tabOf rs).map (·.1)).Nodup := by
  have inner : ∀ (ss : List Ed) (t : Tab), (∀ s ∈ ss, EdOk us s) → (∀ e ∈ t, EdOk us e) → (t.map (·.1)).Nodup → (∀ e ∈ ss.foldl tstep t, EdOk us e) ∧ ((ss.foldl tstep t).map (·.1)).Nodup := fun ss => by
    induction ss with
    | nil => exact fun t _ h1 h2 => ⟨h1, h2⟩
    | cons s ss ih => exact fun t hs h1 h2 => ih (tstep t s) (fun x hx => hs x (by simp [hx])) (tstep_ok h1 (hs s (by simp))) (mput_nodup h2 _ _)
  have outer : ∀ (rs : List Rw) (t : Tab), (∀ r ∈ rs, RwOk us r) → (∀ e ∈ t, EdOk us e) → (t.map (·.1)).Nodup → (∀ e ∈ rs.foldl tabR t, EdOk us e) ∧ ((rs.foldl tabR t).map (·.1)).Nodup := fun rs => by
    induction rs with
    | nil => exact fun t _ h1 h2 => ⟨h1, h2⟩
    | cons r rs ih =>
      intro t hr h1 h2
      obtain ⟨i1, i2⟩ := inner (stps r) t (stps_ok (hr r (by simp))) h1 h2
      exact ih (tabR t r) (fun x hx => hr x (by simp [hx])) i1 i2
  exact outer rs [] h (fun e he => by cases he) (by simp)
def yDig (us : List Str) (rs : List Rw) : Y := yEnd (tabOf rs) us us
def rgD : Option (List Str) → D
  | none => .none
  | some L => .tuple (L.map .str)
@[simp] theorem rgD_none : rgD none = .none := rfl
@[simp] theorem rgD_some (L : List Str) : rgD (some L) = .tuple (L.map .str) := rfl
def RingIs (us : List Str) (rs : List Rw) : Option (List Str) → Prop
  | none => (yDig us rs).last = none
  | some L => (yDig us rs).last ≠ none ∧ Round (mget (yDig us rs).ahead) L.reverse ∧ L.length ≤ us.length ∧ ∀ u ∈ L, u ∈ us
theorem Round.sub {f : Str → Option Str} {L us : List Str} (R : Round f L) (h : ∀ v u, f v = some u → u ∈ us) : ∀ x ∈ L, x ∈ us := fun x hx => by
  obtain ⟨i, hi, rfl⟩ := List.mem_iff_getElem.mp hx
  by_cases h0 : i = 0
  · subst h0
    have := R.nx (L.length - 1) (by omega)
    rw [if_neg (by omega), List.getElem?_eq_getElem hi] at this
    exact h _ _ this
  · have := R.nx (i - 1) (by omega)
    rw [if_pos (by omega), show i - 1 + 1 = i by omega, List.getElem?_eq_getElem hi] at this
    exact h _ _ this
theorem DigOk.hyp {us : List Str} {rs : List Rw} (h : DigOk us rs) : us.length + us.length * (tabOf rs).length ≤ 1000000 := by
  have h1 := h.u2; have h2 := h.r2
  have h3 := tabOf_len rs
  have : us.length * (tabOf rs).length ≤ 40 * 400 := Nat.mul_le_mul h1 (by omega)
  omega
theorem DigOk.init {us : List Str} {rs : List Rw} (h : DigOk us rs) : ∃ r', r'.shared = some (.list ((yrows (tabOf rs)).map stD)) ∧ F_Years_init [.oi "Years" [], .fz (.tuple (us.map .str)), .ow (.dct true (encT (tabOf rs))), .fz (.tuple (us.map .str))] =
      .ok (.fz .none) [yS (.fz (.tuple (us.map .str))) r' (.ow (farC (yDig us rs).far)) (.ow (ahC (yDig us rs).ahead)) (.fz (opD (yDig us rs).last)), .fz (.tuple (us.map .str)), .ow (.dct true (encT (tabOf rs))), .fz (.tuple (us.map .str))] := by
  have := h.u2
  exact r_Years_init (.inl rfl) (itemsOf_tuple _) (tabOf_ok h.ok).2 h.un (by omega) h.hyp
theorem DigOk.tab {us : List Str} {rs : List Rw} (h : DigOk us rs) : F_step_table [.fz (.tuple (rs.map rwD))] = .ok (.ow (.dct true (encT (tabOf rs)))) [.fz (.tuple (rs.map rwD))] := by
  have := h.r2
  exact r_step_table (.inl rfl) (fun r hr => (h.ok r hr).ww) (by omega)
def layV (us : List Str) (rs : List Rw) : List Int := us.map fun u => (mget (yDig us rs).far u).getD 0
end Pg
end
section
set_option maxHeartbeats 1000000
/-! spans: what shows rings and layings, of any value -/
namespace Pg
open PySem L2 Dl DlS DlZ
structure VOk (v : D) : Prop where
  ty : (tyD v).isSome
  tp : ∀ ds, v = .tuple ds → ds.length ≤ 4000 ∧ ∀ d ∈ ds, (tyD d).isSome
def unS (us : List Str) : D → Bool
  | .str u => decide (u ∈ us)
  | _ => false
def asUn (us : List Str) : List D → Option (List Str)
  | [] => some []
  | .str u :: ds => if u ∈ us then (asUn us ds).map (u :: ·) else none
  | _ :: _ => none
def unOf (us : List Str) : D → Option (List Str)
  | .tuple ds => (asUn us ds).bind fun L => if L.Nodup then some L else none
  | _ => none
theorem dn_le (ks : List Key) : ∀ i, dn ks i ≤ i
  | 0 => Nat.le_refl 0
  | i + 1 => by
    unfold dn
    have := dn_le ks i
    split
    · split <;> omega
    · omega
def prs (L : List Str) : List (Str × Str) := L.zip (L.drop 1)
def lenV (t : Tab) (L : List Str) : Option Int := if (prs L).all fun p => (mget t p).isSome then some ((prs L).map fun p => (mget t p).getD 0).sum else none
def oiD : Option Int → D
  | none => .none
  | some i => .int i
def growB (t : Tab) (L : List Str) : Bool := match lenV t (L ++ L.take 1) with
  | none => false
  | some n => decide (0 < n)
def ringB (us : List Str) (rs : List Rw) (v : D) : Bool := match unOf us v with
  | none => false
  | some L => decide (2 ≤ L.length) && growB (tabOf rs) L
def isIntB : D → Bool
  | .int _ => true
  | _ => false
def keepB (us : List Str) (t : Tab) (ns : List Int) : Bool := t.all fun e => decide ((mget (us.zip ns) e.1.1).getD 0 + e.2 ≤ (mget (us.zip ns) e.1.2).getD 0)
def layB (us : List Str) (rs : List Rw) : D → Bool
  | .tuple ds => decide (ds.length = us.length) && match asInts ds with
    | none => false
    | some ns => keepB us (tabOf rs) ns
  | _ => false
@[simp] theorem Slot.d_lk (t : Tab) : (Dl.Slot.ow (.lk true (encT t))).d? = some (dctD true (encT t)) := rfl
@[simp] theorem Slot.d_dt (t : Tab) : (Dl.Slot.ow (.dct true (encT t))).d? = some (dctD true (encT t)) := rfl
@[simp] theorem Slot.d_df {β : Type} {ve : β → D} (m : List (Str × β)) : (Dl.Slot.ow (.dct false (encM .str ve m))).d? = some (.dict (encM .str ve m)) := rfl
theorem encT_keys (t : Tab) : (encT t).map (·.1) = t.map fun e => prD e.1 := by
  unfold encT encM
  rw [List.map_map]; rfl
end Pg
end
section
/-! family A (the laws that draw by the same pot): drawing -/
namespace Pg
open PySem L2 Dl DlS DlZ
/-! the pot -/
def PotOk (n : Nat) (pot : List D) : Prop := ∃ p q c : Int, pot = [.int p, .int q, .int c] ∧ 0 ≤ p ∧ p < 10 ^ 300 ∧ 0 ≤ q ∧ q < 2 ^ 62 ∧ 0 ≤ c ∧ c ≤ n
theorem PotOk.mono {n m : Nat} {pot : List D} (h : PotOk n pot) (hm : n ≤ m) : PotOk m pot := by
  obtain ⟨p, q, c, e, h1, h2, h3, h4, h5, h6⟩ := h
  exact ⟨p, q, c, e, h1, h2, h3, h4, h5, by omega⟩
theorem log2_lt {a : Nat} {k : Nat} (h : a < 2 ^ k) (hk : 0 < k) : a.log2 < k := by
  by_cases e : a = 0
  · subst e; simpa using hk
  · exact (Nat.log2_lt e).mpr h
theorem log2_int {a : Int} {k : Nat} (h0 : 0 ≤ a) (h : a < 2 ^ k) (hk : 0 < k) : a.natAbs.log2 < k := by
  refine log2_lt ?_ hk
  obtain ⟨n, rfl⟩ := Int.eq_ofNat_of_zero_le h0
  exact_mod_cast h
theorem mulS {a b : Int} (ha : -2 ^ 200 < a) (ha2 : a < 2 ^ 200) (hb : -2 ^ 200 < b) (hb2 : b < 2 ^ 200) : mulOp (.int a) (.int b) = some (.fz (.int (a * b))) :=
  mulOp_int (by
    have h1 : a.natAbs.log2 < 200 := log2_lt (by omega) (by omega)
    have h2 : b.natAbs.log2 < 200 := log2_lt (by omega) (by omega)
    omega)
theorem bits_le {a : Int} {k : Nat} (h0 : 0 ≤ a) (h : a < 2 ^ k) : Builtin.Int.intBits a ≤ k := PySem.intBits_le_iff.mpr (by
  obtain ⟨n, rfl⟩ := Int.eq_ofNat_of_zero_le h0
  exact_mod_cast h)
theorem powOp_ok {a b : Int} (hb : 0 ≤ b) (h : (Builtin.Int.intBits a : Int) * b ≤ 2 ^ 27) : powOp (.int a) (.int b) = some (.fz (.int (a ^ b.toNat))) := by
  show (if decide _ = true then _ else _) = _
  rw [if_pos (by simpa using ⟨hb, h⟩)]
@[simp] theorem intOf_int (a : Int) : intOf (.int a) = some (.fz (.int a)) := rfl
@[simp] theorem intOf_bool (a : Bool) : intOf (.bool a) = some (.fz (.int (if a then 1 else 0))) := rfl
@[simp] theorem absOp_int (a : Int) : absOp (.int a) = some (.fz (.int (if a < 0 then -a else a))) := rfl
@[simp] theorem ownL_lst {ρ : DEnv} {i : Nat} {ds : List D} (h : ρ[i]? = some (.ow (.lst ds))) : ownL i ρ = some ds := by unfold ownL; rw [List.getD_eq_getElem?_getD, h]; rfl
@[simp] theorem ownC_lst {ρ : DEnv} {i : Nat} {c : Cont} (h : ρ[i]? = some (.ow c)) : ownC i ρ = some c := by unfold ownC; rw [List.getD_eq_getElem?_getD, h]; rfl
theorem r_take {n : Nat} {pot : List D} {m : Int} (h : PotOk n pot) (hn : n ≤ 100000) (hm : 0 < m) (hm2 : m ≤ 1000000) : ∃ (r : Int) (pot' : List D), F__law_take [.ow (.lst pot), .fz (.int m)] = .ok (.fz (.int r)) [.ow (.lst pot'), .fz (.int m)] ∧ 0 ≤ r ∧ r < m ∧ PotOk (n + 1) pot' := by
  obtain ⟨p, q, c, rfl, h1, h2, h3, h4, h5, h6⟩ := h
  by_cases hp : 0 < p
  · refine ⟨p % m, [.int (p / m), .int q, .int c], ?_, Int.emod_nonneg _ (by omega), Int.emod_lt_of_pos _ hm, p / m, q, c, rfl, Int.ediv_nonneg h1 (by omega), Int.lt_of_le_of_lt (Int.ediv_le_self _ h1) h2, h3, h4, h5, by omega⟩
    have hl : m.natAbs.log2 < 9000 := Nat.lt_trans (log2_int (k := 20) (by omega) (by omega) (by omega)) (by omega)
    simp [F__law_take, b__law_take, L2.atI, ixN, hp, modOp_int hm, fdivOp_int hm hl, sSto, stoOp, eM_fz]
  · have hp0 : p = 0 := by omega
    subst hp0
    have hc : 0 < c + 1 ∧ c + 1 ≤ 100001 := by omega
    have hs0 : 0 ≤ 90017 * (c + 1) := by omega
    have hs1 : 90017 * (c + 1) ≤ 9001790017 := by omega
    have hs2 : 0 ≤ 90017 * (c + 1) * (c + 1) := Int.mul_nonneg hs0 (by omega)
    have hs3 : 90017 * (c + 1) * (c + 1) ≤ 9001790017 * 100001 := Int.mul_le_mul hs1 hc.2 (by omega) (by omega)
    have hm1 : mulOp (.int 90017) (.int (c + 1)) = some (.fz (.int (90017 * (c + 1)))) := mulS (by omega) (by omega) (by omega) (by omega)
    have hm2 : mulOp (.int (90017 * (c + 1))) (.int (c + 1)) = some (.fz (.int (90017 * (c + 1) * (c + 1)))) := mulS (by omega) (by omega) (by omega) (by omega)
    have hm3 : mulOp (.int 211) (.int (c + 1)) = some (.fz (.int (211 * (c + 1)))) := mulS (by omega) (by omega) (by omega) (by omega)
    obtain ⟨a, ha⟩ : ∃ a, a = q + 90017 * (c + 1) * (c + 1) + 107 := ⟨_, rfl⟩
    have ha0 : 0 ≤ a ∧ a < 2 ^ 100 := by omega
    have hpw : powOp (.int a) (.int 3) = some (.fz (.int (a ^ 3))) := powOp_ok (by omega) (by have := bits_le ha0.1 ha0.2; omega)
    obtain ⟨pr, hpr, hpr0, hpr1⟩ : ∃ pr : Int, (L2.atI [PyData.int 2147483647, .int 2147483629, .int 2147483587, .int 2147483579, .int 2147483563] ((c + 1) % 5)).map Slot.fz = some (.fz (.int pr)) ∧ 0 < pr ∧ pr < 2 ^ 31 := by
      have : (c + 1) % 5 = 0 ∨ (c + 1) % 5 = 1 ∨ (c + 1) % 5 = 2 ∨ (c + 1) % 5 = 3 ∨ (c + 1) % 5 = 4 := by omega
      rcases this with e | e | e | e | e <;> rw [e]
      · exact ⟨2147483647, rfl, by omega, by omega⟩
      · exact ⟨2147483629, rfl, by omega, by omega⟩
      · exact ⟨2147483587, rfl, by omega, by omega⟩
      · exact ⟨2147483579, rfl, by omega, by omega⟩
      · exact ⟨2147483563, rfl, by omega, by omega⟩
    obtain ⟨b, hb⟩ : ∃ b, b = a ^ 3 % pr := ⟨_, rfl⟩
    have hb0 : 0 ≤ b := hb ▸ Int.emod_nonneg _ (by omega)
    have hb1 : b < pr := hb ▸ Int.emod_lt_of_pos _ hpr0
    have hm4 : mulOp (.int b) (.int (b % 10099 + 211 * (c + 1))) = some (.fz (.int (b * (b % 10099 + 211 * (c + 1))))) := mulS (by omega) (by omega) (by omega) (by omega)
    obtain ⟨z, hz⟩ : ∃ z, z = b * (b % 10099 + 211 * (c + 1)) % 2305843009213693907 := ⟨_, rfl⟩
    refine ⟨z / 191 % m, [.int 0, .int q, .int (c + 1)], ?_, Int.emod_nonneg _ (by omega), Int.emod_lt_of_pos _ hm, 0, q, c + 1, rfl, by omega, by omega, h3, h4, by omega, by omega⟩
    have hmod1 : modOp (.int (a ^ 3)) (.int pr) = some (.fz (.int b)) := hb ▸ modOp_int hpr0
    have hmod2 : modOp (.int (b * (b % 10099 + 211 * (c + 1)))) (.int 2305843009213693907) = some (.fz (.int z)) := hz ▸ modOp_int (by omega)
    have hmod3 : modOp (.int (c + 1)) (.int 5) = some (.fz (.int ((c + 1) % 5))) := modOp_int (by omega)
    have hmod4 : modOp (.int b) (.int 10099) = some (.fz (.int (b % 10099))) := modOp_int (by omega)
    have hfd : fdivOp (.int z) (.int 191) = some (.fz (.int (z / 191))) := fdivOp_int (by omega) (by decide)
    have hix0 : L2.atI [PyData.int 0, .int q, .int c] 0 = some (.int 0) := rfl
    have hix2 : L2.atI [PyData.int 0, .int q, .int c] 2 = some (.int c) := rfl
    have hix1' : L2.atI [PyData.int 0, .int q, .int (c + 1)] 1 = some (.int q) := rfl
    have hix2' : L2.atI [PyData.int 0, .int q, .int (c + 1)] 2 = some (.int (c + 1)) := rfl
    have hst : ixN 3 2 = some 2 := rfl
    simp [F__law_take, b__law_take, hix0, hix2, hix1', hix2', hst, sSto, stoOp, eM_fz, hm1, hm2, hm3, hm4, ← ha, hpw, hpr, hmod1, hmod2, hmod3, hmod4, hfd, modOp_int hm, lstG, allFz]
def LsS (sd : Dl.Slot) (ds : List D) : Prop := sd = .ow (.lst ds) ∨ sd = .fz (.list ds) ∨ sd = .fz (.tuple ds)
theorem r_ofS {n : Nat} {pot ds : List D} {sd : Dl.Slot} (hs : LsS sd ds) (h : PotOk n pot) (hn : n ≤ 100000) (hd : ds ≠ []) (hl : ds.length ≤ 1000000) : ∃ (d : D) (pot' : List D), F__law_of [.ow (.lst pot), sd] = .ok (.fz d) [.ow (.lst pot'), sd] ∧ d ∈ ds ∧ PotOk (n + 1) pot' := by
  have hp : 0 < ds.length := List.length_pos_iff.mpr hd
  obtain ⟨r, pot', e, r0, r1, ok⟩ := r_take (m := ds.length) h hn (by omega) (by omega)
  have hx : L2.atI ds r = some ds[r.toNat] := by rw [atI_int r0 r1, List.getElem?_eq_getElem (by omega)]
  refine ⟨_, pot', ?_, List.getElem_mem (by omega : r.toNat < ds.length), ok⟩
  rcases hs with rfl | rfl | rfl <;> simp [F__law_of, b__law_of, e, hx]
theorem r_of {n : Nat} {pot ds : List D} (h : PotOk n pot) (hn : n ≤ 100000) (hd : ds ≠ []) (hl : ds.length ≤ 1000000) : ∃ (d : D) (pot' : List D), F__law_of [.ow (.lst pot), .ow (.lst ds)] = .ok (.fz d) [.ow (.lst pot'), .ow (.lst ds)] ∧ d ∈ ds ∧ PotOk (n + 1) pot' := r_ofS (.inl rfl) h hn hd hl
theorem erase_perm {α : Type} : ∀ {l : List α} {i : Nat} (h : i < l.length), (l[i] :: l.eraseIdx i).Perm l
  | a :: l, 0, _ => by simp
  | a :: l, i + 1, h => by
    simp only [List.getElem_cons_succ, List.eraseIdx_cons_succ]
    exact (List.Perm.swap _ _ _).trans ((erase_perm (by simpa using h)).cons a)
theorem r_some {n : Nat} {pot pool : List D} {m : Nat} {sp : Dl.Slot} (hsp : sp = .fz (.list pool) ∨ sp = .ow (.lst pool)) (h : PotOk n pot) (hn : n + m ≤ 100000) (hm : m ≤ pool.length) (hl : pool.length ≤ 1000000) :
    ∃ (ys : List D) (pot' : List D), F__law_some [.ow (.lst pot), sp, .fz (.int m)] = .ok (.ow (.lst ys)) [.ow (.lst pot'), sp, .fz (.int m)] ∧ ys.length = m ∧ (∃ zs, (ys ++ zs).Perm pool) ∧ PotOk (n + m) pot' := by
  obtain ⟨ρ', e, i⟩ := forGo_inv (gd := fun _ => True) (tg := tgN 3) (b := sDrop (eApp 5 (ePop 4 (eCall [(.n 0, (eN 0)), (.t, (eB [(.n 4, (eN 4))] (gN1 lenOp)))] F__law_take))))
    (I := fun l ρ => ∃ pot' left found s3, ρ = [.ow (.lst pot'), sp, .fz (.int m), s3, .ow (.lst left), .ow (.lst found)] ∧ PotOk (n + l.length) pot' ∧ found.length = l.length ∧ (found ++ left).Perm pool) (fun _ _ _ => trivial)
    (ds := (List.range m).map fun (i : Nat) => .int i) (pre := []) (ρ := [.ow (.lst pot), sp, .fz (.int m), .no, .ow (.lst pool), .ow (.lst [])]) (fun l d r ρ el i => by
      obtain ⟨pot', left, found, s3, rfl, ok, hf, hp⟩ := i
      have hll := congrArg List.length el
      simp only [List.nil_append, List.length_map, List.length_range, List.length_append, List.length_cons] at hll
      have hpl := hp.length_eq
      rw [List.length_append] at hpl
      obtain ⟨r, pot'', e, r0, r1, ok'⟩ := r_take (m := left.length) ok (by omega) (by omega) (by omega)
      have hx : left[r.toNat]? = some left[r.toNat] := List.getElem?_eq_getElem (by omega)
      refine ⟨_, [.ow (.lst pot''), sp, .fz (.int m), .fz d, .ow (.lst (left.eraseIdx r.toNat)), .ow (.lst (found ++ [left[r.toNat]]))], rfl, .inl ?_, pot'', _, _, _, rfl, by simpa [Nat.add_assoc] using ok', by simp [hf], ?_⟩
      · have h1 : left.length ≤ 1000000 := by omega
        have h2 : found.length ≤ 1000000 := by omega
        simp [eApp, ePop, ownL, e, r0, hx, small, h1, h2]
      · rw [List.append_assoc]
        exact (List.Perm.append_left found (erase_perm (by omega))).trans hp) ⟨pot, pool, [], .no, rfl, by simpa using h, rfl, by simp⟩
  obtain ⟨pot', left, found, s3, rfl, ok, hf, hp⟩ := i
  simp only [List.nil_append, List.length_map, List.length_range] at ok hf
  refine ⟨found, pot', ?_, hf, ⟨_, hp⟩, ok⟩
  have hm2 : (m : Int) ≤ 1000000 ∧ (-1000000 : Int) ≤ m := by omega
  rcases hsp with rfl | rfl <;> simp [F__law_some, b__law_some, lstG, allFz, eX_fz, iRg, hm2, e, eM_ow]
theorem r_pot {ns : List Int} {p : Int} (h0 : 0 ≤ p) (h1 : p ≤ 1000) : ∃ pot : List D, F__law_pot [.fz (scrD (ns.map .int)), .fz (.int p)] = .ok (.ow (.lst pot)) [.fz (scrD (ns.map .int)), .fz (.int p)] ∧ PotOk 0 pot := by
  obtain ⟨T, hT⟩ : ∃ T : Int, T = 10 ^ 60 := ⟨_, rfl⟩
  obtain ⟨T5, hT5⟩ : ∃ T : Int, T = 10 ^ 300 := ⟨_, rfl⟩
  obtain ⟨T18, hT18⟩ : ∃ T : Int, T = 10 ^ 18 := ⟨_, rfl⟩
  have p1 : powOp (.int 10) (.int 60) = some (.fz (.int T)) := hT ▸ powOp_ok (by omega) (by decide +kernel)
  have p2 : powOp (.int T) (.int 5) = some (.fz (.int T5)) := by subst hT hT5; exact powOp_ok (by omega) (by decide +kernel)
  have p3 : powOp (.int 10) (.int 18) = some (.fz (.int T18)) := hT18 ▸ powOp_ok (by omega) (by decide +kernel)
  have hT50 : 0 < T5 := by subst hT5; decide +kernel
  have main : ∀ c : Int, ∃ pot : List D, ((sSeq (sSet 3 (e2 (.t) (.t) (e2 (.t) (.t) (eB [(.t, (eB [(.n 2, (eN 2))] (gN1 absOp)))] (gN1 intOf)) (e2 (.t) (.t) (e2 (.t) (.t) (eC (.int 10)) (eC (.int 60)) (g2 powOp)) (eC (.int 5)) (g2 powOp)) (g2 modOp)) (eB [(.t, (e2 (.t) (.t) (eB [(.n 2, (eN 2))] (gN1 absOp)) (e2 (.t) (.t) (eC (.int 10)) (eC (.int 18)) (g2 powOp)) (g2 geOp)))] (gN1 intOf)) (g2 mulOp)))
  (sSeq (sSet 4 (e2 (.t) (.t) (eB [(.n 2, (eN 2))] (gN1 intOf)) (eC (.int 2305843009213693951)) (g2 modOp)))
  (sRt (eB [(.t, (eX 3)), (.t, (e2 (.t) (.t) (eB [(.t, (e2 (.t) (.t) (e2 (.t) (.t) (e2 (.n 4) (.t) (eN 4) (eC (.int 69997)) (g2 mulOp)) (e2 (.t) (.n 1) (e2 (.t) (.n 1) (eC (.int 9029)) (eN 1) (g2 mulOp)) (eN 1) (g2 mulOp)) (g2 addOp)) (eC (.int 733)) (g2 addOp)))] (gN1 intOf)) (eC (.int 2305843009213693921)) (g2 modOp))), (.t, (eC (.int 0)))] lstG)))) [.fz (scrD (ns.map .int)), .fz (.int p), .fz (.int c), .no, .no]).fin [true, true] = .ok (.ow (.lst pot)) [.fz (scrD (ns.map .int)), .fz (.int p)] ∧ PotOk 0 pot := by
    intro c
    obtain ⟨A, hA⟩ : ∃ A : Int, A = if c < 0 then -c else c := ⟨_, rfl⟩
    have hA0 : 0 ≤ A := by subst hA; split <;> omega
    obtain ⟨B, hB⟩ : ∃ B : Int, B = if T18 ≤ A then 1 else 0 := ⟨_, rfl⟩
    have hB0 : B = 0 ∨ B = 1 := by subst hB; split <;> omega
    obtain ⟨M, hM⟩ : ∃ M : Int, M = A % T5 := ⟨_, rfl⟩
    have hM0 : 0 ≤ M := hM ▸ Int.emod_nonneg _ (by omega)
    have hM1 : M < T5 := hM ▸ Int.emod_lt_of_pos _ hT50
    have hM2 : M.natAbs.log2 < 1000 := log2_int hM0 (Int.lt_of_lt_of_le hM1 (by subst hT5; decide +kernel)) (by omega)
    have m1 : mulOp (.int M) (.int B) = some (.fz (.int (M * B))) := mulOp_int (by rcases hB0 with e | e <;> rw [e] <;> simp [show Nat.log2 1 = 0 from by decide] <;> omega)
    have m2 : modOp (.int A) (.int T5) = some (.fz (.int M)) := hM ▸ modOp_int hT50
    obtain ⟨S, hS⟩ : ∃ S : Int, S = c % 2305843009213693951 := ⟨_, rfl⟩
    have hS0 : 0 ≤ S ∧ S < 2305843009213693951 := by omega
    have m3 : modOp (.int c) (.int 2305843009213693951) = some (.fz (.int S)) := hS ▸ modOp_int (by omega)
    have m4 : mulOp (.int S) (.int 69997) = some (.fz (.int (S * 69997))) := mulS (by omega) (by omega) (by omega) (by omega)
    have m5 : mulOp (.int 9029) (.int p) = some (.fz (.int (9029 * p))) := mulS (by omega) (by omega) (by omega) (by omega)
    have m6 : mulOp (.int (9029 * p)) (.int p) = some (.fz (.int (9029 * p * p))) := mulS (by omega) (by omega) (by omega) (by omega)
    obtain ⟨Q, hQ⟩ : ∃ Q : Int, Q = (S * 69997 + 9029 * p * p + 733) % 2305843009213693921 := ⟨_, rfl⟩
    have m7 : modOp (.int (S * 69997 + 9029 * p * p + 733)) (.int 2305843009213693921) = some (.fz (.int Q)) := hQ ▸ modOp_int (by omega)
    have hab : absOp (.int c) = some (.fz (.int A)) := by rw [absOp_int, hA]
    have hib : intOf (.bool (decide (T18 ≤ A))) = some (.fz (.int B)) := by rw [intOf_bool, hB]; simp
    refine ⟨[.int (M * B), .int Q, .int 0], ?_, M * B, Q, 0, rfl, Int.mul_nonneg hM0 (by omega), ?_, by omega, by omega, by omega, by omega⟩
    · simp [p1, p2, p3, hab, hib, m1, m2, m3, m4, m5, m6, m7, lstG, allFz, eX_fz, -absOp_int, -intOf_bool]
    · rw [← hT5]
      rcases hB0 with e | e <;> subst e
      · simpa using hT50
      · simpa using hM1
  by_cases hl : p < ns.length
  · obtain ⟨pot, e, ok⟩ := main (ns[p.toNat]'(by omega))
    refine ⟨pot, ?_, ok⟩
    have hx : L2.atI (ns.map PyData.int) p = some (.int (ns[p.toNat]'(by omega))) := by
      rw [atI_int h0 (by simpa using hl), List.getElem?_map, List.getElem?_eq_getElem (by omega)]
      rfl
    rw [← e]
    simp only [F__law_pot, b__law_pot, runF_eq]
    rw [sSeq_eq]
    congr 1
    simp [hx, hl]
  · obtain ⟨pot, e, ok⟩ := main (397 * p + 263)
    refine ⟨pot, ?_, ok⟩
    have hl' : ¬ p < (ns.length : Int) := hl
    have m1 : mulOp (.int 397) (.int p) = some (.fz (.int (397 * p))) := mulS (by omega) (by omega) (by omega) (by omega)
    rw [← e]
    simp only [F__law_pot, b__law_pot, runF_eq]
    rw [sSeq_eq]
    congr 1
    simp [hl', m1]
theorem lrOp_nat {m : Nat} (h : m ≤ 1000000) : lrOp (.int (m : Int)) = some (.ow (.lst ((List.range m).map fun (n : Nat) => .int n))) := by
  show (if _ then _ else _) = _
  rw [if_pos (by omega)]
  rfl
theorem r_cells (ns : List Int) (h : ns.length ≤ 1000) {k : Nat} (hk : 1 ≤ k ∧ k ≤ 1000) : ∃ m : Nat, 1 ≤ m ∧ m ≤ k ∧ F__law_cells [.fz (scrD (ns.map .int)), .fz (.int k)] = .ok (.ow (.lst ((List.range m).map fun (n : Nat) => .int n))) [.fz (scrD (ns.map .int)), .fz (.int k)] := by
  have hmin : min2Op (.int k) (.int ns.length) = some (.fz (.int (if (ns.length : Int) < k then ns.length else k))) := rfl
  have e : max (1 : Int) (if (ns.length : Int) < k then ns.length else k) = ((max 1 (min k ns.length) : Nat) : Int) := by split <;> omega
  refine ⟨max 1 (min k ns.length), by omega, by omega, ?_⟩
  have hl := lrOp_nat (m := max 1 (min k ns.length)) (by omega)
  rw [← e] at hl
  simp only [Int.ofNat_lt] at hl
  simp [F__law_cells, b__law_cells, hmin, hl]
end Pg
end
section
set_option maxHeartbeats 1000000
/-! family A: drawn digs, the law's own look -/
namespace Pg
open PySem L2 Dl DlS DlZ
def wordsA : List Str := ["a", "b", "c", "floor", "pit", "wall1", "ash", "x9", "unit", "above", "same", "least", "most", "zzzzzzzz"]
def poolA : List Str := wordsA ++ (List.range 30).map fun (n : Nat) => ("n" : Str) ++ figs n
theorem poolA_nodup : poolA.Nodup := by decide +kernel
theorem poolA_names : poolA.all nameB = true := by decide +kernel
theorem poolA_len : poolA.length = 44 := by decide
theorem perm_strs {ys zs : List D} {os : List Str} (h : (ys ++ zs).Perm (os.map .str)) : ∃ as bs : List Str, ys = as.map .str ∧ (as ++ bs).Perm os := by
  have : ∀ d ∈ ys ++ zs, ∃ z, d = .str z := fun d hd => by
    obtain ⟨z, _, rfl⟩ := List.mem_map.mp (h.mem_iff.mp hd)
    exact ⟨z, rfl⟩
  have hx : ∀ l : List D, (∀ d ∈ l, ∃ z, d = .str z) → ∃ as : List Str, l = as.map .str := by
    intro l
    induction l with
    | nil => exact fun _ => ⟨[], rfl⟩
    | cons d l ih =>
      intro hl
      obtain ⟨z, rfl⟩ := hl d (by simp)
      obtain ⟨as, rfl⟩ := ih fun x hx => hl x (by simp [hx])
      exact ⟨z :: as, rfl⟩
  obtain ⟨as, rfl⟩ := hx ys fun d hd => this d (by simp [hd])
  obtain ⟨bs, rfl⟩ := hx zs fun d hd => this d (by simp [hd])
  refine ⟨as, bs, rfl, ?_⟩
  rw [← List.map_append] at h
  have h2 := h.map (fun d : D => match d with | .str z => z | _ => ⟨#[]⟩)
  have hid : ∀ l : List Str, (l.map PyData.str).map (fun d : D => match d with | .str z => z | _ => ⟨#[]⟩) = l := fun l => by
    induction l with
    | nil => rfl
    | cons a l ih => simp only [List.map_cons, ih]
  rw [hid, hid] at h2
  exact h2
theorem addOp_str {x y : Str} (h : x.length + y.length ≤ sizeLine) : addOp (.str x) (.str y) = some (.fz (.str (x ++ y))) := by
  show (if _ then _ else _) = _
  rw [if_pos h]
theorem addOp_list {x y : List D} (h : x.length + y.length ≤ sizeLine) : addOp (.list x) (.list y) = some (.ow (.lst (x ++ y))) := by
  show (if _ then _ else _) = _
  rw [if_pos h]
theorem small_line {n : Nat} (h : n ≤ 2000001) : n ≤ sizeLine := Nat.le_trans h million
theorem r_names {n : Nat} {pot : List D} (h : PotOk n pot) {m : Nat} (hn : n + m ≤ 100000) (hm : m ≤ 44) : ∃ (us : List Str) (pot' : List D), F__law_names [.ow (.lst pot), .fz (.int m)] = .ok (.ow (.lst (us.map .str))) [.ow (.lst pot'), .fz (.int m)] ∧ us.length = m ∧ us.Nodup ∧ (∀ u ∈ us, nameB u = true) ∧ PotOk (n + m) pot' := by
  obtain ⟨ys, pot', q, l, ⟨zs, p⟩, ok⟩ := r_some (m := m) (pool := poolA.map .str) (.inr rfl) h hn (by rw [List.length_map, poolA_len]; exact hm) (by rw [List.length_map, poolA_len]; decide)
  obtain ⟨us, bs, rfl, hp⟩ := perm_strs p
  refine ⟨us, pot', ?_, by simpa using l, (List.nodup_append.mp ((hp.nodup_iff).mpr poolA_nodup)).1, fun u hu => List.all_eq_true.mp poolA_names u (hp.mem_iff.mp (by simp [hu])), ok⟩
  have hlc : ∀ (s2 : Dl.Slot), lcGo (fun _ => True) [3] (tgN 3) tYesD (e2 (.t) (.t) (eC (.str "n")) (eB [(.n 3, (eN 3))] (gN1 strOp)) (g2 addOp)) ((List.range 30).map fun (i : Nat) => PyData.int i) [.ow (.lst pot), .fz (.int m), s2, .no] = .ok ((List.range 30).map fun (i : Nat) => .str (("n" : Str) ++ figs i)) [.ow (.lst pot), .fz (.int m), s2, .no] := fun s2 =>
    lcGo_encM (enc := fun (i : Nat) => PyData.int i) trivial fun k hk => by
      have hk2 : k < 30 := List.mem_range.mp hk
      have s1 := strOp_nat (n := k) (by omega)
      have hf : (figs (k : Int)).length ≤ 8 := by
        have hh : ((List.range 30).all fun (n : Nat) => decide ((figs n).length ≤ 8)) = true := by decide +kernel
        simpa using List.all_eq_true.mp hh k hk
      have h1 : ("n" : Str).length = 1 := by decide
      have s2 : addOp (.str "n") (.str (figs (k : Int))) = some (.fz (.str (("n" : Str) ++ figs k))) := addOp_str (small_line (by omega))
      simp [lcStep, s1, s2]
  have hpool : (([.str "a", .str "b", .str "c", .str "floor", .str "pit", .str "wall1", .str "ash", .str "x9", .str "unit", .str "above", .str "same", .str "least", .str "most", .str "zzzzzzzz"] : List D) ++ ((List.range 30).map fun (i : Nat) => .str (("n" : Str) ++ figs i))) = poolA.map .str := by
    unfold poolA wordsA
    rw [List.map_append, List.map_map]; rfl
  have hadd : addOp (.list ([.str "a", .str "b", .str "c", .str "floor", .str "pit", .str "wall1", .str "ash", .str "x9", .str "unit", .str "above", .str "same", .str "least", .str "most", .str "zzzzzzzz"] : List D)) (.list ((List.range 30).map fun (i : Nat) => .str (("n" : Str) ++ figs i))) = some (.ow (.lst (poolA.map .str))) := by
    rw [addOp_list (small_line (by simp)), hpool]
  simp [F__law_names, b__law_names, iRg_eq, hlc, hadd, lstG, eX_fz, q, -List.map_map]
theorem pick2 {ys zs : List D} {us : List Str} (h : (ys ++ zs).Perm (us.map .str)) (hl : ys.length = 2) (nd : us.Nodup) : ∃ a b, ys = [.str a, .str b] ∧ a ∈ us ∧ b ∈ us ∧ a ≠ b := by
  obtain ⟨as, bs, rfl, hp⟩ := perm_strs h
  rw [List.length_map] at hl
  match as, hl with
  | [a, b], _ =>
    have hn := (List.nodup_append.mp ((hp.nodup_iff).mpr nd)).1
    exact ⟨a, b, rfl, hp.mem_iff.mp (by simp), hp.mem_iff.mp (by simp), by simpa using hn⟩
@[simp] theorem tgU2 {t u : TgD} {a b : D} {ρ : DEnv} : tgU 2 (tgCons t (tgCons u tgNil)) (.list [a, b]) ρ = (t a ρ).bind fun ρ1 => (u b ρ1).bind fun ρ2 => some ρ2 := by
  show (if [a, b].length = 2 then _ else none) = _
  rfl
def RwLe (w : Int) (r : Rw) : Prop := ∀ i, r.n = some i → i ≤ w
theorem r_rowL {us : List Str} (nd : us.Nodup) (h2 : 2 ≤ us.length) (hl : us.length ≤ 1000) {n : Nat} {pot : List D} (h : PotOk n pot) (hn : n + 4 ≤ 100000) {m : Int} (h0 : 0 ≤ m) (hm : m ≤ 9999) :
    ∃ (r : Rw) (pot' : List D), F__law_row [.ow (.lst pot), .fz (.list (us.map .str)), .fz (.int m)] = .ok (.fz (rwD r)) [.ow (.lst pot'), .fz (.list (us.map .str)), .fz (.int m)] ∧ RwOk us r ∧ PotOk (n + 4) pot' ∧ RwLe m r := by
  obtain ⟨ys, pot1, q1, l1, ⟨zs, p1⟩, ok1⟩ := r_some (m := 2) (pool := us.map .str) (.inl rfl) h (by omega) (by simpa using h2) (by simpa using by omega)
  obtain ⟨a, b, rfl, ha, hb, hab⟩ := pick2 p1 l1 nd
  obtain ⟨d, pot2, q2, hd, ok2⟩ := r_of (ds := [.str "above", .str "above", .str "same", .str "least", .str "least", .str "most", .str "most"]) ok1 (by omega) (by simp) (by simp)
  have q1' : F__law_some [.ow (.lst pot), .fz (.list (us.map .str)), .fz (.int 2)] = .ok (.ow (.lst [.str a, .str b])) [.ow (.lst pot1), .fz (.list (us.map .str)), .fz (.int 2)] := q1
  by_cases hs : d = .str "above" ∨ d = .str "same"
  · rcases hs with rfl | rfl
    · refine ⟨⟨"above", a, b, none⟩, pot2, ?_, ⟨ha, hb, hab, .inl ⟨rfl, .inl rfl⟩⟩, ok2.mono (by omega), fun i e => nomatch e⟩
      simp [F__law_row, b__law_row, q1', q2, lstG, tupG, eX_fz, rwD]
    · refine ⟨⟨"same", a, b, none⟩, pot2, ?_, ⟨ha, hb, hab, .inl ⟨rfl, .inr rfl⟩⟩, ok2.mono (by omega), fun i e => nomatch e⟩
      simp [F__law_row, b__law_row, q1', q2, lstG, tupG, eX_fz, rwD]
  · have hw : d = .str "least" ∨ d = .str "most" := by
      simp only [List.mem_cons, List.not_mem_nil, or_false] at hd
      rcases hd with rfl | rfl | rfl | rfl | rfl | rfl | rfl
      · exact absurd (.inl rfl) hs
      · exact absurd (.inl rfl) hs
      · exact absurd (.inr rfl) hs
      · exact .inl rfl
      · exact .inl rfl
      · exact .inr rfl
      · exact .inr rfl
    obtain ⟨k, pot3, q3, k0, k1, ok3⟩ := r_take (m := m + 1) ok2 (by omega) (by omega) (by omega)
    rcases hw with rfl | rfl
    · refine ⟨⟨"least", a, b, some k⟩, pot3, ?_, ⟨ha, hb, hab, .inr ⟨k, rfl, k0, by omega, .inl rfl⟩⟩, ok3.mono (by omega), fun i e => by cases e; omega⟩
      simp [F__law_row, b__law_row, q1', q2, q3, lstG, tupG, eX_fz, rwD]
    · refine ⟨⟨"most", a, b, some k⟩, pot3, ?_, ⟨ha, hb, hab, .inr ⟨k, rfl, k0, by omega, .inr rfl⟩⟩, ok3.mono (by omega), fun i e => by cases e; omega⟩
      simp [F__law_row, b__law_row, q1', q2, q3, lstG, tupG, eX_fz, rwD]
theorem r_row {us : List Str} (nd : us.Nodup) (h2 : 2 ≤ us.length) (hl : us.length ≤ 1000) {n : Nat} {pot : List D} (h : PotOk n pot) (hn : n + 4 ≤ 100000) {m : Int} (h0 : 0 ≤ m) (hm : m ≤ 9999) :
    ∃ (r : Rw) (pot' : List D), F__law_row [.ow (.lst pot), .fz (.list (us.map .str)), .fz (.int m)] = .ok (.fz (rwD r)) [.ow (.lst pot'), .fz (.list (us.map .str)), .fz (.int m)] ∧ RwOk us r ∧ PotOk (n + 4) pot' := by
  obtain ⟨r, pot', a, b, c, _⟩ := r_rowL nd h2 hl h hn h0 hm
  exact ⟨r, pot', a, b, c⟩
def ownDg (us : List Str) (rs : List Rw) : D := .dict [(.str "units", .list (us.map .str)), (.str "rows", .list (rs.map rwD))]
theorem un_ne : (("units" : Str) = "rows") = False := eq_false (by decide)
@[simp] theorem own_units (us : List Str) (rs : List Rw) : ixOp (ownDg us rs) (.str "units") = some (.fz (.list (us.map .str))) := by
  show dIx (ownDg us rs) (.str "units") = _
  simp [dIx, ownDg, asDct, dGet]
@[simp] theorem own_rows (us : List Str) (rs : List Rw) : ixOp (ownDg us rs) (.str "rows") = some (.fz (.list (rs.map rwD))) := by
  show dIx (ownDg us rs) (.str "rows") = _
  simp [dIx, ownDg, asDct, dGet, un_ne]
theorem r_dig {n : Nat} {pot : List D} (h : PotOk n pot) {m k : Nat} {w : Int} (hn : n + m + 4 * k ≤ 100000) (h1 : 1 ≤ m) (hm : m ≤ 40) (hk : k ≤ 200) (w0 : 0 ≤ w) (w1 : w ≤ 9999) :
    ∃ (us : List Str) (rs : List Rw) (pot' : List D), F__law_dig [.ow (.lst pot), .fz (.int m), .fz (.int k), .fz (.int w)] = .ok (.ow (.dct false [(.str "units", .list (us.map .str)), (.str "rows", .list (rs.map rwD))])) [.ow (.lst pot'), .fz (.int m), .fz (.int k), .fz (.int w)] ∧ us.length = m ∧ rs.length ≤ k ∧ DigOk us rs ∧ PotOk (n + m + 4 * k) pot' := by
  obtain ⟨us, pot1, q1, lu, nu, nm, ok1⟩ := r_names h (m := m) (by omega) (by omega)
  by_cases hm1 : m = 1
  · subst hm1
    refine ⟨us, [], pot1, ?_, lu, by simp, ⟨by omega, by omega, nu, nm, by simp, by simp, by simp⟩, ok1.mono (by omega)⟩
    have q1' : F__law_names [.ow (.lst pot), .fz (.int 1)] = .ok (.ow (.lst (us.map .str))) [.ow (.lst pot1), .fz (.int 1)] := q1
    have hnd : nodupK (["units", "rows"] : List Str) = true := by decide
    simp [F__law_dig, b__law_dig, q1', lstG, iRg_eq, eX_fz, eX_l, forGo, hnd]
  · have hgt : (1 : Int) < m := by omega
    have loop := forGo_enc (enc := fun (i : Nat) => PyData.int i) (gd := fun _ => True) (tg := tgN 4) (b := (sSeq (sSet 7 (eCall [(.n 0, (eN 0)), (.t, (eX 5)), (.t, (eX 3))] F__law_row))
  (sIf (bV .t (e2 (.n 7) (.n 6) (eN 7) (eN 6) (g2 (inOpD true)))) (sDrop (eApp 6 (eX 7))) sNx)))
      (I := fun P ρ => ∃ rs pot' s4 s7 s5, ρ = [.ow (.lst pot'), .fz (.int m), .fz (.int k), .fz (.int w), s4, s5, .ow (.lst (rs.map rwD)), s7] ∧ (s5 = .ow (.lst (us.map .str)) ∨ s5 = .fz (.list (us.map .str))) ∧ rs.length ≤ P.length ∧ rs.Nodup ∧ (∀ r ∈ rs, RwOk us r) ∧ PotOk (n + m + 4 * P.length) pot') (fun _ _ _ => trivial)
      (Q := List.range k) (P := []) (ρ := [.ow (.lst pot1), .fz (.int m), .fz (.int k), .fz (.int w), .no, .ow (.lst (us.map .str)), .ow (.lst []), .no]) (fun P x B ρ el i => by
        obtain ⟨rs, pot2, s4, s7, s5, rfl, hs5, hl, hnd, hok, okp⟩ := i
        have hlen := congrArg List.length el
        simp only [List.nil_append, List.length_range, List.length_append, List.length_cons] at hlen
        obtain ⟨r, pot3, q2, hr, okp3⟩ := r_row nu (by omega) (by omega) okp (by omega) w0 w1
        refine ⟨_, [.ow (.lst pot3), .fz (.int m), .fz (.int k), .fz (.int w), .fz (.int x), .fz (.list (us.map .str)), .ow (.lst ((if r ∈ rs then rs else rs ++ [r]).map rwD)), .fz (rwD r)], rfl, .inl ?_, _, _, _, _, _, rfl, .inr rfl, ?_, ?_, ?_, okp3.mono (by simp; omega)⟩
        · have hsm : rs.length ≤ 1000000 := by omega
          by_cases hin : r ∈ rs
          · rcases hs5 with rfl | rfl <;> simp [eX_fz, eX_l, q2, hin]
          · rcases hs5 with rfl | rfl <;> simp [eX_fz, eX_l, q2, hin, eApp, ownL, small, hsm]
        · split <;> simp <;> omega
        · split
          · exact hnd
          · rename_i hin
            rw [List.nodup_append]
            exact ⟨hnd, by simp, fun a ha b hb e => hin (by rw [List.mem_singleton] at hb; rw [← hb, ← e]; exact ha)⟩
        · split
          · exact hok
          · intro x hx
            rcases List.mem_append.mp hx with hx | hx
            · exact hok x hx
            · rw [List.mem_singleton.mp hx]; exact hr) ⟨[], pot1, .no, .no, _, rfl, .inl rfl, by simp, by simp, by simp, by simpa using ok1⟩
    obtain ⟨ρ', e, rs, pot', s4, s7, s5, rfl, hs5, hl, hnd, hok, okp⟩ := loop
    simp only [List.nil_append, List.length_range] at hl okp
    refine ⟨us, rs, pot', ?_, lu, hl, ⟨by omega, by omega, nu, nm, by omega, hnd, hok⟩, okp⟩
    have hnk : nodupK (["units", "rows"] : List Str) = true := by decide
    have hk1 : (k : Int) ≤ 1000000 ∧ (-1000000 : Int) ≤ k := by omega
    rcases hs5 with rfl | rfl <;> simp [F__law_dig, b__law_dig, q1, lstG, iRg_eq, eX_fz, eX_l, hgt, hk1, e, hnk]
end Pg
end
section
set_option maxHeartbeats 1000000
/-! family A: the law's own text, steps, look -/
namespace Pg
open PySem L2 Dl DlS DlZ
def strG : D → D
  | .int i => .str (figs i)
  | d => d
end Pg
end
section
set_option maxHeartbeats 1000000
/-! family A: values of any kind, bent ones -/
namespace Pg
open PySem L2 Dl DlS DlZ
def vokB (v : D) : Bool := (tyD v).isSome && match v with
  | .tuple ds => decide (ds.length ≤ 4000) && ds.all fun d => (tyD d).isSome
  | _ => true
def odds1 : List D := [.none, .bool true, .bool false, .int 0, .int 1, .int (-1), .int 2, .int 9999, .int 10000, .str "", .str "a", .str "A", .str "unit", .str "above", .tuple [], .list [], .dict [], .tuple [.int 0], .tuple [.tuple []], .list [.int 0]]
def odds2 : List D := [.tuple [.str "a"], .tuple [.str "a", .str "b"], .tuple [.int 1, .int 2], .tuple [.none], .tuple [.str "above", .str "a", .str "b"], .int 100000000000]
theorem pow11 : powOp (.int 10) (.int 11) = some (.fz (.int 100000000000)) := by
  rw [powOp_ok (by omega) (by decide +kernel)]
  rfl
def Simp (d : D) : Prop := (∃ i : Int, d = .int i ∧ -10 ^ 30 ≤ i ∧ i ≤ 10 ^ 30) ∨ ∃ x : Str, d = .str x ∧ x.length ≤ 10000
theorem Simp.ty {d : D} (h : Simp d) : (tyD d).isSome := by
  rcases h with ⟨i, rfl, _⟩ | ⟨x, rfl, _⟩ <;> rfl
theorem Simp.lay {d : D} (h : Simp d) (n : Nat) : Dl.lay n d = true := by
  rcases h with ⟨i, rfl, _⟩ | ⟨x, rfl, _⟩ <;> simp
end Pg
end
section
set_option maxHeartbeats 4000000
namespace K00
open PySem L2 Dl DlS DlZ Pg
/-! what is drawn -/
def Nv (k : Nat) (v : D) : Prop := lay2 (3 + k) v = true ∧ v.showable = true ∧ v.leavesShort 13 = true ∧ v.weight ≤ 100 + 10 * k
def odds : List D := [.none, .bool true, .bool false, .int 0, .int 1, .int (-1), .int 2, .int 9999, .int 10000, .str "", .str "a", .str "A", .str "unit", .str "above", .tuple [], .list [], .dict [], .tuple [.int 0], .tuple [.tuple []], .list [.int 0]] ++
  [.tuple [.str "a"], .tuple [.str "a", .str "b"], .tuple [.int 1, .int 2], .tuple [.none], .tuple [.str "above", .str "a", .str "b"], .int 100000000000]
theorem nv_odds : ∀ d ∈ odds, Nv 0 d := fun d hd => by
  have h : odds.all (fun d => lay2 3 d && (d.showable && (d.leavesShort 13 && decide (d.weight ≤ 100)))) = true := by decide +kernel
  have := List.all_eq_true.mp h d hd
  simp only [Bool.and_eq_true, decide_eq_true_eq] at this
  exact ⟨this.1, this.2.1, this.2.2.1, this.2.2.2⟩
theorem r_odd0 {n : Nat} {pot : List D} (h : PotOk n pot) (hn : n ≤ 100000) : ∃ (d : D) (pot' : List D), F__law_odd [.ow (.lst pot)] = .ok (.fz d) [.ow (.lst pot')] ∧ Nv 0 d ∧ PotOk (n + 1) pot' := by
  obtain ⟨d, pot', q, hd, ok⟩ := r_ofS (sd := .fz (.list odds)) (.inr (.inl rfl)) h hn (by simp [odds]) (by simp [odds])
  refine ⟨d, pot', ?_, nv_odds d hd, ok⟩
  simp only [odds, List.cons_append, List.nil_append] at q
  simp [F__law_odd, b__law_odd, lstG, tupG, eDct, eExt, ownL, small, pow11, eX_l]
  rw [q]
  rfl
theorem nv_up {k : Nat} {v : D} (h : Nv k v) : Nv (k + 1) (.tuple [v]) ∧ Nv (k + 1) (.list [v]) ∧ Nv (k + 1) (.dict [(.str "a", v)]) ∧ Nv (k + 1) (.tuple [.str "a", v]) := by
  obtain ⟨h1, h2, h3, h4⟩ := h
  have e : 3 + (k + 1) = (3 + k) + 1 := by omega
  have wa : (PyData.str "a").weight = 1 := by decide +kernel
  have sa : (PyData.str "a").leavesShort 13 = true := by decide +kernel
  refine ⟨⟨?_, ?_, ?_, ?_⟩, ⟨?_, ?_, ?_, ?_⟩, ⟨?_, ?_, ?_, ?_⟩, ⟨?_, ?_, ?_, ?_⟩⟩
  all_goals first
    | (rw [e]; simp [lay2, layL2, layK2, atmB, h1]; done)
    | (simp [PyData.showable, PyData.showableAll, PyData.showableKv, h2]; done)
    | (simp only [PyData.leavesShort, PyData.leavesShortAll, PyData.leavesShortKv, h3, Bool.and_true]; done)
    | (simp only [PyData.leavesShort, PyData.leavesShortAll, PyData.leavesShortKv, h3, Bool.and_true]; exact sa)
    | (simp only [PyData.weight, PyData.weightAll, PyData.weightKv]; omega)
    | (simp only [PyData.weight, PyData.weightAll, PyData.weightKv] at wa ⊢; omega)
theorem nv_repr {k : Nat} {v : D} (h : Nv k v) (hk : k ≤ 50) : ∃ z : Str, reprDOp v = some (.fz (.str z)) := by
  obtain ⟨h1, h2, h3, h4⟩ := h
  have mono : ∀ j, lay2 (3 + k + j) v = true := fun j => by
    have key : ∀ n, (∀ d : D, sizeOf d < n → ∀ m, lay2 m d = true → lay2 (m + 1) d = true) ∧ (∀ ds : List D, sizeOf ds < n → ∀ m, layL2 m ds = true → layL2 (m + 1) ds = true) ∧ (∀ kvs : List (D × D), sizeOf kvs < n → ∀ m, layK2 m kvs = true → layK2 (m + 1) kvs = true) := by
      intro n
      induction n with
      | zero => exact ⟨fun d h => absurd h (Nat.not_lt_zero _), fun d h => absurd h (Nat.not_lt_zero _), fun d h => absurd h (Nat.not_lt_zero _)⟩
      | succ n ih =>
        refine ⟨fun d hd m hm => ?_, fun ds hd m hm => ?_, fun kvs hd m hm => ?_⟩
        · cases d with
          | list xs =>
            cases m with
            | zero => simp [lay2] at hm
            | succ m => simp only [lay2] at hm ⊢; exact ih.2.1 xs (by simp at hd; omega) m hm
          | tuple xs =>
            cases m with
            | zero => simp [lay2] at hm
            | succ m => simp only [lay2] at hm ⊢; exact ih.2.1 xs (by simp at hd; omega) m hm
          | dict xs =>
            cases m with
            | zero => simp [lay2] at hm
            | succ m => simp only [lay2] at hm ⊢; exact ih.2.2 xs (by simp at hd; omega) m hm
          | _ => rfl
        · cases ds with
          | nil => rfl
          | cons d ds =>
            simp only [layL2, Bool.and_eq_true] at hm ⊢
            exact ⟨ih.1 d (by simp at hd; omega) m hm.1, ih.2.1 ds (by simp at hd; omega) m hm.2⟩
        · cases kvs with
          | nil => rfl
          | cons d ds =>
            obtain ⟨a, b⟩ := d
            simp only [layK2, Bool.and_eq_true] at hm ⊢
            exact ⟨hm.1, ih.1 b (by simp at hd; omega) m hm.2.1, ih.2.2 ds (by simp at hd; omega) m hm.2.2⟩
    induction j with
    | zero => exact h1
    | succ j ih => exact (key _).1 v (Nat.lt_succ_self _) _ ih
  exact reprDOp_ok (by have := mono (57 - k); rwa [show 3 + k + (57 - k) = 60 by omega] at this) h2 h3 (by omega)
abbrev nvs (v : D) : List D := [.tuple [v], .list [v], .dict [(.str "a", v)], .tuple [.str "a", v]]
theorem r_nested {n : Nat} {pot : List D} (h : PotOk n pot) (hn : n ≤ 90000) : ∃ (v : D) (pot' : List D) (k : Nat), F__law_nested [.ow (.lst pot)] = .ok (.fz v) [.ow (.lst pot')] ∧ k ≤ 9 ∧ Nv k v ∧ PotOk (n + 20) pot' := by
  obtain ⟨d0, pot0, q0, hd0, ok0⟩ := r_odd0 h (by omega)
  obtain ⟨dm, pot1, q1, hdm, ok1⟩ := r_of (ds := [.int 0, .int 0, .int 1, .int 2, .int 9]) ok0 (by omega) (by simp) (by simp)
  obtain ⟨m, rfl, hm⟩ : ∃ m : Nat, dm = .int m ∧ m ≤ 9 := by
    simp only [List.mem_cons, List.not_mem_nil, or_false] at hdm
    rcases hdm with rfl | rfl | rfl | rfl | rfl
    · exact ⟨0, rfl, by omega⟩
    · exact ⟨0, rfl, by omega⟩
    · exact ⟨1, rfl, by omega⟩
    · exact ⟨2, rfl, by omega⟩
    · exact ⟨9, rfl, by omega⟩
  have loop := forGo_enc (enc := fun (i : Nat) => PyData.int i) (gd := fun _ => True) (tg := tgN 2) (b := (sSet 1 (eCall [(.n 0, (eN 0)), (.t, (eB [(.t, (eB [(.t, (eX 1))] tupG)), (.t, (eFz (eB [(.t, (eX 1))] lstG))), (.t, (eFz (eDisp [("a", (eX 1))]))), (.t, (eB [(.t, (eC (.str "a"))), (.t, (eX 1))] tupG))] lstG))] F__law_of)))
    (I := fun A ρ => ∃ (v : D) (pot' : List D) (s2 : Dl.Slot), ρ = [.ow (.lst pot'), .fz v, s2] ∧ Nv A.length v ∧ PotOk (n + 2 + A.length) pot') (fun _ _ _ => trivial) (Q := List.range m) (P := []) (ρ := [.ow (.lst pot1), .fz d0, .no]) (fun A x B ρ el ii => by
      obtain ⟨v, pot', s2, rfl, hv, ok⟩ := ii
      have hA := congrArg List.length (show List.range m = A ++ x :: B from el)
      simp only [List.length_range, List.length_append, List.length_cons] at hA
      obtain ⟨d, pot2, q2, hd, ok2⟩ := r_of (ds := nvs v) ok (by omega) (by simp) (by simp)
      refine ⟨[.ow (.lst pot'), .fz v, .fz (.int (x : Nat))], [.ow (.lst pot2), .fz d, .fz (.int (x : Nat))], by simp, .inl ?_, d, pot2, _, rfl, ?_, ok2.mono (by simp; omega)⟩
      · have eD : eDisp [("a", (eX 1))] [.ow (.lst pot'), .fz v, .fz (.int (x : Nat))] = .ok (.ow (.dct false [(.str "a", v)])) [.ow (.lst pot'), .fz v, .fz (.int (x : Nat))] := by
          have hk : nodupK ["a"] = true := by decide +kernel
          simp [eDisp, eX_fz, hk]
        have q2' : F__law_of [.ow (.lst pot'), .ow (.lst [.tuple [v], .list [v], .dict [(.str "a", v)], .tuple [.str "a", v]])] = .ok (.fz d) [.ow (.lst pot2), .ow (.lst [.tuple [v], .list [v], .dict [(.str "a", v)], .tuple [.str "a", v]])] := q2
        simp [eX_fz, tupG, lstG, eD, q2', -eDisp_eq]
      · obtain ⟨a, b, c, e⟩ := nv_up hv
        simp only [nvs, List.mem_cons, List.not_mem_nil, or_false] at hd
        simp only [List.length_append, List.length_singleton]
        rcases hd with rfl | rfl | rfl | rfl <;> assumption) ⟨d0, pot1, .no, rfl, hd0, ok1⟩
  obtain ⟨ρ', e, v, pot', s2, rfl, hv, ok⟩ := loop
  simp only [List.nil_append, List.length_range] at e hv ok
  refine ⟨v, pot', m, ?_, hm, hv, ok.mono (by omega)⟩
  have hr : iRg (eFz (eCall [(.n 0, (eN 0)), (.t, (eB [(.t, (eC (.int 0))), (.t, (eC (.int 0))), (.t, (eC (.int 1))), (.t, (eC (.int 2))), (.t, (eC (.int 9)))] lstG))] F__law_of)) [.ow (.lst pot0), .fz d0, .no] = .ok ⟨(List.range m).map fun (i : Nat) => PyData.int i, fun _ => True⟩ [.ow (.lst pot1), .fz d0, .no] := by
    have q1' : F__law_of [.ow (.lst pot0), .ow (.lst [.int 0, .int 0, .int 1, .int 2, .int 9])] = .ok (.fz (.int (m : Nat))) [.ow (.lst pot1), .ow (.lst [.int 0, .int 0, .int 1, .int 2, .int 9])] := q1
    have hm1 : (m : Int) ≤ 1000000 := by omega
    have hm2 : -1000000 ≤ (m : Int) := by omega
    simp [iRg_eq, lstG, q1', hm1, hm2]
  have h0 : eCall [(.n 0, (eN 0))] F__law_odd [.ow (.lst pot), .no, .no] = .ok (.fz d0) [.ow (.lst pot0), .no, .no] := by simp [q0]
  simp [F__law_nested, b__law_nested, h0, hr, e, eM, -eCall_eq]
end K00
end
section
set_option maxHeartbeats 4000000
namespace K00
open PySem L2 Dl DlS DlZ Pg
/-! the law's errors: their making, their marks -/
def mk (c T : Str) : Bool := decide (T = "DigError" ∨ T = "ValueError" ∨ c = T)
theorem isx_mk {c T : Str} {d : D} (hc : exAll.contains c = true) : isxD T (excD c d) = some (mk c T) := by
  simp only [isxD, mk, excO_exc, hc, if_true]
theorem exv_mk {c : Str} {d : D} (hc : exAll.contains c = true) : exvD (excD c d) = some d := by
  simp only [exvD, excO_exc, hc, if_true]
def cls : List Str := (["BadBand", "BadCores", "BadDeed", "BadDig", "BadDigs", "BadFace", "BadJournal", "BadLabs", "BadLetters"] : List Str) ++ (["BadLikes", "BadLine", "BadLot", "BadLots", "BadNotes", "BadNumber", "BadPair", "BadQuestion", "BadRow"] : List Str) ++ (["BadRows", "BadStructures", "BadUnit", "BadYears", "Clash", "Full", "Growing", "Known", "Late"] : List Str) ++ (["NoBook", "NoDig", "NoLike", "NoNote", "NoTrial", "NotSure", "NothingToRedo", "NothingToUndo", "TooMany"] : List Str) ++ (["Turning", "Unlike", "Unsure"] : List Str)
def marks (c : Str) : List D := cls.map fun T => .bool (mk c T)
theorem marks_eq (c : Str) : marks c = ([.bool (mk c "BadBand"), .bool (mk c "BadCores"), .bool (mk c "BadDeed"), .bool (mk c "BadDig"), .bool (mk c "BadDigs"), .bool (mk c "BadFace"), .bool (mk c "BadJournal"), .bool (mk c "BadLabs"), .bool (mk c "BadLetters")] : List D) ++ ([.bool (mk c "BadLikes"), .bool (mk c "BadLine"), .bool (mk c "BadLot"), .bool (mk c "BadLots"), .bool (mk c "BadNotes"), .bool (mk c "BadNumber"), .bool (mk c "BadPair"), .bool (mk c "BadQuestion"), .bool (mk c "BadRow")] : List D) ++ ([.bool (mk c "BadRows"), .bool (mk c "BadStructures"), .bool (mk c "BadUnit"), .bool (mk c "BadYears"), .bool (mk c "Clash"), .bool (mk c "Full"), .bool (mk c "Growing"), .bool (mk c "Known"), .bool (mk c "Late")] : List D) ++ ([.bool (mk c "NoBook"), .bool (mk c "NoDig"), .bool (mk c "NoLike"), .bool (mk c "NoNote"), .bool (mk c "NoTrial"), .bool (mk c "NotSure"), .bool (mk c "NothingToRedo"), .bool (mk c "NothingToUndo"), .bool (mk c "TooMany")] : List D) ++ ([.bool (mk c "Turning"), .bool (mk c "Unlike"), .bool (mk c "Unsure")] : List D) := rfl
def made (d : D) : List D := cls.map fun c => excD c d
theorem made_eq (d : D) : made d = ([excD "BadBand" d, excD "BadCores" d, excD "BadDeed" d, excD "BadDig" d, excD "BadDigs" d, excD "BadFace" d, excD "BadJournal" d, excD "BadLabs" d, excD "BadLetters" d] : List D) ++ ([excD "BadLikes" d, excD "BadLine" d, excD "BadLot" d, excD "BadLots" d, excD "BadNotes" d, excD "BadNumber" d, excD "BadPair" d, excD "BadQuestion" d, excD "BadRow" d] : List D) ++ ([excD "BadRows" d, excD "BadStructures" d, excD "BadUnit" d, excD "BadYears" d, excD "Clash" d, excD "Full" d, excD "Growing" d, excD "Known" d, excD "Late" d] : List D) ++ ([excD "NoBook" d, excD "NoDig" d, excD "NoLike" d, excD "NoNote" d, excD "NoTrial" d, excD "NotSure" d, excD "NothingToRedo" d, excD "NothingToUndo" d, excD "TooMany" d] : List D) ++ ([excD "Turning" d, excD "Unlike" d, excD "Unsure" d] : List D) := rfl
theorem r_marks {c : Str} {d : D} (hc : exAll.contains c = true) : F__law_marks [.fz (excD c d)] = .ok (.ow (.lst (marks c))) [.fz (excD c d)] := by
  have h : ∀ T, isxD T (excD c d) = some (mk c T) := fun T => isx_mk hc
  generalize hv : excD c d = v at h ⊢
  rw [marks_eq]
  generalize hm : mk c = m at h ⊢
  simp [F__law_marks, b__law_marks, eIsx, h, lstG, eExt, ownL, small, eM]
theorem r_made {d : D} : F__law_made [.fz d] = .ok (.ow (.lst (made d))) [.fz d] := by
  rw [made_eq]
  generalize hm : (fun c => excD c d) = m
  have hm' : ∀ c, excD c d = m c := fun c => by rw [← hm]
  simp [F__law_made, b__law_made, eExc, lstG, eExt, ownL, small, eM, eX_fz, hm']
end K00
end
section
set_option maxHeartbeats 4000000
namespace K00
open PySem L2 Dl DlS DlZ Pg
/-! each error by itself -/
def wants (at' : Nat) : List D := (List.range 39).map fun i => .bool (decide (i = at'))
theorem ne_right : ∀ p ∈ cls.zipIdx, neOp (.list (marks p.1)) (.list (wants p.2)) = some (.fz (.bool false)) := by
  have h : (cls.zipIdx).all (fun p => (lay 60 (.list (marks p.1)) && lay 60 (.list (wants p.2))) && PyData.eqv (.list (marks p.1)) (.list (wants p.2))) = true := by decide +kernel
  intro p hp
  have := List.all_eq_true.mp h p hp
  rw [Bool.and_eq_true] at this
  unfold neOp
  rw [if_pos this.1, this.2]
  rfl
theorem all_cls : ∀ p ∈ cls.zipIdx, exAll.contains p.1 = true ∧ mk p.1 "DigError" = true ∧ mk p.1 "ValueError" = true ∧ p.2 < 39 := by
  have h : (cls.zipIdx).all (fun p => exAll.contains p.1 && (mk p.1 "DigError" && (mk p.1 "ValueError" && decide (p.2 < 39)))) = true := by decide +kernel
  intro p hp
  have := List.all_eq_true.mp h p hp
  simp only [Bool.and_eq_true, decide_eq_true_eq] at this
  exact this
theorem base_marks : anyOp (.list (marks "DigError")) = some (.fz (.bool false)) := by
  have h : (asBools (marks "DigError")).map (fun bs => bs.any id) = some false := by decide +kernel
  unfold anyOp
  cases e : asBools (marks "DigError") with
  | none => rw [e] at h; simp at h
  | some bs => rw [e] at h; simp only [Option.map_some, Option.some.injEq] at h; simp [e, h]
theorem eqs (z : Str) : eqOp (.str z) (.str z) = some (.fz (.bool true)) := by
  unfold eqOp
  rw [eqv_str]
  simp [lay]
theorem nes (z : Str) : neOp (.str z) (.str z) = some (.fz (.bool false)) := by
  unfold neOp
  rw [eqv_str]
  simp [lay]
theorem spots {v : D} {z c : Str} {i : Nat} : eLc [5] (iRg (eC (.int 39))) (tgN 5) tYesD (e2 (.n 5) (.n 3) (eN 5) (eN 3) (g2 eqOp)) [.fz v, .fz (.str z), .no, .fz (.int (i : Nat)), .fz (excD c v), .no] = .ok (.ow (.lst (wants i))) [.fz v, .fz (.str z), .no, .fz (.int (i : Nat)), .fz (excD c v), .no] := by
  have e := lcGo_encM (gd := fun _ => True) (vl := [5]) (tg := tgN 5) (c := tYesD) (f := e2 (.n 5) (.n 3) (eN 5) (eN 3) (g2 eqOp)) (enc := fun (j : Nat) => PyData.int j) (g := fun j => .bool (decide (j = i))) (ρ := [.fz v, .fz (.str z), .no, .fz (.int (i : Nat)), .fz (excD c v), .no]) trivial (E := List.range 39) (fun j hj => by
    have : eqOp (.int (j : Nat)) (.int (i : Nat)) = some (.fz (.bool (decide (j = i)))) := by
      unfold eqOp
      simp [lay, PyData.eqv]
      by_cases h : j = i
      · simp [h]
      · simp [h]; omega
    simp [lcStep, this])
  have hr : iRg (eC (.int 39)) [.fz v, .fz (.str z), .no, .fz (.int (i : Nat)), .fz (excD c v), .no] = .ok ⟨(List.range 39).map fun (i : Nat) => PyData.int i, fun _ => True⟩ [.fz v, .fz (.str z), .no, .fz (.int (i : Nat)), .fz (excD c v), .no] := by
    simp [iRg_eq]
  rw [eLc_eq, hr]
  simp [e, wants, -List.map_map]
theorem r_right {v : D} {k : Nat} (hv : Nv k v) (hk : k ≤ 50) : F__law_right [.fz v] = .ok (.fz (.bool true)) [.fz v] := by
  obtain ⟨z, hz⟩ := nv_repr hv hk
  have hen : enumD (made v) = cls.zipIdx.map fun p : Str × Nat => PyData.tuple [.int p.2, excD p.1 v] := by
    rw [enumD, made, List.zipIdx_map, List.map_map]; rfl
  have loop := forGo_enc (enc := fun p : Str × Nat => PyData.tuple [.int p.2, excD p.1 v]) (gd := gdOf .t (.list (made v))) (tg := tgT 2 (tgCons (tgN 3) (tgCons (tgN 4) tgNil))) (b := (sSeq (sIf (bOr (bNot (bV (.t) (eIsx "DigError" (.n 4) (eN 4)))) (bOr (bNot (bV (.t) (eIsx "ValueError" (.n 4) (eN 4)))) (bV .t (e2 (.t) (.n 1) (eB [(.t, (eExV (.n 4) (eN 4)))] (gN1 reprDOp)) (eN 1) (g2 neOp))))) (sRt (eC (.bool false))) sNx)
  (sIf (bV .t (e2 (.t) (.t) (eCall [(.t, (eX 4))] F__law_marks) (eLc [5] (iRg (eC (.int 39))) (tgN 5) tYesD (e2 (.n 5) (.n 3) (eN 5) (eN 3) (g2 eqOp))) (g2 neOp))) (sRt (eC (.bool false))) sNx)))
    (I := fun A ρ => ∃ (s3 s4 : Dl.Slot), ρ = [.fz v, .fz (.str z), .no, s3, s4, .no]) (fun _ _ _ => trivial)
    (Q := cls.zipIdx) (P := []) (ρ := [.fz v, .fz (.str z), .no, .no, .no, .no]) (fun A p B ρ el ii => by
      obtain ⟨s3, s4, rfl⟩ := ii
      obtain ⟨c, i⟩ := p
      have hm : (c, i) ∈ cls.zipIdx := by rw [show cls.zipIdx = A ++ (c, i) :: B from el]; simp
      obtain ⟨h1, h2, h3, h4⟩ := all_cls _ hm
      have h5 := ne_right _ hm
      have i1 : isxD "DigError" (excD c v) = some true := by rw [isx_mk h1]; exact congrArg some h2
      have i2 : isxD "ValueError" (excD c v) = some true := by rw [isx_mk h1]; exact congrArg some h3
      have i3 := exv_mk (d := v) h1
      have i4 := r_marks (d := v) h1
      have i5 := spots (v := v) (z := z) (c := c) (i := i)
      refine ⟨[.fz v, .fz (.str z), .no, .fz (.int (i : Nat)), .fz (excD c v), .no], [.fz v, .fz (.str z), .no, .fz (.int (i : Nat)), .fz (excD c v), .no], by simp, .inl ?_, _, _, rfl⟩
      simp only at h5
      generalize hd : excD c v = dd at *
      simp [eIsx, eExV, i1, i2, i3, hz, nes, eX_fz, i4, i5, h5, -eLc_eq]) ⟨_, _, rfl⟩
  obtain ⟨ρ', e, s3, s4, rfl⟩ := loop
  have h1 : exAll.contains "DigError" = true := by decide +kernel
  have i2 : isxD "ValueError" (excD "DigError" v) = some true := by rw [isx_mk h1]; exact congrArg some (by decide +kernel)
  have i3 := exv_mk (d := v) h1
  have i4 := r_marks (d := v) h1
  have he : eExc "DigError" (eX 0) [.fz v, .fz (.str z), .no, s3, s4, .no] = .ok (.fz (excD "DigError" v)) [.fz v, .fz (.str z), .no, s3, s4, .no] := by
    simp [eExc, eX_fz]
  have hp : sFor (iEn (.t) (eFz (eCall [(.t, (eX 0))] F__law_made))) (tgT 2 (tgCons (tgN 3) (tgCons (tgN 4) tgNil))) (sSeq (sIf (bOr (bNot (bV (.t) (eIsx "DigError" (.n 4) (eN 4)))) (bOr (bNot (bV (.t) (eIsx "ValueError" (.n 4) (eN 4)))) (bV .t (e2 (.t) (.n 1) (eB [(.t, (eExV (.n 4) (eN 4)))] (gN1 reprDOp)) (eN 1) (g2 neOp))))) (sRt (eC (.bool false))) sNx)
  (sIf (bV .t (e2 (.t) (.t) (eCall [(.t, (eX 4))] F__law_marks) (eLc [5] (iRg (eC (.int 39))) (tgN 5) tYesD (e2 (.n 5) (.n 3) (eN 5) (eN 3) (g2 eqOp))) (g2 neOp))) (sRt (eC (.bool false))) sNx)) [.fz v, .fz (.str z), .no, .no, .no, .no] = .nx [.fz v, .fz (.str z), .no, s3, s4, .no] := by
    simp [iEn_eq, eX_fz, r_made, hen, e, -sSeq_eq]
  have hb := base_marks
  generalize hm : marks "DigError" = mm at *
  generalize hd : excD "DigError" v = dd at *
  have hc : eCall [(.t, (eX 2))] F__law_marks [.fz v, .fz (.str z), .fz dd, s3, s4, .no] = .ok (.ow (.lst mm)) [.fz v, .fz (.str z), .fz dd, s3, s4, .no] := by simp [eX_fz, i4]
  simp [F__law_right, b__law_right, hz, hp, he, hc, eIsx, eExV, i2, i3, hb, eX_fz, eqs, -sFor_eq, -eCall_eq]
theorem lcGo_pos {gd : DEnv → Prop} {vl : List Nat} {tg : TgD} {c : DEnv → Out Bool} {f : EM} {I : List D → List D → DEnv → Prop} (hg : ∀ l ys ρ, I l ys ρ → gd ρ) : ∀ {ds pre ys0 : List D} {ρ : DEnv}, (∀ l d r ys ρ, pre ++ ds = l ++ d :: r → I l ys ρ → ∃ y ρ', lcStep vl tg c f d ρ = .ok y ρ' ∧ I (l ++ [d]) (ys ++ y.toList) ρ') → I pre ys0 ρ →
    ∃ ys ρ', lcGo gd vl tg c f ds ρ = .ok ys ρ' ∧ I (pre ++ ds) (ys0 ++ ys) ρ'
  | [], pre, ys0, ρ, _, h => ⟨[], ρ, rfl, by simpa using h⟩
  | d :: ds, pre, ys0, ρ, h, h0 => by
    obtain ⟨y, ρ1, e1, i1⟩ := h pre d ds ys0 ρ rfl h0
    obtain ⟨ys, ρ2, e2, i2⟩ := lcGo_pos hg (ds := ds) (pre := pre ++ [d]) (fun l x r ys ρ e => h l x r ys ρ (by simpa using e)) i1
    exact ⟨_, ρ2, lcGo_cons e1 (hg _ _ _ i1) e2, by simpa using i2⟩
theorem r_law (ns : List Int) (hl : ns.length ≤ 1000) : ∃ ss : List Dl.Slot, F_law [.fz (scrD (ns.map .int))] = .ok (.fz (.bool true)) ss := by
  obtain ⟨m, hm0, hm2, q1⟩ := r_cells ns hl (k := 3) (by omega)
  have inner : ∀ (pot : List D) (s1 : Dl.Slot), PotOk 0 pot → ∃ pot', lcGo (fun _ => True) [3] (tgN 3) tYesD (eCall [(.t, (eCall [(.n 2, (eN 2))] F__law_nested))] F__law_right) ((List.range 6).map fun (i : Nat) => PyData.int i) [.fz (scrD (ns.map .int)), s1, .ow (.lst pot), .no] = .ok (List.replicate 6 (.bool true)) [.fz (scrD (ns.map .int)), s1, .ow (.lst pot'), .no] := fun pot s1 hp => by
    obtain ⟨ys, ρ', e, pot', rfl, ok, hy⟩ := lcGo_pos (gd := fun _ => True) (vl := [3]) (tg := tgN 3) (c := tYesD) (f := eCall [(.t, (eCall [(.n 2, (eN 2))] F__law_nested))] F__law_right) (I := fun l ys ρ => ∃ pot', ρ = [.fz (scrD (ns.map .int)), s1, .ow (.lst pot'), .no] ∧ PotOk (20 * l.length) pot' ∧ ys = List.replicate l.length (.bool true)) (fun _ _ _ _ => trivial)
      (ds := (List.range 6).map fun (i : Nat) => PyData.int i) (pre := []) (ys0 := []) (ρ := [.fz (scrD (ns.map .int)), s1, .ow (.lst pot), .no]) (fun l d r ys ρ el i => by
        obtain ⟨pot', rfl, ok, hy⟩ := i
        have hll := congrArg List.length el
        simp only [List.nil_append, List.length_map, List.length_range, List.length_append, List.length_cons] at hll
        obtain ⟨v, pot2, k, q2, hk, hv, ok2⟩ := r_nested ok (by omega)
        exact ⟨some (.bool true), _, by simp [lcStep, q2, r_right hv (by omega)], pot2, rfl, ok2.mono (by simp; omega), by rw [hy]; simp [List.replicate_succ']⟩) ⟨pot, rfl, by simpa using hp, by simp⟩
    exact ⟨pot', by rw [e]; simp at hy; rw [hy]; rfl⟩
  have loop := forGo_enc (enc := fun (i : Nat) => PyData.int i) (gd := gdOf .t (.list ((List.range m).map fun (n : Nat) => PyData.int n))) (tg := tgN 1) (b := (sSeq (sSet 2 (eCall [(.t, (eX 0)), (.t, (eX 1))] F__law_pot))
  (sIf (bNot (bV (.t) (eB [(.t, (eLc [3] (iRg (eC (.int 6))) (tgN 3) tYesD (eCall [(.t, (eCall [(.n 2, (eN 2))] F__law_nested))] F__law_right)))] (gN1 allOp)))) (sRt (eC (.bool false))) sNx)))
    (I := fun P ρ => ∃ s1 s2, ρ = [.fz (scrD (ns.map .int)), s1, s2, .no]) (fun _ _ _ => trivial) (Q := List.range m) (P := []) (ρ := [.fz (scrD (ns.map .int)), .no, .no, .no]) (fun P x B ρ el i => by
      obtain ⟨s1, s2, rfl⟩ := i
      have hx : x < m := by
        have : x ∈ List.range m := by rw [show List.range m = P ++ x :: B from el]; simp
        exact List.mem_range.mp this
      obtain ⟨pot, q2, ok⟩ := r_pot (ns := ns) (p := x) (by omega) (by omega)
      obtain ⟨pot', e⟩ := inner pot (.fz (.int x)) ok
      refine ⟨_, [.fz (scrD (ns.map .int)), .fz (.int x), .ow (.lst pot'), .no], rfl, .inl ?_, _, _, rfl⟩
      simp [eX_fz, q2, iRg_eq, e, -List.map_map, -List.reduceReplicate]) ⟨_, _, rfl⟩
  obtain ⟨ρ', e, s1, s2, rfl⟩ := loop
  refine ⟨[.fz (scrD (ns.map .int))], ?_⟩
  have q1' : F__law_cells [.fz (scrD (ns.map .int)), .fz (.int 3)] = .ok (.ow (.lst ((List.range m).map fun (n : Nat) => .int n))) [.fz (scrD (ns.map .int)), .fz (.int 3)] := q1
  simp [F_law, b_law, eX_fz, q1', e, -List.map_map]
end K00
end
section
set_option maxHeartbeats 1000000
/-! the head by one run of the top (nothing of it is written out): facts of a law with classes, told by a Hook -/
namespace Dl
open PySem PySem.Spec PyProof.Rows L2
theorem FnX.fun_ {K : PySem.W.Frag} {d : FnX} (h0 : d.clo = false) (e : fnA K (d.ad K) d.clo = d.val) (c : d.ok K = true) : ∃ fd, Fun K d.name d.qual d.st (d.ad K) fd := by
  obtain ⟨kp, c2⟩ := He.ba c
  rw [h0] at e
  unfold fnA at e
  cases q : K.lookup (d.ad K) with
  | none => rw [q] at c2; cases c2
  | some o =>
    obtain ⟨oc, od, dt, osl⟩ := o
    rw [q] at c2 e
    cases dt with
    | func fd =>
      obtain ⟨n1, n2, n3, n4, n5, n6, n7, n8, n9, n10, n11, n12, n13, n14, n15⟩ := fd
      have e2 : (some (n1, n2, n3, n4, n5, n6, n7, n8, n15) : He.FnV) = some (d.name, d.qual, defArgs d.st, .stmts (defBody d.st), defScope d.st, mainGlobals, [], .none, builtinsNs) := e
      simp only [Option.some.injEq, Prod.mk.injEq] at e2
      obtain ⟨h1, h2, h3, h4, h5, h6, h7, h8, h9⟩ := e2
      subst h1 h2 h3 h4 h5 h6 h7 h8 h9
      exact ⟨_, fun_mk (st := d.st) q c2 kp⟩
    | _ => cases c2
section
variable {fx : List Fx} {fn : List FnX} {K : PySem.W.Frag}
theorem SaysH.fact (c : SaysH fx fn K) (i : Nat) {f : Fx} (h : fx[i]? = some f := by rfl) : f.ok K = true := by
  have c1 := (He.ba (show ((fx.all fun f => f.ok K) && fn.all fun d => d.ok K) = true from congrArg (fun z : AlH => z.1) c)).1
  exact List.all_eq_true.mp c1 f (List.mem_of_getElem? h)
theorem SaysH.defV (c : SaysH fx fn K) (i : Nat) {d : FnX} (h : fn[i]? = some d := by rfl) : fnA K (d.ad K) d.clo = d.val ∧ d.ok K = true := by
  have c2 := (He.ba (show ((fx.all fun f => f.ok K) && fn.all fun d => d.ok K) = true from congrArg (fun z : AlH => z.1) c)).2
  have e : fn.map (fun d => fnA K (d.ad K) d.clo) = fn.map FnX.val := congrArg (fun z : AlH => z.2) c
  have e2 : (fn.map fun d => fnA K (d.ad K) d.clo)[i]? = (fn.map FnX.val)[i]? := by rw [e]
  rw [List.getElem?_map, List.getElem?_map, h] at e2
  exact ⟨Option.some.inj e2, List.all_eq_true.mp c2 d (List.mem_of_getElem? h)⟩
theorem SaysH.def_ (c : SaysH fx fn K) (i : Nat) {d : FnX} (h : fn[i]? = some d := by rfl) (h0 : d.clo = false := by rfl) : ∃ fd, Fun K d.name d.qual d.st (d.ad K) fd := by
  obtain ⟨e, k⟩ := c.defV i h
  exact FnX.fun_ h0 e k
end
def clX (cs : List Str) (K : PySem.W.Frag) (P : PySem.Program) (w : PySem.World) (T : List (Addr × Str)) : ClsT := ⟨fun c => if cs.contains c then some (He.ga K c) else none, P, w, T⟩
theorem clX_at {cs : List Str} {K : PySem.W.Frag} {P : PySem.Program} {w : PySem.World} {T : List (Addr × Str)} {c : Str} (h : cs.contains c = true) : clX cs K P w T c = some (He.ga K c) := if_pos h
/-! exceptions -/
theorem excB_ok {K : PySem.W.Frag} {D C : Addr} (h : excB K D C = true) : ∃ nm q N bs sn sub ab col dd k0 k1 k2 k3 k5, K.lookup C = some (excClassObj nm q C N bs ((if C = D then [] else [.ref D]) ++ PySem.HandSPX.veTail) true sn sub ab col dd k0 k1 k2 k3 k5 "ValueError.__new__") := by
  unfold excB at h
  split at h
  · rename_i T dd cd sl ho
    obtain ⟨h0, h⟩ := He.ba h
    obtain ⟨h1, h⟩ := He.ba h
    obtain ⟨h2, h⟩ := He.ba h
    obtain ⟨h3, h4⟩ := He.ba h
    obtain rfl : T = "type" := of_decide_eq_true h0
    have hm := beq_iff_eq.mp h4
    split at h1
    · rename_i k0 k1 k2 k3 n k5 hs
      obtain rfl : n = "ValueError.__new__" := of_decide_eq_true h1
      have hsl : sl = #[k0, k1, k2, k3, some (.builtin "ValueError.__new__"), k5] := by
        obtain ⟨l⟩ := sl
        simp only at hs
        rw [hs]
      subst hsl
      obtain ⟨nm, bs, mro, ns, qn, hd, sn, sub, ab, col, del⟩ := cd
      dsimp only at hm h2 h3
      subst hm h3
      obtain rfl : del = false := by simpa using h2
      exact ⟨nm, qn, ns, bs, sn, sub, ab, col, dd, k0, k1, k2, k3, k5, ho⟩
    · cases h1
  · cases h
theorem along_ve (K : PySem.W.Frag) : PySem.W.alongIn K "__init__" PySem.HandSPX.veTail = some (some (.builtin "ValueError.__init__")) := by kernel_rfl
section
variable {K : PySem.W.Frag}
theorem exc_ok {D c : Str} (hi : excOkB K D c = true) (hD : excOkB K D D = true) (hx : He.eqO (PySem.W.specialIn K (.builtin "object.__class__") "__get__") (some (some (.builtin "getset_descriptor.__get__"))) = true) (hy : PySem.W.takesIn K (.builtin "object.__class__") = some true) :
    ErrC K (He.ga K D) (He.ma K (He.ga K D) "__init__") (He.ga K c) ∧ ExcC K (He.ga K c) ∧ (∃ cd, PySem.W.clsIn K (He.ga K c) = some cd ∧ cd.mro = .ref (He.ga K c) :: ((if He.ga K c = He.ga K D then [] else [Value.ref (He.ga K D)]) ++ PySem.HandSPX.veTail)) ∧
      (∀ t ∈ ownTys, PySem.W.kitOne K (.type t) (.ref (He.ga K c)) = some false) ∧ ∃ cd, PySem.W.clsIn K (He.ga K D) = some cd := by
  obtain ⟨h1, hi⟩ := He.ba hi
  obtain ⟨h2, hi⟩ := He.ba hi
  obtain ⟨h3, hi⟩ := He.ba hi
  obtain ⟨h4, hi⟩ := He.ba hi
  obtain ⟨h5, hi⟩ := He.ba hi
  obtain ⟨h6, hi⟩ := He.ba hi
  obtain ⟨h7, hi⟩ := He.ba hi
  obtain ⟨h8, h9⟩ := He.ba hi
  obtain ⟨g1, _⟩ := He.ba hD
  obtain ⟨nm', qn', N', bs', sn', sub', ab', col', dd', k0', k1', k2', k3', k5', lkD⟩ := excB_ok g1
  obtain ⟨nm, qn, N, bs, sn, sub, ab, col, dd, k0, k1, k2, k3, k5, lk⟩ := excB_ok h1
  generalize He.ga K c = C at *
  generalize He.ga K D = DD at *
  obtain ⟨cd, hcd, hm, hdi⟩ : ∃ cd, PySem.W.clsIn K C = some cd ∧ cd.mro = .ref C :: ((if C = DD then [] else [Value.ref DD]) ++ PySem.HandSPX.veTail) ∧ cd.hasDict = true := by
    unfold PySem.W.clsIn
    rw [lk]
    exact ⟨_, rfl, rfl, rfl⟩
  have hmro : ∀ X : Value, PySem.W.mroIn K C X = some ((Value.ref C :: ((if C = DD then [] else [Value.ref DD]) ++ PySem.HandSPX.veTail)).contains X) := fun X => by
    unfold PySem.W.mroIn
    rw [hcd, Option.bind_some, hm, if_neg (by simp)]
  have hty : ∀ n : String, (PySem.HandSPX.veTail.contains (.type n)) = true → PySem.W.mroIn K C (.type n) = some true := fun n hn => by
    rw [hmro]
    congr 1
    rw [List.contains_cons, List.contains_append, hn]
    simp
  have hve : PySem.HandSPX.refsVE ((if C = DD then [] else [Value.ref DD]) ++ PySem.HandSPX.veTail) = true := by
    by_cases e : C = DD
    · rw [if_pos e]; decide +kernel
    · rw [if_neg e]; show PySem.HandSPX.refsVE PySem.HandSPX.veTail = true; decide +kernel
  have hexC : PySem.W.subIn K (.ref C) (.type "BaseException") = some true := hty _ (by decide +kernel)
  have hdrop : (Value.ref C :: ((if C = DD then [] else [Value.ref DD]) ++ PySem.HandSPX.veTail)).dropWhile (· != .ref DD) = .ref DD :: PySem.HandSPX.veTail := by
    by_cases e : C = DD
    · subst e; simp
    · rw [if_neg e]
      simp [e]
  have hdct : PySem.W.hasDictIn K C = true := by
    unfold PySem.W.hasDictIn
    rw [hcd]
    exact hdi
  refine ⟨⟨⟨⟨nm, qn, N, bs, _, sn, sub, ab, col, dd, k0, k1, k2, k3, k5, lk, hve⟩, He.eqO_ok h3, hexC, by show (K.lookup C).map (·.cls) = _; rw [lk]; rfl, h2⟩, He.eqO_ok h4, ?_, hty _ (by decide +kernel), ?_, He.eqO_ok h5⟩,
    ⟨He.eqO_ok h6, He.eqO_ok h7, hexC, hdct, He.eqO_ok h8, He.eqO_ok hx, hy, hty _ (by decide +kernel)⟩, ⟨cd, hcd, hm⟩, fun t ht => of_decide_eq_true (List.all_eq_true.mp h9 t ht), by unfold PySem.W.clsIn; rw [lkD]; exact ⟨_, rfl⟩⟩
  · unfold PySem.W.ks_superIn
    rw [hcd, Option.bind_some, hm, hdrop]
    exact along_ve K
  · rw [hmro]
    congr 1
    by_cases e : C = DD
    · subst e; simp
    · rw [if_neg e]; simp
theorem exch_ok {h0 : Heap} {mg : Str → Option Value} {cl : ClsT} {P : PySem.Program} {D file q : Str} {cs : List Str} {d : FnX} (X : K.In h0) (G : h0.Ns mainGlobals mg) (hf : P.main.file = file) (htop : (P.main.scope.names.lookup ("super" : Str)).isSome = false) (hcl : ∀ c ∈ cs, cl c = some (He.ga K c)) (hD : D ∈ cs)
    (hs : (Fx.exs D cs).ok K = true) (hi : (Fx.exi D file q).ok K = true) (hd : fnA K (d.ad K) d.clo = d.val ∧ d.ok K = true) (hda : d.ad = fun K => He.ma K (He.ga K D) "__init__") (hdc : d.clo = true) (hdn : d.name = "__init__") (hdq : d.qual = q) (T : ErrT d.st) (hall : ∀ c ∈ exAll, ∀ C, cl c = some C → c ∈ cs) : ExcH P K cl mg D q d.st cs := by
  obtain ⟨s1, s2⟩ := He.ba hs
  have hc : ∀ c ∈ cs, mg c = some (.ref (He.ga K c)) ∧ excOkB K D c = true := fun c hc => by
    obtain ⟨a, b⟩ := He.ba (List.all_eq_true.mp s1 c hc)
    exact ⟨He.glo_ok X G a, b⟩
  obtain ⟨i1, hi⟩ := He.ba hi
  obtain ⟨i2, hi⟩ := He.ba hi
  obtain ⟨i3, hi⟩ := He.ba hi
  obtain ⟨i4, hi⟩ := He.ba hi
  obtain ⟨i5, i6⟩ := He.ba hi
  obtain ⟨e, ok⟩ := hd
  rw [hdc] at e
  rw [hda] at e
  have nd := of_decide_eq_true s2
  have inj : ∀ {l : List Str}, (l.map fun c => He.ga K c).Nodup → ∀ c ∈ l, ∀ c' ∈ l, He.ga K c = He.ga K c' → c = c' := fun {l} => by
    induction l with
    | nil => intro _ c h; cases h
    | cons a l ih =>
      intro nd c hc c' hc' e
      rw [List.map_cons, List.nodup_cons] at nd
      rcases List.mem_cons.mp hc with z1 | z1
      · rcases List.mem_cons.mp hc' with z2 | z2
        · exact z1.trans z2.symm
        · exact (nd.1 (List.mem_map.mpr ⟨c', z2, by rw [← e, z1]⟩)).elim
      · rcases List.mem_cons.mp hc' with z2 | z2
        · exact (nd.1 (List.mem_map.mpr ⟨c, z1, by rw [e, z2]⟩)).elim
        · exact ih nd.2 c z1 c' z2 e
  have full := fun c (h : c ∈ cs) => exc_ok (hc c h).2 (hc D hD).2 i5 (of_decide_eq_true i6)
  have kv : ∀ t ∈ ownTys, PySem.W.kitOne K (.type t) (.type "ValueError") = some false := fun t ht => by
    rw [kit_tt]
    revert t
    decide +kernel
  refine ⟨⟨He.ga K D, He.ma K (He.ga K D) "__init__", hcl D hD, hD, ⟨?_, of_decide_eq_true i2, of_decide_eq_true i3, htop, PySem.W.mg_none_of X G (of_decide_eq_true i4), (full D hD).2.2.2.2⟩, T, fun c h => ?_, fun c h c' h' e => ?_, fun c h C e => ?_, by decide +kernel, kv, hall⟩⟩
  · unfold exiB at i1
    cases lk : K.lookup (He.ma K (He.ga K D) "__init__") with
    | none => rw [lk] at i1; cases i1
    | some ob =>
      rw [lk] at i1
      obtain ⟨oc, od, dt, osl⟩ := ob
      cases dt with
      | func fd =>
        unfold fnA at e
        rw [lk] at e
        obtain ⟨n1, n2, n3, n4, n5, n6, n7, n8, n9, n10, n11, n12, n13, n14, n15⟩ := fd
        have e2 : (some (n1, n2, n3, n4, n5, n6, [], n8, n15) : He.FnV) = some (d.name, d.qual, defArgs d.st, .stmts (defBody d.st), defScope d.st, mainGlobals, [], .none, builtinsNs) := e
        simp only [Option.some.injEq, Prod.mk.injEq] at e2
        obtain ⟨h1, h2, h3, h4, h5, h6, _, h8, h9⟩ := e2
        obtain ⟨w1, w2⟩ := He.ba i1
        obtain ⟨w3, w4⟩ := He.ba w2
        obtain ⟨w5, w6⟩ := He.ba w4
        obtain ⟨w7, w8⟩ := He.ba w6
        obtain ⟨w9, w10⟩ := He.ba w8
        obtain ⟨w11, w12⟩ := He.ba w10
        dsimp only at w9 w11 w12
        subst h1 h2 h3 h4 h5 h6 h8 h9
        cases n13 with
        | ref cda =>
          dsimp only at w11
          cases lkc : K.lookup cda with
          | none => rw [lkc] at w11; cases w11
          | some oc2 =>
            rw [lkc] at w11
            obtain ⟨ccl, cdd, cdt, ccs⟩ := oc2
            cases cdt with
            | fields vs =>
              dsimp only at w11
              cases hvs : (vs[2]? : Option Value) with
              | none => rw [hvs] at w11; cases w11
              | some fv =>
                rw [hvs] at w11
                cases fv with
                | str f tf =>
                  have w11' : f = file := of_decide_eq_true w11
                  cases n7 with
                  | nil => cases w12
                  | cons xc r =>
                    obtain ⟨x, cc⟩ := xc
                    cases r with
                    | cons _ _ => cases w12
                    | nil =>
                      dsimp only at w12
                      obtain ⟨k1, k2⟩ := He.ba w12
                      have k1' : x = ("__class__" : Str) := of_decide_eq_true k1
                      subst k1'
                      cases lkcell : K.lookup cc with
                      | none => rw [lkcell] at k2; cases k2
                      | some oce =>
                        rw [lkcell] at k2
                        obtain ⟨cl', cld, cdt, csl⟩ := oce
                        cases cdt with
                        | cell cv =>
                          cases cv with
                          | none => cases k2
                          | some cvv =>
                            cases cvv with
                            | ref D' =>
                              have k2' : D' = He.ga K D := of_decide_eq_true k2
                              subst k2'
                              refine ⟨oc, od, n9, n10, n11, n12, cda, n14, cc, osl, ?_, w9, ⟨ccl, cdd, vs, ccs, f, tf, lkc, hvs, by rw [hf, w11']; simp⟩, cl', cld, csl, lkcell⟩
                              rw [← hdq, hdn]
                            | _ => cases k2
                        | _ => cases k2
                | _ => cases w11
            | _ => cases w11
        | _ => cases w11
      | _ => cases i1
  · obtain ⟨a1, a2, ⟨cd, a3, a4⟩, _, _⟩ := full c h
    refine ⟨He.ga K c, hcl c h, (hc c h).1, a1, a2, cd, a3, ?_⟩
    rw [a4]
    congr 2
    by_cases e : c = D
    · subst e; simp
    · rw [if_neg e, if_neg fun z => e (inj nd c h D hD z)]
  · rw [hcl c h, hcl c' h'] at e
    exact inj nd c h c' h' (Option.some.inj e)
  · rw [hcl c h] at e
    cases e
    exact (full c h).2.2.2.1
end
end Dl
end
section
namespace K00
open PySem PySem.Spec PyProof.Rows L2 Dl
section
def css : List Str := (["BadBand", "BadCores", "BadDeed", "BadDig", "BadDigs", "BadFace", "BadJournal", "BadLabs", "BadLetters", "BadLikes"] : List Str) ++ (["BadLine", "BadLot", "BadLots", "BadNotes", "BadNumber", "BadPair", "BadQuestion", "BadRow", "BadRows", "BadStructures"] : List Str) ++ (["BadUnit", "BadYears", "Clash", "DigError", "Full", "Growing", "Known", "Late", "NoBook", "NoDig"] : List Str) ++ (["NoLike", "NoNote", "NoTrial", "NotSure", "NothingToRedo", "NothingToUndo", "TooMany", "Turning", "Unlike", "Unsure"] : List Str)
theorem errT : ErrT s_DigError_init := ⟨⟨_, _, _, _, _, _, _, _, _, _, rfl, fun env => ⟨_, rfl⟩⟩, ⟨_, rfl, rfl⟩, fun _ _ _ _ _ _ _ _ _ _ => rfl, rfl, rfl, rfl, by decide +kernel, by decide +kernel, by decide +kernel, by decide +kernel, by decide +kernel⟩
theorem mk_ground {K : PySem.W.Frag} {h : Heap} {mg : Str → Option Value} (X : K.In h) (G : h.Ns mainGlobals mg) (c : SaysH hfx hfn K) {w : PySem.World} {T : List (Addr × Str)} : Ground PySem.Challenge.pw_laidthen_k00_each_error_by_itself w K mg (clX css K PySem.Challenge.pw_laidthen_k00_each_error_by_itself w T) where
  pw := ⟨rfl, rfl⟩
  b_ValueError := He.free_ok X G (c.fact 0 (f := .fa (.free "ValueError")))
  b_abs := He.free_ok X G (c.fact 1 (f := .fa (.free "abs")))
  b_all := He.free_ok X G (c.fact 2 (f := .fa (.free "all")))
  b_any := He.free_ok X G (c.fact 3 (f := .fa (.free "any")))
  b_enumerate := He.free_ok X G (c.fact 4 (f := .fa (.free "enumerate")))
  b_int := He.free_ok X G (c.fact 5 (f := .fa (.free "int")))
  b_isinstance := He.free_ok X G (c.fact 6 (f := .fa (.free "isinstance")))
  b_len := He.free_ok X G (c.fact 7 (f := .fa (.free "len")))
  b_list := He.free_ok X G (c.fact 8 (f := .fa (.free "list")))
  b_max := He.free_ok X G (c.fact 9 (f := .fa (.free "max")))
  b_min := He.free_ok X G (c.fact 10 (f := .fa (.free "min")))
  b_range := He.free_ok X G (c.fact 11 (f := .fa (.free "range")))
  b_repr := He.free_ok X G (c.fact 12 (f := .fa (.free "repr")))
  f__law_pot := by obtain ⟨fd, e⟩ := c.def_ 0 (d := fn0); exact ⟨_, fd, e, (He.glo_ok X G (c.fact 13 (f := .fa (.glo "_law_pot"))))⟩
  f__law_take := by obtain ⟨fd, e⟩ := c.def_ 1 (d := fn1); exact ⟨_, fd, e, (He.glo_ok X G (c.fact 14 (f := .fa (.glo "_law_take"))))⟩
  f__law_cells := by obtain ⟨fd, e⟩ := c.def_ 2 (d := fn2); exact ⟨_, fd, e, (He.glo_ok X G (c.fact 15 (f := .fa (.glo "_law_cells"))))⟩
  f__law_marks := by obtain ⟨fd, e⟩ := c.def_ 3 (d := fn3); exact ⟨_, fd, e, (He.glo_ok X G (c.fact 16 (f := .fa (.glo "_law_marks"))))⟩
  f__law_of := by obtain ⟨fd, e⟩ := c.def_ 4 (d := fn4); exact ⟨_, fd, e, (He.glo_ok X G (c.fact 17 (f := .fa (.glo "_law_of"))))⟩
  f__law_made := by obtain ⟨fd, e⟩ := c.def_ 5 (d := fn5); exact ⟨_, fd, e, (He.glo_ok X G (c.fact 18 (f := .fa (.glo "_law_made"))))⟩
  f__law_odd := by obtain ⟨fd, e⟩ := c.def_ 6 (d := fn6); exact ⟨_, fd, e, (He.glo_ok X G (c.fact 19 (f := .fa (.glo "_law_odd"))))⟩
  f__law_right := by obtain ⟨fd, e⟩ := c.def_ 7 (d := fn7); exact ⟨_, fd, e, (He.glo_ok X G (c.fact 20 (f := .fa (.glo "_law_right"))))⟩
  f__law_nested := by obtain ⟨fd, e⟩ := c.def_ 8 (d := fn8); exact ⟨_, fd, e, (He.glo_ok X G (c.fact 21 (f := .fa (.glo "_law_nested"))))⟩
  f_law := by obtain ⟨fd, e⟩ := c.def_ 9 (d := fn9); exact ⟨_, fd, e, (He.glo_ok X G (c.fact 22 (f := .fa (.glo "law"))))⟩
  sysm := Option.isSome_iff_exists.mp (c.fact 23 (f := .sysm))
  exc := exch_ok (d := fn10) X G (file := PySem.Challenge.pw_laidthen_k00_each_error_by_itself.main.file) rfl rfl (fun c hc => clX_at (by revert c; decide +kernel)) (by decide +kernel) (c.fact 24 (f := .exs "DigError" ecsR)) (c.fact 25 (f := .exi "DigError" PySem.Challenge.pw_laidthen_k00_each_error_by_itself.main.file "DigError.__init__")) (c.defV 10 (d := fn10)) rfl rfl rfl rfl errT (fun c hc C hC => by
    by_cases h : css.contains c = true
    · exact (show ∀ c ∈ exAll, css.contains c = true → c ∈ ecs from by decide +kernel) c hc h
    · rw [show clX css K PySem.Challenge.pw_laidthen_k00_each_error_by_itself w T c = none from if_neg h] at hC; cases hC)
end
end K00
end
section
namespace K00
open PySem PySem.Spec PyProof.Rows L2 Dl
end K00
open PySem PySem.W PySem.Calls PyProof.Rows
set_option maxHeartbeats 0 in
theorem PySem.Challenge.cw_laidthen_k00_each_error_by_itself_holds : PySem.Challenge.rw_laidthen_k00_each_error_by_itself.Holds := by
  w_on; o_law
  refine HandSHeadRun.head_any (r := OpenLaw.row PySem.Challenge.rw_laidthen_k00_each_error_by_itself) (q := view (OpenLaw.row PySem.Challenge.rw_laidthen_k00_each_error_by_itself).prog [51]) (H := K00.hK) (ob := K00.hob) (M := 20000) (loose := K00.hnm) (d := HandSHeadRun.topDef (OpenLaw.row PySem.Challenge.rw_laidthen_k00_each_error_by_itself).prog 51) (kwd := []) K00.hob_eq
    (by kernel_rfl) (fun s => by kernel_rfl) K00.hrun (by kernel_rfl) (by kernel_rfl) (by kernel_rfl) (by rfl) (by first | assumption | decide +kernel) (by decide +kernel) ⟨rfl, rfl, rfl, rfl, rfl, by decide +kernel⟩ ?hw ?hc
  case hw => w_witness2
  case hc =>
    refine Dl.walk_ofG (l := PySem.Challenge.rw_laidthen_k00_each_error_by_itself) (n := 63) (k := 5) (x := "script") rfl (by decide) (by kernel_rfl) ⟨rfl, by decide, by decide⟩ ?F
    intro w mg fa h Y G hmg
    obtain ⟨K, KX, c⟩ := Y
    have e : (HandSHeadRun.topDef (OpenLaw.row PySem.Challenge.rw_laidthen_k00_each_error_by_itself).prog 51).name = ("law" : PySem.Str) := by kernel_rfl
    rw [e]
    exact ⟨K, Dl.clX K00.css K _ w [], K00.F_law, rfl, KX, fun ns hl => K00.r_law ns (Nat.le_trans hl (by decide)), fun base hb hg => K00.ok_law (K00.mk_ground hb hg c)⟩
end
