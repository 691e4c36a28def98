import PyProof.Rows.All
import Wide.All
import OpenK.AllK
import Wide.FinOn
import HandS.ForMost
import HandS.WordsExc
import HandS.TupAny
import HandS.Wide
import KE.DataEq
import KE.DataCmp
import KE.DataMinMax
import KE.DataAny
import KE.DataIsa
import KE.SortData
import PyProof.ReprReads
import HandS.IsInst
import HandS.RaiseMore
import PyProof.ReprRoads
import HandS.TupLen
import HandS.Style
import HandS.Walk
import HandS.HeadEnd
import HandS.SortInts
import HandS.Conv
import HandS.More
import HandS.SetFor
import HandS.SetKeys
import HandS.Zip
import KE.GoesZip
import KE.GoesMore
import KE.KDictZip
import HandS.Dict
import KE.GoesEnum
import PyProof.TupleOfSeq
import KE.KDictWalk
import PyProof.ReprLen
import PySem.Challenge.RW_laidthen_k66_what_shows_the_greatest_mat
set_option Elab.async false
set_option linter.all false
set_option maxRecDepth 100000
section
namespace Dl
open PySem L2

abbrev D := PyData
abbrev Frag := PySem.W.Frag
abbrev ClsT := Str → Option Addr
def keyD : Key → D
  | .inl i => .int i
  | .inr x => .str x
def keysD (k : List Key) : D := .tuple (k.map keyD)
/-- an instance: its class's name ahead, then its attributes -/
def insD (c : Str) (fs : List (Str × D)) : D := .dict ((.none, .str c) :: fs.map fun e => (.str e.1, e.2))

/-- the script: a list that is read alone -/
def scrD (ds : List D) : D := .dict [(.none, .list ds)]

/-- a dict: of ints and texts as keys, or (t) of tuples of such -/
def dctD : Bool → List (D × D) → D
  | false, kvs => .dict kvs
  | true, kvs => .dict ((.none, .bool true) :: kvs)

mutual
/-- the value v stands for the datum d in H -/
inductive Rp (K : Frag) (cl : ClsT) (H : Hp) : V → D → Prop
  | non : Rp K cl H .non .none
  | bl (b : Bool) : Rp K cl H (.bl b) (.bool b)
  | int (i : Int) : Rp K cl H (.int i) (.int i)
  | str (x : Str) : Rp K cl H (.str x) (.str x)
  | lst {a : Addr} {xs : List V} {ds : List D} : Rd H a (.lst xs) → RpL K cl H xs ds → Rp K cl H (.ref a) (.list ds)
  | scr {a : Addr} {xs : List V} {ds : List D} : SqL K H a xs → RpL K cl H xs ds → Rp K cl H (.ref a) (scrD ds)
  | tup {a : Addr} {xs : List V} {ds : List D} : H a = some (.tup xs) → RpL K cl H xs ds → Rp K cl H (.ref a) (.tuple ds)
  | dk {a : Addr} {l : List (Key × V)} {kvs : List (D × D)} : Rd H a (.dK l) → kvs.map (·.1) = l.map (fun e => keyD e.1) → RpL K cl H (l.map (·.2)) (kvs.map (·.2)) → Rp K cl H (.ref a) (dctD false kvs)
  | dt {a : Addr} {l : List (List Key × V)} {kvs : List (D × D)} : Rd H a (.dT l) → kvs.map (·.1) = l.map (fun e => keysD e.1) → RpL K cl H (l.map (·.2)) (kvs.map (·.2)) → Rp K cl H (.ref a) (dctD true kvs)
  | ins {a C dx : Addr} {c : Str} {fvs : List (Str × V)} {fs : List (Str × D)} : cl c = some C → H a = some (.ins C dx fvs) → fs.map (·.1) = fvs.map (·.1) → RpL K cl H (fvs.map (·.2)) (fs.map (·.2)) → Rp K cl H (.ref a) (insD c fs)
inductive RpL (K : Frag) (cl : ClsT) (H : Hp) : List V → List D → Prop
  | nil : RpL K cl H [] []
  | cons {v : V} {vs : List V} {d : D} {ds : List D} : Rp K cl H v d → RpL K cl H vs ds → RpL K cl H (v :: vs) (d :: ds)
end

section
variable {K : Frag} {cl : ClsT} {H H' H1 H2 H3 : Hp} {v : V} {vs ws : List V} {d : D} {ds es : List D}
theorem RpL.length : ∀ {vs : List V} {ds : List D}, RpL K cl H vs ds → vs.length = ds.length
  | _, _, .nil => rfl
  | _, _, .cons _ t => by simp [RpL.length t]
theorem RpL.get : ∀ {vs : List V} {ds : List D} {i : Nat} {v : V}, RpL K cl H vs ds → vs[i]? = some v → ∃ d, ds[i]? = some d ∧ Rp K cl H v d
  | _, _, _, _, .nil, e => by simp at e
  | _, _, 0, _, .cons r _, e => by simp at e; subst e; exact ⟨_, rfl, r⟩
  | _, _, i + 1, x, .cons _ t, e => by
    obtain ⟨u, h1, h2⟩ := RpL.get (i := i) (v := x) t (by simpa using e)
    exact ⟨u, by simpa using h1, h2⟩
theorem RpL.getD : ∀ {vs : List V} {ds : List D} {i : Nat} {d : D}, RpL K cl H vs ds → ds[i]? = some d → ∃ v, vs[i]? = some v ∧ Rp K cl H v d
  | _, _, _, _, .nil, e => by simp at e
  | _, _, 0, _, .cons r _, e => by simp at e; subst e; exact ⟨_, rfl, r⟩
  | _, _, i + 1, x, .cons _ t, e => by
    obtain ⟨u, h1, h2⟩ := RpL.getD (i := i) (d := x) t (by simpa using e)
    exact ⟨u, by simpa using h1, h2⟩
theorem RpL.append : ∀ {vs ws : List V} {ds es : List D}, RpL K cl H vs ds → RpL K cl H ws es → RpL K cl H (vs ++ ws) (ds ++ es)
  | _, _, _, _, .nil, s => s
  | _, _, _, _, .cons r t, s => .cons r (RpL.append t s)
theorem RpL.one (r : Rp K cl H v d) : RpL K cl H [v] [d] := .cons r .nil
theorem RpL.take : ∀ {vs : List V} {ds : List D} (n : Nat), RpL K cl H vs ds → RpL K cl H (vs.take n) (ds.take n)
  | _, _, 0, _ => .nil
  | _, _, _ + 1, .nil => .nil
  | _, _, n + 1, .cons r t => .cons r (RpL.take n t)
theorem RpL.drop : ∀ {vs : List V} {ds : List D} (n : Nat), RpL K cl H vs ds → RpL K cl H (vs.drop n) (ds.drop n)
  | _, _, 0, r => r
  | _, _, _ + 1, .nil => .nil
  | _, _, n + 1, .cons _ t => RpL.drop n t
theorem RpL.reverse : ∀ {vs : List V} {ds : List D}, RpL K cl H vs ds → RpL K cl H vs.reverse ds.reverse
  | _, _, .nil => .nil
  | _, _, .cons r t => by
    rw [List.reverse_cons, List.reverse_cons]
    exact (RpL.reverse t).append (.one r)
theorem RpL.set : ∀ {vs : List V} {ds : List D} (i : Nat), RpL K cl H vs ds → Rp K cl H v d → RpL K cl H (vs.set i v) (ds.set i d)
  | _, _, _, .nil, _ => .nil
  | _, _, 0, .cons _ t, r => .cons r t
  | _, _, i + 1, .cons q t, r => .cons q (RpL.set i t r)
theorem RpL.eraseIdx : ∀ {vs : List V} {ds : List D} (i : Nat), RpL K cl H vs ds → RpL K cl H (vs.eraseIdx i) (ds.eraseIdx i)
  | _, _, _, .nil => .nil
  | _, _, 0, .cons _ t => t
  | _, _, i + 1, .cons q t => .cons q (RpL.eraseIdx i t)
theorem RpL.of_get : ∀ {vs : List V} {ds : List D}, vs.length = ds.length → (∀ (i : Nat) (v : V) (d : D), vs[i]? = some v → ds[i]? = some d → Rp K cl H v d) → RpL K cl H vs ds
  | [], [], _, _ => .nil
  | [], _ :: _, h, _ => by simp at h
  | _ :: _, [], h, _ => by simp at h
  | v :: vs, d :: ds, h, k => .cons (k 0 v d rfl rfl) (RpL.of_get (by simpa using h) fun i v d a b => k (i + 1) v d (by simpa using a) (by simpa using b))

/-- what a loop over a dict may lock -/
def LkD : HO → Prop
  | .dK _ => True
  | .dT _ => True
  | _ => False
/-- all of H stands in H', dicts maybe locked -/
def Le (H H' : Hp) : Prop := ∀ a u, H a = some u → H' a = some u ∨ (LkD u ∧ ∃ o, H' a = some (.frz o u))
theorem Le.refl (H : Hp) : Le H H := fun _ _ e => .inl e
theorem Le.of_same (h : Same H H') : Le H H' := fun a u e => .inl (h a u e)
theorem Le.trans (a : Le H1 H2) (b : Le H2 H3) : Le H1 H3 := fun c u e => by
  rcases a c u e with q | ⟨k, o, q⟩
  · exact b c u q
  · rcases b c _ q with z | ⟨k', _⟩
    · exact .inr ⟨k, o, z⟩
    · exact k'.elim
theorem Le.free (h : Le H H') {a : Addr} (e : H' a = none) : H a = none := by
  cases q : H a with
  | none => rfl
  | some u =>
    rcases h a u q with z | ⟨_, o, z⟩
    · rw [e] at z; cases z
    · rw [e] at z; cases z
theorem Le.lst (h : Le H H') {a : Addr} {xs : List V} (e : Rd H a (.lst xs)) : Rd H' a (.lst xs) := by
  rcases e with e | ⟨o, e⟩
  · rcases h a _ e with z | ⟨k, _⟩
    · exact .inl z
    · exact k.elim
  · rcases h a _ e with z | ⟨k, _⟩
    · exact .inr ⟨o, z⟩
    · exact k.elim
theorem Le.tup (h : Le H H') {a : Addr} {xs : List V} (e : H a = some (.tup xs)) : H' a = some (.tup xs) := by
  rcases h a _ e with z | ⟨k, _⟩
  · exact z
  · exact k.elim
theorem Le.dict (h : Le H H') {a : Addr} {u : HO} (hu : LkD u) (e : Rd H a u) : Rd H' a u := by
  rcases e with e | ⟨o, e⟩
  · rcases h a _ e with z | ⟨k, o, z⟩
    · exact .inl z
    · exact .inr ⟨o, z⟩
  · rcases h a _ e with z | ⟨k, _⟩
    · exact .inr ⟨o, z⟩
    · exact k.elim
theorem Le.ins (h : Le H H') {a C dx : Addr} {fs : List (Str × V)} (e : H a = some (.ins C dx fs)) : H' a = some (.ins C dx fs) := by
  rcases h a _ e with z | ⟨k, _⟩
  · exact z
  · exact k.elim
theorem Le.seq (h : Le H H') {a : Addr} {xs : List V} (e : SqL K H a xs) : SqL K H' a xs := e.elim (fun e => .inl (h.lst e)) .inr
mutual
theorem Rp.mono (k : Le H H') : ∀ {v : V} {d : D}, Rp K cl H v d → Rp K cl H' v d
  | _, _, .non => .non
  | _, _, .bl b => .bl b
  | _, _, .int i => .int i
  | _, _, .str x => .str x
  | _, _, .lst h t => .lst (k.lst h) (RpL.mono k t)
  | _, _, .scr h t => .scr (k.seq h) (RpL.mono k t)
  | _, _, .tup h t => .tup (k.tup h) (RpL.mono k t)
  | _, _, .dk h e t => .dk (k.dict trivial h) e (RpL.mono k t)
  | _, _, .dt h e t => .dt (k.dict trivial h) e (RpL.mono k t)
  | _, _, .ins c h e t => .ins c (k.ins h) e (RpL.mono k t)
theorem RpL.mono (k : Le H H') : ∀ {vs : List V} {ds : List D}, RpL K cl H vs ds → RpL K cl H' vs ds
  | _, _, .nil => .nil
  | _, _, .cons r t => .cons (Rp.mono k r) (RpL.mono k t)
end
theorem upd_le {H : Hp} {p : Addr} {o : HO} (h : H p = none) : Le H (upd H p o) := fun a u e => .inl (by rw [upd_ne (ne_of_none e h)]; exact e)
theorem upd_le2 {H0 H : Hp} {p : Addr} {o : HO} (k : Le H0 H) (h : H0 p = none) : Le H0 (upd H p o) := fun a u e => by
  rw [upd_ne (ne_of_none e h)]
  exact k a u e
theorem upd_le3 {H0 H : Hp} {p : Addr} {o : HO} (k : Le H0 H) (h : H0 p = none) : Le (upd H0 p o) (upd H p o) := fun a u e => by
  by_cases q : a = p
  · subst q; rw [upd_same] at e ⊢; exact .inl e
  · rw [upd_ne q] at e ⊢; exact k a u e
end

/-! ### slots -/
/-- what stands in an object that is one's own (lk: a dict while a loop walks it) -/
inductive Cont where
  | lst (ds : List D)
  | dct (t : Bool) (kvs : List (D × D))
  | lk (t : Bool) (kvs : List (D × D))
def Cont.view : Cont → D
  | .lst ds => .list ds
  | .dct t kvs => dctD t kvs
  | .lk t kvs => dctD t kvs
/-- what an attribute of an instance holds: shared, or of the instance alone -/
inductive Fl where
  | fz (d : D)
  | ow (c : Cont)
def Fl.view : Fl → D
  | .fz d => d
  | .ow c => c.view
inductive Slot where
  | no
  | fz (d : D)
  | ow (c : Cont)
  | oi (c : Str) (fs : List (Str × Fl))
def Slot.view : Slot → D
  | .no => .none
  | .fz d => d
  | .ow c => c.view
  | .oi c fs => insD c (fs.map fun e => (e.1, e.2.view))
def Slot.there : Slot → Bool
  | .no => false
  | _ => true
abbrev DEnv := List Slot

section
variable (K : Frag) (cl : ClsT) (H0 H : Hp)
def DctOk (u : HO) (t : Bool) (kvs : List (D × D)) : Prop := match t with
  | false => ∃ l : List (Key × V), u = .dK l ∧ kvs.map (·.1) = l.map (fun e => keyD e.1) ∧ RpL K cl H0 (l.map (·.2)) (kvs.map (·.2))
  | true => ∃ l : List (List Key × V), u = .dT l ∧ kvs.map (·.1) = l.map (fun e => keysD e.1) ∧ RpL K cl H0 (l.map (·.2)) (kvs.map (·.2))
def ContOk (a : Addr) : Cont → Prop
  | .lst ds => ∃ vs, H a = some (.lst vs) ∧ RpL K cl H0 vs ds
  | .dct t kvs => ∃ u, H a = some u ∧ DctOk K cl H0 u t kvs
  | .lk t kvs => ∃ u o, H a = some (.frz o u) ∧ DctOk K cl H0 u t kvs
def FlOk (v : V) : Fl → List Addr → Prop
  | .fz d, fp => Rp K cl H0 v d ∧ fp = []
  | .ow c, fp => ∃ a, v = .ref a ∧ ContOk K cl H0 H a c ∧ fp = [a]
inductive FlsOk : List (Str × V) → List (Str × Fl) → List Addr → Prop
  | nil : FlsOk [] [] []
  | cons {f : Str} {v : V} {l : Fl} {fvs : List (Str × V)} {fs : List (Str × Fl)} {f1 f2 : List Addr} : FlOk K cl H0 H v l f1 → FlsOk fvs fs f2 → FlsOk ((f, v) :: fvs) ((f, l) :: fs) (f1 ++ f2)
/-- an instance of one's own, with what its attributes hold -/
def InsOk (a : Addr) (c : Str) (fs : List (Str × Fl)) (fp : List Addr) : Prop :=
  ∃ C dx fvs f, cl c = some C ∧ H a = some (.ins C dx fvs) ∧ H dx = some (.own a) ∧ FlsOk K cl H0 H fvs fs f ∧ fp = a :: dx :: f
def SlotOk : Option V → Slot → List Addr → Prop
  | _, .no, fp => fp = []
  | some v, .fz d, fp => Rp K cl H0 v d ∧ fp = []
  | some v, .ow c, fp => ∃ a, v = .ref a ∧ ContOk K cl H0 H a c ∧ fp = [a]
  | some v, .oi c fs, fp => ∃ a, v = .ref a ∧ InsOk K cl H0 H a c fs fp
  | none, .fz _, _ => False
  | none, .ow _, _ => False
  | none, .oi _ _, _ => False
inductive SlotsOk : List (Option V) → List Slot → List Addr → Prop
  | nil : SlotsOk [] [] []
  | cons {ov : Option V} {s : Slot} {f1 f2 : List Addr} {ovs : List (Option V)} {ss : List Slot} : SlotOk K cl H0 H ov s f1 → SlotsOk ovs ss f2 → SlotsOk (ov :: ovs) (s :: ss) (f1 ++ f2)
end
section
variable {K : Frag} {cl : ClsT} {H0 H H0' H' : Hp} {ov : Option V} {s : Slot} {v : V} {fp f1 f2 : List Addr} {ovs ovt : List (Option V)} {ss st : List Slot}
theorem DctOk.mono {u : HO} {t : Bool} {kvs : List (D × D)} (k : Le H0 H0') (h : DctOk K cl H0 u t kvs) : DctOk K cl H0' u t kvs := by
  cases t with
  | false => obtain ⟨l, h1, h2, h3⟩ := h; exact ⟨l, h1, h2, h3.mono k⟩
  | true => obtain ⟨l, h1, h2, h3⟩ := h; exact ⟨l, h1, h2, h3.mono k⟩
theorem DctOk.lkD {u : HO} {t : Bool} {kvs : List (D × D)} (h : DctOk K cl H0 u t kvs) : LkD u := by
  cases t with
  | false => obtain ⟨l, rfl, _⟩ := h; trivial
  | true => obtain ⟨l, rfl, _⟩ := h; trivial
theorem DctOk.rp {u : HO} {t : Bool} {kvs : List (D × D)} {a : Addr} (h : DctOk K cl H u t kvs) (e : Rd H a u) : Rp K cl H (.ref a) (dctD t kvs) := by
  cases t with
  | false => obtain ⟨l, rfl, h2, h3⟩ := h; exact .dk e h2 h3
  | true => obtain ⟨l, rfl, h2, h3⟩ := h; exact .dt e h2 h3
theorem ContOk.frame {a : Addr} {c : Cont} (k : Le H0 H0') (e : H' a = H a) (h : ContOk K cl H0 H a c) : ContOk K cl H0' H' a c := by
  cases c with
  | lst ds => obtain ⟨vs, h1, h2⟩ := h; exact ⟨vs, e.trans h1, h2.mono k⟩
  | dct t kvs => obtain ⟨u, h1, h2⟩ := h; exact ⟨u, e.trans h1, h2.mono k⟩
  | lk t kvs => obtain ⟨u, o, h1, h2⟩ := h; exact ⟨u, o, e.trans h1, h2.mono k⟩
theorem FlOk.frame {l : Fl} (k : Le H0 H0') (e : ∀ a ∈ fp, H' a = H a) (h : FlOk K cl H0 H v l fp) : FlOk K cl H0' H' v l fp := by
  cases l with
  | fz d => exact ⟨h.1.mono k, h.2⟩
  | ow c =>
    obtain ⟨a, h1, h2, h3⟩ := h
    exact ⟨a, h1, h2.frame k (e a (by rw [h3]; simp)), h3⟩
theorem FlsOk.frame (k : Le H0 H0') : ∀ {fvs : List (Str × V)} {fs : List (Str × Fl)} {fp : List Addr}, (∀ a ∈ fp, H' a = H a) → FlsOk K cl H0 H fvs fs fp → FlsOk K cl H0' H' fvs fs fp
  | _, _, _, _, .nil => .nil
  | _, _, _, e, .cons h t => .cons (h.frame k fun a ha => e a (List.mem_append_left _ ha)) (FlsOk.frame k (fun a ha => e a (List.mem_append_right _ ha)) t)
theorem InsOk.frame {a : Addr} {c : Str} {fs : List (Str × Fl)} (k : Le H0 H0') (e : ∀ a ∈ fp, H' a = H a) (h : InsOk K cl H0 H a c fs fp) : InsOk K cl H0' H' a c fs fp := by
  obtain ⟨C, dx, fvs, f, h1, h2, h3, h4, rfl⟩ := h
  exact ⟨C, dx, fvs, f, h1, (e a (by simp)).trans h2, (e dx (by simp)).trans h3, h4.frame k fun b hb => e b (by simp [hb]), rfl⟩
theorem SlotOk.frame (k : Le H0 H0') (e : ∀ a ∈ fp, H' a = H a) (h : SlotOk K cl H0 H ov s fp) : SlotOk K cl H0' H' ov s fp := by
  cases s with
  | no => exact h
  | fz d =>
    cases ov with
    | none => exact h.elim
    | some v => exact ⟨h.1.mono k, h.2⟩
  | ow c =>
    cases ov with
    | none => exact h.elim
    | some v =>
      obtain ⟨a, h1, h2, h3⟩ := h
      exact ⟨a, h1, h2.frame k (e a (by rw [h3]; simp)), h3⟩
  | oi c fs =>
    cases ov with
    | none => exact h.elim
    | some v =>
      obtain ⟨a, h1, h2⟩ := h
      exact ⟨a, h1, h2.frame k e⟩
theorem SlotsOk.frame (k : Le H0 H0') : ∀ {ovs : List (Option V)} {ss : List Slot} {fp : List Addr}, (∀ a ∈ fp, H' a = H a) → SlotsOk K cl H0 H ovs ss fp → SlotsOk K cl H0' H' ovs ss fp
  | _, _, _, _, .nil => .nil
  | _, _, _, e, .cons h t => .cons (h.frame k fun a ha => e a (List.mem_append_left _ ha)) (SlotsOk.frame k (fun a ha => e a (List.mem_append_right _ ha)) t)
theorem SlotsOk.length : ∀ {ovs : List (Option V)} {ss : List Slot} {fp : List Addr}, SlotsOk K cl H0 H ovs ss fp → ovs.length = ss.length
  | _, _, _, .nil => rfl
  | _, _, _, .cons _ t => by simp [SlotsOk.length t]
theorem SlotsOk.append : ∀ {ovs ovt : List (Option V)} {ss st : List Slot} {f1 f2 : List Addr}, SlotsOk K cl H0 H ovs ss f1 → SlotsOk K cl H0 H ovt st f2 → SlotsOk K cl H0 H (ovs ++ ovt) (ss ++ st) (f1 ++ f2)
  | _, _, _, _, _, _, .nil, t => t
  | _, _, _, _, _, _, .cons h r, t => by
    rw [List.append_assoc]
    exact .cons h (SlotsOk.append r t)
theorem SlotsOk.split : ∀ {ovs ovt : List (Option V)} {ss st : List Slot} {fp : List Addr}, ovs.length = ss.length → SlotsOk K cl H0 H (ovs ++ ovt) (ss ++ st) fp → ∃ f1 f2, fp = f1 ++ f2 ∧ SlotsOk K cl H0 H ovs ss f1 ∧ SlotsOk K cl H0 H ovt st f2
  | [], _, [], _, fp, _, h => ⟨[], fp, rfl, .nil, h⟩
  | [], _, _ :: _, _, _, e, _ => by simp at e
  | _ :: _, _, [], _, _, e, _ => by simp at e
  | _ :: ovs, ovt, _ :: ss, st, _, e, h => by
    cases h with
    | cons h t =>
      obtain ⟨f1, f2, e1, h1, h2⟩ := SlotsOk.split (by simpa using e) t
      exact ⟨_ ++ f1, f2, by rw [e1, List.append_assoc], .cons h h1, h2⟩
/-- the i-th slot, and how it is exchanged -/
theorem SlotsOk.at : ∀ {ovs : List (Option V)} {ss : List Slot} {fp : List Addr} {i : Nat} {s : Slot}, SlotsOk K cl H0 H ovs ss fp → ss[i]? = some s →
    ∃ ov f1 f2 f3, ovs[i]? = some ov ∧ fp = f1 ++ (f2 ++ f3) ∧ SlotOk K cl H0 H ov s f2 ∧
      ∀ {H0' H' : Hp} {ov' : Option V} {s' : Slot} {f2' : List Addr}, Le H0 H0' → (∀ a, a ∈ f1 ∨ a ∈ f3 → H' a = H a) → SlotOk K cl H0' H' ov' s' f2' → SlotsOk K cl H0' H' (ovs.set i ov') (ss.set i s') (f1 ++ (f2' ++ f3))
  | _, _, _, _, _, .nil, e => by simp at e
  | _, _, _, 0, s, .cons (ov := ov) (f1 := f1) (f2 := f2) h t, e => by
    simp at e
    subst e
    refine ⟨ov, [], f1, f2, rfl, rfl, h, fun {H0' H' ov' s' f2'} k e h' => ?_⟩
    show SlotsOk K cl H0' H' _ _ (f2' ++ f2)
    exact SlotsOk.cons h' (t.frame k fun a ha => e a (.inr ha))
  | _, _, _, i + 1, s, .cons (ov := ov0) (s := s0) (f1 := g1) (f2 := g2) h t, e => by
    obtain ⟨ov, f1, f2, f3, e1, e2, h1, k1⟩ := SlotsOk.at (i := i) (s := s) t (by simpa using e)
    refine ⟨ov, g1 ++ f1, f2, f3, by simpa using e1, by rw [e2]; simp, h1, fun {H0' H' ov' s' f2'} k e h' => ?_⟩
    have q := SlotsOk.cons (h.frame (H' := H') k fun a ha => e a (.inl (List.mem_append_left _ ha))) (k1 k (fun a ha => e a (ha.imp (fun z => List.mem_append_right _ z) id)) h')
    simpa using q
end

/-! ### the world -/
/-- the entry of a def: the frozen part, the heap, what is one's own, the arguments -/
structure Gm where
  H0 : Hp
  H : Hp
  fp : List Addr
  vs : List V
/-- no tuple (what may be told of by its owner alone) -/
def NoTup (o : HO) : Prop := ∀ xs, o ≠ .tup xs
def Fr (H0 H : Hp) (fp : List Addr) (H0' H' : Hp) (fp' : List Addr) : Prop :=
  Same H0 H0' ∧ (∀ a o, H a = some o → NoTup o → H0 a = none → a ∉ fp → H' a = some o ∧ H0' a = none) ∧ (∀ a ∈ fp', a ∈ fp ∨ H a = none) ∧ (∀ a, H a ≠ none → H' a ≠ none) ∧ (∀ a xs, H a = some (.tup xs) → H' a = some (.tup xs)) ∧ ∀ a o u, H a = some (.frz o u) → H' a = some (.frz o u)
theorem Fr.refl {H0 H : Hp} {fp : List Addr} : Fr H0 H fp H0 H fp := ⟨Same.refl _, fun _ _ a _ b _ => ⟨a, b⟩, fun _ h => .inl h, fun _ h => h, fun _ _ h => h, fun _ _ _ h => h⟩
theorem Fr.trans {H0 H H0' H' H0'' H'' : Hp} {fp fp' fp'' : List Addr} (a : Fr H0 H fp H0' H' fp') (b : Fr H0' H' fp' H0'' H'' fp'') : Fr H0 H fp H0'' H'' fp'' := by
  obtain ⟨a1, a2, a3, a4, a5, a6⟩ := a
  obtain ⟨b1, b2, b3, b4, b5, b6⟩ := b
  refine ⟨a1.trans b1, fun x o e nt n hx => ?_, fun x hx => ?_, fun x hx => b4 x (a4 x hx), fun x xs e => b5 x xs (a5 x xs e), fun x o u e => b6 x o u (a6 x o u e)⟩
  · obtain ⟨e', n'⟩ := a2 x o e nt n hx
    refine b2 x o e' nt n' fun q => ?_
    rcases a3 x q with z | z
    · exact hx z
    · rw [e] at z; cases z
  · rcases b3 x hx with z | z
    · exact a3 x z
    · refine .inr ?_
      cases q : H x with
      | none => rfl
      | some o => exact absurd z (a4 x (by rw [q]; simp))
/-- a smaller footprint behind -/
theorem Fr.less {H0 H H0' H' : Hp} {fp fp' fp'' : List Addr} (a : Fr H0 H fp H0' H' fp') (h : ∀ x ∈ fp'', x ∈ fp') : Fr H0 H fp H0' H' fp'' := ⟨a.1, a.2.1, fun x hx => a.2.2.1 x (h x hx), a.2.2.2⟩
end Dl
end
section
namespace Dl
open PySem L2

/-- the whole: what is fixed within a def's body -/
structure Wc where
  K : Frag
  cl : ClsT
  kp : List Nat
  G : Gm

structure World (W : Wc) (ts : List V) (tss : List Slot) (σ : St) (H : Hp) (ρ : DEnv) : Prop where
  len : ts.length = tss.length
  ex : ∃ H0 fp, Le H0 H ∧ SlotsOk W.K W.cl H0 H (ts.map some ++ σ) (tss ++ ρ) fp ∧ fp.Nodup ∧ (∀ a ∈ fp, H0 a = none) ∧ Fr W.G.H0 W.G.H W.G.fp H0 H fp
  keep : ∀ i ∈ W.kp, σ[i]? = (W.G.vs[i]?).map some

section
variable {W : Wc} {ts vs vs' : List V} {tss ss ss' : List Slot} {σ : St} {H H' H0 H0' : Hp} {ρ : DEnv} {v : V} {s : Slot} {fp : List Addr}
theorem ContOk.has {K : Frag} {cl : ClsT} {a : Addr} {c : Cont} (h2 : ContOk K cl H0 H a c) : H a ≠ none := by
  cases c with
  | lst ds => obtain ⟨vs, e, _⟩ := h2; rw [e]; simp
  | dct t kvs => obtain ⟨u, e, _⟩ := h2; rw [e]; simp
  | lk t kvs => obtain ⟨u, o, e, _⟩ := h2; rw [e]; simp
theorem ContOk.notup {K : Frag} {cl : ClsT} {a : Addr} {c : Cont} (h2 : ContOk K cl H0 H a c) : ∀ o, H a = some o → NoTup o := fun o ho xs e => by
  subst e
  cases c with
  | lst ds => obtain ⟨vs, e, _⟩ := h2; rw [e] at ho; cases ho
  | dct t kvs => obtain ⟨u, e, hd⟩ := h2; rw [e] at ho; cases ho; exact hd.lkD.elim
  | lk t kvs => obtain ⟨u, o, e, _⟩ := h2; rw [e] at ho; cases ho
theorem FlsOk.all {K : Frag} {cl : ClsT} : ∀ {fvs : List (Str × V)} {fs : List (Str × Fl)} {fp : List Addr}, FlsOk K cl H0 H fvs fs fp → ∀ a ∈ fp, H a ≠ none ∧ ∀ o, H a = some o → NoTup o
  | _, _, _, .nil, _, ha => by cases ha
  | _, _, _, .cons (l := l) h t, a, ha => by
    rcases List.mem_append.mp ha with ha | ha
    · cases l with
      | fz d => rw [h.2] at ha; cases ha
      | ow c =>
        obtain ⟨b, _, h2, h3⟩ := h
        rw [h3] at ha
        obtain rfl : a = b := by simpa using ha
        exact ⟨h2.has, h2.notup⟩
    · exact FlsOk.all t a ha
theorem InsOk.all {K : Frag} {cl : ClsT} {a : Addr} {c : Str} {fs : List (Str × Fl)} (h : InsOk K cl H0 H a c fs fp) : ∀ b ∈ fp, H b ≠ none ∧ ∀ o, H b = some o → NoTup o := fun b hb => by
  obtain ⟨C, dx, fvs, f, h1, h2, h3, h4, rfl⟩ := h
  rcases List.mem_cons.mp hb with rfl | hb
  · exact ⟨by rw [h2]; simp, fun o ho xs e => by subst e; rw [h2] at ho; cases ho⟩
  · rcases List.mem_cons.mp hb with rfl | hb
    · exact ⟨by rw [h3]; simp, fun o ho xs e => by subst e; rw [h3] at ho; cases ho⟩
    · exact h4.all b hb
theorem SlotOk.has {K : Frag} {cl : ClsT} {ov : Option V} (h : SlotOk K cl H0 H ov s fp) : ∀ a ∈ fp, H a ≠ none := by
  cases s with
  | no => intro a ha; rw [show fp = [] from h] at ha; cases ha
  | fz d =>
    cases ov with
    | none => exact h.elim
    | some v => intro a ha; rw [h.2] at ha; cases ha
  | ow c =>
    cases ov with
    | none => exact h.elim
    | some v =>
      obtain ⟨a, _, h2, h3⟩ := h
      intro b hb
      rw [h3] at hb
      obtain rfl : b = a := by simpa using hb
      cases c with
      | lst ds => obtain ⟨vs, e, _⟩ := h2; rw [e]; simp
      | dct t kvs => obtain ⟨u, e, _⟩ := h2; rw [e]; simp
      | lk t kvs => obtain ⟨u, o, e, _⟩ := h2; rw [e]; simp
  | oi c fs =>
    cases ov with
    | none => exact h.elim
    | some v => obtain ⟨a, _, h2⟩ := h; exact fun b hb => (h2.all b hb).1
theorem SlotsOk.has {K : Frag} {cl : ClsT} : ∀ {ovs : List (Option V)} {ss : List Slot} {fp : List Addr}, SlotsOk K cl H0 H ovs ss fp → ∀ a ∈ fp, H a ≠ none
  | _, _, _, .nil, _, ha => by cases ha
  | _, _, _, .cons h t, a, ha => (List.mem_append.mp ha).elim (h.has a) (SlotsOk.has t a)

theorem SlotOk.notup {K : Frag} {cl : ClsT} {ov : Option V} (h : SlotOk K cl H0 H ov s fp) : ∀ a ∈ fp, ∀ o, H a = some o → NoTup o := by
  cases s with
  | no => intro a ha; rw [show fp = [] from h] at ha; cases ha
  | fz d =>
    cases ov with
    | none => exact h.elim
    | some v => intro a ha; rw [h.2] at ha; cases ha
  | ow c =>
    cases ov with
    | none => exact h.elim
    | some v =>
      obtain ⟨a, _, h2, h3⟩ := h
      intro b hb o ho xs e
      subst e
      rw [h3] at hb
      obtain rfl : b = a := by simpa using hb
      cases c with
      | lst ds => obtain ⟨vs, e, _⟩ := h2; rw [e] at ho; cases ho
      | dct t kvs => obtain ⟨u, e, hd⟩ := h2; rw [e] at ho; cases ho; exact hd.lkD.elim
      | lk t kvs => obtain ⟨u, o, e, _⟩ := h2; rw [e] at ho; cases ho
  | oi c fs =>
    cases ov with
    | none => exact h.elim
    | some v => obtain ⟨a, _, h2⟩ := h; exact fun b hb => (h2.all b hb).2
theorem SlotsOk.notup {K : Frag} {cl : ClsT} : ∀ {ovs : List (Option V)} {ss : List Slot} {fp : List Addr}, SlotsOk K cl H0 H ovs ss fp → ∀ a ∈ fp, ∀ o, H a = some o → NoTup o
  | _, _, _, .nil, _, ha => by cases ha
  | _, _, _, .cons h t, a, ha => (List.mem_append.mp ha).elim (h.notup a) (SlotsOk.notup t a)
/-- THE STEP: the temporaries on top are exchanged for others -/
theorem World.fstep (w : World W (vs ++ ts) (ss ++ tss) σ H ρ) (hl : vs.length = ss.length) :
    ∃ H0 fpA, Le H0 H ∧ SlotsOk W.K W.cl H0 H (vs.map some) ss fpA ∧ fpA.Nodup ∧ (∀ a ∈ fpA, H0 a = none) ∧ (∀ (i : Nat) (s : Slot) (v : V), ρ[i]? = some s → σ[i]? = some (some v) → ∃ f, SlotOk W.K W.cl H0 H (some v) s f) ∧
      ∀ {vs' : List V} {ss' : List Slot} {H' H0' : Hp} {fp' : List Addr}, vs'.length = ss'.length → Le H0' H' → SlotsOk W.K W.cl H0' H' (vs'.map some) ss' fp' → fp'.Nodup → (∀ a ∈ fp', H0' a = none) →
        Fr H0 H fpA H0' H' fp' → World W (vs' ++ ts) (ss' ++ tss) σ H' ρ := by
  obtain ⟨H0, fp, hle, hs, nd, hn, fr⟩ := w.ex
  have hlen := w.len
  rw [List.map_append, List.append_assoc, List.append_assoc] at hs
  obtain ⟨fA, fB, rfl, hA, hB⟩ := SlotsOk.split (by simpa using hl) hs
  rw [List.nodup_append] at nd
  obtain ⟨ndA, ndB, dj⟩ := nd
  have hen : ∀ (i : Nat) (s : Slot) (v : V), ρ[i]? = some s → σ[i]? = some (some v) → ∃ f, SlotOk W.K W.cl H0 H (some v) s f := fun i s v e1 e2 => by
    obtain ⟨g1, g2, _, hC, hD⟩ := SlotsOk.split (by have := hlen; simp only [List.length_append, List.length_map] at this ⊢; omega) hB
    obtain ⟨ov, f1, f2, f3, e3, _, h1, _⟩ := hD.at e1
    rw [e2] at e3
    cases e3
    exact ⟨f2, h1⟩
  refine ⟨H0, fA, hle, hA, ndA, fun a ha => hn a (List.mem_append_left _ ha), hen, fun {vs' ss' H' H0' fp'} hl' hle' hs' nd' hn' fr' => ?_⟩
  obtain ⟨f1, f2, f3, f4, f5, f6⟩ := id fr'
  have kB : ∀ a ∈ fB, H' a = H a ∧ H0' a = none := fun a ha => by
    cases q : H a with
    | none => exact absurd q (hB.has a ha)
    | some o => exact f2 a o q (hB.notup a ha o q) (hn a (List.mem_append_right _ ha)) fun z => dj a z a ha rfl
  refine ⟨by simp only [List.length_append] at hlen ⊢; omega, ⟨H0', fp' ++ fB, hle', ?_, ?_, ?_, ?_⟩, w.keep⟩
  · rw [List.map_append, List.append_assoc, List.append_assoc]
    exact hs'.append (hB.frame (Le.of_same f1) fun a ha => (kB a ha).1)
  · rw [List.nodup_append]
    refine ⟨nd', ndB, fun a ha b hb e => ?_⟩
    subst e
    rcases f3 a ha with z | z
    · exact dj a z a hb rfl
    · exact hB.has a hb z
  · intro a ha
    exact (List.mem_append.mp ha).elim (hn' a) fun z => (kB a z).2
  · refine ⟨fr.1.trans f1, fun a o e nt n hx => ?_, fun a ha => ?_, fun a ha => f4 a (fr.2.2.2.1 a ha), fun a xs e => f5 a xs (fr.2.2.2.2.1 a xs e), fun a o u e => f6 a o u (fr.2.2.2.2.2 a o u e)⟩
    · obtain ⟨e1, n1⟩ := fr.2.1 a o e nt n hx
      refine f2 a o e1 nt n1 fun z => ?_
      rcases fr.2.2.1 a (List.mem_append_left _ z) with q | q
      · exact hx q
      · rw [e] at q; cases q
    · rcases List.mem_append.mp ha with z | z
      · rcases f3 a z with q | q
        · exact fr.2.2.1 a (List.mem_append_left _ q)
        · refine .inr ?_
          cases q2 : W.G.H a with
          | none => rfl
          | some o => exact absurd q (fr.2.2.2.1 a (by rw [q2]; simp))
      · exact fr.2.2.1 a (List.mem_append_right _ z)
/-- drop the temporaries on top -/
theorem World.drop (w : World W (vs ++ ts) (ss ++ tss) σ H ρ) (hl : vs.length = ss.length) : World W ts tss σ H ρ := by
  obtain ⟨H0, fA, hle, hA, nd, hn, _, k⟩ := w.fstep hl
  exact k (vs' := []) (ss' := []) rfl hle .nil List.nodup_nil (fun a ha => nomatch ha) ⟨Same.refl _, fun a o e _ n _ => ⟨e, n⟩, fun a ha => (nomatch ha), fun a h => h, fun a xs h => h, fun a o u h => h⟩
theorem World.pop (w : World W (v :: ts) (s :: tss) σ H ρ) : World W ts tss σ H ρ := World.drop (vs := [v]) (ss := [s]) w rfl
/-- what is moved from a place to the front -/
theorem SlotsOk.move {K : Frag} {cl : ClsT} {ov : Option V} {ovs ovt : List (Option V)} {st : List Slot} (hl : ovs.length = ss.length) (h : SlotsOk K cl H0 H (ovs ++ ov :: ovt) (ss ++ s :: st) fp) :
    ∃ fp', fp'.Perm fp ∧ SlotsOk K cl H0 H (ov :: (ovs ++ ovt)) (s :: (ss ++ st)) fp' := by
  obtain ⟨f1, f2, rfl, h1, h2⟩ := SlotsOk.split hl h
  cases h2 with
  | cons h2 h3 =>
    rename_i g1 g2
    refine ⟨g1 ++ (f1 ++ g2), ?_, .cons h2 (h1.append h3)⟩
    rw [← List.append_assoc, ← List.append_assoc]
    exact List.Perm.append_right _ List.perm_append_comm
theorem SlotsOk.back {K : Frag} {cl : ClsT} {ov : Option V} {ovs ovt : List (Option V)} {st : List Slot} (hl : ovs.length = ss.length) (h : SlotsOk K cl H0 H (ov :: (ovs ++ ovt)) (s :: (ss ++ st)) fp) :
    ∃ fp', fp'.Perm fp ∧ SlotsOk K cl H0 H (ovs ++ ov :: ovt) (ss ++ s :: st) fp' := by
  cases h with
  | cons h2 h3 =>
    rename_i g1 g2
    obtain ⟨f1, f2, rfl, h4, h5⟩ := SlotsOk.split hl h3
    refine ⟨f1 ++ (g1 ++ f2), ?_, h4.append (.cons h2 h5)⟩
    rw [← List.append_assoc, ← List.append_assoc]
    exact List.Perm.append_right _ List.perm_append_comm
/-- another sequence of the slots (footprints go with them) -/
theorem World.of_perm {ts' : List V} {tss' : List Slot} {σ' : St} {ρ' : DEnv} (w : World W ts tss σ H ρ) (hl : ts'.length = tss'.length) (hk : ∀ i ∈ W.kp, σ'[i]? = (W.G.vs[i]?).map some)
    (h : ∀ {H0 : Hp} {fp : List Addr}, SlotsOk W.K W.cl H0 H (ts.map some ++ σ) (tss ++ ρ) fp → ∃ fp', fp'.Perm fp ∧ SlotsOk W.K W.cl H0 H (ts'.map some ++ σ') (tss' ++ ρ') fp') : World W ts' tss' σ' H ρ' := by
  obtain ⟨H0, fp, hle, hs, nd, hn, fr⟩ := w.ex
  obtain ⟨fp', p, hs'⟩ := h hs
  exact ⟨hl, ⟨H0, fp', hle, hs', p.nodup_iff.mpr nd, fun a ha => hn a (p.mem_iff.mp ha), fr.less fun a ha => p.mem_iff.mp ha⟩, hk⟩
theorem World.move (w : World W (vs ++ v :: ts) (ss ++ s :: tss) σ H ρ) (hl : vs.length = ss.length) : World W (v :: (vs ++ ts)) (s :: (ss ++ tss)) σ H ρ := by
  refine w.of_perm (by have := w.len; simp only [List.length_append, List.length_cons] at this ⊢; omega) w.keep fun {H0 fp} h => ?_
  have h' : SlotsOk W.K W.cl H0 H (vs.map some ++ some v :: (ts.map some ++ σ)) (ss ++ s :: (tss ++ ρ)) fp := by simpa using h
  obtain ⟨fp', p, q⟩ := h'.move (by simpa using hl)
  exact ⟨fp', p, by simpa using q⟩
theorem World.back (w : World W (v :: (vs ++ ts)) (s :: (ss ++ tss)) σ H ρ) (hl : vs.length = ss.length) : World W (vs ++ v :: ts) (ss ++ s :: tss) σ H ρ := by
  refine w.of_perm (by have := w.len; simp only [List.length_append, List.length_cons] at this ⊢; omega) w.keep fun {H0 fp} h => ?_
  have h' : SlotsOk W.K W.cl H0 H (some v :: (vs.map some ++ (ts.map some ++ σ))) (s :: (ss ++ (tss ++ ρ))) fp := by simpa using h
  obtain ⟨fp', p, q⟩ := h'.back (by simpa using hl)
  exact ⟨fp', p, by simpa using q⟩
theorem World.slen (w : World W ts tss σ H ρ) : σ.length = ρ.length := by
  obtain ⟨H0, fp, hle, hs, _⟩ := w.ex
  have := hs.length
  have := w.len
  simp only [List.length_append, List.length_map] at *
  omega

/-! ### exchanging slots of two places -/
/-- the i-th slot: what it is, and with what it can be exchanged at the same footprint -/
theorem SlotsOk.take {K : Frag} {cl : ClsT} : ∀ {ovs : List (Option V)} {ss : List Slot} {fp : List Addr} {i : Nat} {s : Slot}, SlotsOk K cl H0 H ovs ss fp → ss[i]? = some s →
    ∃ ov f2 fr, ovs[i]? = some ov ∧ fp.Perm (f2 ++ fr) ∧ SlotOk K cl H0 H ov s f2 ∧ ∀ {ov' : Option V} {s' : Slot} {f2' : List Addr}, SlotOk K cl H0 H ov' s' f2' → ∃ fp', fp'.Perm (f2' ++ fr) ∧ SlotsOk K cl H0 H (ovs.set i ov') (ss.set i s') fp' := by
  intro ovs ss fp i s h e
  obtain ⟨ov, f1, f2, f3, e1, e2, h1, k⟩ := h.at e
  have pm : ∀ g : List Addr, (f1 ++ (g ++ f3)).Perm (g ++ (f1 ++ f3)) := fun g => by
    rw [← List.append_assoc, ← List.append_assoc]
    exact List.Perm.append_right _ List.perm_append_comm
  refine ⟨ov, f2, f1 ++ f3, e1, by rw [e2]; exact pm f2, h1, fun {ov' s' f2'} h' => ⟨_, pm f2', k (Le.refl _) (fun _ _ => rfl) h'⟩⟩

/-- another arrangement of slots, footprints a part of the old ones -/
theorem World.of_sub {ts' : List V} {tss' : List Slot} {σ' : St} {ρ' : DEnv} (w : World W ts tss σ H ρ) (hl : ts'.length = tss'.length) (hk : ∀ i ∈ W.kp, σ'[i]? = (W.G.vs[i]?).map some)
    (h : ∀ {H0 : Hp} {fp : List Addr}, SlotsOk W.K W.cl H0 H (ts.map some ++ σ) (tss ++ ρ) fp → fp.Nodup → ∃ fp', fp'.Nodup ∧ (∀ a ∈ fp', a ∈ fp) ∧ SlotsOk W.K W.cl H0 H (ts'.map some ++ σ') (tss' ++ ρ') fp') : World W ts' tss' σ' H ρ' := by
  obtain ⟨H0, fp, hle, hs, nd, hn, fr⟩ := w.ex
  obtain ⟨fp', nd', p, hs'⟩ := h hs nd
  exact ⟨hl, ⟨H0, fp', hle, hs', nd', fun a ha => hn a (p a ha), fr.less p⟩, hk⟩
/-- the temporary on top and the i-th slot exchange what they tell of the same value -/
theorem World.xch {i : Nat} {s' : Slot} (w : World W (v :: ts) (s :: tss) σ H ρ) (e1 : σ[i]? = some (some v)) (e2 : ρ[i]? = some s') : World W (v :: ts) (s' :: tss) σ H (ρ.set i s) := by
  have hlen : ts.length = tss.length := by simpa using w.len
  refine w.of_sub w.len w.keep fun {H0 fp} h nd => ?_
  have h' : SlotsOk W.K W.cl H0 H (some v :: (ts.map some ++ σ)) (s :: (tss ++ ρ)) fp := by simpa using h
  cases h' with
  | cons h1 h2 =>
    rename_i g1 g2
    have e2' : (tss ++ ρ)[tss.length + i]? = some s' := by rw [List.getElem?_append_right (by omega)]; simpa using e2
    obtain ⟨ov, f2, fr, e3, pm, h3, k⟩ := h2.take e2'
    have e3' : ov = some v := by
      rw [List.getElem?_append_right (by simp; omega)] at e3
      simp only [List.length_map] at e3
      rw [show tss.length + i - ts.length = i by omega, e1] at e3
      exact (Option.some.inj e3).symm
    subst e3'
    obtain ⟨fp', pm', h4⟩ := k (ov' := some v) h1
    refine ⟨f2 ++ fp', ?_, ?_, ?_⟩
    · have p1 : (g1 ++ g2).Perm (f2 ++ fp') := by
        refine (List.Perm.append_left g1 pm).trans ?_
        refine List.Perm.trans ?_ (List.Perm.append_left f2 pm'.symm)
        rw [← List.append_assoc, ← List.append_assoc]
        exact List.Perm.append_right _ List.perm_append_comm
      exact p1.nodup_iff.mp nd
    · intro a ha
      rcases List.mem_append.mp ha with z | z
      · exact List.mem_append_right _ (pm.mem_iff.mpr (List.mem_append_left _ z))
      · rcases List.mem_append.mp (pm'.mem_iff.mp z) with y | y
        · exact List.mem_append_left _ y
        · exact List.mem_append_right _ (pm.mem_iff.mpr (List.mem_append_right _ y))
    · have e5 : (ts.map some ++ σ).set (tss.length + i) (some v) = ts.map some ++ σ := by
        rw [List.set_append_right _ _ (by simp; omega)]
        congr 1
        simp only [List.length_map]
        rw [show tss.length + i - ts.length = i by omega]
        obtain ⟨hi, e⟩ := List.getElem?_eq_some_iff.mp e1
        rw [← e]
        exact List.set_getElem_self hi
      have e6 : (tss ++ ρ).set (tss.length + i) s = tss ++ ρ.set i s := by
        rw [List.set_append_right _ _ (by omega)]
        congr 2
        omega
      rw [e5, e6] at h4
      have := SlotsOk.cons h3 h4
      simpa using this
/-- name = value -/
theorem World.assign {i : Nat} (w : World W (v :: ts) (s :: tss) σ H ρ) (hi : i < ρ.length) (hk : i ∉ W.kp) : World W ts tss (σ.set i (some v)) H (ρ.set i s) := by
  have hlen : ts.length = tss.length := by simpa using w.len
  refine w.of_sub hlen (fun j hj => ?_) fun {H0 fp} h nd => ?_
  · rw [List.getElem?_set_ne (fun e => hk (by rw [e]; exact hj))]
    exact w.keep j hj
  have h' : SlotsOk W.K W.cl H0 H (some v :: (ts.map some ++ σ)) (s :: (tss ++ ρ)) fp := by simpa using h
  cases h' with
  | cons h1 h2 =>
    rename_i g1 g2
    have e2' : (tss ++ ρ)[tss.length + i]? = some ρ[i] := by rw [List.getElem?_append_right (by omega)]; simp [hi]
    obtain ⟨ov, f2, fr, e3, pm, h3, k⟩ := h2.take e2'
    obtain ⟨fp', pm', h4⟩ := k (ov' := some v) h1
    refine ⟨fp', ?_, ?_, ?_⟩
    · refine pm'.nodup_iff.mpr ?_
      have nd2 : (g1 ++ (f2 ++ fr)).Nodup := (List.Perm.append_left g1 pm).nodup_iff.mp nd
      refine List.Nodup.sublist ?_ nd2
      exact (List.sublist_append_right f2 fr).append_left g1
    · intro a ha
      rcases List.mem_append.mp (pm'.mem_iff.mp ha) with y | y
      · exact List.mem_append_left _ y
      · exact List.mem_append_right _ (pm.mem_iff.mpr (List.mem_append_right _ y))
    · have e5 : (ts.map some ++ σ).set (tss.length + i) (some v) = ts.map some ++ σ.set i (some v) := by
        rw [List.set_append_right _ _ (by simp; omega)]
        congr 2
        simp only [List.length_map]
        omega
      have e6 : (tss ++ ρ).set (tss.length + i) s = tss ++ ρ.set i s := by
        rw [List.set_append_right _ _ (by omega)]
        congr 2
        omega
      rw [e5, e6] at h4
      exact h4
/-- what stands in one's own object can be shared from now on -/
theorem ContOk.freeze {K : Frag} {cl : ClsT} {a : Addr} {c : Cont} (hn : H0 a = none) (hc : ∀ t kvs, c ≠ .lk t kvs) (h : ContOk K cl H0 H a c) : ∃ u, H a = some u ∧ Rp K cl (upd H0 a u) (.ref a) c.view := by
  have m : ∀ u, Le H0 (upd H0 a u) := fun u => upd_le hn
  cases c with
  | lst ds => obtain ⟨vs, h1, h2⟩ := h; exact ⟨_, h1, .lst (.inl upd_same) (h2.mono (m _))⟩
  | dct t kvs => obtain ⟨u, h1, h2⟩ := h; exact ⟨_, h1, (h2.mono (m _)).rp (.inl upd_same)⟩
  | lk t kvs => exact absurd rfl (hc t kvs)
def Cont.sh : Cont → Option D
  | .lk _ _ => none
  | c => some c.view
def Fl.shared : Fl → Option D
  | .fz d => some d
  | .ow c => c.sh
def flsD : List (Str × Fl) → Option (List (Str × D))
  | [] => some []
  | (f, l) :: fs => l.shared.bind fun d => (flsD fs).map fun r => (f, d) :: r
/-- the datum of a slot that may be shared -/
def Slot.shared : Slot → Option D
  | .no => none
  | .fz d => some d
  | .ow (.lk _ _) => none
  | .ow c => some c.view
  | .oi c fs => (flsD fs).map (insD c)
theorem FlsOk.freeze {K : Frag} {cl : ClsT} (hk : Le H0 H0') : ∀ {fvs : List (Str × V)} {fs : List (Str × Fl)} {fp : List Addr} {ds : List (Str × D)}, FlsOk K cl H0 H fvs fs fp → (∀ a ∈ fp, H0' a = H a) → flsD fs = some ds →
    ds.map (·.1) = fvs.map (·.1) ∧ RpL K cl H0' (fvs.map (·.2)) (ds.map (·.2))
  | _, _, _, ds, .nil, _, h => by cases h; exact ⟨rfl, .nil⟩
  | _, _, _, ds, .cons (l := l) h t, e, hd => by
    simp only [flsD] at hd
    obtain ⟨d, h1, hd⟩ := Option.bind_eq_some_iff.mp hd
    obtain ⟨r, h2, rfl⟩ := Option.map_eq_some_iff.mp hd
    obtain ⟨a1, a2⟩ := FlsOk.freeze hk t (fun a ha => e a (List.mem_append_right _ ha)) h2
    refine ⟨by simp [a1], .cons ?_ a2⟩
    cases l with
    | fz d' => cases h1; exact h.1.mono hk
    | ow c =>
      obtain ⟨b, rfl, hc, ef⟩ := h
      have eb : H0' b = H b := e b (by rw [ef]; simp)
      cases c with
      | lst ds => cases h1; obtain ⟨vs, e1, e2⟩ := hc; exact .lst (.inl (eb.trans e1)) (e2.mono hk)
      | dct t kvs => cases h1; obtain ⟨u, e1, e2⟩ := hc; exact (e2.mono hk).rp (.inl (eb.trans e1))
      | lk t kvs => cases h1
theorem World.freeze {d : D} (w : World W (v :: ts) (s :: tss) σ H ρ) (hs : s.shared = some d) : World W (v :: ts) (.fz d :: tss) σ H ρ := by
  obtain ⟨H0, fA, hle, hA, nd, hn, _, k⟩ := World.fstep (vs := [v]) (ss := [s]) (ts := ts) (tss := tss) w rfl
  cases hA with
  | cons h1 h2 =>
    cases h2
    rename_i f1
    cases s with
    | no => cases hs
    | fz d' =>
      cases hs
      exact w
    | oi c fs =>
      obtain ⟨a, ea, hi⟩ := h1
      cases ea
      obtain ⟨ds, hds, rfl⟩ := Option.map_eq_some_iff.mp hs
      rw [List.append_nil] at hn nd
      obtain ⟨H0', hH⟩ : ∃ H0' : Hp, H0' = fun b => if b ∈ f1 then H b else H0 b := ⟨_, rfl⟩
      have h0i : ∀ b ∈ f1, H0' b = H b := fun b hb => by rw [hH]; simp [hb]
      have h0o : ∀ b, b ∉ f1 → H0' b = H0 b := fun b hb => by rw [hH]; simp [hb]
      have hsame : Same H0 H0' := fun b o e => by
        rw [h0o b (fun hb => by rw [hn b hb] at e; cases e)]; exact e
      obtain ⟨C, dx, fvs, f, i1, i2, i3, i4, i5⟩ := hi
      have hall := InsOk.all ⟨C, dx, fvs, f, i1, i2, i3, i4, i5⟩
      obtain ⟨j1, j2⟩ := i4.freeze (Le.of_same hsame) (fun b hb => h0i b (by rw [i5]; simp [hb])) hds
      have hr : Rp W.K W.cl H0' (.ref a) (insD c ds) := .ins i1 ((h0i a (by rw [i5]; simp)).trans i2) j1 j2
      refine k (vs' := [.ref a]) (ss' := [.fz (insD c ds)]) (H' := H) (H0' := H0') (fp' := []) rfl ?_ (.cons (f1 := []) (f2 := []) ⟨hr, rfl⟩ .nil) List.nodup_nil (fun a ha => nomatch ha) ⟨hsame, ?_, fun a ha => (nomatch ha), fun a h => h, fun a xs h => h, fun a o u h => h⟩
      · intro b o e
        by_cases hb : b ∈ f1
        · rw [h0i b hb] at e; exact .inl e
        · rw [h0o b hb] at e; exact hle b o e
      · intro b o e _ n hb
        refine ⟨e, ?_⟩
        rw [h0o b (by simpa using hb)]
        exact n
    | ow c =>
      obtain ⟨a, ea, hc, ef⟩ := h1
      cases ea
      subst ef
      have hna : H0 a = none := hn a (by simp)
      have hcl : ∀ t kvs, c ≠ .lk t kvs := fun t kvs e => by subst e; cases hs
      obtain ⟨u, hu, hr⟩ := hc.freeze hna hcl
      have ed : d = c.view := by cases c <;> first | exact (Option.some.inj hs).symm | cases hs
      subst ed
      refine k (vs' := [.ref a]) (ss' := [.fz c.view]) (H' := H) (H0' := upd H0 a u) (fp' := []) rfl ?_ (.cons (f1 := []) (f2 := []) ⟨hr, rfl⟩ .nil) List.nodup_nil (fun a ha => nomatch ha) ⟨?_, ?_, fun a ha => (nomatch ha), fun a h => h, fun a xs h => h, fun a o u h => h⟩
      · intro b o e
        by_cases hb : b = a
        · subst hb; rw [upd_same] at e; cases e; exact .inl hu
        · rw [upd_ne hb] at e; exact hle b o e
      · intro b o e
        rw [upd_ne (ne_of_none e hna)]
        exact e
      · intro b o e _ n hb
        refine ⟨e, ?_⟩
        rw [upd_ne (by simpa using hb)]
        exact n
/-- what is shared may be told of a slot, too -/
theorem World.dup {i : Nat} {d : D} (w : World W (v :: ts) (.fz d :: tss) σ H ρ) (e1 : σ[i]? = some (some v)) (hi : i < ρ.length) : World W (v :: ts) (.fz d :: tss) σ H (ρ.set i (.fz d)) := by
  have hlen : ts.length = tss.length := by simpa using w.len
  refine w.of_sub w.len w.keep fun {H0 fp} h nd => ?_
  have h' : SlotsOk W.K W.cl H0 H (some v :: (ts.map some ++ σ)) (.fz d :: (tss ++ ρ)) fp := by simpa using h
  cases h' with
  | cons h1 h2 =>
    rename_i g1 g2
    have e2' : (tss ++ ρ)[tss.length + i]? = some ρ[i] := by rw [List.getElem?_append_right (by omega)]; simp [hi]
    obtain ⟨ov, f2, fr, e3, pm, h3, k⟩ := h2.take e2'
    obtain ⟨h1a, h1b⟩ := id h1
    subst h1b
    obtain ⟨fp', pm', h4⟩ := k (ov' := some v) (s' := .fz d) (f2' := []) ⟨h1a, rfl⟩
    have e5 : (ts.map some ++ σ).set (tss.length + i) (some v) = ts.map some ++ σ := by
      rw [List.set_append_right _ _ (by simp; omega)]
      congr 1
      simp only [List.length_map]
      rw [show tss.length + i - ts.length = i by omega]
      obtain ⟨hi, e⟩ := List.getElem?_eq_some_iff.mp e1
      rw [← e]
      exact List.set_getElem_self hi
    have e6 : (tss ++ ρ).set (tss.length + i) (.fz d) = tss ++ ρ.set i (.fz d) := by
      rw [List.set_append_right _ _ (by omega)]
      congr 2
      omega
    rw [e5, e6] at h4
    refine ⟨[] ++ fp', ?_, ?_, ?_⟩
    · refine pm'.nodup_iff.mpr ?_
      have nd2 : (f2 ++ fr).Nodup := pm.nodup_iff.mp nd
      exact List.Nodup.sublist (List.sublist_append_right f2 fr) nd2
    · intro a ha
      exact List.mem_append_right _ (pm.mem_iff.mpr (List.mem_append_right _ (pm'.mem_iff.mp ha)))
    · have := SlotsOk.cons h1 h4
      simpa using this
/-- a temporary of which nothing is told -/
theorem World.pushNo (w : World W ts tss σ H ρ) (v : V) : World W (v :: ts) (.no :: tss) σ H ρ := by
  refine w.of_sub (by simpa using w.len) w.keep fun {H0 fp} h nd => ⟨[] ++ fp, nd, fun a h => h, ?_⟩
  have := SlotsOk.cons (K := W.K) (cl := W.cl) (H0 := H0) (H := H) (ov := some v) (s := .no) (f1 := []) rfl h
  simpa using this
end
end Dl
end
section
namespace Dl
open PySem L2

/-! ### what a piece of code comes to, over data -/
inductive Out (α : Type) where
  | ok (a : α) (ρ : DEnv)
  | er (c : Str) (d : D) (ρ : DEnv)
  | no
def Out.bind {α β : Type} (o : Out α) (f : α → DEnv → Out β) : Out β := match o with
  | .ok a ρ => f a ρ
  | .er c d ρ => .er c d ρ
  | .no => .no
@[simp] theorem Out.bind_ok {α β : Type} (a : α) (ρ : DEnv) (f : α → DEnv → Out β) : (Out.ok a ρ).bind f = f a ρ := rfl
@[simp] theorem Out.bind_er {α β : Type} (c : Str) (d : D) (ρ : DEnv) (f : α → DEnv → Out β) : (Out.er c d ρ : Out α).bind f = .er c d ρ := rfl
@[simp] theorem Out.bind_no {α β : Type} (f : α → DEnv → Out β) : (Out.no : Out α).bind f = .no := rfl
abbrev EM := DEnv → Out Slot
inductive SOut where
  | nx (ρ : DEnv)
  | rt (s : Slot) (ρ : DEnv)
  | bk (ρ : DEnv)
  | ct (ρ : DEnv)
  | er (c : Str) (d : D) (ρ : DEnv)
  | no
abbrev SM := DEnv → SOut
def Out.bindS {α : Type} (o : Out α) (f : α → DEnv → SOut) : SOut := match o with
  | .ok a ρ => f a ρ
  | .er c d ρ => .er c d ρ
  | .no => .no
@[simp] theorem Out.bindS_ok {α : Type} (a : α) (ρ : DEnv) (f : α → DEnv → SOut) : (Out.ok a ρ).bindS f = f a ρ := rfl
@[simp] theorem Out.bindS_er {α : Type} (c : Str) (d : D) (ρ : DEnv) (f : α → DEnv → SOut) : (Out.er c d ρ : Out α).bindS f = .er c d ρ := rfl
@[simp] theorem Out.bindS_no {α : Type} (f : α → DEnv → SOut) : (Out.no : Out α).bindS f = .no := rfl
def ofO {α : Type} (o : Option α) (ρ : DEnv) : Out α := match o with
  | some a => .ok a ρ
  | none => .no
@[simp] theorem ofO_some {α : Type} (a : α) (ρ : DEnv) : ofO (some a) ρ = .ok a ρ := rfl
@[simp] theorem ofO_none {α : Type} (ρ : DEnv) : ofO (none : Option α) ρ = .no := rfl
/-- an operand: a value of its own, or the name in a slot -/
inductive Kd where
  | t
  | n (i : Nat)
def sl : Kd → Slot → DEnv → Slot
  | .t, s, _ => s
  | .n i, _, ρ => ρ.getD i .no
@[simp] theorem sl_t (s : Slot) (ρ : DEnv) : sl .t s ρ = s := rfl
@[simp] theorem sl_n (i : Nat) (s : Slot) (ρ : DEnv) : sl (.n i) s ρ = ρ.getD i .no := rfl
def Slot.d? : Slot → Option D
  | .no => none
  | .fz d => some d
  | .ow c => some c.view
  | .oi _ _ => none
@[simp] theorem Slot.d_oi (c : Str) (fs : List (Str × Fl)) : (Slot.oi c fs).d? = none := rfl
@[simp] theorem Slot.sh_oi (c : Str) (fs : List (Str × Fl)) : (Slot.oi c fs).shared = (flsD fs).map (insD c) := rfl
@[simp] theorem Slot.d_fz (d : D) : (Slot.fz d).d? = some d := rfl
@[simp] theorem Slot.d_no : Slot.no.d? = none := rfl
@[simp] theorem Slot.d_ol (ds : List D) : (Slot.ow (.lst ds)).d? = some (.list ds) := rfl
@[simp] theorem Slot.d_od (t : Bool) (kvs : List (D × D)) : (Slot.ow (.dct t kvs)).d? = some (dctD t kvs) := rfl
@[simp] theorem Slot.d_lk (t : Bool) (kvs : List (D × D)) : (Slot.ow (.lk t kvs)).d? = some (dctD t kvs) := rfl
@[simp] theorem Slot.sh_fz (d : D) : (Slot.fz d).shared = some d := rfl
@[simp] theorem Slot.sh_no : Slot.no.shared = none := rfl
@[simp] theorem Slot.sh_ol (ds : List D) : (Slot.ow (.lst ds)).shared = some (.list ds) := rfl
@[simp] theorem Slot.sh_od (t : Bool) (kvs : List (D × D)) : (Slot.ow (.dct t kvs)).shared = some (dctD t kvs) := rfl
@[simp] theorem Slot.sh_lk (t : Bool) (kvs : List (D × D)) : (Slot.ow (.lk t kvs)).shared = none := rfl

/-! ### readings -/
/-- an exception that leaves: of the class c, its value d -/
def ErrW (W : Wc) (c : Str) (d : D) (ρ : DEnv) (cv : Value) (dx : Option Addr) (H : Hp) : Prop :=
  ∃ σ v x C, World W [v] [.fz d] σ H ρ ∧ W.cl c = some C ∧ cv = .ref C ∧ dx = some x ∧ H x = some (.xd [("value", v)])
def ErrTo (W : Wc) (Ew : XK) (c : Str) (d : D) (ρ : DEnv) : Prop := ∀ cv dx H, ErrW W c d ρ cv dx H → Ew cv dx H
def KdOk (σ : St) : Kd → V → Prop
  | .t, _ => True
  | .n i, v => σ[i]? = some (some v)
inductive KdsOk (σ : St) : List Kd → List V → Prop
  | nil : KdsOk σ [] []
  | cons {k : Kd} {v : V} {ks : List Kd} {vs : List V} : KdOk σ k v → KdsOk σ ks vs → KdsOk σ (k :: ks) (v :: vs)
def FinO (W : Wc) (Ew : XK) (ts : List V) (tss : List Slot) (σ : St) (k : Kd) (Q : VK) : Out Slot → Prop
  | .ok s ρ => ∀ v H, World W (v :: ts) (s :: tss) σ H ρ → KdOk σ k v → Q v H
  | .er c d ρ => ErrTo W Ew c d ρ
  | .no => False
def tO (W : Wc) (Ew : XK) (k : Kd) (f : EM) : TE := fun σ H Q => ∃ ts tss ρ, World W ts tss σ H ρ ∧ FinO W Ew ts tss σ k Q (f ρ)
def FinT (W : Wc) (Ew : XK) (ts : List V) (tss : List Slot) (σ : St) (Q : Bool → Hp → Prop) : Out Bool → Prop
  | .ok b ρ => ∀ H, World W ts tss σ H ρ → Q b H
  | .er c d ρ => ErrTo W Ew c d ρ
  | .no => False
def tT (W : Wc) (Ew : XK) (f : DEnv → Out Bool) : TT := fun σ H Q => ∃ ts tss ρ, World W ts tss σ H ρ ∧ FinT W Ew ts tss σ Q (f ρ)
def FinA (W : Wc) (Ew : XK) (ts : List V) (tss : List Slot) (σ : St) (ks : List Kd) (Q : List V → Hp → Prop) : Out (List Slot) → Prop
  | .ok ss ρ => ∀ vs H, vs.length = ss.length → World W (vs ++ ts) (ss ++ tss) σ H ρ → KdsOk σ ks vs → Q vs H
  | .er c d ρ => ErrTo W Ew c d ρ
  | .no => False
def tAr (W : Wc) (Ew : XK) (ks : List Kd) (f : DEnv → Out (List Slot)) : TA := fun σ H Q => ∃ ts tss ρ, World W ts tss σ H ρ ∧ FinA W Ew ts tss σ ks Q (f ρ)
def FinS (W : Wc) (Ew : XK) (ts : List V) (tss : List Slot) (Dn : Ends) : SOut → Prop
  | .nx ρ => ∀ σ H, World W ts tss σ H ρ → Dn.nx σ H
  | .rt s ρ => ∀ v σ H, World W (v :: ts) (s :: tss) σ H ρ → Dn.rt v H
  | .bk ρ => ∀ σ H, World W ts tss σ H ρ → Dn.bk σ H
  | .ct ρ => ∀ σ H, World W ts tss σ H ρ → Dn.ct σ H
  | .er c d ρ => ErrTo W Ew c d ρ
  | .no => False
def tS (W : Wc) (Ew : XK) (f : SM) : TS := fun Dn σ H => ∃ ts tss ρ, World W ts tss σ H ρ ∧ FinS W Ew ts tss Dn (f ρ)

section
variable {X : Cx} {W : Wc} {Ew : XK} {ts vs : List V} {tss ss : List Slot} {σ : St} {H : Hp} {ρ : DEnv} {v : V} {s : Slot} {e : Expr} {st : Stmt} {k : Kd} {f : EM} {Q Q' : VK}
theorem PE.imp {t t' : TE} (h : PE X e t) (i : ∀ σ H Q, t' σ H Q → t σ H Q) : PE X e t' := ⟨fun pins s σ H Q I q => h.run pins s σ H Q I (i σ H Q q)⟩
theorem PT.imp {t t' : TT} (h : PT X e t) (i : ∀ σ H Q, t' σ H Q → t σ H Q) : PT X e t' := ⟨fun pins s σ H Q I q => h.run pins s σ H Q I (i σ H Q q)⟩
theorem PW.imp {t t' : TT} (h : PW X e t) (i : ∀ σ H Q, t' σ H Q → t σ H Q) : PW X e t' := ⟨fun wh pins s σ H Q I q => h.run wh pins s σ H Q I (i σ H Q q)⟩
theorem PA.imp {es : List Expr} {t t' : TA} (h : PA X es t) (i : ∀ σ H Q, t' σ H Q → t σ H Q) : PA X es t' := ⟨fun pos pins s σ H Q I q => h.run pos pins s σ H Q I (i σ H Q q)⟩
theorem PS.imp {t t' : TS} (h : PS X st t) (i : ∀ Dn σ H, t' Dn σ H → t Dn σ H) : PS X st t' := ⟨fun pins s σ H Dn I q => h.run pins s σ H Dn I (i Dn σ H q)⟩
theorem PSs.imp {sts : List Stmt} {t t' : TS} (h : PSs X sts t) (i : ∀ Dn σ H, t' Dn σ H → t Dn σ H) : PSs X sts t' := ⟨fun pins s σ H Dn I q => h.run pins s σ H Dn I (i Dn σ H q)⟩

/-! ### sharing what is of one's own -/
/-- a value of its own, shared -/
def eFz (f : EM) : EM := fun ρ => (f ρ).bind fun s ρ1 => match s.shared with
  | some d => .ok (.fz d) ρ1
  | none => .no
theorem pd_fz (h : PE X e (tO W Ew .t f)) : PE X e (tO W Ew .t (eFz f)) := PE.imp h fun σ H Q ⟨ts, tss, ρ, w, q⟩ => by
  refine ⟨ts, tss, ρ, w, ?_⟩
  unfold eFz at q
  cases ef : f ρ with
  | no => rw [ef] at q; exact q
  | er c d ρ' => rw [ef] at q; exact q
  | ok s ρ' =>
    rw [ef] at q
    intro v H' w' k'
    simp only [Out.bind_ok] at q
    cases es : s.shared with
    | none => rw [es] at q; exact q.elim
    | some d =>
      rw [es] at q
      exact q v H' (w'.freeze es) k'
/-- the name in a slot, shared -/
def eX (i : Nat) : EM := fun ρ => match (ρ.getD i .no).shared with
  | some d => .ok (.fz d) (ρ.set i (.fz d))
  | none => .no
/-- the name in a slot, to be read -/
def eN (i : Nat) : EM := fun ρ => match ρ.getD i .no with
  | .no => .no
  | _ => .ok .no ρ
theorem SlotOk.some_of {K : Frag} {cl : ClsT} {H0 : Hp} {ov : Option V} {fp : List Addr} (h : SlotOk K cl H0 H ov s fp) (hs : s ≠ .no) : ∃ v, ov = some v := by
  cases s with
  | no => exact absurd rfl hs
  | fz d => cases ov with
    | none => exact h.elim
    | some v => exact ⟨v, rfl⟩
  | ow c => cases ov with
    | none => exact h.elim
    | some v => exact ⟨v, rfl⟩
  | oi c fs => cases ov with
    | none => exact h.elim
    | some v => exact ⟨v, rfl⟩
theorem World.val {i : Nat} (w : World W ts tss σ H ρ) (e : ρ[i]? = some s) (hs : s ≠ .no) : ∃ v, σ[i]? = some (some v) := by
  obtain ⟨H0, fp, _, h, _⟩ := w.ex
  obtain ⟨g1, g2, _, _, hD⟩ := SlotsOk.split (by simpa using w.len) h
  obtain ⟨ov, f1, f2, f3, e3, _, h1, _⟩ := hD.at e
  obtain ⟨v, rfl⟩ := h1.some_of hs
  exact ⟨v, e3⟩
theorem getD_some {i : Nat} (hs : ρ.getD i .no = s) (hn : s ≠ .no) : ρ[i]? = some s := by
  rw [List.getD_eq_getElem?_getD] at hs
  cases e : ρ[i]? with
  | none => rw [e] at hs; exact absurd hs.symm hn
  | some s' => rw [e] at hs; exact congrArg some hs
theorem pd_n {i : Nat} (h : PE X e (tVar i)) : PE X e (tO W Ew (.n i) (eN i)) := PE.imp h fun σ H Q ⟨ts, tss, ρ, w, q⟩ => by
  unfold eN at q
  cases es : ρ.getD i .no with
  | no => rw [es] at q; exact q.elim
  | fz d =>
    rw [es] at q
    obtain ⟨v, hv⟩ := w.val (getD_some es (by simp)) (by simp)
    exact ⟨v, hv, q v H (w.pushNo v) hv⟩
  | ow c =>
    rw [es] at q
    obtain ⟨v, hv⟩ := w.val (getD_some es (by simp)) (by simp)
    exact ⟨v, hv, q v H (w.pushNo v) hv⟩
  | oi c fs =>
    rw [es] at q
    obtain ⟨v, hv⟩ := w.val (getD_some es (by simp)) (by simp)
    exact ⟨v, hv, q v H (w.pushNo v) hv⟩
theorem pd_x {i : Nat} (h : PE X e (tVar i)) : PE X e (tO W Ew .t (eX i)) := PE.imp h fun σ H Q ⟨ts, tss, ρ, w, q⟩ => by
  unfold eX at q
  cases es : (ρ.getD i .no).shared with
  | none => rw [es] at q; exact q.elim
  | some d =>
    rw [es] at q
    have hn : ρ.getD i .no ≠ .no := fun z => by rw [z] at es; cases es
    have hi := getD_some rfl hn
    obtain ⟨v, hv⟩ := w.val hi hn
    have w1 := (w.pushNo v).xch hv hi
    have w2 := w1.freeze es
    have w3 := w2.dup (i := i) hv (by have := (List.getElem?_eq_some_iff.mp hi).1; simpa using this)
    rw [List.set_set] at w3
    exact ⟨v, hv, q v H w3 trivial⟩

/-! ### atoms -/
inductive Atom : V → D → Prop
  | non : Atom .non .none
  | bl (b : Bool) : Atom (.bl b) (.bool b)
  | int (i : Int) : Atom (.int i) (.int i)
  | str (x : Str) : Atom (.str x) (.str x)
theorem Atom.rp {K : Frag} {cl : ClsT} {d : D} (h : Atom v d) : Rp K cl H v d := by cases h <;> constructor
theorem World.push {d : D} (w : World W ts tss σ H ρ) (h : Atom v d) : World W (v :: ts) (.fz d :: tss) σ H ρ := by
  refine w.of_sub (by simpa using w.len) w.keep fun {H0 fp} hs nd => ⟨[] ++ fp, nd, fun a h => h, ?_⟩
  have := SlotsOk.cons (K := W.K) (cl := W.cl) (H0 := H0) (H := H) (ov := some v) (s := .fz d) (f1 := []) ⟨h.rp, rfl⟩ hs
  simpa using this
def eC (d : D) : EM := fun ρ => .ok (.fz d) ρ
@[simp] theorem eC_eq (d : D) (ρ : DEnv) : eC d ρ = .ok (.fz d) ρ := rfl
theorem pd_c {d : D} (h : PE X e (tC v)) (a : Atom v d) : PE X e (tO W Ew .t (eC d)) := PE.imp h fun σ H Q ⟨ts, tss, ρ, w, q⟩ => q v H (w.push a) trivial
end

/-! ### operations that only read -/
def Rdy (W : Wc) (H0 H : Hp) (v : V) (s : Slot) : Prop := ∃ fp, SlotOk W.K W.cl H0 H (some v) s fp
def Res (W : Wc) (H0 H H0' H' : Hp) (v : V) (s : Slot) : Prop :=
  ∃ fp, SlotOk W.K W.cl H0' H' (some v) s fp ∧ fp.Nodup ∧ (∀ a ∈ fp, H a = none ∧ H0' a = none) ∧ Same H0 H0' ∧ Same H H' ∧ Le H0' H' ∧ ∀ a o, H a = some o → NoTup o → H0 a = none → H0' a = none
inductive Rdys (W : Wc) (H0 H : Hp) : List V → List Slot → Prop
  | nil : Rdys W H0 H [] []
  | cons {v : V} {s : Slot} {vs : List V} {ss : List Slot} : Rdy W H0 H v s → Rdys W H0 H vs ss → Rdys W H0 H (v :: vs) (s :: ss)
section
variable {X : Cx} {W : Wc} {Ew : XK} {ts vs : List V} {tss ss : List Slot} {σ : St} {H H' H0 H0' : Hp} {ρ : DEnv} {v v1 v2 : V} {s s1 s2 : Slot} {e : Expr} {k ka kb : Kd} {f fa fb : EM} {Q Q' : VK} {d d1 d2 : D} {p : Addr}
theorem SlotsOk.rdys : ∀ {vs : List V} {ss : List Slot} {fp : List Addr}, SlotsOk W.K W.cl H0 H (vs.map some) ss fp → Rdys W H0 H vs ss
  | [], _, _, h => by cases h; exact .nil
  | v :: vs, _, _, h => by
    cases h with
    | cons h t => exact .cons ⟨_, h⟩ (SlotsOk.rdys t)
theorem Rdy.rp (hle : Le H0 H) (h : Rdy W H0 H v s) (e : s.d? = some d) : Rp W.K W.cl H v d := by
  obtain ⟨fp, h⟩ := h
  cases s with
  | no => cases e
  | oi _ _ => cases e
  | fz d' => cases e; exact h.1.mono hle
  | ow c =>
    cases e
    obtain ⟨a, rfl, hc, _⟩ := h
    cases c with
    | lst ds => obtain ⟨vs, h1, h2⟩ := hc; exact .lst (.inl h1) (h2.mono hle)
    | dct t kvs => obtain ⟨u, h1, h2⟩ := hc; exact (h2.mono hle).rp (.inl h1)
    | lk t kvs => obtain ⟨u, o, h1, h2⟩ := hc; exact (h2.mono hle).rp (.inr ⟨o, h1⟩)
theorem Rdy.lst {ds : List D} (hle : Le H0 H) (h : Rdy W H0 H v s) (e : s.d? = some (.list ds)) : ∃ a xs, v = .ref a ∧ Rd H a (.lst xs) ∧ RpL W.K W.cl H0 xs ds := by
  obtain ⟨fp, h⟩ := h
  cases s with
  | no => cases e
  | oi _ _ => cases e
  | fz d' =>
    cases e
    cases h.1 with
    | lst h1 h2 => exact ⟨_, _, rfl, hle.lst h1, h2⟩
  | ow c =>
    obtain ⟨a, rfl, hc, _⟩ := h
    cases c with
    | lst ds' => cases e; obtain ⟨vs, h1, h2⟩ := hc; exact ⟨a, vs, rfl, .inl h1, h2⟩
    | dct t kvs => cases t <;> cases e
    | lk t kvs => cases t <;> cases e
theorem Rdy.tup {ds : List D} (hle : Le H0 H) (h : Rdy W H0 H v s) (e : s.d? = some (.tuple ds)) : ∃ a xs, v = .ref a ∧ H a = some (.tup xs) ∧ RpL W.K W.cl H0 xs ds := by
  obtain ⟨fp, h⟩ := h
  cases s with
  | no => cases e
  | oi _ _ => cases e
  | fz d' =>
    cases e
    cases h.1 with
    | tup h1 h2 => exact ⟨_, _, rfl, hle.tup h1, h2⟩
  | ow c => rcases c with _ | ⟨t, _⟩ | ⟨t, _⟩ <;> first | cases e | (cases t <;> cases e)
theorem Rdy.scr {ds : List D} (hle : Le H0 H) (h : Rdy W H0 H v (.fz (scrD ds))) : ∃ a xs, v = .ref a ∧ SqL W.K H a xs ∧ RpL W.K W.cl H0 xs ds := by
  obtain ⟨fp, h, _⟩ := h
  generalize hd : scrD ds = d at h
  cases h with
  | scr h1 h2 =>
    unfold scrD at hd
    cases hd
    exact ⟨_, _, rfl, hle.seq h1, h2⟩
  | @dk a l kvs _ e _ =>
    unfold scrD dctD at hd
    cases hd
    cases l with
    | nil => simp at e
    | cons x l => obtain ⟨k, w⟩ := x; cases k <;> simp [keyD] at e
  | dt _ e _ => unfold scrD dctD at hd; cases hd
  | ins _ _ _ _ => unfold scrD insD at hd; cases hd
  | _ => cases hd
theorem Rdy.int {i : Int} (h : Rdy W H0 H v s) (e : s.d? = some (.int i)) : v = .int i := by
  obtain ⟨fp, h⟩ := h
  cases s with
  | no => cases e
  | oi _ _ => cases e
  | fz d' => cases e; cases h.1; rfl
  | ow c => rcases c with _ | ⟨t, _⟩ | ⟨t, _⟩ <;> first | cases e | (cases t <;> cases e)
theorem Rdy.bl {b : Bool} (h : Rdy W H0 H v s) (e : s.d? = some (.bool b)) : v = .bl b := by
  obtain ⟨fp, h⟩ := h
  cases s with
  | no => cases e
  | oi _ _ => cases e
  | fz d' => cases e; cases h.1; rfl
  | ow c => rcases c with _ | ⟨t, _⟩ | ⟨t, _⟩ <;> first | cases e | (cases t <;> cases e)
theorem Rdy.str {x : Str} (h : Rdy W H0 H v s) (e : s.d? = some (.str x)) : v = .str x := by
  obtain ⟨fp, h⟩ := h
  cases s with
  | no => cases e
  | oi _ _ => cases e
  | fz d' => cases e; cases h.1; rfl
  | ow c => rcases c with _ | ⟨t, _⟩ | ⟨t, _⟩ <;> first | cases e | (cases t <;> cases e)
theorem Rdy.non (h : Rdy W H0 H v s) (e : s.d? = some .none) : v = .non := by
  obtain ⟨fp, h⟩ := h
  cases s with
  | no => cases e
  | oi _ _ => cases e
  | fz d' => cases e; cases h.1; rfl
  | ow c => rcases c with _ | ⟨t, _⟩ | ⟨t, _⟩ <;> first | cases e | (cases t <;> cases e)
theorem Rp.atom_or (h : Rp W.K W.cl H v d) : Atom v d ∨ ∃ a, v = .ref a := by
  cases h with
  | non => exact .inl .non
  | bl b => exact .inl (.bl b)
  | int i => exact .inl (.int i)
  | str x => exact .inl (.str x)
  | lst _ _ => exact .inr ⟨_, rfl⟩
  | scr _ _ => exact .inr ⟨_, rfl⟩
  | tup _ _ => exact .inr ⟨_, rfl⟩
  | dk _ _ _ => exact .inr ⟨_, rfl⟩
  | dt _ _ _ => exact .inr ⟨_, rfl⟩
  | ins _ _ _ _ => exact .inr ⟨_, rfl⟩
/-! results -/
theorem Res.child (hle : Le H0 H) (h : Rp W.K W.cl H0 v d) : Res W H0 H H0 H v (.fz d) :=
  ⟨[], ⟨h, rfl⟩, List.nodup_nil, fun a h => (nomatch h), Same.refl _, Same.refl _, hle, fun _ _ _ _ h => h⟩
theorem Res.atom (hle : Le H0 H) (h : Atom v d) : Res W H0 H H0 H v (.fz d) := .child hle h.rp
theorem Res.newL {ds : List D} (hle : Le H0 H) (hp : H p = none) (h : RpL W.K W.cl H0 vs ds) : Res W H0 H H0 (upd H p (.lst vs)) (.ref p) (.ow (.lst ds)) := by
  have h0 := hle.free hp
  refine ⟨[p], ⟨p, rfl, ⟨vs, upd_same, h⟩, rfl⟩, by simp, fun a ha => ?_, Same.refl _, fun a o e => ?_, upd_le2 hle h0, fun _ _ _ _ h => h⟩
  · obtain rfl : a = p := by simpa using ha
    exact ⟨hp, h0⟩
  · rw [upd_ne (ne_of_none e hp)]; exact e
theorem Res.newT {ds : List D} (hle : Le H0 H) (hp : H p = none) (h : RpL W.K W.cl H0 vs ds) : Res W H0 H (upd H0 p (.tup vs)) (upd H p (.tup vs)) (.ref p) (.fz (.tuple ds)) := by
  have h0 := hle.free hp
  refine ⟨[], ⟨.tup upd_same (h.mono (upd_le h0)), rfl⟩, List.nodup_nil, fun a h => (nomatch h), fun a o e => ?_, fun a o e => ?_, upd_le3 hle h0, fun a o h1 _ h2 => ?_⟩
  · rw [upd_ne (ne_of_none e h0)]; exact e
  · rw [upd_ne (ne_of_none e hp)]; exact e
  · rw [upd_ne (fun z => by rw [z, hp] at h1; cases h1)]; exact h2
theorem Res.newD {l : List (Key × V)} {kvs : List (D × D)} (hle : Le H0 H) (hp : H p = none) (h1 : kvs.map (·.1) = l.map (fun e => keyD e.1)) (h : RpL W.K W.cl H0 (l.map (·.2)) (kvs.map (·.2))) : Res W H0 H H0 (upd H p (.dK l)) (.ref p) (.ow (.dct false kvs)) := by
  have h0 := hle.free hp
  refine ⟨[p], ⟨p, rfl, ⟨_, upd_same, l, rfl, h1, h⟩, rfl⟩, by simp, fun a ha => ?_, Same.refl _, fun a o e => ?_, upd_le2 hle h0, fun _ _ _ _ h => h⟩
  · obtain rfl : a = p := by simpa using ha
    exact ⟨hp, h0⟩
  · rw [upd_ne (ne_of_none e hp)]; exact e
theorem Res.newDT {l : List (List Key × V)} {kvs : List (D × D)} (hle : Le H0 H) (hp : H p = none) (h1 : kvs.map (·.1) = l.map (fun e => keysD e.1)) (h : RpL W.K W.cl H0 (l.map (·.2)) (kvs.map (·.2))) : Res W H0 H H0 (upd H p (.dT l)) (.ref p) (.ow (.dct true kvs)) := by
  have h0 := hle.free hp
  refine ⟨[p], ⟨p, rfl, ⟨_, upd_same, l, rfl, h1, h⟩, rfl⟩, by simp, fun a ha => ?_, Same.refl _, fun a o e => ?_, upd_le2 hle h0, fun _ _ _ _ h => h⟩
  · obtain rfl : a = p := by simpa using ha
    exact ⟨hp, h0⟩
  · rw [upd_ne (ne_of_none e hp)]; exact e
/-- the temporaries on top are exchanged for a result -/
theorem World.res (w : World W (vs ++ ts) (ss ++ tss) σ H ρ) (hl : vs.length = ss.length) :
    ∃ H0, Le H0 H ∧ Rdys W H0 H vs ss ∧ (∀ (i : Nat) (s : Slot) (v : V), ρ[i]? = some s → σ[i]? = some (some v) → Rdy W H0 H v s) ∧ ∀ {v : V} {s : Slot} {H' H0' : Hp}, Res W H0 H H0' H' v s → World W (v :: ts) (s :: tss) σ H' ρ := by
  obtain ⟨H0, fA, hle, hA, nd, hn, en, kf⟩ := w.fstep hl
  refine ⟨H0, hle, hA.rdys, en, fun {v s H' H0'} ⟨fp, r1, r2, r3, r4, r5, r6, r7⟩ => ?_⟩
  exact kf (vs' := [v]) (ss' := [s]) (fp' := fp) rfl r6 (by have := SlotsOk.cons r1 (SlotsOk.nil (K := W.K) (cl := W.cl) (H0 := H0') (H := H')); simpa using this) r2 (fun a ha => (r3 a ha).2)
    ⟨r4, fun a o e nt n _ => ⟨r5 a o e, r7 a o e nt n⟩, fun a ha => .inr (r3 a ha).1, fun a h => by
      cases q : H a with
      | none => exact absurd q h
      | some o => rw [r5 a o q]; simp, fun a xs h => r5 a _ h, fun a o u h => r5 a _ h⟩
theorem rdy_sl {k : Kd} (en : ∀ (i : Nat) (s : Slot) (v : V), ρ[i]? = some s → σ[i]? = some (some v) → Rdy W H0 H v s) (h : Rdy W H0 H v s) (hk : KdOk σ k v) : Rdy W H0 H v (sl k s ρ) := by
  cases k with
  | t => exact h
  | n i =>
    simp only [sl_n]
    rw [List.getD_eq_getElem?_getD]
    cases q : ρ[i]? with
    | none => exact ⟨[], rfl⟩
    | some s' => exact en i s' v q hk
theorem rdys_sl (en : ∀ (i : Nat) (s : Slot) (v : V), ρ[i]? = some s → σ[i]? = some (some v) → Rdy W H0 H v s) : ∀ {ks : List Kd} {vs : List V} {ss : List Slot}, Rdys W H0 H vs ss → KdsOk σ ks vs → Rdys W H0 H vs (List.zipWith (fun k s => sl k s ρ) ks ss)
  | _, _, _, .nil, .nil => .nil
  | _, _, _, .cons h t, .cons hk tk => .cons (rdy_sl en h hk) (rdys_sl en t tk)

def RO1 (W : Wc) (r : V → Hp → VK → Prop) (g : Slot → Option Slot) : Prop := ∀ (H0 H : Hp) (v : V) (s s' : Slot) (Q : VK), Le H0 H → Rdy W H0 H v s → g s = some s' → (∀ v' H' H0', Res W H0 H H0' H' v' s' → Q v' H') → r v H Q
def RO2 (W : Wc) (r : R2) (g : Slot → Slot → Option Slot) : Prop := ∀ (H0 H : Hp) (v1 v2 : V) (s1 s2 s' : Slot) (Q : VK), Le H0 H → Rdy W H0 H v1 s1 → Rdy W H0 H v2 s2 → g s1 s2 = some s' → (∀ v' H' H0', Res W H0 H H0' H' v' s' → Q v' H') → r v1 v2 H Q
def RON (W : Wc) (r : List V → Hp → VK → Prop) (g : List Slot → Option Slot) : Prop := ∀ (H0 H : Hp) (vs : List V) (ss : List Slot) (s' : Slot) (Q : VK), Le H0 H → Rdys W H0 H vs ss → g ss = some s' → (∀ v' H' H0', Res W H0 H H0' H' v' s' → Q v' H') → r vs H Q
/-- by data -/
def g1 (op : D → Option Slot) : Slot → Option Slot := fun s => s.d?.bind op
def g2 (op : D → D → Option Slot) : Slot → Slot → Option Slot := fun s t => s.d?.bind fun a => t.d?.bind fun b => op a b
@[simp] theorem g1_some {op : D → Option Slot} (h : s.d? = some d) : g1 op s = op d := by simp [g1, h]
theorem g1_inv {op : D → Option Slot} {s' : Slot} (h : g1 op s = some s') : ∃ d, s.d? = some d ∧ op d = some s' := by
  unfold g1 at h
  cases e : s.d? with
  | none => rw [e] at h; cases h
  | some d => rw [e] at h; exact ⟨d, rfl, h⟩
theorem g2_inv {op : D → D → Option Slot} {s' : Slot} (h : g2 op s1 s2 = some s') : ∃ a b, s1.d? = some a ∧ s2.d? = some b ∧ op a b = some s' := by
  unfold g2 at h
  cases e : s1.d? with
  | none => rw [e] at h; cases h
  | some a =>
    rw [e] at h
    cases e2 : s2.d? with
    | none => rw [e2] at h; cases h
    | some b => rw [e2] at h; exact ⟨a, b, rfl, rfl, h⟩

def e1 (ka : Kd) (fa : EM) (g : Slot → Option Slot) : EM := fun ρ => (fa ρ).bind fun s ρ1 => ofO (g (sl ka s ρ1)) ρ1
def e2 (ka kb : Kd) (fa fb : EM) (g : Slot → Slot → Option Slot) : EM := fun ρ => (fa ρ).bind fun s ρ1 => (fb ρ1).bind fun t ρ2 => ofO (g (sl ka s ρ2) (sl kb t ρ2)) ρ2
theorem ro1 {r : V → Hp → VK → Prop} {g : Slot → Option Slot} (h : RO1 W r g) : ∀ σ H Q, tO W Ew .t (e1 ka fa g) σ H Q → tUn r (tO W Ew ka fa) σ H Q := by
  rintro σ H Q ⟨ts, tss, ρ, w, q⟩
  refine ⟨ts, tss, ρ, w, ?_⟩
  unfold e1 at q
  cases ea : fa ρ with
  | no => rw [ea] at q; exact q
  | er c d ρ' => rw [ea] at q; exact q
  | ok s ρ1 =>
    rw [ea] at q
    simp only [Out.bind_ok] at q
    intro v H1 w1 k1
    cases eg : g (sl ka s ρ1) with
    | none => rw [eg] at q; exact q.elim
    | some s' =>
      rw [eg] at q
      obtain ⟨H0, hle, rd, en, kr⟩ := World.res (vs := [v]) (ss := [s]) w1 rfl
      cases rd with
      | cons rd _ => exact h H0 H1 v _ s' Q hle (rdy_sl en rd k1) eg fun v' H' H0' r => q v' H' (kr r) trivial
theorem ro2 {r : R2} {g : Slot → Slot → Option Slot} (h : RO2 W r g) : ∀ σ H Q, tO W Ew .t (e2 ka kb fa fb g) σ H Q → tOp r (tO W Ew ka fa) (tO W Ew kb fb) σ H Q := by
  rintro σ H Q ⟨ts, tss, ρ, w, q⟩
  refine ⟨ts, tss, ρ, w, ?_⟩
  unfold e2 at q
  cases ea : fa ρ with
  | no => rw [ea] at q; exact q
  | er c d ρ' => rw [ea] at q; exact q
  | ok s ρ1 =>
    rw [ea] at q
    simp only [Out.bind_ok] at q
    intro v H1 w1 k1
    refine ⟨v :: ts, s :: tss, ρ1, w1, ?_⟩
    cases eb : fb ρ1 with
    | no => rw [eb] at q; exact q
    | er c d ρ' => rw [eb] at q; exact q
    | ok t ρ2 =>
      rw [eb] at q
      simp only [Out.bind_ok] at q
      intro v2 H2 w2 k2
      cases eg : g (sl ka s ρ2) (sl kb t ρ2) with
      | none => rw [eg] at q; exact q.elim
      | some s' =>
        rw [eg] at q
        obtain ⟨H0, hle, rd, en, kr⟩ := World.res (vs := [v2, v]) (ss := [t, s]) w2 rfl
        cases rd with
        | cons r2 rd =>
          cases rd with
          | cons r1 _ => exact h H0 H2 v v2 _ _ s' Q hle (rdy_sl en r1 k1) (rdy_sl en r2 k2) eg fun v' H' H0' r => q v' H' (kr r) trivial
/-! arguments -/
def eArgs : List (Kd × EM) → DEnv → Out (List Slot)
  | [], ρ => .ok [] ρ
  | (_, f) :: r, ρ => (f ρ).bind fun s ρ1 => (eArgs r ρ1).bind fun ss ρ2 => .ok (s :: ss) ρ2
theorem pd_anil : PA X [] (tAr W Ew [] (eArgs [])) := PA.imp pa_nil fun σ H Q ⟨ts, tss, ρ, w, q⟩ => q [] H rfl w .nil
theorem pd_acons {es : List Expr} {r : List (Kd × EM)} (ha : PE X e (tO W Ew k f)) (hr : PA X es (tAr W Ew (r.map (·.1)) (eArgs r))) (hs : starEach (e :: es) X.env = (false, eval e X.env) :: starEach es X.env := by rfl) :
    PA X (e :: es) (tAr W Ew (k :: r.map (·.1)) (eArgs ((k, f) :: r))) := PA.imp (pa_cons ha hr hs) fun σ H Q ⟨ts, tss, ρ, w, q⟩ => by
  refine ⟨ts, tss, ρ, w, ?_⟩
  simp only [eArgs] at q
  cases ea : f ρ with
  | no => rw [ea] at q; exact q
  | er c d ρ' => rw [ea] at q; exact q
  | ok s ρ1 =>
    rw [ea] at q
    simp only [Out.bind_ok] at q
    intro v H1 w1 k1
    refine ⟨v :: ts, s :: tss, ρ1, w1, ?_⟩
    cases eb : eArgs r ρ1 with
    | no => rw [eb] at q; exact q
    | er c d ρ' => rw [eb] at q; exact q
    | ok ss ρ2 =>
      rw [eb] at q
      simp only [Out.bind_ok] at q
      intro vs H2 hl w2 k2
      exact q (v :: vs) H2 (by simp [hl]) (World.move w2 hl) (.cons k1 k2)
def slL (ks : List Kd) (ss : List Slot) (ρ : DEnv) : List Slot := List.zipWith (fun k s => sl k s ρ) ks ss
@[simp] theorem slL_nil (ρ : DEnv) : slL [] [] ρ = [] := rfl
@[simp] theorem slL_cons (k : Kd) (ks : List Kd) (s : Slot) (ss : List Slot) (ρ : DEnv) : slL (k :: ks) (s :: ss) ρ = sl k s ρ :: slL ks ss ρ := rfl
def eB (r : List (Kd × EM)) (g : List Slot → Option Slot) : EM := fun ρ => (eArgs r ρ).bind fun ss ρ1 => ofO (g (slL (r.map (·.1)) ss ρ1)) ρ1
theorem roN {rd : List V → Hp → VK → Prop} {g : List Slot → Option Slot} {ks : List Kd} {r : List (Kd × EM)} (hk : ks = r.map (·.1)) (h : RON W rd g) : ∀ σ H Q, tO W Ew .t (eB r g) σ H Q → tCB rd (tAr W Ew ks (eArgs r)) σ H Q := by
  subst hk
  rintro σ H Q ⟨ts, tss, ρ, w, q⟩
  refine ⟨ts, tss, ρ, w, ?_⟩
  unfold eB at q
  cases ea : eArgs r ρ with
  | no => rw [ea] at q; exact q
  | er c d ρ' => rw [ea] at q; exact q
  | ok ss ρ1 =>
    rw [ea] at q
    simp only [Out.bind_ok] at q
    intro vs H1 hl w1 k1
    cases eg : g (slL (r.map (·.1)) ss ρ1) with
    | none => rw [eg] at q; exact q.elim
    | some s' =>
      rw [eg] at q
      obtain ⟨H0, hle, rdy, en, kr⟩ := World.res w1 hl
      exact h H0 H1 vs _ s' Q hle (rdys_sl en rdy k1) eg fun v' H' H0' r => q v' H' (kr r) trivial
end
end Dl
end
section
namespace Dl
open PySem L2

/-- what is known of where the code runs -/
structure Ax (X : Cx) : Prop where
  un : X.A.units + 200 < cLine
  hd : X.A.handled = none
  gd : X.A.guards = some []
  calm : X.calm = true

mutual
/-- data without dicts, of depth n at most -/
def lay : Nat → D → Bool
  | _, .none => true
  | _, .bool _ => true
  | _, .int _ => true
  | _, .str _ => true
  | 0, .list _ => false
  | 0, .tuple _ => false
  | n + 1, .list xs => layL n xs
  | n + 1, .tuple xs => layL n xs
  | _, .dict _ => false
def layL : Nat → List D → Bool
  | _, [] => true
  | n, x :: xs => lay n x && layL n xs
end
mutual
theorem lay_plain : ∀ (n : Nat) (d : D), lay n d = true → d.plain = true
  | _, .none, _ => rfl
  | _, .bool _, _ => rfl
  | _, .int _, _ => rfl
  | _, .str _, _ => rfl
  | 0, .list _, h => by simp [lay] at h
  | 0, .tuple _, h => by simp [lay] at h
  | n + 1, .list xs, h => by simpa [PyData.plain] using layL_plain n xs (by simpa [lay] using h)
  | n + 1, .tuple xs, h => by simpa [PyData.plain] using layL_plain n xs (by simpa [lay] using h)
  | _, .dict _, h => by simp [lay] at h
theorem layL_plain : ∀ (n : Nat) (ds : List D), layL n ds = true → PyData.plainAll ds = true
  | _, [], _ => rfl
  | n, x :: xs, h => by
    have h' : lay n x = true ∧ layL n xs = true := by simpa [layL] using h
    simp [PyData.plainAll, lay_plain n x h'.1, layL_plain n xs h'.2]
end
mutual
theorem lay_depth : ∀ (n : Nat) (d : D), lay n d = true → d.depth ≤ n
  | _, .none, _ => by simp [PyData.depth]
  | _, .bool _, _ => by simp [PyData.depth]
  | _, .int _, _ => by simp [PyData.depth]
  | _, .str _, _ => by simp [PyData.depth]
  | 0, .list _, h => by simp [lay] at h
  | 0, .tuple _, h => by simp [lay] at h
  | n + 1, .list xs, h => by
    have := layL_depth n xs (by simpa [lay] using h)
    simp only [PyData.depth]; omega
  | n + 1, .tuple xs, h => by
    have := layL_depth n xs (by simpa [lay] using h)
    simp only [PyData.depth]; omega
  | _, .dict _, h => by simp [lay] at h
theorem layL_depth : ∀ (n : Nat) (ds : List D), layL n ds = true → PyData.depthAll ds ≤ n
  | _, [], _ => by simp [PyData.depthAll]
  | n, x :: xs, h => by
    have h' : lay n x = true ∧ layL n xs = true := by simpa [layL] using h
    have h1 := lay_depth n x h'.1
    have h2 := layL_depth n xs h'.2
    simp only [PyData.depthAll]
    omega
end
theorem layL_iff (n : Nat) (ds : List D) : layL n ds = true ↔ ∀ x ∈ ds, lay n x = true := by
  induction ds with
  | nil => simp [layL]
  | cons x xs ih => simp [layL, ih]

section
variable {X : Cx} {W : Wc} {Ew : XK} {pins : List (Addr × Obj)} {σ : St} {H H0 : Hp} {s : Shared} {v : V} {u : Value} {sl sl' : Slot} {d : D} {a : Addr} {xs : List V} {ds : List D}
mutual
theorem Rp.dp {K : Frag} {cl : ClsT} : ∀ {v : V} {d : D}, Rp K cl H v d → d.plain = true → Dp K H v d
  | _, _, .non, _ => .non
  | _, _, .bl b, _ => .bl b
  | _, _, .int i, _ => .int i
  | _, _, .str x, _ => .str x
  | _, _, .lst h t, e => .lst (.inl h) (RpL.dp t (by simpa [PyData.plain] using e))
  | _, _, .tup h t, e => .tup (SqT.of h) (RpL.dp t (by simpa [PyData.plain] using e))
  | _, _, .scr _ _, e => by simp [scrD, PyData.plain] at e
  | _, _, .dk _ _ _, e => by simp [dctD, PyData.plain] at e
  | _, _, .dt _ _ _, e => by simp [dctD, PyData.plain] at e
  | _, _, .ins _ _ _ _, e => by simp [insD, PyData.plain] at e
theorem RpL.dp {K : Frag} {cl : ClsT} : ∀ {vs : List V} {ds : List D}, RpL K cl H vs ds → PyData.plainAll ds = true → DpAll K H vs ds
  | _, _, .nil, _ => .nil
  | _, _, .cons r t, e => by
    rw [PyData.plainAll, Bool.and_eq_true] at e
    exact .cons (Rp.dp r e.1) (RpL.dp t e.2)
end
theorem Rdy.reads (I : Inv X pins σ H s) (hK : X.K = W.K) (hle : Le H0 H) (h : Rdy W H0 H v sl) (e : sl.d? = some d) (hp : d.plain = true) (r : RelV v u) : ∃ as, Reads s.heap u d as :=
  Dp.reads I d v u (by rw [hK]; exact (h.rp hle e).dp hp) r
theorem rd_list (I : Inv X pins σ H s) (h : Rd H a (.lst xs)) : xs.length ≤ sizeLine ∧ ∃ (its : List Value) (n : Nat), Vals xs its ∧ xs.length = its.length ∧ s.heap.get? a = some { cls := .type "list", data := .seq its.toArray n } := by
  obtain ⟨z, its, n, r, e⟩ := h.ok I.hok
  exact ⟨z, its, n, r, r.length, e⟩
theorem Rdy.tupH (hle : Le H0 H) (h : Rdy W H0 H v sl) (e : sl.d? = some (.tuple ds)) : ∃ a xs, v = .ref a ∧ H a = some (.tup xs) ∧ RpL W.K W.cl H0 xs ds ∧ Rp W.K W.cl H0 v (.tuple ds) := by
  obtain ⟨fp, h⟩ := h
  cases sl with
  | no => cases e
  | oi _ _ => cases e
  | fz d' =>
    cases e
    have h1 := h.1
    cases h1 with
    | tup h1 h2 => exact ⟨_, _, rfl, hle.tup h1, h2, .tup h1 h2⟩
  | ow c => rcases c with _ | ⟨t, _⟩ | ⟨t, _⟩ <;> first | cases e | (cases t <;> cases e)
/-- the reading that an operation of two data asks -/
def rG2 (W : Wc) (g : Slot → Slot → Option Slot) : R2 := fun x y H Q => ∃ H0 s1 s2 s', Le H0 H ∧ Rdy W H0 H x s1 ∧ Rdy W H0 H y s2 ∧ g s1 s2 = some s' ∧ ∀ v' H' H0', Res W H0 H H0' H' v' s' → Q v' H'
def rG1 (W : Wc) (g : Slot → Option Slot) : V → Hp → VK → Prop := fun x H Q => ∃ H0 s1 s', Le H0 H ∧ Rdy W H0 H x s1 ∧ g s1 = some s' ∧ ∀ v' H' H0', Res W H0 H H0' H' v' s' → Q v' H'
def rGN (W : Wc) (g : List Slot → Option Slot) : List V → Hp → VK → Prop := fun vs H Q => ∃ H0 ss s', Le H0 H ∧ Rdys W H0 H vs ss ∧ g ss = some s' ∧ ∀ v' H' H0', Res W H0 H H0' H' v' s' → Q v' H'
theorem roG2 {g : Slot → Slot → Option Slot} : RO2 W (rG2 W g) g := fun H0 H v1 v2 s1 s2 s' Q hle r1 r2 e q => ⟨H0, s1, s2, s', hle, r1, r2, e, q⟩
theorem roG1 {g : Slot → Option Slot} : RO1 W (rG1 W g) g := fun H0 H v1 s1 s' Q hle r1 e q => ⟨H0, s1, s', hle, r1, e, q⟩
theorem roGN {g : List Slot → Option Slot} : RON W (rGN W g) g := fun H0 H vs ss s' Q hle r1 e q => ⟨H0, ss, s', hle, r1, e, q⟩
/-- two data that both read -/
theorem og2_data {f : Value → Value → Sem Value} {op : D → D → Option Slot} (hK : X.K = W.K)
    (h : ∀ (pins : List (Addr × Obj)) (s : Shared) (σ : St) (H H0 : Hp) (x y : V) (v u : Value) (Q : VK) (s1 s2 s' : Slot) (a b : D), Inv X pins σ H s → RelV x v → RelV y u → Le H0 H → Rdy W H0 H x s1 → Rdy W H0 H y s2 → s1.d? = some a → s2.d? = some b → op a b = some s' →
      (∀ v' H' H0', Res W H0 H H0' H' v' s' → Q v' H') → wpAny (model X.prog X.w) X.A (f v u) (EP X pins σ Q) X.xe s) : OpR X f (rG2 W (g2 op)) := by
  rintro pins s σ H x y v u Q I rx ry ⟨H0, s1, s2, s', hle, r1, r2, hg, q⟩
  obtain ⟨a, b, e1, e2, e3⟩ := g2_inv hg
  exact h pins s σ H H0 x y v u Q s1 s2 s' a b I rx ry hle r1 r2 e1 e2 e3 q

/-! ### arithmetic -/
def addOp : D → D → Option Slot
  | .int a, .int b => some (.fz (.int (a + b)))
  | .str x, .str y => if x.length + y.length ≤ sizeLine then some (.fz (.str (x ++ y))) else none
  | .list xs, .list ys => if xs.length + ys.length ≤ sizeLine then some (.ow (.lst (xs ++ ys))) else none
  | .tuple xs, .tuple ys => if xs.length + ys.length ≤ sizeLine then some (.fz (.tuple (xs ++ ys))) else none
  | _, _ => none
theorem og_add (hK : X.K = W.K) : OpR X (binaryOp .Add) (rG2 W (g2 addOp)) := og2_data hK fun pins s σ H H0 x y v u Q s1 s2 s' a b I rx ry hle r1 r2 e1 e2 e3 q => by
  cases a <;> cases b <;> simp only [addOp] at e3 <;> first | cases e3 | skip
  case int.int i j =>
    cases r1.int e1; cases r2.int e2
    exact op_add pins s σ H _ _ v u Q I rx ry ⟨i, j, rfl, rfl, q _ _ _ (.atom hle (.int _))⟩
  case str.str i j =>
    cases r1.str e1; cases r2.str e2
    split at e3
    · cases e3
      exact op_add_str pins s σ H _ _ v u Q I rx ry ⟨i, j, rfl, rfl, by assumption, q _ _ _ (.atom hle (.str _))⟩
    · cases e3
  case list.list i j =>
    split at e3
    · rename_i hz
      cases e3
      obtain ⟨l, xs, rfl, h1, p1⟩ := r1.lst hle e1
      obtain ⟨b, ys, rfl, h2, p2⟩ := r2.lst hle e2
      cases rx
      cases ry
      obtain ⟨z, its, n, r, hl, e⟩ := rd_list I h1
      obtain ⟨z2, its2, n2, r2, hl2, e2⟩ := rd_list I h2
      have l1 := p1.length
      have l2 := p2.length
      refine PySem.P.add_list e e2 ?_ (by rw [List.size_toArray, List.size_toArray]; omega)
      have ea : its.toArray ++ its2.toArray = (its ++ its2).toArray := by simp
      rw [ea]
      exact ⟨.ref _, _, I.lnew (t' := s.toks) (r.append r2) (by rw [List.length_append]; omega), rfl, q _ _ _ (.newL hle I.fresh (p1.append p2))⟩
    · cases e3
  case tuple.tuple i j =>
    split at e3
    · rename_i hz
      cases e3
      obtain ⟨l, xs, rfl, h1, p1, f1⟩ := r1.tupH hle e1
      obtain ⟨b, ys, rfl, h2, p2, f2⟩ := r2.tupH hle e2
      have l1 := p1.length
      have l2 := p2.length
      refine op_catA pins s σ H _ _ v u Q I rx ry ⟨l, b, xs, ys, rfl, rfl, SqT.of h1, SqT.of h2, by omega, fun e => ?_, fun _ e => ?_, fun _ _ p hp => ?_⟩
      · subst e
        cases p1
        exact q _ _ _ (.child hle f2)
      · subst e
        cases p2
        exact q _ _ _ (.child hle (by rw [List.append_nil]; exact f1))
      · exact q _ _ _ (.newT hle hp (p1.append p2))
    · cases e3
/-- an operation of two ints -/
def intOp (c : Int → Int → Bool) (f : Int → Int → D) : D → D → Option Slot
  | .int a, .int b => if c a b then some (.fz (f a b)) else none
  | _, _ => none
theorem intOp_inv {c : Int → Int → Bool} {f : Int → Int → D} {a b : D} {s' : Slot} (h : intOp c f a b = some s') : ∃ i j, a = .int i ∧ b = .int j ∧ c i j = true ∧ s' = .fz (f i j) := by
  cases a <;> cases b <;> simp only [intOp] at h <;> first | cases h | skip
  rename_i i j
  split at h
  · cases h; exact ⟨i, j, rfl, rfl, by assumption, rfl⟩
  · cases h
def subOp : D → D → Option Slot := intOp (fun _ _ => true) fun a b => .int (a - b)
def mulOp : D → D → Option Slot := intOp (fun a b => decide (a.natAbs.log2 + b.natAbs.log2 < 1000000)) fun a b => .int (a * b)
def modOp : D → D → Option Slot := intOp (fun _ b => decide (0 < b)) fun a b => .int (a % b)
def fdivOp : D → D → Option Slot := intOp (fun _ b => decide (0 < b ∧ b.natAbs.log2 < 9000)) fun a b => .int (a / b)
def powOp : D → D → Option Slot := intOp (fun a b => decide (0 ≤ b ∧ (Builtin.Int.intBits a : Int) * b ≤ 2 ^ 27)) fun a b => .int (a ^ b.toNat)
theorem og_sub (hK : X.K = W.K) : OpR X (binaryOp .Sub) (rG2 W (g2 subOp)) := og2_data hK fun pins s σ H H0 x y v u Q s1 s2 s' a b I rx ry hle r1 r2 e1 e2 e3 q => by
  obtain ⟨i, j, rfl, rfl, hc, rfl⟩ := intOp_inv e3
  cases r1.int e1; cases r2.int e2
  exact op_sub pins s σ H _ _ v u Q I rx ry ⟨i, j, rfl, rfl, q _ _ _ (.atom hle (.int _))⟩
theorem og_mul (hK : X.K = W.K) : OpR X (binaryOp .Mult) (rG2 W (g2 mulOp)) := og2_data hK fun pins s σ H H0 x y v u Q s1 s2 s' a b I rx ry hle r1 r2 e1 e2 e3 q => by
  obtain ⟨i, j, rfl, rfl, hc, rfl⟩ := intOp_inv e3
  cases r1.int e1; cases r2.int e2
  exact op_mulW pins s σ H _ _ v u Q I rx ry ⟨i, j, rfl, rfl, (show i.natAbs.log2 + j.natAbs.log2 < 1000000 from of_decide_eq_true hc), q _ _ _ (.atom hle (.int _))⟩
theorem og_mod (hK : X.K = W.K) : OpR X (binaryOp .Mod) (rG2 W (g2 modOp)) := og2_data hK fun pins s σ H H0 x y v u Q s1 s2 s' a b I rx ry hle r1 r2 e1 e2 e3 q => by
  obtain ⟨i, j, rfl, rfl, hc, rfl⟩ := intOp_inv e3
  cases r1.int e1; cases r2.int e2
  exact op_mod pins s σ H _ _ v u Q I rx ry ⟨i, j, rfl, rfl, of_decide_eq_true hc, q _ _ _ (.atom hle (.int _))⟩
theorem og_fdiv (hK : X.K = W.K) : OpR X (binaryOp .FloorDiv) (rG2 W (g2 fdivOp)) := og2_data hK fun pins s σ H H0 x y v u Q s1 s2 s' a b I rx ry hle r1 r2 e1 e2 e3 q => by
  obtain ⟨i, j, rfl, rfl, hc, rfl⟩ := intOp_inv e3
  cases r1.int e1; cases r2.int e2
  exact op_fdivW pins s σ H _ _ v u Q I rx ry ⟨i, j, rfl, rfl, (show 0 < j ∧ j.natAbs.log2 < 9000 from of_decide_eq_true hc), q _ _ _ (.atom hle (.int _))⟩
theorem og_pow (hK : X.K = W.K) : OpR X (binaryOp .Pow) (rG2 W (g2 powOp)) := og2_data hK fun pins s σ H H0 x y v u Q s1 s2 s' a b I rx ry hle r1 r2 e1 e2 e3 q => by
  obtain ⟨i, j, rfl, rfl, hc, rfl⟩ := intOp_inv e3
  cases r1.int e1; cases r2.int e2
  obtain ⟨t, rfl⟩ := rx
  obtain ⟨t', rfl⟩ := ry
  obtain ⟨h1, h2⟩ := of_decide_eq_true hc
  exact PyProof.Rows.pow_int h1 h2 ⟨.int _, H, I.tok _, ⟨_, rfl⟩, q _ _ _ (.atom hle (.int _))⟩
def negOp : D → Option Slot
  | .int a => some (.fz (.int (-a)))
  | _ => none
theorem og_neg : UnR X (unaryOp .USub) (rG1 W (g1 negOp)) := by
  rintro pins s σ H x v Q I rx ⟨H0, s1, s', hle, r1, hg, q⟩
  obtain ⟨a, e1, e3⟩ := g1_inv hg
  cases a <;> simp only [negOp] at e3 <;> first | cases e3 | skip
  rename_i i
  cases r1.int e1
  exact un_neg pins s σ H _ v Q I rx ⟨i, rfl, q _ _ _ (.atom hle (.int _))⟩

/-! ### comparisons -/
def eqOp (a b : D) : Option Slot := if lay 60 a && lay 60 b then some (.fz (.bool (PyData.eqv a b))) else none
def neOp (a b : D) : Option Slot := if lay 60 a && lay 60 b then some (.fz (.bool (!PyData.eqv a b))) else none
theorem lay60 (ax : Ax X) {a b : D} (h : (lay 60 a && lay 60 b) = true) : a.plain = true ∧ b.plain = true ∧ X.A.units + min a.depth b.depth < cLine := by
  rw [Bool.and_eq_true] at h
  have h1 := lay_depth 60 a h.1
  have := ax.un
  exact ⟨lay_plain 60 a h.1, lay_plain 60 b h.2, by omega⟩
theorem og_eq (ax : Ax X) (hK : X.K = W.K) : OpR X (compareOp .Eq) (rG2 W (g2 eqOp)) := og2_data hK fun pins s σ H H0 x y v u Q s1 s2 s' a b I rx ry hle r1 r2 e1 e2 e3 q => by
  unfold eqOp at e3
  split at e3
  · rename_i hl
    cases e3
    obtain ⟨p1, p2, hu⟩ := lay60 ax hl
    obtain ⟨as, ra⟩ := r1.reads I hK hle e1 p1 rx
    obtain ⟨bs, rb⟩ := r2.reads I hK hle e2 p2 ry
    exact PySem.SeqAt.eq_plain ra rb p1 p2 hu ⟨.bl _, H, I, rfl, q _ _ _ (.atom hle (.bl _))⟩
  · cases e3
theorem og_ne (ax : Ax X) (hK : X.K = W.K) : OpR X (compareOp .NotEq) (rG2 W (g2 neOp)) := og2_data hK fun pins s σ H H0 x y v u Q s1 s2 s' a b I rx ry hle r1 r2 e1 e2 e3 q => by
  unfold neOp at e3
  split at e3
  · rename_i hl
    cases e3
    obtain ⟨p1, p2, hu⟩ := lay60 ax hl
    obtain ⟨as, ra⟩ := r1.reads I hK hle e1 p1 rx
    obtain ⟨bs, rb⟩ := r2.reads I hK hle e2 p2 ry
    exact PySem.SeqAt.ne_plain ra rb p1 p2 hu ⟨.bl _, H, I, rfl, q _ _ _ (.atom hle (.bl _))⟩
  · cases e3
/-- the two can be compared by order -/
def isNon : D → Bool
  | .none => true
  | _ => false
def ordOk (a b : D) : Bool := lay 60 a && lay 60 b && PySem.W.alike a b && !isNon a
def ordOp (f : D → D → Bool) (a b : D) : Option Slot := if ordOk a b then some (.fz (.bool (f a b))) else none
abbrev ltOp := ordOp PySem.W.dataLt
abbrev gtOp := ordOp fun a b => PySem.W.dataLt b a
abbrev leOp := ordOp fun a b => !PySem.W.dataLt b a
abbrev geOp := ordOp fun a b => !PySem.W.dataLt a b
theorem og_ord (ax : Ax X) (hK : X.K = W.K) {op : CmpOp} {f : D → D → Bool}
    (h : ∀ {A : Around} {E : Value → Shared → Prop} {s : Shared} {a b : Value} {da db : D} {as bs : List Addr} {Q : Value → Shared → Prop}, Reads s.heap a da as → Reads s.heap b db bs → PySem.W.alike da db = true → da ≠ .none → A.units + min da.depth db.depth < cLine → Q (.bool (f da db)) s →
      wpAny (model X.prog X.w) A (compareOp op a b) Q E s) : OpR X (compareOp op) (rG2 W (g2 (ordOp f))) := og2_data hK fun pins s σ H H0 x y v u Q s1 s2 s' a b I rx ry hle r1 r2 e1 e2 e3 q => by
  unfold ordOp ordOk at e3
  split at e3
  · rename_i hl
    cases e3
    rw [Bool.and_eq_true, Bool.and_eq_true] at hl
    obtain ⟨p1, p2, hu⟩ := lay60 ax hl.1.1
    obtain ⟨as, ra⟩ := r1.reads I hK hle e1 p1 rx
    obtain ⟨bs, rb⟩ := r2.reads I hK hle e2 p2 ry
    exact h ra rb hl.1.2 (fun z => by subst z; exact absurd hl.2 (by simp [isNon])) hu ⟨.bl _, H, I, rfl, q _ _ _ (.atom hle (.bl _))⟩
  · cases e3
theorem og_lt (ax : Ax X) (hK : X.K = W.K) : OpR X (compareOp .Lt) (rG2 W (g2 ltOp)) := og_ord ax hK fun ra rb h1 h2 h3 h4 => PySem.W.lt_data ra rb h1 h2 h3 h4
theorem og_gt (ax : Ax X) (hK : X.K = W.K) : OpR X (compareOp .Gt) (rG2 W (g2 gtOp)) := og_ord ax hK fun ra rb h1 h2 h3 h4 => PySem.W.gt_data ra rb h1 h2 h3 h4
theorem og_le (ax : Ax X) (hK : X.K = W.K) : OpR X (compareOp .LtE) (rG2 W (g2 leOp)) := og_ord ax hK fun ra rb h1 h2 h3 h4 => PySem.W.le_data ra rb h1 h2 h3 h4
theorem og_ge (ax : Ax X) (hK : X.K = W.K) : OpR X (compareOp .GtE) (rG2 W (g2 geOp)) := og_ord ax hK fun ra rb h1 h2 h3 h4 => PySem.W.ge_data ra rb h1 h2 h3 h4
/-- x in xs -/
def inOp (neg : Bool) (x c : D) : Option Slot := match c with
  | .list ds => if lay 60 x && layL 60 ds then some (.fz (.bool (neg != ds.any fun y => PyData.eqv y x))) else none
  | .tuple ds => if lay 60 x && layL 60 ds then some (.fz (.bool (neg != ds.any fun y => PyData.eqv y x))) else none
  | .str z => match x with
    | .str y => some (.fz (.bool (neg != !(Builtin.Str.occurrences z y 0 z.length 1).isEmpty)))
    | _ => none
  | _ => none
theorem lay60L (ax : Ax X) {a : D} {ds : List D} (h : (lay 60 a && layL 60 ds) = true) : a.plain = true ∧ PyData.plainAll ds = true ∧ X.A.units + 1 + min (PyData.depthAll ds) a.depth < cLine := by
  rw [Bool.and_eq_true] at h
  have h1 := lay_depth 60 a h.1
  have := ax.un
  exact ⟨lay_plain 60 a h.1, layL_plain 60 ds h.2, by omega⟩
theorem og_in (ax : Ax X) (hK : X.K = W.K) : OpR X (compareOp .In) (rG2 W (g2 (inOp false))) := og2_data hK fun pins s σ H H0 x y v u Q s1 s2 s' a b I rx ry hle r1 r2 e1 e2 e3 q => by
  cases b <;> simp only [inOp] at e3 <;> first | cases e3 | skip
  case str z =>
    cases a <;> simp only [] at e3 <;> first | cases e3 | skip
    cases r1.str e1; cases r2.str e2
    exact op_in_str pins s σ H _ _ v u Q I rx ry ⟨_, _, rfl, rfl, q _ _ _ (.atom hle (by simp; exact .bl _))⟩
  case list ds =>
    split at e3
    · rename_i hl
      cases e3
      obtain ⟨p1, p2, hu⟩ := lay60L ax hl
      obtain ⟨as, ra⟩ := r1.reads I hK hle e1 p1 rx
      obtain ⟨bs, rb⟩ := r2.reads I hK hle e2 (by simpa [PyData.plain] using p2) ry
      exact PySem.SeqAt.in_list_data rb ra p2 p1 hu ⟨.bl _, H, I, rfl, q _ _ _ (.atom hle (by simp; exact .bl _))⟩
    · cases e3
  case tuple ds =>
    split at e3
    · rename_i hl
      cases e3
      obtain ⟨p1, p2, hu⟩ := lay60L ax hl
      obtain ⟨as, ra⟩ := r1.reads I hK hle e1 p1 rx
      obtain ⟨bs, rb⟩ := r2.reads I hK hle e2 (by simpa [PyData.plain] using p2) ry
      exact PySem.SeqAt.in_tuple_data rb ra p2 p1 hu ⟨.bl _, H, I, rfl, q _ _ _ (.atom hle (by simp; exact .bl _))⟩
    · cases e3
theorem og_notIn (ax : Ax X) (hK : X.K = W.K) : OpR X (compareOp .NotIn) (rG2 W (g2 (inOp true))) := og2_data hK fun pins s σ H H0 x y v u Q s1 s2 s' a b I rx ry hle r1 r2 e1 e2 e3 q => by
  cases b <;> simp only [inOp] at e3 <;> first | cases e3 | skip
  case str z =>
    cases a <;> simp only [] at e3 <;> first | cases e3 | skip
    cases r1.str e1; cases r2.str e2
    exact op_notIn_str pins s σ H _ _ v u Q I rx ry ⟨_, _, rfl, rfl, q _ _ _ (.atom hle (by simp; exact .bl _))⟩
  case list ds =>
    split at e3
    · rename_i hl
      cases e3
      obtain ⟨p1, p2, hu⟩ := lay60L ax hl
      obtain ⟨as, ra⟩ := r1.reads I hK hle e1 p1 rx
      obtain ⟨bs, rb⟩ := r2.reads I hK hle e2 (by simpa [PyData.plain] using p2) ry
      exact PySem.SeqAt.notIn_list_data rb ra p2 p1 hu ⟨.bl _, H, I, rfl, q _ _ _ (.atom hle (by simp; exact .bl _))⟩
    · cases e3
  case tuple ds =>
    split at e3
    · rename_i hl
      cases e3
      obtain ⟨p1, p2, hu⟩ := lay60L ax hl
      obtain ⟨as, ra⟩ := r1.reads I hK hle e1 p1 rx
      obtain ⟨bs, rb⟩ := r2.reads I hK hle e2 (by simpa [PyData.plain] using p2) ry
      exact PySem.SeqAt.notIn_tuple_data rb ra p2 p1 hu ⟨.bl _, H, I, rfl, q _ _ _ (.atom hle (by simp; exact .bl _))⟩
    · cases e3
end
end Dl
end
section
namespace Dl
open PySem L2

/-! ### dicts -/
def flatD : D → Option Key
  | .int i => some (.inl i)
  | .str x => some (.inr x)
  | _ => none
def flatsD : List D → Option (List Key)
  | [] => some []
  | d :: ds => (flatD d).bind fun k => (flatsD ds).map fun ks => k :: ks
theorem flatD_key {d : D} {k : Key} (h : flatD d = some k) : d = keyD k := by
  cases d <;> simp only [flatD] at h <;> first | cases h | skip
  · rfl
  · rfl
theorem flatsD_keys : ∀ {ds : List D} {ks : List Key}, flatsD ds = some ks → ds = ks.map keyD
  | [], ks, h => by simp [flatsD] at h; subst h; rfl
  | d :: ds, ks, h => by
    simp only [flatsD] at h
    cases e : flatD d with
    | none => rw [e] at h; cases h
    | some k =>
      rw [e] at h
      simp only [Option.bind_some] at h
      cases e2 : flatsD ds with
      | none => rw [e2] at h; cases h
      | some ks' =>
        rw [e2] at h
        cases h
        rw [flatD_key e, flatsD_keys e2]
        rfl
/-- a key of a dict of the kind t -/
def isKey : Bool → D → Bool
  | false, d => (flatD d).isSome
  | true, .tuple ds => (flatsD ds).isSome
  | true, _ => false
/-- what a dict holds at a key -/
def dGet (kvs : List (D × D)) (k : D) : Option D := (kvs.find? fun e => PyData.eqv e.1 k).map (·.2)
theorem eqv_keyD (a b : Key) : PyData.eqv (keyD a) (keyD b) = decide (a = b) := by
  cases a with
  | inl i =>
    cases b with
    | inl j => rw [key_ll]; simp [keyD, PyData.eqv]
    | inr y => rw [key_lr]; simp [keyD, PyData.eqv]
  | inr x =>
    cases b with
    | inl j => rw [key_rl]; simp [keyD, PyData.eqv]
    | inr y => rw [key_rr]; simp only [keyD, PyData.eqv]; by_cases e : x = y <;> simp [e]
theorem eqvAll_keys : ∀ a b : List Key, PyData.eqvAll (a.map keyD) (b.map keyD) = decide (a = b)
  | [], [] => by simp [PyData.eqvAll]
  | [], _ :: _ => by simp [PyData.eqvAll]
  | _ :: _, [] => by simp [PyData.eqvAll]
  | a :: as, b :: bs => by
    simp only [List.map_cons, PyData.eqvAll, eqv_keyD, eqvAll_keys as bs, List.cons.injEq, Bool.decide_and]
theorem eqv_keysD (a b : List Key) : PyData.eqv (keysD a) (keysD b) = decide (a = b) := by
  simp only [keysD, PyData.eqv, eqvAll_keys]
section
variable {K : Frag} {cl : ClsT} {H : Hp}
theorem val_get {κ : Type} [DecidableEq κ] (enc : κ → D) (he : ∀ a b, PyData.eqv (enc a) (enc b) = decide (a = b)) : ∀ {l : List (κ × V)} {kvs : List (D × D)} (k : κ), kvs.map (·.1) = l.map (fun e => enc e.1) → RpL K cl H (l.map (·.2)) (kvs.map (·.2)) →
    (valV l k = none ∧ dGet kvs (enc k) = none) ∨ ∃ v d, valV l k = some v ∧ dGet kvs (enc k) = some d ∧ Rp K cl H v d
  | [], [], k, _, _ => .inl ⟨rfl, rfl⟩
  | [], _ :: _, _, e, _ => by simp at e
  | _ :: _, [], _, e, _ => by simp at e
  | (k0, v0) :: l, (d0, e0) :: kvs, k, e, h => by
    simp only [List.map_cons, List.cons.injEq] at e h
    obtain ⟨e1, e2⟩ := e
    subst e1
    cases h with
    | cons h1 h2 =>
      by_cases q : k0 = k
      · subst q
        refine .inr ⟨v0, e0, valV_pos rfl, ?_, h1⟩
        unfold dGet
        rw [List.find?_cons_of_pos (by rw [he]; simp)]
        rfl
      · have a : valV ((k0, v0) :: l) k = valV l k := valV_neg q
        have b : dGet ((enc k0, e0) :: kvs) (enc k) = dGet kvs (enc k) := by
          unfold dGet
          rw [List.find?_cons_of_neg (by rw [he]; simp [q])]
        rw [a, b]
        exact val_get enc he k e2 h2
theorem keys_no {l : List (Key × V)} {x : D} {r : List (D × D)} (h : (((.none, x) :: r : List (D × D))).map (·.1) = l.map (fun e => keyD e.1)) : False := by
  cases l with
  | nil => simp at h
  | cons e l => obtain ⟨k, w⟩ := e; cases k <;> simp [keyD] at h
theorem DctOk.no {u : HO} {x : D} {r : List (D × D)} (h : DctOk K cl H u false ((.none, x) :: r)) : False := by
  obtain ⟨l, _, h2, _⟩ := h
  exact keys_no h2
theorem dctD_inj {t t' : Bool} {kvs kvs' : List (D × D)} {u : HO} (e : dctD t' kvs' = dctD t kvs) (h : DctOk K cl H u t' kvs') (hn : t = false → ∀ x r, kvs ≠ (.none, x) :: r) : t' = t ∧ kvs' = kvs := by
  cases t <;> cases t' <;> simp only [dctD, PyData.dict.injEq] at e
  · exact ⟨rfl, e⟩
  · exact absurd e.symm (hn rfl _ _)
  · subst e; exact h.no.elim
  · simp only [List.cons.injEq, true_and] at e; exact ⟨rfl, e⟩
theorem Rp.dct {v : V} {t : Bool} {kvs : List (D × D)} (h : Rp K cl H v (dctD t kvs)) (hn : t = false → ∀ x r, kvs ≠ (.none, x) :: r) (hm : t = true → True) : ∃ a u, v = .ref a ∧ Rd H a u ∧ DctOk K cl H u t kvs := by
  generalize hd : dctD t kvs = d at h
  cases h with
  | @dk a l kvs' h1 h2 h3 =>
    obtain ⟨rfl, rfl⟩ := dctD_inj (K := K) (cl := cl) (H := H) (u := .dK l) hd.symm ⟨l, rfl, h2, h3⟩ hn
    exact ⟨a, _, rfl, h1, l, rfl, h2, h3⟩
  | @dt a l kvs' h1 h2 h3 =>
    obtain ⟨rfl, rfl⟩ := dctD_inj (K := K) (cl := cl) (H := H) (u := .dT l) hd.symm ⟨l, rfl, h2, h3⟩ hn
    exact ⟨a, _, rfl, h1, l, rfl, h2, h3⟩
  | ins _ _ _ _ =>
    cases t
    · simp only [dctD, insD, PyData.dict.injEq] at hd; exact absurd hd (hn rfl _ _)
    · simp [dctD, insD] at hd
  | scr _ _ =>
    cases t
    · simp only [dctD, scrD, PyData.dict.injEq] at hd; exact absurd hd (hn rfl _ _)
    · simp [dctD, scrD] at hd
  | _ => cases t <;> cases hd
theorem Rdy.dct {W : Wc} {H0 H : Hp} {v : V} {s : Slot} {kvs : List (D × D)} {t : Bool} (hle : Le H0 H) (h : Rdy W H0 H v s) (e : s.d? = some (dctD t kvs)) (hn : t = false → ∀ x r, kvs ≠ (.none, x) :: r) :
    ∃ a u, v = .ref a ∧ Rd H a u ∧ DctOk W.K W.cl H0 u t kvs := by
  obtain ⟨fp, h⟩ := h
  cases s with
  | no => cases e
  | oi _ _ => cases e
  | fz d' =>
    simp only [Slot.d_fz, Option.some.injEq] at e
    have h1 := h.1
    rw [e] at h1
    obtain ⟨a, u, h2, h3, h4⟩ := h1.dct hn fun _ => trivial
    exact ⟨a, u, h2, hle.dict h4.lkD h3, h4⟩
  | ow c =>
    obtain ⟨a, rfl, hc, _⟩ := h
    cases c with
    | lst ds => cases t <;> cases e
    | dct t' kvs' =>
      obtain ⟨u, h1, h2⟩ := hc
      obtain ⟨rfl, rfl⟩ := dctD_inj (Option.some.inj e) h2 hn
      exact ⟨a, u, rfl, .inl h1, h2⟩
    | lk t' kvs' =>
      obtain ⟨u, o, h1, h2⟩ := hc
      obtain ⟨rfl, rfl⟩ := dctD_inj (Option.some.inj e) h2 hn
      exact ⟨a, u, rfl, .inr ⟨o, h1⟩, h2⟩
end
/-- the kind of a dict's datum, its entries -/
def asDct : D → Option (Bool × List (D × D))
  | .dict [] => some (false, [])
  | .dict ((.none, .bool true) :: kvs) => some (true, kvs)
  | .dict ((.none, _) :: _) => none
  | .dict kvs => some (false, kvs)
  | _ => none
theorem asDct_inv {d : D} {t : Bool} {kvs : List (D × D)} (h : asDct d = some (t, kvs)) : d = dctD t kvs ∧ (t = false → ∀ x r, kvs ≠ (.none, x) :: r) := by
  unfold asDct at h
  split at h
  · cases h; exact ⟨rfl, fun _ x r e => by cases e⟩
  · cases h; exact ⟨rfl, fun e => by cases e⟩
  · cases h
  · rename_i kvs' h1 h2 h3
    cases h
    exact ⟨rfl, fun _ x r e => h3 x r (by rw [e])⟩
  · cases h

section
variable {X : Cx} {W : Wc} {Ew : XK} {pins : List (Addr × Obj)} {σ : St} {H H0 : Hp} {s : Shared} {v : V} {u : Value} {sl sl' : Slot} {d : D} {a : Addr} {xs : List V} {ds : List D}
theorem Rdy.scrd (hle : Le H0 H) (h : Rdy W H0 H v sl) (e : sl.d? = some (scrD ds)) : ∃ a xs, v = .ref a ∧ SqL W.K H a xs ∧ RpL W.K W.cl H0 xs ds := by
  cases sl with
  | no => cases e
  | oi _ _ => cases e
  | fz d' => cases e; exact h.scr hle
  | ow c =>
    obtain ⟨fp, h⟩ := h
    obtain ⟨a, rfl, hc, _⟩ := h
    cases c with
    | lst ds => cases e
    | dct t kvs =>
      obtain ⟨u, _, h2⟩ := hc
      cases t with
      | false => simp only [Slot.d_od, dctD, scrD, Option.some.injEq, PyData.dict.injEq] at e; subst e; exact h2.no.elim
      | true => simp [dctD, scrD] at e
    | lk t kvs =>
      obtain ⟨u, o, _, h2⟩ := hc
      cases t with
      | false => simp only [Slot.d_lk, dctD, scrD, Option.some.injEq, PyData.dict.injEq] at e; subst e; exact h2.no.elim
      | true => simp [dctD, scrD] at e
theorem RpL.atI {K : Frag} {cl : ClsT} {i : Int} (h : RpL K cl H xs ds) (e : L2.atI ds i = some d) : ∃ v, L2.atI xs i = some v ∧ Rp K cl H v d := by
  unfold L2.atI at e ⊢
  rw [h.length]
  cases q : ixN ds.length i with
  | none => rw [q] at e; cases e
  | some j =>
    rw [q] at e
    exact h.getD e
/-! ### subscripts -/
def dIx (d k : D) : Option Slot := match asDct d with
  | some (t, kvs) => if isKey t k then (dGet kvs k).map .fz else none
  | none => none
def ixOp : D → D → Option Slot
  | .list ds, .int i => (L2.atI ds i).map .fz
  | .tuple ds, .int i => (L2.atI ds i).map .fz
  | .str z, .int i => if z.length ≤ sizeLine then (L2.atI z.cps.toList i).map fun c => .fz (.str ⟨#[c]⟩) else none
  | .dict [(.none, .list ds)], .int i => (L2.atI ds i).map .fz
  | .dict kvs, k => dIx (.dict kvs) k
  | _, _ => none
/-- a dict's key that is there, or not -/
theorem dget_of {H0 : Hp} (hle : Le H0 H) {u : HO} {t : Bool} {kvs : List (D × D)} {k : D} {y : V} (hd : Rd H a u) (ho : DctOk W.K W.cl H0 u t kvs) (hk : isKey t k = true) (ry : Rp W.K W.cl H y k) :
    (DGet H a y none ∧ dGet kvs k = none) ∨ ∃ v d, DGet H a y (some v) ∧ dGet kvs k = some d ∧ Rp W.K W.cl H0 v d := by
  cases t with
  | false =>
    obtain ⟨l, rfl, h2, h3⟩ := ho
    simp only [isKey] at hk
    obtain ⟨k', e⟩ := Option.isSome_iff_exists.mp hk
    have ek := flatD_key e
    subst ek
    have ey : y = kV k' := by
      cases k' with
      | inl i => unfold keyD at ry; cases ry; rfl
      | inr x => unfold keyD at ry; cases ry; rfl
    subst ey
    rcases val_get keyD eqv_keyD k' h2 h3 with ⟨q1, q2⟩ | ⟨v, d, q1, q2, q3⟩
    · exact .inl ⟨.inl ⟨l, k', hd, rfl, q1.symm⟩, q2⟩
    · exact .inr ⟨v, d, .inl ⟨l, k', hd, rfl, q1.symm⟩, q2, q3⟩
  | true =>
    obtain ⟨l, rfl, h2, h3⟩ := ho
    cases k with
    | tuple ks =>
      simp only [isKey] at hk
      obtain ⟨k', e⟩ := Option.isSome_iff_exists.mp hk
      have ek := flatsD_keys e
      subst ek
      cases ry with
      | @tup b ys _ e1 e2 =>
        have ey : ys = k'.map kV := by
          clear e hk
          have : ∀ {ys : List V} {k' : List Key}, RpL W.K W.cl H ys (k'.map keyD) → ys = k'.map kV := by
            intro ys k'
            induction k' generalizing ys with
            | nil => intro h; cases h; rfl
            | cons k ks ih =>
              intro h
              cases h with
              | cons h1 h2 =>
                rw [List.map_cons, ← ih h2]
                congr 1
                cases k with
                | inl i => unfold keyD at h1; cases h1; rfl
                | inr x => unfold keyD at h1; cases h1; rfl
          exact this e2
        subst ey
        rcases val_get keysD eqv_keysD k' h2 h3 with ⟨q1, q2⟩ | ⟨v, d, q1, q2, q3⟩
        · exact .inl ⟨.inr ⟨l, k', b, hd, rfl, e1, q1.symm⟩, q2⟩
        · exact .inr ⟨v, d, .inr ⟨l, k', b, hd, rfl, e1, q1.symm⟩, q2, q3⟩
    | _ => simp [isKey] at hk
theorem og_ix (ax : Ax X) (hK : X.K = W.K) : IxR X (rG2 W (g2 ixOp)) := by
  rintro value slice pins s σ H x y v u Q I rx ry ⟨H0, s1, s2, s', hle, r1, r2, hg, q⟩ hs
  obtain ⟨a, b, e1, e2, e3⟩ := g2_inv hg
  unfold ixOp at e3
  split at e3
  · obtain ⟨d, e4, e5⟩ := Option.map_eq_some_iff.mp e3
    subst e5
    obtain ⟨l, xs, rfl, h1, p1⟩ := r1.lst hle e1
    obtain ⟨w, hw, rw'⟩ := p1.atI e4
    cases r2.int e2
    exact ix_list value slice pins s σ H _ _ v u Q I rx ry ⟨l, xs, _, w, rfl, rfl, .inl h1, hw, q _ _ _ (.child hle rw')⟩ hs
  · obtain ⟨d, e4, e5⟩ := Option.map_eq_some_iff.mp e3
    subst e5
    obtain ⟨l, xs, rfl, h1, p1⟩ := r1.tup hle e1
    obtain ⟨w, hw, rw'⟩ := p1.atI e4
    cases r2.int e2
    exact ix_tup value slice pins s σ H _ _ v u Q I rx ry ⟨l, xs, _, w, rfl, rfl, SqT.of h1, hw, q _ _ _ (.child hle rw')⟩ hs
  · split at e3
    · obtain ⟨d, e4, e5⟩ := Option.map_eq_some_iff.mp e3
      subst e5
      cases r1.str e1
      cases r2.int e2
      exact ix_str value slice pins s σ H _ _ v u Q I rx ry ⟨_, _, d, rfl, rfl, by assumption, e4, q _ _ _ (.atom hle (.str _))⟩ hs
    · cases e3
  · obtain ⟨d, e4, e5⟩ := Option.map_eq_some_iff.mp e3
    subst e5
    obtain ⟨l, xs, rfl, h1, p1⟩ := r1.scrd hle e1
    obtain ⟨w, hw, rw'⟩ := p1.atI e4
    cases r2.int e2
    exact ix_list value slice pins s σ H _ _ v u Q I rx ry ⟨l, xs, _, w, rfl, rfl, by rw [hK]; exact h1, hw, q _ _ _ (.child hle rw')⟩ hs
  · unfold dIx at e3
    split at e3
    · rename_i t kvs' ea
      split at e3
      · rename_i hk
        obtain ⟨d, e4, e5⟩ := Option.map_eq_some_iff.mp e3
        subst e5
        obtain ⟨ed, hn⟩ := asDct_inv ea
        rw [ed] at e1
        obtain ⟨l, uo, rfl, h1, h2⟩ := r1.dct hle e1 hn
        cases rx
        rcases dget_of hle h1 h2 hk (r2.rp hle e2) with ⟨_, z⟩ | ⟨w, d', g, z, rw'⟩
        · rw [e4] at z; cases z
        · rw [e4] at z
          cases z
          have hu : X.A.units + 1 < cLine := by have := ax.un; omega
          exact PyProof.Rows.tail_any (dict_typeIs I g) PySem.F.slot_dict_getitem.lookup (d_getItem hu I g ry fun w' s3 I3 rw2 => ⟨w, H, I3, rw2, q _ _ _ (.child hle rw')⟩) hs
      · cases e3
    · cases e3
  · cases e3
/-- k in d -/
def inOpD (neg : Bool) (x c : D) : Option Slot := match asDct c with
  | some (t, kvs) => if isKey t x then some (.fz (.bool (neg != (dGet kvs x).isSome))) else none
  | none => inOp neg x c
theorem og_inD (ax : Ax X) (hK : X.K = W.K) : OpR X (compareOp .In) (rG2 W (g2 (inOpD false))) := og2_data hK fun pins s σ H H0 x y v u Q s1 s2 s' a b I rx ry hle r1 r2 e1 e2 e3 q => by
  unfold inOpD at e3
  split at e3
  · rename_i t kvs ea
    split at e3
    · rename_i hk
      cases e3
      obtain ⟨ed, hn⟩ := asDct_inv ea
      rw [ed] at e2
      obtain ⟨l, uo, rfl, h1, h2⟩ := r2.dct hle e2 hn
      cases ry
      have hu : X.A.units + 1 < cLine := by have := ax.un; omega
      rcases dget_of hle h1 h2 hk (r1.rp hle e1) with ⟨g, z⟩ | ⟨w, d', g, z, rw'⟩
      · exact d_in hu I g rx fun s3 I3 => ⟨.bl false, H, I3, rfl, q _ _ _ (.atom hle (by rw [z]; exact .bl _))⟩
      · exact d_in hu I g rx fun s3 I3 => ⟨.bl true, H, I3, rfl, q _ _ _ (.atom hle (by rw [z]; exact .bl _))⟩
    · cases e3
  · exact og_in ax hK pins s σ H x y v u Q I rx ry ⟨H0, s1, s2, s', hle, r1, r2, by unfold g2; rw [e1, e2]; exact e3, q⟩
theorem og_notInD (ax : Ax X) (hK : X.K = W.K) : OpR X (compareOp .NotIn) (rG2 W (g2 (inOpD true))) := og2_data hK fun pins s σ H H0 x y v u Q s1 s2 s' a b I rx ry hle r1 r2 e1 e2 e3 q => by
  unfold inOpD at e3
  split at e3
  · rename_i t kvs ea
    split at e3
    · rename_i hk
      cases e3
      obtain ⟨ed, hn⟩ := asDct_inv ea
      rw [ed] at e2
      obtain ⟨l, uo, rfl, h1, h2⟩ := r2.dct hle e2 hn
      cases ry
      have hu : X.A.units + 1 < cLine := by have := ax.un; omega
      rcases dget_of hle h1 h2 hk (r1.rp hle e1) with ⟨g, z⟩ | ⟨w, d', g, z, rw'⟩
      · exact d_notIn hu I g rx fun s3 I3 => ⟨.bl true, H, I3, rfl, q _ _ _ (.atom hle (by rw [z]; exact .bl _))⟩
      · exact d_notIn hu I g rx fun s3 I3 => ⟨.bl false, H, I3, rfl, q _ _ _ (.atom hle (by rw [z]; exact .bl _))⟩
    · cases e3
  · exact og_notIn ax hK pins s σ H x y v u Q I rx ry ⟨H0, s1, s2, s', hle, r1, r2, by unfold g2; rw [e1, e2]; exact e3, q⟩

/-! ### slices -/
def cutD (ds : List D) (lo hi : Option Int) : List D := (ds.drop (HT.sIx ds.length 0 lo)).take (HT.sIx ds.length ds.length hi - HT.sIx ds.length 0 lo)
theorem RpL.cut {K : Frag} {cl : ClsT} {lo hi : Option Int} (h : RpL K cl H xs ds) : RpL K cl H (cutV xs lo hi) (cutD ds lo hi) := by
  unfold cutV cutD
  rw [h.length]
  exact (h.drop _).take _
theorem cutD_whole {lo hi : Option Int} (h : HT.sIx ds.length 0 lo = 0 ∧ HT.sIx ds.length ds.length hi = ds.length) : cutD ds lo hi = ds := by
  unfold cutD
  rw [h.1, h.2]
  simp
def slOp (lo hi : Option Int) : D → Option Slot
  | .list ds => some (.ow (.lst (cutD ds lo hi)))
  | .tuple ds => some (.fz (.tuple (cutD ds lo hi)))
  | .str z => if z.length ≤ sizeLine then some (.fz (.str (cutS z lo hi))) else none
  | .dict [(.none, .list ds)] => some (.ow (.lst (cutD ds lo hi)))
  | _ => none
def rSl (W : Wc) : V → Option Int → Option Int → Hp → VK → Prop := fun x lo hi H Q => ∃ H0 s1 s', Le H0 H ∧ Rdy W H0 H x s1 ∧ g1 (slOp lo hi) s1 = some s' ∧ ∀ v' H' H0', Res W H0 H H0' H' v' s' → Q v' H'
theorem og_sl (hK : X.K = W.K) : SlR X (rSl W) := by
  rintro pins s σ H x v vl vu lo hi sl Q I rx hs pl pu ⟨H0, s1, s', hle, r1, hg, q⟩
  obtain ⟨d, e1, e3⟩ := g1_inv hg
  unfold slOp at e3
  split at e3
  · cases e3
    obtain ⟨l, xs, rfl, h1, p1⟩ := r1.lst hle e1
    exact sl_list pins s σ H _ v vl vu lo hi sl Q I rx hs pl pu ⟨l, xs, rfl, .inl h1, fun p hp => q _ _ _ (.newL hle hp p1.cut)⟩
  · cases e3
    obtain ⟨l, xs, rfl, h1, p1, f1⟩ := r1.tupH hle e1
    refine sl_tupA pins s σ H _ v vl vu lo hi sl Q I rx hs pl pu ⟨l, xs, rfl, SqT.of h1, fun hw => ?_, fun _ p hp => q _ _ _ (.newT hle hp p1.cut)⟩
    rw [p1.length] at hw
    exact q _ _ _ (.child hle (by rw [cutD_whole hw]; exact f1))
  · split at e3
    · cases e3
      cases r1.str e1
      exact sl_str pins s σ H _ v vl vu lo hi sl Q I rx hs pl pu ⟨_, rfl, by assumption, q _ _ _ (.atom hle (.str _))⟩
    · cases e3
  · cases e3
    obtain ⟨l, xs, rfl, h1, p1⟩ := r1.scrd hle e1
    exact sl_list pins s σ H _ v vl vu lo hi sl Q I rx hs pl pu ⟨l, xs, rfl, by rw [hK]; exact h1, fun p hp => q _ _ _ (.newL hle hp p1.cut)⟩
  · cases e3
end
end Dl
end
section
namespace Dl
open PySem L2

def gN1 (op : D → Option Slot) : List Slot → Option Slot
  | [s] => s.d?.bind op
  | _ => none
def gN2 (op : D → D → Option Slot) : List Slot → Option Slot
  | [s, t] => s.d?.bind fun a => t.d?.bind fun b => op a b
  | _ => none
theorem gN1_inv {op : D → Option Slot} {ss : List Slot} {s' : Slot} (h : gN1 op ss = some s') : ∃ s d, ss = [s] ∧ s.d? = some d ∧ op d = some s' := by
  unfold gN1 at h
  split at h
  · rename_i s
    cases e : s.d? with
    | none => rw [e] at h; cases h
    | some d => rw [e] at h; exact ⟨s, d, rfl, e, h⟩
  · cases h
theorem gN2_inv {op : D → D → Option Slot} {ss : List Slot} {s' : Slot} (h : gN2 op ss = some s') : ∃ s t a b, ss = [s, t] ∧ s.d? = some a ∧ t.d? = some b ∧ op a b = some s' := by
  unfold gN2 at h
  split at h
  · rename_i s t
    cases e : s.d? with
    | none => rw [e] at h; cases h
    | some a =>
      rw [e] at h
      cases e2 : t.d? with
      | none => rw [e2] at h; cases h
      | some b => rw [e2] at h; exact ⟨s, t, a, b, rfl, e, e2, h⟩
  · cases h
section
variable {X : Cx} {W : Wc} {Ew : XK} {pins : List (Addr × Obj)} {σ : St} {H H0 : Hp} {s : Shared} {v : V} {u : Value} {sl sl' : Slot} {d : D} {a : Addr} {xs : List V} {ds : List D}
theorem Rdys.one {s : Slot} {vs : List V} (h : Rdys W H0 H vs [s]) : ∃ v, vs = [v] ∧ Rdy W H0 H v s := by
  cases h with
  | cons h t => cases t; exact ⟨_, rfl, h⟩
theorem Rdys.two {s t : Slot} {vs : List V} (h : Rdys W H0 H vs [s, t]) : ∃ v w, vs = [v, w] ∧ Rdy W H0 H v s ∧ Rdy W H0 H w t := by
  cases h with
  | cons h r => obtain ⟨w, rfl, h2⟩ := r.one; exact ⟨_, _, rfl, h, h2⟩
theorem ogN1 {f : Value} {op : D → Option Slot}
    (h : ∀ (pins : List (Addr × Obj)) (s : Shared) (σ : St) (H H0 : Hp) (x : V) (us : List Value) (Q : VK) (s1 s' : Slot) (a : D), Inv X pins σ H s → Vals [x] us → Le H0 H → Rdy W H0 H x s1 → s1.d? = some a → op a = some s' →
      (∀ v' H' H0', Res W H0 H H0' H' v' s' → Q v' H') → wpAny (model X.prog X.w) X.A (call f us) (EP X pins σ Q) X.xe s) : CallR X f (rGN W (gN1 op)) := by
  rintro pins s σ H xs us Q I r ⟨H0, ss, s', hle, rd, hg, q⟩
  obtain ⟨s1, d, rfl, e1, e2⟩ := gN1_inv hg
  obtain ⟨v, rfl, r1⟩ := rd.one
  exact h pins s σ H H0 v us Q s1 s' d I r hle r1 e1 e2 q
theorem ogN2 {f : Value} {op : D → D → Option Slot}
    (h : ∀ (pins : List (Addr × Obj)) (s : Shared) (σ : St) (H H0 : Hp) (x y : V) (us : List Value) (Q : VK) (s1 s2 s' : Slot) (a b : D), Inv X pins σ H s → Vals [x, y] us → Le H0 H → Rdy W H0 H x s1 → Rdy W H0 H y s2 → s1.d? = some a → s2.d? = some b → op a b = some s' →
      (∀ v' H' H0', Res W H0 H H0' H' v' s' → Q v' H') → wpAny (model X.prog X.w) X.A (call f us) (EP X pins σ Q) X.xe s) : CallR X f (rGN W (gN2 op)) := by
  rintro pins s σ H xs us Q I r ⟨H0, ss, s', hle, rd, hg, q⟩
  obtain ⟨s1, s2, a, b, rfl, e1, e2, e3⟩ := gN2_inv hg
  obtain ⟨v, w, rfl, r1, r2⟩ := rd.two
  exact h pins s σ H H0 v w us Q s1 s2 s' a b I r hle r1 r2 e1 e2 e3 q

/-! ### len -/
def lenOp : D → Option Slot
  | .list ds => some (.fz (.int ds.length))
  | .tuple ds => some (.fz (.int ds.length))
  | .str z => if z.length ≤ sizeLine then some (.fz (.int z.length)) else none
  | .dict [(.none, .list ds)] => some (.fz (.int ds.length))
  | .dict kvs => match asDct (.dict kvs) with
    | some (false, l) => some (.fz (.int l.length))
    | _ => none
  | _ => none
theorem og_len (hK : X.K = W.K) : CallR X (.builtin "len") (rGN W (gN1 lenOp)) := ogN1 fun pins s σ H H0 x us Q s1 s' a I r hle r1 e1 e3 q => by
  unfold lenOp at e3
  split at e3
  · cases e3
    obtain ⟨l, xs, rfl, h1, p1⟩ := r1.lst hle e1
    exact call_len_seq pins s σ H _ us Q I r ⟨l, xs, rfl, .inl (.inl h1), q _ _ _ (.atom hle (by rw [p1.length]; exact .int _))⟩
  · cases e3
    obtain ⟨l, xs, rfl, h1, p1⟩ := r1.tup hle e1
    exact call_len_seq pins s σ H _ us Q I r ⟨l, xs, rfl, .inr (SqT.of h1), q _ _ _ (.atom hle (by rw [p1.length]; exact .int _))⟩
  · split at e3
    · cases e3
      cases r1.str e1
      exact call_len_str pins s σ H _ us Q I r ⟨_, rfl, by assumption, q _ _ _ (.atom hle (.int _))⟩
    · cases e3
  · cases e3
    obtain ⟨l, xs, rfl, h1, p1⟩ := r1.scrd hle e1
    exact call_len_seq pins s σ H _ us Q I r ⟨l, xs, rfl, .inl (by rw [hK]; exact h1), q _ _ _ (.atom hle (by rw [p1.length]; exact .int _))⟩
  · split at e3
    · rename_i l ea
      cases e3
      obtain ⟨ed, hn⟩ := asDct_inv ea
      rw [ed] at e1
      obtain ⟨b, uo, rfl, h1, h2⟩ := r1.dct hle e1 hn
      obtain ⟨l', rfl, h3, h4⟩ := h2
      obtain ⟨u, rfl, rx⟩ := vals1 r
      cases rx
      have hl : l'.length = l.length := by have := congrArg List.length h3; simpa using this.symm
      exact d_len I h1 fun t s' I' => ⟨.int l'.length, H, I', ⟨_, rfl⟩, q _ _ _ (.atom hle (by rw [hl]; exact .int _))⟩
    · cases e3
  · cases e3
/-! ### list(xs), tuple(xs) -/
def listOp : D → Option Slot
  | .list ds => some (.ow (.lst ds))
  | .tuple ds => some (.ow (.lst ds))
  | _ => none
theorem og_list (hK : X.K = W.K) : CallR X (.type "list") (rGN W (gN1 listOp)) := ogN1 fun pins s σ H H0 x us Q s1 s' a I r hle r1 e1 e3 q => by
  cases a <;> simp only [listOp] at e3 <;> first | cases e3 | skip
  · obtain ⟨l, xs, rfl, h1, p1⟩ := r1.lst hle e1
    exact call_list_of pins s σ H _ us Q I r ⟨l, xs, rfl, .inl (.inl h1), fun p hp => q _ _ _ (.newL hle hp p1)⟩
  · obtain ⟨l, xs, rfl, h1, p1⟩ := r1.tup hle e1
    exact call_list_of pins s σ H _ us Q I r ⟨l, xs, rfl, .inr (SqT.of h1), fun p hp => q _ _ _ (.newL hle hp p1)⟩
def tupleOp : D → Option Slot
  | .list ds => some (.fz (.tuple ds))
  | .tuple ds => some (.fz (.tuple ds))
  | _ => none
theorem og_tuple (hK : X.K = W.K) : CallR X (.type "tuple") (rGN W (gN1 tupleOp)) := ogN1 fun pins s σ H H0 x us Q s1 s' a I r hle r1 e1 e3 q => by
  cases a <;> simp only [tupleOp] at e3 <;> first | cases e3 | skip
  · obtain ⟨l, xs, rfl, h1, p1⟩ := r1.lst hle e1
    exact call_tuple_of pins s σ H _ us Q I r ⟨l, xs, rfl, .inl ⟨.inl h1, fun p hp => q _ _ _ (.newT hle hp p1)⟩⟩
  · obtain ⟨l, xs, rfl, h1, p1, f1⟩ := r1.tupH hle e1
    exact call_tuple_of pins s σ H _ us Q I r ⟨l, xs, rfl, .inr ⟨SqT.of h1, q _ _ _ (.child hle f1)⟩⟩
/-! ### numbers -/
def absOp : D → Option Slot
  | .int i => some (.fz (.int (if i < 0 then -i else i)))
  | _ => none
theorem og_abs : CallR X (.builtin "abs") (rGN W (gN1 absOp)) := ogN1 fun pins s σ H H0 x us Q s1 s' a I r hle r1 e1 e3 q => by
  cases a <;> simp only [absOp] at e3 <;> first | cases e3 | skip
  cases r1.int e1
  exact call_abs pins s σ H _ us Q I r ⟨_, rfl, q _ _ _ (.atom hle (.int _))⟩
def intOf : D → Option Slot
  | .int i => some (.fz (.int i))
  | .bool b => some (.fz (.int (if b then 1 else 0)))
  | _ => none
theorem og_int : CallR X (.type "int") (rGN W (gN1 intOf)) := ogN1 fun pins s σ H H0 x us Q s1 s' a I r hle r1 e1 e3 q => by
  cases a <;> simp only [intOf] at e3 <;> first | cases e3 | skip
  · cases r1.bl e1
    exact call_int1 pins s σ H _ us Q I r (.inr ⟨_, rfl, q _ _ _ (.atom hle (.int _))⟩)
  · cases r1.int e1
    exact call_int1 pins s σ H _ us Q I r (.inl ⟨_, rfl, q _ _ _ (.atom hle (.int _))⟩)
def strOp : D → Option Slot
  | .int i => if i.natAbs.log2 < 1920 then some (.fz (.str (toString i))) else none
  | .str x => some (.fz (.str x))
  | _ => none
theorem og_str : CallR X (.type "str") (rGN W (gN1 strOp)) := ogN1 fun pins s σ H H0 x us Q s1 s' a I r hle r1 e1 e3 q => by
  cases a <;> simp only [strOp] at e3 <;> first | cases e3 | skip
  · split at e3
    · cases e3
      cases r1.int e1
      exact call_str_int pins s σ H _ us Q I r ⟨_, rfl, by assumption, q _ _ _ (.atom hle (.str _))⟩
    · cases e3
  · cases r1.str e1
    exact SkE.call_str_str pins s σ H _ us Q I r ⟨_, rfl, q _ _ _ (.atom hle (.str _))⟩
def max2Op : D → D → Option Slot
  | .int i, .int j => some (.fz (.int (if j > i then j else i)))
  | _, _ => none
def min2Op : D → D → Option Slot
  | .int i, .int j => some (.fz (.int (if j < i then j else i)))
  | _, _ => none
theorem og_max2 (ax : Ax X) : CallR X (.builtin "max") (rGN W (gN2 max2Op)) := ogN2 fun pins s σ H H0 x y us Q s1 s2 s' a b I r hle r1 r2 e1 e2 e3 q => by
  cases a <;> cases b <;> simp only [max2Op] at e3 <;> first | cases e3 | skip
  cases r1.int e1; cases r2.int e2
  exact call_max2 ax.calm pins s σ H _ us Q I r ⟨_, _, rfl, q _ _ _ (.atom hle (.int _))⟩
theorem og_min2 (ax : Ax X) : CallR X (.builtin "min") (rGN W (gN2 min2Op)) := ogN2 fun pins s σ H H0 x y us Q s1 s2 s' a b I r hle r1 r2 e1 e2 e3 q => by
  cases a <;> cases b <;> simp only [min2Op] at e3 <;> first | cases e3 | skip
  cases r1.int e1; cases r2.int e2
  exact call_min2 ax.calm pins s σ H _ us Q I r ⟨_, _, rfl, q _ _ _ (.atom hle (.int _))⟩
/-! ### lists of one kind -/
def asInts : List D → Option (List Int)
  | [] => some []
  | .int i :: ds => (asInts ds).map (i :: ·)
  | _ :: _ => none
theorem asInts_eq : ∀ {ds : List D} {ns : List Int}, asInts ds = some ns → ds = ns.map .int
  | [], ns, h => by simp [asInts] at h; subst h; rfl
  | d :: ds, ns, h => by
    cases d <;> simp only [asInts] at h <;> first | cases h | skip
    obtain ⟨ns', h1, rfl⟩ := Option.map_eq_some_iff.mp h
    rw [asInts_eq h1]; rfl
@[simp] theorem asInts_map (ns : List Int) : asInts (ns.map .int) = some ns := by
  induction ns with
  | nil => rfl
  | cons n ns ih => simp [asInts, ih]
def asBools : List D → Option (List Bool)
  | [] => some []
  | .bool b :: ds => (asBools ds).map (b :: ·)
  | _ :: _ => none
theorem asBools_eq : ∀ {ds : List D} {bs : List Bool}, asBools ds = some bs → ds = bs.map .bool
  | [], bs, h => by simp [asBools] at h; subst h; rfl
  | d :: ds, bs, h => by
    cases d <;> simp only [asBools] at h <;> first | cases h | skip
    obtain ⟨bs', h1, rfl⟩ := Option.map_eq_some_iff.mp h
    rw [asBools_eq h1]; rfl
@[simp] theorem asBools_map (bs : List Bool) : asBools (bs.map .bool) = some bs := by
  induction bs with
  | nil => rfl
  | cons b bs ih => simp [asBools, ih]
def asStrs : List D → Option (List Str)
  | [] => some []
  | .str b :: ds => (asStrs ds).map (b :: ·)
  | _ :: _ => none
theorem asStrs_eq : ∀ {ds : List D} {bs : List Str}, asStrs ds = some bs → ds = bs.map .str
  | [], bs, h => by simp [asStrs] at h; subst h; rfl
  | d :: ds, bs, h => by
    cases d <;> simp only [asStrs] at h <;> first | cases h | skip
    obtain ⟨bs', h1, rfl⟩ := Option.map_eq_some_iff.mp h
    rw [asStrs_eq h1]; rfl
@[simp] theorem asStrs_map (bs : List Str) : asStrs (bs.map .str) = some bs := by
  induction bs with
  | nil => rfl
  | cons b bs ih => simp [asStrs, ih]
theorem RpL.ints {K : Frag} {cl : ClsT} : ∀ {ns : List Int} {xs : List V}, RpL K cl H xs (ns.map .int) → xs = ns.map .int
  | [], _, h => by cases h; rfl
  | n :: ns, _, h => by
    cases h with
    | cons h t => cases h; rw [RpL.ints t]; rfl
theorem RpL.bools {K : Frag} {cl : ClsT} : ∀ {ns : List Bool} {xs : List V}, RpL K cl H xs (ns.map .bool) → xs = ns.map .bl
  | [], _, h => by cases h; rfl
  | n :: ns, _, h => by
    cases h with
    | cons h t => cases h; rw [RpL.bools t]; rfl
theorem RpL.strs {K : Frag} {cl : ClsT} : ∀ {ns : List Str} {xs : List V}, RpL K cl H xs (ns.map .str) → xs = ns.map .str
  | [], _, h => by cases h; rfl
  | n :: ns, _, h => by
    cases h with
    | cons h t => cases h; rw [RpL.strs t]; rfl
def sumOp : D → Option Slot
  | .list ds => (asInts ds).map fun ns => .fz (.int ns.sum)
  | _ => none
theorem og_sum (ax : Ax X) : CallR X (.builtin "sum") (rGN W (gN1 sumOp)) := ogN1 fun pins s σ H H0 x us Q s1 s' a I r hle r1 e1 e3 q => by
  cases a <;> simp only [sumOp] at e3 <;> first | cases e3 | skip
  obtain ⟨ns, h, rfl⟩ := Option.map_eq_some_iff.mp e3
  have := asInts_eq h
  subst this
  obtain ⟨l, xs, rfl, h1, p1⟩ := r1.lst hle e1
  have := p1.ints
  subst this
  exact cr_sum ax.calm pins s σ H _ us Q I r ⟨l, ns, rfl, .inl h1, q _ _ _ (.atom hle (.int _))⟩
theorem bools_plain (bs : List Bool) : PyData.plainAll (bs.map .bool) = true := by
  induction bs with
  | nil => rfl
  | cons b bs ih => simp [PyData.plainAll, PyData.plain, ih]
theorem bools_any (bs : List Bool) : (bs.map PyData.bool).any PyData.truthy = bs.any id := by
  induction bs with
  | nil => rfl
  | cons b bs ih => simp only [List.map_cons, List.any_cons, List.all_cons, ih, PyData.truthy, id]
theorem bools_all (bs : List Bool) : (bs.map PyData.bool).all PyData.truthy = bs.all id := by
  induction bs with
  | nil => rfl
  | cons b bs ih => simp only [List.map_cons, List.any_cons, List.all_cons, ih, PyData.truthy, id]
def allOp : D → Option Slot
  | .list ds => (asBools ds).map fun bs => .fz (.bool (bs.all id))
  | _ => none
def anyOp : D → Option Slot
  | .list ds => (asBools ds).map fun bs => .fz (.bool (bs.any id))
  | _ => none
theorem rd_reads (I : Inv X pins σ H s) (hle : Le H0 H) {xs : List V} {ds : List D} (h : Rd H a (.lst xs)) (p : RpL W.K W.cl H0 xs ds) (hK : X.K = W.K) (hp : PyData.plainAll ds = true) : ∃ its : List Value, s.heap.IsList a its.toArray ∧ Vals xs its ∧ ∃ as, ReadsAll s.heap its ds as := by
  obtain ⟨z, its, n, r, hl, e⟩ := rd_list I h
  obtain ⟨as, ra⟩ := Dp.readsAll I ds xs its (by rw [hK]; exact (p.mono hle).dp hp) r
  exact ⟨its, ⟨_, e, rfl, n, rfl⟩, r, as, ra⟩
theorem og_all (ax : Ax X) (hK : X.K = W.K) : CallR X (.builtin "all") (rGN W (gN1 allOp)) := ogN1 fun pins s σ H H0 x us Q s1 s' a I r hle r1 e1 e3 q => by
  cases a <;> simp only [allOp] at e3 <;> first | cases e3 | skip
  obtain ⟨bs, h, rfl⟩ := Option.map_eq_some_iff.mp e3
  have := asBools_eq h
  subst this
  obtain ⟨l, xs, rfl, h1, p1⟩ := r1.lst hle e1
  obtain ⟨its, hl, rv, as, ra⟩ := rd_reads I hle h1 p1 hK (bools_plain bs)
  obtain ⟨u, rfl, rx⟩ := vals1 r
  cases rx
  refine PySem.W.all_list_data ax.hd hl (by simpa using ra) (bools_plain bs) (fun x hx => ?_) fun h' tk hk => ⟨.bl _, H, I.kept hk, rfl, q _ _ _ (.atom hle (by rw [bools_all]; exact .bl _))⟩
  obtain ⟨b, _, rfl⟩ := List.mem_map.mp hx
  simp [PyData.fits63]
theorem og_any (ax : Ax X) (hK : X.K = W.K) : CallR X (.builtin "any") (rGN W (gN1 anyOp)) := ogN1 fun pins s σ H H0 x us Q s1 s' a I r hle r1 e1 e3 q => by
  cases a <;> simp only [anyOp] at e3 <;> first | cases e3 | skip
  obtain ⟨bs, h, rfl⟩ := Option.map_eq_some_iff.mp e3
  have := asBools_eq h
  subst this
  obtain ⟨l, xs, rfl, h1, p1⟩ := r1.lst hle e1
  obtain ⟨its, hl, rv, as, ra⟩ := rd_reads I hle h1 p1 hK (bools_plain bs)
  obtain ⟨u, rfl, rx⟩ := vals1 r
  cases rx
  refine PySem.W.any_list_data ax.hd hl (by simpa using ra) (bools_plain bs) (fun x hx => ?_) fun h' tk hk => ⟨.bl _, H, I.kept hk, rfl, q _ _ _ (.atom hle (by rw [bools_any]; exact .bl _))⟩
  obtain ⟨b, _, rfl⟩ := List.mem_map.mp hx
  simp [PyData.fits63]
/-! ### max(xs), min(xs) -/
def allAlike (ds : List D) : Bool := ds.all fun a => ds.all fun b => PySem.W.alike a b
def noNone (ds : List D) : Bool := ds.all fun a => !isNon a
def max1Op : D → Option Slot
  | .list (x :: xs) => if layL 60 (x :: xs) && allAlike (x :: xs) && noNone (x :: xs) then some (.fz (PySem.W.maxD x xs)) else none
  | _ => none
def min1Op : D → Option Slot
  | .list (x :: xs) => if layL 60 (x :: xs) && allAlike (x :: xs) && noNone (x :: xs) then some (.fz (PySem.W.minD x xs)) else none
  | _ => none

theorem alikeAll_of {ds : List D} (h : (layL 60 ds && allAlike ds && noNone ds) = true) : PySem.W.AlikeAll ds := by
  simp only [Bool.and_eq_true] at h
  obtain ⟨⟨_, h2⟩, h3⟩ := h
  refine ⟨fun x hx y hy => ?_, fun x hx => ?_⟩
  · have := List.all_eq_true.mp h2 x hx
    exact List.all_eq_true.mp this y hy
  · intro e
    have := List.all_eq_true.mp h3 x hx
    rw [e] at this
    simp [isNon] at this
end
end Dl
end
section
namespace Dl
open PySem L2

section
variable {X : Cx} {W : Wc} {Ew : XK} {ts vs : List V} {tss ss : List Slot} {σ : St} {H H' H0 H0' : Hp} {ρ : DEnv} {v v1 v2 : V} {s s1 s2 : Slot} {e : Expr} {k ka kb kc : Kd} {f fa fb fc : EM} {Q Q' : VK} {d d1 d2 : D} {p : Addr}
theorem SlotsOk.of_rdyfp (h : SlotsOk W.K W.cl H0 H (vs.map some) ss fp) : Rdys W H0 H vs ss := h.rdys
/-- the temporaries stay, a result comes on top -/
theorem World.res0 (w : World W (vs ++ ts) (ss ++ tss) σ H ρ) (hl : vs.length = ss.length) :
    ∃ H0, Le H0 H ∧ Rdys W H0 H vs ss ∧ (∀ (i : Nat) (s : Slot) (v : V), ρ[i]? = some s → σ[i]? = some (some v) → Rdy W H0 H v s) ∧ ∀ {v : V} {s : Slot} {H' H0' : Hp}, Res W H0 H H0' H' v s → World W (v :: (vs ++ ts)) (s :: (ss ++ tss)) σ H' ρ := by
  obtain ⟨H0, fA, hle, hA, nd, hn, en, kf⟩ := w.fstep hl
  refine ⟨H0, hle, hA.rdys, en, fun {v s H' H0'} ⟨fp, r1, r2, r3, r4, r5, r6, r7⟩ => ?_⟩
  have hk : ∀ a ∈ fA, H' a = H a ∧ H0' a = none := fun a ha => by
    cases q : H a with
    | none => exact absurd q (hA.has a ha)
    | some o => exact ⟨r5 a o q, r7 a o q (hA.notup a ha o q) (hn a ha)⟩
  have := kf (vs' := v :: vs) (ss' := s :: ss) (H' := H') (H0' := H0') (fp' := fp ++ fA) (by simp [hl]) r6 (by
      have := SlotsOk.cons r1 (hA.frame (Le.of_same r4) fun a ha => (hk a ha).1)
      simpa using this) (by
      rw [List.nodup_append]
      refine ⟨r2, nd, fun a ha b hb e => ?_⟩
      subst e
      exact hA.has a hb (r3 a ha).1) (fun a ha => (List.mem_append.mp ha).elim (fun z => (r3 a z).2) fun z => (hk a z).2)
    ⟨r4, fun a o e nt n _ => ⟨r5 a o e, r7 a o e nt n⟩, fun a ha => (List.mem_append.mp ha).elim (fun z => .inr (r3 a z).1) .inl, fun a h => by
      cases q : H a with
      | none => exact absurd q h
      | some o => rw [r5 a o q]; simp, fun a xs h => r5 a _ h, fun a o u h => r5 a _ h⟩
  simpa using this
theorem Res.bl {b : Bool} (h : Res W H0 H H0' H' v (.fz (.bool b))) : v = .bl b := by
  obtain ⟨fp, h1, _⟩ := h
  cases h1.1
  rfl

/-! ### tests -/
def isBl : Slot → Option Bool := fun s => match s.d? with
  | some (.bool b) => some b
  | _ => none
@[simp] theorem isBl_fz (b : Bool) : isBl (.fz (.bool b)) = some b := rfl
theorem isBl_inv {b : Bool} (h : isBl s = some b) : s = .fz (.bool b) := by
  unfold isBl at h
  cases s with
  | no => cases h
  | oi _ _ => cases h
  | fz d => cases d <;> first | (cases h; rfl) | cases h
  | ow c => rcases c with _ | ⟨t, _⟩ | ⟨t, _⟩ <;> first | cases h | (cases t <;> cases h)
/-- a value that is a bool, as a test -/
def bV (k : Kd) (f : EM) : DEnv → Out Bool := fun ρ => (f ρ).bind fun s ρ1 => ofO (isBl (sl k s ρ1)) ρ1
theorem ptV : ∀ σ H Q, tT W Ew (bV k f) σ H Q → tB (tO W Ew k f) σ H Q := by
  rintro σ H Q ⟨ts, tss, ρ, w, q⟩
  refine ⟨ts, tss, ρ, w, ?_⟩
  unfold bV at q
  cases ea : f ρ with
  | no => rw [ea] at q; exact q
  | er c d ρ' => rw [ea] at q; exact q
  | ok s ρ1 =>
    rw [ea] at q
    simp only [Out.bind_ok] at q
    intro v H1 w1 k1
    cases eb : isBl (sl k s ρ1) with
    | none => rw [eb] at q; exact q.elim
    | some b =>
      rw [eb] at q
      obtain ⟨H0, hle, rd, en, _⟩ := World.res (vs := [v]) (ss := [s]) w1 rfl
      cases rd with
      | cons rd _ =>
        have := rdy_sl en rd k1
        rw [isBl_inv eb] at this
        exact ⟨b, this.bl rfl, q H1 w1.pop⟩
theorem pt_bv (h : PE X e (tO W Ew k f)) (he : ∀ whole, isTrue e X.env whole = (do let v ← whole; standAt e.pos; holding [v] (truthy v)) := by intro _; rfl) : PT X e (tT W Ew (bV k f)) := PT.imp (pt_val h he) ptV
/-- a comparison as a test -/
theorem pt_bc {a b : Expr} {op : CmpOp} {r : R2} {g : Slot → Slot → Option Slot} {pos : Pos} (ho : OpR X (compareOp op) r) (h : RO2 W r g) (ha : PE X a (tO W Ew ka fa)) (hb : PE X b (tO W Ew kb fb)) (hm : behindInMarks op b = false := by rfl) :
    PT X (.Compare a [op] [b] pos) (tT W Ew (bV .t (e2 ka kb fa fb g))) := PT.imp (pt_cmpR ho ha hb hm) fun σ H Q q => by
  have := ptV σ H Q q
  obtain ⟨ts, tss, ρ, w, q'⟩ := this
  exact ro2 h σ H _ ⟨ts, tss, ρ, w, q'⟩
def bNot (t : DEnv → Out Bool) : DEnv → Out Bool := fun ρ => (t ρ).bind fun b ρ1 => .ok (!b) ρ1
def bAnd (t u : DEnv → Out Bool) : DEnv → Out Bool := fun ρ => (t ρ).bind fun b ρ1 => if b then u ρ1 else .ok false ρ1
def bOr (t u : DEnv → Out Bool) : DEnv → Out Bool := fun ρ => (t ρ).bind fun b ρ1 => if b then .ok true ρ1 else u ρ1
section
variable {t u : DEnv → Out Bool} {a b : Expr} {rest : List Expr} {pos : Pos}
theorem pt_bnot (h : PT X a (tT W Ew t)) : PT X (.UnaryOp .Not a pos) (tT W Ew (bNot t)) := PT.imp (pt_not h) fun σ H Q ⟨ts, tss, ρ, w, q⟩ => by
  refine ⟨ts, tss, ρ, w, ?_⟩
  unfold bNot at q
  cases ea : t ρ with
  | no => rw [ea] at q; exact q
  | er c d ρ' => rw [ea] at q; exact q
  | ok s ρ1 => rw [ea] at q; exact q
theorem fin_and {Q : Bool → Hp → Prop} (q : FinT W Ew ts tss σ Q (bAnd t u ρ)) : FinT W Ew ts tss σ (fun c H1 => if c = true then tT W Ew u σ H1 Q else Q false H1) (t ρ) := by
  unfold bAnd at q
  cases ea : t ρ with
  | no => rw [ea] at q; exact q
  | er c d ρ' => rw [ea] at q; exact q
  | ok c ρ1 =>
    rw [ea] at q
    intro H1 w1
    cases c with
    | true => exact ⟨ts, tss, ρ1, w1, q⟩
    | false => exact q H1 w1
theorem fin_or {Q : Bool → Hp → Prop} (q : FinT W Ew ts tss σ Q (bOr t u ρ)) : FinT W Ew ts tss σ (fun c H1 => if c = true then Q true H1 else tT W Ew u σ H1 Q) (t ρ) := by
  unfold bOr at q
  cases ea : t ρ with
  | no => rw [ea] at q; exact q
  | er c d ρ' => rw [ea] at q; exact q
  | ok c ρ1 =>
    rw [ea] at q
    intro H1 w1
    cases c with
    | false => exact ⟨ts, tss, ρ1, w1, q⟩
    | true => exact q H1 w1
theorem pw_band (h : PT X a (tT W Ew t)) (hr : PW X (.BoolOp .And (b :: rest) pos) (tT W Ew u)) : PW X (.BoolOp .And (a :: b :: rest) pos) (tT W Ew (bAnd t u)) :=
  PW.imp (pw_and h hr) fun σ H Q ⟨ts, tss, ρ, w, q⟩ => ⟨ts, tss, ρ, w, fin_and q⟩
theorem pw_bor (h : PT X a (tT W Ew t)) (hr : PW X (.BoolOp .Or (b :: rest) pos) (tT W Ew u)) : PW X (.BoolOp .Or (a :: b :: rest) pos) (tT W Ew (bOr t u)) :=
  PW.imp (pw_or h hr) fun σ H Q ⟨ts, tss, ρ, w, q⟩ => ⟨ts, tss, ρ, w, fin_or q⟩
end

/-! ### bools as values -/
def eNot (k : Kd) (f : EM) : EM := fun ρ => (bV k f ρ).bind fun b ρ1 => .ok (.fz (.bool (!b))) ρ1
def eAnd (k : Kd) (f g : EM) : EM := fun ρ => (bV k f ρ).bind fun b ρ1 => if b then g ρ1 else .ok (.fz (.bool false)) ρ1
def eOr (k : Kd) (f g : EM) : EM := fun ρ => (bV k f ρ).bind fun b ρ1 => if b then .ok (.fz (.bool true)) ρ1 else g ρ1
section
variable {g : EM} {a b : Expr} {rest : List Expr} {pos : Pos}
theorem fin_bv {P : Bool → DEnv → Out Slot} {kr : Kd} {R : V → Hp → Prop} (q : FinO W Ew ts tss σ kr Q ((bV k f ρ).bind P))
    (h : ∀ b ρ1, FinO W Ew ts tss σ kr Q (P b ρ1) → ∀ H, World W ts tss σ H ρ1 → R (.bl b) H) : FinO W Ew ts tss σ k R (f ρ) := by
  unfold bV at q
  cases ea : f ρ with
  | no => rw [ea] at q; exact q
  | er c d ρ' => rw [ea] at q; exact q
  | ok s ρ1 =>
    rw [ea] at q
    simp only [Out.bind_ok] at q
    intro v H1 w1 k1
    cases eb : isBl (sl k s ρ1) with
    | none => rw [eb] at q; exact q.elim
    | some b =>
      rw [eb] at q
      obtain ⟨H0, hle, rd, en, _⟩ := World.res (vs := [v]) (ss := [s]) w1 rfl
      cases rd with
      | cons rd _ =>
        have := rdy_sl en rd k1
        rw [isBl_inv eb] at this
        rw [this.bl rfl]
        exact h b ρ1 q H1 w1.pop
theorem pd_not (h : PE X a (tO W Ew k f)) : PE X (.UnaryOp .Not a pos) (tO W Ew .t (eNot k f)) := PE.imp (pe_not h) fun σ H Q ⟨ts, tss, ρ, w, q⟩ => by
  refine ⟨ts, tss, ρ, w, ?_⟩
  unfold eNot at q
  exact fin_bv q fun b ρ1 q H w => ⟨b, rfl, q _ _ (w.push (.bl _)) trivial⟩
theorem pd_and (h : PE X a (tO W Ew k f)) (hr : PE X (.BoolOp .And (b :: rest) pos) (tO W Ew .t g)) : PE X (.BoolOp .And (a :: b :: rest) pos) (tO W Ew .t (eAnd k f g)) := PE.imp (pe_and h hr) fun σ H Q ⟨ts, tss, ρ, w, q⟩ => by
  refine ⟨ts, tss, ρ, w, ?_⟩
  unfold eAnd at q
  exact fin_bv q fun b ρ1 q H w => ⟨b, rfl, by
    cases b with
    | true => exact ⟨ts, tss, ρ1, w, q⟩
    | false => exact q _ _ (w.push (.bl _)) trivial⟩
theorem pd_or (h : PE X a (tO W Ew k f)) (hr : PE X (.BoolOp .Or (b :: rest) pos) (tO W Ew .t g)) : PE X (.BoolOp .Or (a :: b :: rest) pos) (tO W Ew .t (eOr k f g)) := PE.imp (pe_or h hr) fun σ H Q ⟨ts, tss, ρ, w, q⟩ => by
  refine ⟨ts, tss, ρ, w, ?_⟩
  unfold eOr at q
  exact fin_bv q fun b ρ1 q H w => ⟨b, rfl, by
    cases b with
    | false => exact ⟨ts, tss, ρ1, w, q⟩
    | true => exact q _ _ (w.push (.bl _)) trivial⟩
def eIf (t : DEnv → Out Bool) (f g : EM) : EM := fun ρ => (t ρ).bind fun b ρ1 => if b then f ρ1 else g ρ1
theorem pd_ifx {c : Expr} {t : DEnv → Out Bool} (hc : PT X c (tT W Ew t)) (ha : PE X a (tO W Ew k f)) (hb : PE X b (tO W Ew k g)) : PE X (.IfExp c a b pos) (tO W Ew k (eIf t f g)) := PE.imp (pe_ifExp hc ha hb) fun σ H Q ⟨ts, tss, ρ, w, q⟩ => by
  refine ⟨ts, tss, ρ, w, ?_⟩
  unfold eIf at q
  cases ea : t ρ with
  | no => rw [ea] at q; exact q
  | er c d ρ' => rw [ea] at q; exact q
  | ok c ρ1 =>
    rw [ea] at q
    intro H1 w1
    cases c with
    | true => exact ⟨ts, tss, ρ1, w1, q⟩
    | false => exact ⟨ts, tss, ρ1, w1, q⟩
end
/-! ### chains of comparisons -/
def eCh (ka kb kc : Kd) (fa fb fc : EM) (g g' : Slot → Slot → Option Slot) : EM := fun ρ =>
  (fa ρ).bind fun s ρ1 => (fb ρ1).bind fun t ρ2 => (ofO ((g (sl ka s ρ2) (sl kb t ρ2)).bind isBl) ρ2).bind fun b _ =>
    if b then (fc ρ2).bind fun u ρ3 => ofO (g' (sl kb t ρ3) (sl kc u ρ3)) ρ3 else .ok (.fz (.bool false)) ρ2
theorem chO {r r' : R2} {g g' : Slot → Slot → Option Slot} (h : RO2 W r g) (h' : RO2 W r' g') : ∀ σ H Q, tO W Ew .t (eCh ka kb kc fa fb fc g g') σ H Q → tChain r r' (tO W Ew ka fa) (tO W Ew kb fb) (tO W Ew kc fc) σ H Q := by
  rintro σ H Q ⟨ts, tss, ρ, w, q⟩
  refine ⟨ts, tss, ρ, w, ?_⟩
  unfold eCh at q
  cases ea : fa ρ with
  | no => rw [ea] at q; exact q
  | er c d ρ' => rw [ea] at q; exact q
  | ok s ρ1 =>
    rw [ea] at q
    simp only [Out.bind_ok] at q
    intro v H1 w1 k1
    refine ⟨v :: ts, s :: tss, ρ1, w1, ?_⟩
    cases eb : fb ρ1 with
    | no => rw [eb] at q; exact q
    | er c d ρ' => rw [eb] at q; exact q
    | ok t ρ2 =>
      rw [eb] at q
      simp only [Out.bind_ok] at q
      intro v2 H2 w2 k2
      cases eg : g (sl ka s ρ2) (sl kb t ρ2) with
      | none => rw [eg] at q; exact q.elim
      | some s' =>
        rw [eg] at q
        simp only [Option.bind_some] at q
        cases ei : isBl s' with
        | none => rw [ei] at q; exact q.elim
        | some b =>
          rw [ei] at q
          simp only [ofO_some, Out.bind_ok] at q
          cases isBl_inv ei
          obtain ⟨H0, hle, rd, en, kr⟩ := World.res0 (vs := [v2, v]) (ss := [t, s]) (ts := ts) (tss := tss) w2 rfl
          cases rd with
          | cons r2 rd =>
            cases rd with
            | cons r1 _ =>
              refine h H0 H2 v v2 _ _ _ _ hle (rdy_sl en r1 k1) (rdy_sl en r2 k2) eg fun v' H' H0' r => ⟨b, r.bl, ?_⟩
              have w3 := (kr r).pop
              cases b with
              | false => exact q _ _ (((show World W (v2 :: v :: ts) (t :: s :: tss) σ H' ρ2 from w3).pop.pop).push (.bl _)) trivial
              | true =>
                refine ⟨v2 :: v :: ts, t :: s :: tss, ρ2, w3, ?_⟩
                simp only [if_true] at q
                cases ec : fc ρ2 with
                | no => rw [ec] at q; exact q
                | er c d ρ' => rw [ec] at q; exact q
                | ok u ρ3 =>
                  rw [ec] at q
                  simp only [Out.bind_ok] at q
                  intro v3 H3 w4 k3
                  cases eg' : g' (sl kb t ρ3) (sl kc u ρ3) with
                  | none => rw [eg'] at q; exact q.elim
                  | some s'' =>
                    rw [eg'] at q
                    obtain ⟨H0, hle, rd, en, kr⟩ := World.res (vs := [v3, v2, v]) (ss := [u, t, s]) (ts := ts) (tss := tss) w4 rfl
                    cases rd with
                    | cons r3 rd =>
                      cases rd with
                      | cons r2 _ => exact h' H0 H3 v2 v3 _ _ _ Q hle (rdy_sl en r2 k2) (rdy_sl en r3 k3) eg' fun v' H' H0' r => q v' H' (kr r) trivial
section
variable {a b c : Expr} {op op' : CmpOp} {r r' : R2} {g g' : Slot → Slot → Option Slot} {pos : Pos}
theorem pd_ch (ho : OpR X (compareOp op) r) (h : RO2 W r g) (ho' : OpR X (compareOp op') r') (h' : RO2 W r' g') (ha : PE X a (tO W Ew ka fa)) (hb : PE X b (tO W Ew kb fb)) (hc : PE X c (tO W Ew kc fc)) (hm : lastMarks [op, op'] [b, c] = false := by with_unfolding_all rfl) :
    PE X (.Compare a [op, op'] [b, c] pos) (tO W Ew .t (eCh ka kb kc fa fb fc g g')) := PE.imp (pe_chain ho ho' ha hb hc hm) (chO h h')
theorem pt_ch (ho : OpR X (compareOp op) r) (h : RO2 W r g) (ho' : OpR X (compareOp op') r') (h' : RO2 W r' g') (ha : PE X a (tO W Ew ka fa)) (hb : PE X b (tO W Ew kb fb)) (hc : PE X c (tO W Ew kc fc)) (hm : lastMarks [op, op'] [b, c] = false := by with_unfolding_all rfl) :
    PT X (.Compare a [op, op'] [b, c] pos) (tT W Ew (bV .t (eCh ka kb kc fa fb fc g g'))) := PT.imp (pt_chain ho ho' ha hb hc hm) fun σ H Q q => chO h h' σ H _ (ptV σ H Q q)
end
/-! ### displays -/
def allFz : List Slot → Option (List D)
  | [] => some []
  | .fz d :: ss => (allFz ss).map (d :: ·)
  | _ :: _ => none
@[simp] theorem allFz_nil : allFz [] = some [] := rfl
@[simp] theorem allFz_cons (d : D) (ss : List Slot) : allFz (.fz d :: ss) = (allFz ss).map (d :: ·) := rfl
theorem Rdys.frozen : ∀ {vs : List V} {ss : List Slot} {ds : List D}, Rdys W H0 H vs ss → allFz ss = some ds → RpL W.K W.cl H0 vs ds ∧ vs.length = ss.length
  | _, _, _, .nil, h => by cases h; exact ⟨.nil, rfl⟩
  | _, _, _, .cons (s := s) hd tl, h => by
    cases s with
    | no => cases h
    | oi _ _ => cases h
    | ow c => cases h
    | fz d =>
      obtain ⟨ds', h1, rfl⟩ := Option.map_eq_some_iff.mp h
      obtain ⟨fp, h2, _⟩ := hd
      obtain ⟨h3, h4⟩ := Rdys.frozen tl h1
      exact ⟨.cons h2 h3, by simp [h4]⟩
def lstG (ss : List Slot) : Option Slot := if ss.length ≤ 1000 then (allFz ss).map fun ds => .ow (.lst ds) else none
def tupG (ss : List Slot) : Option Slot := if ss.length ≤ 1000 then (allFz ss).map fun ds => .fz (.tuple ds) else none
theorem thousand : 1000 ≤ sizeLine := by decide
section
variable {es : List Expr} {r : List (Kd × EM)} {pos : Pos} {ks : List Kd}
theorem pd_lst (h : PA X es (tAr W Ew (r.map (·.1)) (eArgs r))) : PE X (.List es pos) (tO W Ew .t (eB r lstG)) := PE.imp (pe_lst h) fun σ H Q q => by
  refine roN (rd := fun xs H1 Q => xs.length ≤ sizeLine ∧ ∀ p, H1 p = none → Q (.ref p) (upd H1 p (.lst xs))) rfl (fun H0 H vs ss s' Q hle rd hg q => ?_) σ H Q q
  unfold lstG at hg
  split at hg
  · obtain ⟨ds, h1, rfl⟩ := Option.map_eq_some_iff.mp hg
    obtain ⟨h2, h3⟩ := rd.frozen h1
    refine ⟨?_, fun p hp => q _ _ _ (.newL hle hp h2)⟩
    have := thousand
    omega
  · cases hg
theorem pd_tup {x1} (h : PA X es (tAr W Ew (r.map (·.1)) (eArgs r))) : PE X (.Tuple es x1 pos) (tO W Ew .t (eB r tupG)) := PE.imp (pe_tup h) fun σ H Q q => by
  refine roN (rd := fun xs H1 Q => xs.length ≤ sizeLine ∧ ∀ p, H1 p = none → Q (.ref p) (upd H1 p (.tup xs))) rfl (fun H0 H vs ss s' Q hle rd hg q => ?_) σ H Q q
  unfold tupG at hg
  split at hg
  · obtain ⟨ds, h1, rfl⟩ := Option.map_eq_some_iff.mp hg
    obtain ⟨h2, h3⟩ := rd.frozen h1
    refine ⟨?_, fun p hp => q _ _ _ (.newT hle hp h2)⟩
    have := thousand
    omega
  · cases hg
end
/-! ### statements -/
def sSeq (a b : SM) : SM := fun ρ => match a ρ with
  | .nx ρ1 => b ρ1
  | .rt s ρ1 => .rt s ρ1
  | .bk ρ1 => .bk ρ1
  | .ct ρ1 => .ct ρ1
  | .er c d ρ1 => .er c d ρ1
  | .no => .no
def sIf (t : DEnv → Out Bool) (a b : SM) : SM := fun ρ => (t ρ).bindS fun c ρ1 => if c then a ρ1 else b ρ1
def sNx : SM := fun ρ => .nx ρ
def sBk : SM := fun ρ => .bk ρ
def sCt : SM := fun ρ => .ct ρ
def sNo : SM := fun _ => .no
def sRt (f : EM) : SM := fun ρ => (f ρ).bindS fun s ρ1 => .rt s ρ1
def sRtN : SM := fun ρ => .rt (.fz .none) ρ
def sDrop (f : EM) : SM := fun ρ => (f ρ).bindS fun _ ρ1 => .nx ρ1
def sSet (i : Nat) (f : EM) : SM := fun ρ => (f ρ).bindS fun s ρ1 => .nx (ρ1.set i s)
theorem World.asg {i : Nat} (w : World W (v :: ts) (s :: tss) σ H ρ) (hk : i ∉ W.kp) : World W ts tss (σ.set i (some v)) H (ρ.set i s) := by
  by_cases h : i < ρ.length
  · exact w.assign h hk
  · have h2 : σ.length = ρ.length := w.slen
    rw [List.set_eq_of_length_le (by omega), List.set_eq_of_length_le (by omega)]
    exact w.pop
section
variable {st : Stmt} {rest body orelse : List Stmt} {a b : SM} {t : DEnv → Out Bool} {pos : Pos} {i : Nat}
theorem pd_never : PS X st (tS W Ew sNo) := PS.imp ps_never fun D σ H ⟨ts, tss, ρ, w, q⟩ => q
theorem pd_nil : PSs X [] (tS W Ew sNx) := PSs.imp pss_nil fun D σ H ⟨ts, tss, ρ, w, q⟩ => q σ H w
theorem pd_pass : PS X (.Pass pos) (tS W Ew sNx) := PS.imp ps_pass fun D σ H ⟨ts, tss, ρ, w, q⟩ => q σ H w
theorem pd_break : PS X (.Break pos) (tS W Ew sBk) := PS.imp ps_break fun D σ H ⟨ts, tss, ρ, w, q⟩ => q σ H w
theorem pd_continue : PS X (.Continue pos) (tS W Ew sCt) := PS.imp ps_continue fun D σ H ⟨ts, tss, ρ, w, q⟩ => q σ H w
theorem pd_doc {x : Str} {j pos'} : PS X (.Expr (.Constant (.str x) j pos) pos') (tS W Ew sNx) := PS.imp ps_doc fun D σ H ⟨ts, tss, ρ, w, q⟩ => q σ H w
theorem pd_cons (h1 : PS X st (tS W Ew a)) (h2 : PSs X rest (tS W Ew b)) : PSs X (st :: rest) (tS W Ew (sSeq a b)) := PSs.imp (pss_cons h1 h2) fun D σ H ⟨ts, tss, ρ, w, q⟩ => by
  refine ⟨ts, tss, ρ, w, ?_⟩
  unfold sSeq at q
  cases ea : a ρ with
  | nx ρ1 => rw [ea] at q; exact fun σ' H' w' => ⟨ts, tss, ρ1, w', q⟩
  | rt s ρ1 => rw [ea] at q; exact q
  | bk ρ1 => rw [ea] at q; exact q
  | ct ρ1 => rw [ea] at q; exact q
  | er c d ρ1 => rw [ea] at q; exact q
  | no => rw [ea] at q; exact q
theorem pd_one (h1 : PS X st (tS W Ew a)) : PSs X [st] (tS W Ew a) := pss_one h1
theorem pd_if {c : Expr} (hc : PT X c (tT W Ew t)) (ha : PSs X body (tS W Ew a)) (hb : PSs X orelse (tS W Ew b)) : PS X (.If c body orelse pos) (tS W Ew (sIf t a b)) := PS.imp (ps_if hc ha hb) fun D σ H ⟨ts, tss, ρ, w, q⟩ => by
  refine ⟨ts, tss, ρ, w, ?_⟩
  unfold sIf at q
  cases ea : t ρ with
  | no => rw [ea] at q; exact q
  | er c d ρ' => rw [ea] at q; exact q
  | ok c ρ1 =>
    rw [ea] at q
    intro H1 w1
    cases c with
    | true => exact ⟨ts, tss, ρ1, w1, q⟩
    | false => exact ⟨ts, tss, ρ1, w1, q⟩
theorem pd_ret (h : PE X e (tO W Ew .t f)) : PS X (.Return (some e) pos) (tS W Ew (sRt f)) := PS.imp (ps_ret h) fun D σ H ⟨ts, tss, ρ, w, q⟩ => by
  refine ⟨ts, tss, ρ, w, ?_⟩
  unfold sRt at q
  cases ea : f ρ with
  | no => rw [ea] at q; exact q
  | er c d ρ' => rw [ea] at q; exact q
  | ok s ρ1 => rw [ea] at q; exact fun v H1 w1 _ => q v σ H1 w1
theorem pd_retN : PS X (.Return none pos) (tS W Ew sRtN) := PS.imp ps_retN fun D σ H ⟨ts, tss, ρ, w, q⟩ => q _ σ H (w.push .non)
theorem pd_expr (h : PE X e (tO W Ew k f)) (hs : swapsWith e none pos.line X.env = pure false := by rfl) : PS X (.Expr e pos) (tS W Ew (sDrop f)) := PS.imp (ps_expr h hs) fun D σ H ⟨ts, tss, ρ, w, q⟩ => by
  refine ⟨ts, tss, ρ, w, ?_⟩
  unfold sDrop at q
  cases ea : f ρ with
  | no => rw [ea] at q; exact q
  | er c d ρ' => rw [ea] at q; exact q
  | ok s ρ1 => rw [ea] at q; exact fun v H1 w1 _ => q σ H1 w1.pop
theorem set_red (hk : i ∉ W.kp) : ∀ D σ H, tS W Ew (sSet i f) D σ H → tAsg (tO W Ew .t f) (gName i) D σ H := fun D σ H ⟨ts, tss, ρ, w, q⟩ => by
  refine ⟨ts, tss, ρ, w, ?_⟩
  unfold sSet at q
  cases ea : f ρ with
  | no => rw [ea] at q; exact q
  | er c d ρ' => rw [ea] at q; exact q
  | ok s ρ1 => rw [ea] at q; exact fun v H1 w1 _ => q _ H1 (w1.asg hk)
theorem pd_set {x : Str} {pos' : Pos} (hk : i ∉ W.kp) (hN : X.N.Nodup) (hi : X.N[i]? = some x) (hx : Loc X.env.scope x) (h : PE X e (tO W Ew .t f)) (hs : swapsWith e (some (.Name x pos')) pos.line X.env = pure false := by rfl)
    (hf : X.fn x = true ∨ X.env.scope.names.lookup x = some .local := by first | exact .inl rfl | exact .inr rfl | assumption) : PS X (.Assign [.Name x pos'] e pos) (tS W Ew (sSet i f)) :=
  PS.imp (ps_set hN hi hx h hs hf) (set_red hk)
end
/-! ### targets -/
abbrev TgD := D → DEnv → Option DEnv
def TgOk (W : Wc) (g : TG) (is : List Nat) (t : TgD) : Prop := ∀ (ts : List V) (tss : List Slot) (σ : St) (H : Hp) (ρ : DEnv) (v : V) (d : D) (ρ' : DEnv) (Q : St → Hp → Prop), World W (v :: ts) (.fz d :: tss) σ H ρ → t d ρ = some ρ' →
  (∀ σ', World W ts tss σ' H ρ' → (∀ j, j ∉ is → σ'[j]? = σ[j]?) → σ'.length = σ.length → Q σ' H) → g v σ H Q
def TgsOk (W : Wc) (g : TGs) (is : List Nat) (t : List D → DEnv → Option DEnv) : Prop := ∀ (ts : List V) (tss : List Slot) (σ : St) (H : Hp) (ρ : DEnv) (vs : List V) (ds : List D) (ρ' : DEnv) (Q : St → Hp → Prop), vs.length = ds.length → World W (vs ++ ts) (ds.map Slot.fz ++ tss) σ H ρ → t ds ρ = some ρ' →
  (∀ σ', World W ts tss σ' H ρ' → (∀ j, j ∉ is → σ'[j]? = σ[j]?) → σ'.length = σ.length → Q σ' H) → g vs σ H Q
def tgN (i : Nat) : TgD := fun d ρ => some (ρ.set i (.fz d))
def tgNil : List D → DEnv → Option DEnv
  | [], ρ => some ρ
  | _, _ => none
def tgCons (t : TgD) (u : List D → DEnv → Option DEnv) : List D → DEnv → Option DEnv
  | d :: ds, ρ => (t d ρ).bind (u ds)
  | [], _ => none
def tgT (n : Nat) (u : List D → DEnv → Option DEnv) : TgD
  | .tuple ds, ρ => if ds.length = n then u ds ρ else none
  | _, _ => none
theorem tg_name {i : Nat} (hk : i ∉ W.kp) : TgOk W (gName i) [i] (tgN i) := fun ts tss σ H ρ v d ρ' Q w e q => by
  cases e
  refine q _ (w.asg hk) (fun j hj => ?_) (List.length_set ..)
  rw [List.getElem?_set_ne (fun z => hj (by simp [z]))]
theorem tg_nil : TgsOk W gNil [] tgNil := fun ts tss σ H ρ vs ds ρ' Q hl w e q => by
  cases ds with
  | cons d ds => cases e
  | nil =>
    cases e
    obtain rfl := List.eq_nil_of_length_eq_zero (by simpa using hl)
    exact ⟨rfl, q σ w (fun _ _ => rfl) rfl⟩
theorem tg_cons {g : TG} {u : TGs} {is js : List Nat} {t : TgD} {t' : List D → DEnv → Option DEnv} (h : TgOk W g is t) (h' : TgsOk W u js t') : TgsOk W (gCons g u) (is ++ js) (tgCons t t') := fun ts tss σ H ρ vs ds ρ' Q hl w e q => by
  cases ds with
  | nil => cases e
  | cons d ds =>
    cases vs with
    | nil => simp at hl
    | cons v vs =>
      simp only [tgCons] at e
      obtain ⟨ρ1, e1, e2⟩ := Option.bind_eq_some_iff.mp e
      refine ⟨v, vs, rfl, h (vs ++ ts) (ds.map Slot.fz ++ tss) σ H ρ v d ρ1 _ w e1 fun σ1 w1 k1 l1 => ?_⟩
      refine h' ts tss σ1 H ρ1 vs ds ρ' Q (by simpa using hl) w1 e2 fun σ2 w2 k2 l2 => q σ2 w2 (fun j hj => ?_) (l2.trans l1)
      rw [k2 j (fun z => hj (by simp [z])), k1 j (fun z => hj (by simp [z]))]
theorem RpL.slots : ∀ {xs : List V} {ds : List D}, RpL W.K W.cl H0 xs ds → SlotsOk W.K W.cl H0 H (xs.map some) (ds.map Slot.fz) []
  | [], _, h => by cases h; exact .nil
  | x :: xs, _, h => by
    cases h with
    | cons h t => exact SlotsOk.cons (f1 := []) (f2 := []) ⟨h, rfl⟩ (RpL.slots t)
/-- a shared tuple: its items -/
theorem World.spread {ds : List D} (w : World W (v :: ts) (.fz (.tuple ds) :: tss) σ H ρ) : ∃ a xs, v = .ref a ∧ H a = some (.tup xs) ∧ xs.length = ds.length ∧ World W (xs ++ ts) (ds.map Slot.fz ++ tss) σ H ρ := by
  obtain ⟨H0, fA, hle, hA, nd, hn, _, kf⟩ := World.fstep (vs := [v]) (ss := [.fz (.tuple ds)]) (ts := ts) (tss := tss) w rfl
  cases hA with
  | cons h1 h2 =>
    cases h2
    obtain ⟨h1, rfl⟩ := h1
    cases h1 with
    | tup e p =>
      rename_i a xs
      exact ⟨a, xs, rfl, hle.tup e, p.length, kf (by simp [p.length]) hle p.slots List.nodup_nil (fun a ha => nomatch ha) ⟨Same.refl _, fun a o e _ n _ => ⟨e, n⟩, fun a ha => (nomatch ha), fun a h => h, fun a xs h => h, fun a o u h => h⟩⟩
theorem tg_tup {u : TGs} {is : List Nat} {t : List D → DEnv → Option DEnv} {n : Nat} {K : Frag} (h : TgsOk W u is t) : TgOk W (gTup K n u) is (tgT n t) := fun ts tss σ H ρ v d ρ' Q w e q => by
  cases d <;> simp only [tgT] at e <;> first | cases e | skip
  rename_i ds
  split at e
  · rename_i hn
    obtain ⟨a, xs, rfl, h1, h2, w2⟩ := w.spread
    exact ⟨a, xs, rfl, SqT.of h1, h2.trans hn, h ts tss σ H ρ xs ds ρ' Q h2 w2 e q⟩
  · cases e
def sAsg (t : TgD) (f : EM) : SM := fun ρ => (f ρ).bindS fun s ρ1 => match s.shared with
  | some d => match t d ρ1 with
    | some ρ2 => .nx ρ2
    | none => .no
  | none => .no
theorem asg_red {g : TG} {is : List Nat} {t : TgD} (h : TgOk W g is t) : ∀ D σ H, tS W Ew (sAsg t f) D σ H → tAsg (tO W Ew .t f) g D σ H := fun D σ H ⟨ts, tss, ρ, w, q⟩ => by
  refine ⟨ts, tss, ρ, w, ?_⟩
  unfold sAsg at q
  cases ea : f ρ with
  | no => rw [ea] at q; exact q
  | er c d ρ' => rw [ea] at q; exact q
  | ok s ρ1 =>
    rw [ea] at q
    simp only [Out.bindS_ok] at q
    intro v H1 w1 _
    cases es : s.shared with
    | none => rw [es] at q; exact q.elim
    | some d =>
      rw [es] at q
      simp only at q
      cases et : t d ρ1 with
      | none => rw [et] at q; exact q.elim
      | some ρ2 =>
        rw [et] at q
        exact h ts tss σ H1 ρ1 v d ρ2 _ (w1.freeze es) et fun σ' w' _ _ => q σ' H1 w'
theorem pd_asg {tg : Expr} {g : TG} {is : List Nat} {t : TgD} {pos : Pos} (h : TgOk W g is t) (he : PE X e (tO W Ew .t f)) (hg : PG X tg g) (hs : swapsWithSole [tg] e pos.line X.env = pure false := by rfl) (hw : swappedStores [tg] e X.env = pure none := by rfl)
    (h1 : (assignEach [tg] X.env).map (·.2) = [assign tg X.env] := by rfl) : PS X (.Assign [tg] e pos) (tS W Ew (sAsg t f)) := PS.imp (ps_asg he hg hs hw h1) (asg_red h)
/-- a, b = x, y and a, b, c = x, y, z -/
def setAll : List Nat → List Slot → DEnv → DEnv
  | i :: is, s :: ss, ρ => setAll is ss (ρ.set i s)
  | _, _, ρ => ρ
def sPar (is : List Nat) (r : List (Kd × EM)) : SM := fun ρ => (eArgs r ρ).bindS fun ss ρ1 => .nx (setAll is ss ρ1)
def setAllV : List Nat → List V → St → St
  | i :: is, v :: vs, σ => setAllV is vs (σ.set i (some v))
  | _, _, σ => σ
theorem World.setAll : ∀ {is : List Nat} {vs : List V} {ss : List Slot} {σ : St} {ρ : DEnv}, is.length = vs.length → vs.length = ss.length → (∀ i ∈ is, i ∉ W.kp) → World W (vs ++ ts) (ss ++ tss) σ H ρ → World W ts tss (setAllV is vs σ) H (Dl.setAll is ss ρ)
  | [], [], [], _, _, _, _, _, w => w
  | i :: is, v :: vs, s :: ss, σ, ρ, h1, h2, hk, w => World.setAll (is := is) (vs := vs) (ss := ss) (σ := σ.set i (some v)) (ρ := ρ.set i s) (by simpa using h1) (by simpa using h2) (fun j hj => hk j (List.mem_cons_of_mem _ hj)) (World.asg w (hk i List.mem_cons_self))
  | [], _ :: _, _, _, _, h, _, _, _ => by simp at h
  | _ :: _, [], _, _, _, h, _, _, _ => by simp at h
  | _, [], _ :: _, _, _, _, h, _, _ => by simp at h
  | _, _ :: _, [], _, _, _, h, _, _ => by simp at h
theorem eArgs_length : ∀ {r : List (Kd × EM)} {ρ ρ' : DEnv} {ss : List Slot}, eArgs r ρ = .ok ss ρ' → ss.length = r.length
  | [], _, _, _, h => by cases h; rfl
  | (k, f) :: r, ρ, ρ', ss, h => by
    simp only [eArgs] at h
    cases ea : f ρ with
    | no => rw [ea] at h; cases h
    | er c d ρ' => rw [ea] at h; cases h
    | ok s ρ1 =>
      rw [ea] at h
      simp only [Out.bind_ok] at h
      cases eb : eArgs r ρ1 with
      | no => rw [eb] at h; cases h
      | er c d ρ' => rw [eb] at h; cases h
      | ok ss' ρ2 =>
        rw [eb] at h
        cases h
        simp [eArgs_length eb]
theorem par_red {is : List Nat} {r : List (Kd × EM)} {ks : List Kd} (hk : ∀ i ∈ is, i ∉ W.kp) (hl : is.length = r.length) : ∀ D σ H, tS W Ew (sPar is r) D σ H → tAr W Ew ks (eArgs r) σ H fun vs H1 => vs.length = is.length ∧ D.nx (setAllV is vs σ) H1 := fun D σ H ⟨ts, tss, ρ, w, q⟩ => by
  refine ⟨ts, tss, ρ, w, ?_⟩
  unfold sPar at q
  cases ea : eArgs r ρ with
  | no => rw [ea] at q; exact q
  | er c d ρ' => rw [ea] at q; exact q
  | ok ss ρ1 =>
    rw [ea] at q
    intro vs H1 h1 w1 _
    have h2 := eArgs_length ea
    exact ⟨by omega, q _ H1 (World.setAll (by omega) h1 hk w1)⟩
section
variable {i j l : Nat} {x y z : Str} {a b c : Expr} {px py pz pt pos : Pos} {kt k2 pt2} {fx fy fz : EM}
theorem pd_par (hk : i ∉ W.kp ∧ j ∉ W.kp) (hc : X.calm = true) (hN : X.N.Nodup) (hi : X.N[i]? = some x) (hj : X.N[j]? = some y) (hij : i ≠ j) (hx : X.env.scope.names.lookup x = some .local) (hy : X.env.scope.names.lookup y = some .local)
    (ha : PA X [a, b] (tAr W Ew [.t, .t] (eArgs [(.t, fx), (.t, fy)]))) (hw : swappedStores [.Tuple [.Name x px, .Name y py] kt pt] (.Tuple [a, b] k2 pt2) X.env = pure (some [x, y]))
    (hs : swapsWithSole [.Tuple [.Name x px, .Name y py] kt pt] (.Tuple [a, b] k2 pt2) pos.line X.env = pure false := by rfl) : PS X (.Assign [.Tuple [.Name x px, .Name y py] kt pt] (.Tuple [a, b] k2 pt2) pos) (tS W Ew (sPar [i, j] [(.t, fx), (.t, fy)])) :=
  PS.imp (ps_par hc hN hi hj hij hx hy ha hw hs) fun D σ H q => by
    obtain ⟨ts, tss, ρ, w, q⟩ := par_red (ks := [.t, .t]) (by simpa using hk) rfl D σ H q
    refine ⟨ts, tss, ρ, w, ?_⟩
    revert q
    cases eArgs [(.t, fx), (.t, fy)] ρ with
    | no => exact fun q => q
    | er c d ρ' => exact fun q => q
    | ok ss ρ1 =>
      intro q vs H1 h1 w1 k1
      obtain ⟨hl, q⟩ := q vs H1 h1 w1 k1
      match vs, hl, q with
      | [v, w], _, q => exact ⟨v, w, rfl, q⟩
theorem pd_par3 (hk : i ∉ W.kp ∧ j ∉ W.kp ∧ l ∉ W.kp) (hc : X.calm = true) (hN : X.N.Nodup) (hi : X.N[i]? = some x) (hj : X.N[j]? = some y) (hl : X.N[l]? = some z) (hij : i ≠ j) (hil : i ≠ l) (hjl : j ≠ l)
    (hx : X.env.scope.names.lookup x = some .local) (hy : X.env.scope.names.lookup y = some .local) (hz : X.env.scope.names.lookup z = some .local)
    (ha : PA X [a, b, c] (tAr W Ew [.t, .t, .t] (eArgs [(.t, fx), (.t, fy), (.t, fz)]))) (hw : swappedStores [.Tuple [.Name x px, .Name y py, .Name z pz] kt pt] (.Tuple [a, b, c] k2 pt2) X.env = pure (some [x, y, z]))
    (hs : swapsWithSole [.Tuple [.Name x px, .Name y py, .Name z pz] kt pt] (.Tuple [a, b, c] k2 pt2) pos.line X.env = pure false := by rfl) : PS X (.Assign [.Tuple [.Name x px, .Name y py, .Name z pz] kt pt] (.Tuple [a, b, c] k2 pt2) pos) (tS W Ew (sPar [i, j, l] [(.t, fx), (.t, fy), (.t, fz)])) :=
  PS.imp (ps_par3 hc hN hi hj hl hij hil hjl hx hy hz ha hw hs) fun D σ H q => by
    obtain ⟨ts, tss, ρ, w, q⟩ := par_red (ks := [.t, .t, .t]) (by simpa using hk) rfl D σ H q
    refine ⟨ts, tss, ρ, w, ?_⟩
    revert q
    cases eArgs [(.t, fx), (.t, fy), (.t, fz)] ρ with
    | no => exact fun q => q
    | er c d ρ' => exact fun q => q
    | ok ss ρ1 =>
      intro q vs H1 h1 w1 k1
      obtain ⟨hl, q⟩ := q vs H1 h1 w1 k1
      match vs, hl, q with
      | [u, v, w], _, q => exact ⟨u, v, w, rfl, q⟩
end
end
end Dl
end
section
namespace Dl
open PySem L2

/-! ### what a loop walks -/
structure IS where
  ds : List D
  gd : DEnv → Prop
def gdOf : Kd → D → DEnv → Prop
  | .t, _ => fun _ => True
  | .n i, d => fun ρ => (ρ.getD i .no).d? = some d
def Kd.ix : Kd → List Nat
  | .t => []
  | .n i => [i]
structure WalkW (W : Wc) (J : It) (S : IS) (us : List V) (ss : List Slot) (js : List Nat) (σ0 : St) : Prop where
  turn : ∀ (pre : List V) (preS : List Slot) (ts : List V) (tss : List Slot) (σ : St) (H : Hp) (ρ : DEnv) (i : Nat), pre.length = preS.length → World W (pre ++ (us ++ ts)) (preS ++ (ss ++ tss)) σ H ρ → S.gd ρ → (∀ j ∈ js, σ[j]? = σ0[j]?) →
    (∀ d, S.ds[i]? = some d → J.go i H ∧ ∀ x H', J.yld i H x H' → World W (x :: (pre ++ (us ++ ts))) (.fz d :: (preS ++ (ss ++ tss))) σ H' ρ) ∧ (i = S.ds.length → J.stop i H)
def FinI (W : Wc) (Ew : XK) (js : List Nat) (ts : List V) (tss : List Slot) (σ : St) (R : It → Hp → Prop) : Out IS → Prop
  | .ok S ρ1 => ∀ J H1 us ss, us.length = ss.length → World W (us ++ ts) (ss ++ tss) σ H1 ρ1 → S.gd ρ1 → S.ds.length ≤ sizeLine → WalkW W J S us ss js σ → R J H1
  | .er c d ρ => ErrTo W Ew c d ρ
  | .no => False
def tI (W : Wc) (Ew : XK) (js : List Nat) (f : DEnv → Out IS) : TI := fun σ H R => ∃ ts tss ρ, World W ts tss σ H ρ ∧ FinI W Ew js ts tss σ R (f ρ)
section
variable {X : Cx} {W : Wc} {Ew : XK} {ts vs us : List V} {tss ss sus : List Slot} {σ σ' : St} {H H' H0 H0' : Hp} {ρ : DEnv} {v v1 v2 : V} {s s1 s2 : Slot} {e : Expr} {k ka kb kc : Kd} {f fa fb fc : EM} {Q Q' : VK} {d d1 d2 : D} {p : Addr}
theorem PI.imp {tg it : Expr} {t t' : TI} (h : PI X tg it t) (i : ∀ σ H R, t' σ H R → t σ H R) : PI X tg it t' := ⟨fun pins s σ H R I q => h.run pins s σ H R I (i σ H R q)⟩
theorem PI.or {tg it : Expr} {t t' : TI} (h : PI X tg it t) (h' : PI X tg it t') : PI X tg it (fun σ H R => t σ H R ∨ t' σ H R) := ⟨fun pins s σ H R I q => q.elim (h.run pins s σ H R I) (h'.run pins s σ H R I)⟩
/-- an expression's value: lists and tuples are of a bounded length -/
def Bnd (K : Frag) (x : V) (H : Hp) : Prop := ∀ a, x = .ref a → (∀ xs, SqL K H a xs → xs.length ≤ sizeLine) ∧ ∀ xs, SqT K H a xs → xs.length ≤ sizeLine
theorem PE.bnd {t : TE} (h : PE X e t) : PE X e (fun σ H Q => t σ H fun x H1 => Bnd X.K x H1 → Q x H1) := ⟨fun pins s σ H Q I q => thn (h.run pins s σ H _ I q) fun v s1 ⟨x, H1, I1, r1, q1⟩ => ⟨x, H1, I1, r1, q1 fun a _ => ⟨fun xs h => (I1.list h).choose_spec.2.2, fun xs h => (I1.tuple h).choose_spec.2.2⟩⟩⟩
def itemsOf : D → Option (List D)
  | .list ds => some ds
  | .tuple ds => some ds
  | .str z => if z.cps.size ≤ sizeLine then some (z.cps.toList.map fun c => .str ⟨#[c]⟩) else none
  | .dict [(.none, .list ds)] => some ds
  | _ => none
@[simp] theorem itemsOf_list (ds : List D) : itemsOf (.list ds) = some ds := rfl
@[simp] theorem itemsOf_tuple (ds : List D) : itemsOf (.tuple ds) = some ds := rfl
@[simp] theorem itemsOf_scr (ds : List D) : itemsOf (scrD ds) = some ds := rfl
def iSeq (k : Kd) (f : EM) : DEnv → Out IS := fun ρ => (f ρ).bind fun s ρ1 => match (sl k s ρ1).d? with
  | some d => match itemsOf d with
    | some ds => .ok ⟨ds, gdOf k d⟩ ρ1
    | none => .no
  | none => .no
theorem kd_keep {σ0 : St} (hk : KdOk σ0 k v) (h : ∀ j ∈ k.ix, σ[j]? = σ0[j]?) : KdOk σ k v := by
  cases k with
  | t => trivial
  | n i => show σ[i]? = _; rw [h i (by simp [Kd.ix])]; exact hk
theorem gd_sl {d : D} (h0 : (sl k s ρ).d? = some d) {ρ' : DEnv} (h : gdOf k d ρ') : (sl k s ρ').d? = some d := by
  cases k with
  | t => exact h0
  | n i => exact h
theorem gd_of {d : D} (h0 : (sl k s ρ).d? = some d) : gdOf k d ρ := by
  cases k with
  | t => trivial
  | n i => exact h0
/-- the value walked is ready -/
theorem World.at1 {pre : List V} {preS : List Slot} (w : World W (pre ++ ([v] ++ ts)) (preS ++ ([s] ++ tss)) σ H ρ) (hl : pre.length = preS.length) (hk : KdOk σ k v) :
    ∃ H0, Le H0 H ∧ Rdy W H0 H v (sl k s ρ) ∧ ∀ {x : V} {d : D}, Rp W.K W.cl H0 x d → World W (x :: (pre ++ ([v] ++ ts))) (.fz d :: (preS ++ ([s] ++ tss))) σ H ρ := by
  obtain ⟨H0, hle, rd, en, kr⟩ := World.res0 (vs := pre ++ [v]) (ss := preS ++ [s]) (ts := ts) (tss := tss) (by simpa using w) (by simp [hl])
  have sp : ∀ {pre : List V} {preS : List Slot}, pre.length = preS.length → Rdys W H0 H (pre ++ [v]) (preS ++ [s]) → Rdy W H0 H v s := by
    intro pre
    induction pre with
    | nil => intro preS hl h; obtain rfl := List.eq_nil_of_length_eq_zero hl.symm; cases h with | cons h _ => exact h
    | cons x pre ih => intro preS hl h; cases preS with
      | nil => simp at hl
      | cons y preS => cases h with | cons _ t => exact ih (by simpa using hl) t
  refine ⟨H0, hle, rdy_sl en (sp hl rd) hk, fun {x d} r => ?_⟩
  have := kr (Res.child hle r)
  simpa using this
theorem Str.size_items {z : Str} (i : Nat) : (z.cps.toList.map fun c => PyData.str ⟨#[c]⟩)[i]? = (z.cps[i]?).map fun c => PyData.str ⟨#[c]⟩ := by simp
theorem itemsOf_inv {ds : List D} (h : itemsOf d = some ds) : d = .list ds ∨ d = .tuple ds ∨ (∃ z : Str, d = .str z ∧ z.cps.size ≤ sizeLine ∧ ds = z.cps.toList.map fun c => .str ⟨#[c]⟩) ∨ d = scrD ds := by
  unfold itemsOf at h
  split at h
  · cases h; exact .inl rfl
  · cases h; exact .inr (.inl rfl)
  · split at h
    · cases h; exact .inr (.inr (.inl ⟨_, rfl, by assumption, rfl⟩))
    · cases h
  · cases h; exact .inr (.inr (.inr rfl))
  · cases h
theorem walk_lst {K : Frag} {a : Addr} {ds : List D} (hk : KdOk σ k v) (h0 : (sl k s ρ).d? = some d)
    (hh : ∀ {H0 H : Hp} {ρ : DEnv}, Le H0 H → Rdy W H0 H v (sl k s ρ) → (sl k s ρ).d? = some d → ∃ xs, SqL K H a xs ∧ RpL W.K W.cl H0 xs ds) : WalkW W (Itl K a) ⟨ds, gdOf k d⟩ [v] [s] k.ix σ :=
  ⟨fun pre preS ts tss σ1 H1 ρ1 i hl w g kj => by
    obtain ⟨H0, hle, rd, kr⟩ := World.at1 w hl (kd_keep hk kj)
    obtain ⟨xs, h1, h2⟩ := hh hle rd (gd_sl h0 g)
    refine ⟨fun d' ed => ?_, fun ei => ⟨xs, h1, by have := h2.length; simp only at ei; omega⟩⟩
    have hx : i < xs.length := by have := h2.length; have := (List.getElem?_eq_some_iff.mp ed).1; simp only at this; omega
    refine ⟨⟨xs, xs[i], h1, by simp [hx]⟩, fun x H' y => ?_⟩
    obtain ⟨e1, e2⟩ := y
    subst e1
    obtain ⟨d'', e3, e4⟩ := h2.get (e2 xs h1)
    rw [show ds[i]? = some d' from ed] at e3
    cases e3
    exact kr e4⟩
theorem walk_tup {K : Frag} {a : Addr} {ds : List D} (hk : KdOk σ k v) (h0 : (sl k s ρ).d? = some d)
    (hh : ∀ {H0 H : Hp} {ρ : DEnv}, Le H0 H → Rdy W H0 H v (sl k s ρ) → (sl k s ρ).d? = some d → ∃ xs, SqT K H a xs ∧ RpL W.K W.cl H0 xs ds) : WalkW W (Itt K a) ⟨ds, gdOf k d⟩ [v] [s] k.ix σ :=
  ⟨fun pre preS ts tss σ1 H1 ρ1 i hl w g kj => by
    obtain ⟨H0, hle, rd, kr⟩ := World.at1 w hl (kd_keep hk kj)
    obtain ⟨xs, h1, h2⟩ := hh hle rd (gd_sl h0 g)
    refine ⟨fun d' ed => ?_, fun ei => ⟨xs, h1, by have := h2.length; simp only at ei; omega⟩⟩
    have hx : i < xs.length := by have := h2.length; have := (List.getElem?_eq_some_iff.mp ed).1; simp only at this; omega
    refine ⟨⟨xs, xs[i], h1, by simp [hx]⟩, fun x H' y => ?_⟩
    obtain ⟨e1, e2⟩ := y
    subst e1
    obtain ⟨d'', e3, e4⟩ := h2.get (e2 xs h1)
    rw [show ds[i]? = some d' from ed] at e3
    cases e3
    exact kr e4⟩
theorem walk_text {z : Str} : ∀ {v : V}, KdOk σ k v → WalkW W (Its z) ⟨z.cps.toList.map fun c => .str ⟨#[c]⟩, gdOf k d⟩ [v] [s] k.ix σ := fun {v} hk =>
  ⟨fun pre preS ts tss σ1 H1 ρ1 i hl w g kj => by
    refine ⟨fun d' ed => ?_, fun ei => ?_⟩
    · obtain ⟨H0, hle, rd, kr⟩ := World.at1 w hl (kd_keep hk kj)
      rw [Str.size_items] at ed
      obtain ⟨c, hc, rfl⟩ := Option.map_eq_some_iff.mp ed
      refine ⟨(Array.getElem?_eq_some_iff.mp hc).1, fun x H' y => ?_⟩
      obtain ⟨rfl, c', hc', rfl⟩ := y
      rw [hc] at hc'
      cases hc'
      exact kr (.str _)
    · show z.cps.size ≤ i
      simp at ei
      omega⟩
theorem World.top (w : World W (v :: ts) (s :: tss) σ H ρ) (hk : KdOk σ k v) : ∃ H0, Le H0 H ∧ Rdy W H0 H v (sl k s ρ) := by
  obtain ⟨H0, hle, rd, en, _⟩ := World.res (vs := [v]) (ss := [s]) (ts := ts) (tss := tss) w rfl
  cases rd with
  | cons rd _ => exact ⟨H0, hle, rdy_sl en rd hk⟩
theorem pi_seq {tg : Expr} (hK : X.K = W.K) (h : PE X e (tO W Ew k f)) : PI X tg e (tI W Ew k.ix (iSeq k f)) :=
  PI.imp (PI.or (pi_list (PE.bnd h)) (PI.or (pi_tup (PE.bnd h)) (pi_str (PE.bnd h)))) fun σ H R ⟨ts, tss, ρ, w, q⟩ => by
    unfold iSeq at q
    cases ea : f ρ with
    | no => rw [ea] at q; exact q.elim
    | er c d ρ' => exact .inl ⟨ts, tss, ρ, w, by rw [ea] at q ⊢; exact q⟩
    | ok s ρ1 =>
      rw [ea] at q
      simp only [Out.bind_ok] at q
      cases ed : (sl k s ρ1).d? with
      | none => rw [ed] at q; exact q.elim
      | some d =>
        rw [ed] at q
        simp only at q
        cases ei : itemsOf d with
        | none => rw [ei] at q; exact q.elim
        | some ds =>
          rw [ei] at q
          rcases itemsOf_inv ei with rfl | rfl | ⟨z, rfl, hz, rfl⟩ | rfl
          · refine .inl ⟨ts, tss, ρ, w, ?_⟩
            rw [ea]
            intro v H1 w1 k1 bd
            obtain ⟨H0, hle, rd⟩ := World.top w1 k1
            obtain ⟨a, xs, ev, h1, h2⟩ := rd.lst hle ed
            refine ⟨a, ev, ⟨xs, .inl h1⟩, q _ H1 [v] [s] rfl w1 (gd_of ed) (by have := (bd a ev).1 xs (.inl h1); have := h2.length; simp only; omega) (walk_lst k1 ed fun {H0 H ρ} hle rd e => ?_)⟩
            obtain ⟨a', xs', ev', h1', h2'⟩ := rd.lst hle e
            rw [ev] at ev'
            cases ev'
            exact ⟨xs', .inl h1', h2'⟩
          · refine .inr (.inl ⟨ts, tss, ρ, w, ?_⟩)
            rw [ea]
            intro v H1 w1 k1 bd
            obtain ⟨H0, hle, rd⟩ := World.top w1 k1
            obtain ⟨a, xs, ev, h1, h2⟩ := rd.tup hle ed
            refine ⟨a, ev, ⟨xs, SqT.of h1⟩, q _ H1 [v] [s] rfl w1 (gd_of ed) (by have := (bd a ev).2 xs (SqT.of h1); have := h2.length; simp only; omega) (walk_tup k1 ed fun {H0 H ρ} hle rd e => ?_)⟩
            obtain ⟨a', xs', ev', h1', h2'⟩ := rd.tup hle e
            rw [ev] at ev'
            cases ev'
            exact ⟨xs', SqT.of h1', h2'⟩
          · refine .inr (.inr ⟨ts, tss, ρ, w, ?_⟩)
            rw [ea]
            intro v H1 w1 k1 bd
            obtain ⟨H0, hle, rd⟩ := World.top w1 k1
            exact ⟨z, rd.str ed, q _ H1 [v] [s] rfl w1 (gd_of ed) (by simpa using hz) (walk_text k1)⟩
          · refine .inl ⟨ts, tss, ρ, w, ?_⟩
            rw [ea]
            intro v H1 w1 k1 bd
            obtain ⟨H0, hle, rd⟩ := World.top w1 k1
            obtain ⟨a, xs, ev, h1, h2⟩ := rd.scrd hle ed
            rw [← hK] at h1
            refine ⟨a, ev, ⟨xs, h1⟩, q _ H1 [v] [s] rfl w1 (gd_of ed) (by have := (bd a ev).1 xs h1; have := h2.length; simp only; omega) (walk_lst k1 ed fun {H0 H ρ} hle rd e => ?_)⟩
            obtain ⟨a', xs', ev', h1', h2'⟩ := rd.scrd hle e
            rw [ev] at ev'
            cases ev'
            exact ⟨xs', by rw [hK]; exact h1', h2'⟩
/-! range -/
def iRg (f : EM) : DEnv → Out IS := fun ρ => (f ρ).bind fun s ρ1 => match s.d? with
  | some (.int j) => if j ≤ 1000000 ∧ -1000000 ≤ j then .ok ⟨(List.range j.toNat).map fun (i : Nat) => .int i, fun _ => True⟩ ρ1 else .no
  | _ => .no
def iRg2 (f g : EM) : DEnv → Out IS := fun ρ => (eArgs [(.t, f), (.t, g)] ρ).bind fun ss ρ1 => match ss with
  | [s, t] => match s.d?, t.d? with
    | some (.int i), some (.int j) => if j ≤ 1000000 ∧ -1000000 ≤ j ∧ i ≤ 1000000 ∧ -1000000 ≤ i then .ok ⟨(List.range (j - i).toNat).map fun (n : Nat) => .int (i + n), fun _ => True⟩ ρ1 else .no
    | _, _ => .no
  | _ => .no
theorem million : 2000001 ≤ sizeLine := by decide
theorem walk_rg {lo : Int} {n : Nat} : WalkW W (Itr lo n) ⟨(List.range n).map fun (i : Nat) => .int (lo + i), fun _ => True⟩ [] [] [] σ :=
  ⟨fun pre preS ts tss σ1 H1 ρ1 i hl w g kj => by
    refine ⟨fun d ed => ?_, fun ei => by simp only [List.length_map, List.length_range] at ei; exact Nat.le_of_eq ei.symm⟩
    simp only [List.getElem?_map] at ed
    obtain ⟨m, hm, rfl⟩ := Option.map_eq_some_iff.mp ed
    obtain ⟨h1, h2⟩ := List.getElem?_eq_some_iff.mp hm
    simp only [List.length_range, List.getElem_range] at h1 h2
    subst h2
    refine ⟨h1, fun x H' y => ?_⟩
    obtain ⟨rfl, rfl⟩ := y
    exact w.push (.int _)⟩
theorem pi_rg1 {tg a : Expr} {pn pos : Pos} (hg : Gl X "range") (hm : X.mg "range" = none) (h : PE X a (tO W Ew .t f)) (hs : starEach [a] X.env = [(false, eval a X.env)] := by rfl) : PI X tg (.Call (.Name "range" pn) [a] [] pos) (tI W Ew [] (iRg f)) :=
  PI.imp (pi_range1 hg hm (pd_acons (r := []) h pd_anil hs) hs) fun σ H R ⟨ts, tss, ρ, w, q⟩ => by
    refine ⟨ts, tss, ρ, w, ?_⟩
    unfold iRg at q
    simp only [eArgs]
    cases ea : f ρ with
    | no => rw [ea] at q; exact q.elim
    | er c d ρ' => rw [ea] at q; exact q
    | ok s ρ1 =>
      rw [ea] at q
      simp only [Out.bind_ok] at q ⊢
      intro vs H1 hl w1 k1
      obtain ⟨v, rfl⟩ : ∃ v, vs = [v] := by
        match vs, hl with
        | [v], _ => exact ⟨v, rfl⟩
      split at q
      · rename_i j ed
        split at q
        · rename_i hj
          obtain ⟨H0, hle, rd⟩ := World.top (k := .t) w1 trivial
          refine ⟨j, by rw [rd.int ed], by omega, by omega, ?_⟩
          refine q (Itr 0 j.toNat) H1 [] [] rfl w1.pop trivial (by have := million; simp; omega) ?_
          have := walk_rg (W := W) (σ := σ) (lo := 0) (n := j.toNat)
          simpa using this
        · exact q.elim
      · exact q.elim
theorem pi_rg2 {tg a b : Expr} {g : EM} {pn pos : Pos} (hg : Gl X "range") (hm : X.mg "range" = none) (h : PE X a (tO W Ew .t f)) (h' : PE X b (tO W Ew .t g)) (hs : starEach [a, b] X.env = [(false, eval a X.env), (false, eval b X.env)] := by rfl) (hs2 : starEach [b] X.env = [(false, eval b X.env)] := by rfl) :
    PI X tg (.Call (.Name "range" pn) [a, b] [] pos) (tI W Ew [] (iRg2 f g)) :=
  PI.imp (pi_range2 hg hm (pd_acons (r := [(.t, g)]) h (pd_acons (r := []) h' pd_anil hs2) (hs.trans (by rw [hs2]))) hs hs2) fun σ H R ⟨ts, tss, ρ, w, q⟩ => by
    refine ⟨ts, tss, ρ, w, ?_⟩
    unfold iRg2 at q
    simp only [List.map_cons, List.map_nil]
    cases ea : eArgs [(.t, f), (.t, g)] ρ with
    | no => rw [ea] at q; exact q.elim
    | er c d ρ' => rw [ea] at q; exact q
    | ok ss ρ1 =>
      rw [ea] at q
      simp only [Out.bind_ok] at q ⊢
      intro vs H1 hl w1 k1
      split at q
      · rename_i s t
        split at q
        · rename_i i j es et
          split at q
          · rename_i hj
            match vs, hl with
            | [v, u], _ =>
              obtain ⟨H0, hle, rd, en, _⟩ := World.res (vs := [v, u]) (ss := [s, t]) w1 rfl
              cases rd with
              | cons r1 rd =>
                cases rd with
                | cons r2 _ =>
                  refine ⟨i, j, by rw [r1.int es, r2.int et], by omega, q (Itr i (j - i).toNat) H1 [] [] rfl (World.drop (vs := [v, u]) (ss := [s, t]) w1 rfl) trivial (by have := million; simp; omega) walk_rg⟩
          · exact q.elim
        · exact q.elim
      · exact q.elim
end
end Dl
end
section
namespace Dl
open PySem L2

section
variable {X : Cx} {W : Wc} {Ew : XK} {js is vl : List Nat} {ts vs us : List V} {tss ss sus : List Slot} {σ σ' : St} {H H' H0 H0' : Hp} {ρ : DEnv} {v v1 v2 : V} {s s1 s2 : Slot} {e : Expr} {k ka kb kc : Kd} {f fa fb fc : EM} {Q Q' : VK} {d d1 d2 : D} {p : Addr}
/-- temporaries between are dropped -/
theorem World.under (w : World W (vs ++ (us ++ ts)) (ss ++ (sus ++ tss)) σ H ρ) (h1 : vs.length = ss.length) (h2 : us.length = sus.length) : World W (vs ++ ts) (ss ++ tss) σ H ρ := by
  have hlen := w.len
  refine w.of_sub (by simp only [List.length_append] at hlen ⊢; omega) w.keep fun {H0 fp} h nd => ?_
  rw [List.map_append, List.map_append, List.append_assoc, List.append_assoc, List.append_assoc, List.append_assoc] at h
  obtain ⟨f1, f2, rfl, a1, a2⟩ := SlotsOk.split (by simpa using h1) h
  obtain ⟨f3, f4, rfl, b1, b2⟩ := SlotsOk.split (by simpa using h2) a2
  refine ⟨f1 ++ f4, ?_, ?_, ?_⟩
  · exact List.Nodup.sublist ((List.sublist_append_right f3 f4).append_left f1) nd
  · intro a ha
    rcases List.mem_append.mp ha with z | z
    · exact List.mem_append_left _ z
    · exact List.mem_append_right _ (List.mem_append_right _ z)
  · rw [List.map_append, List.append_assoc, List.append_assoc]
    exact a1.append b2

/-! ### for -/
open Classical in
noncomputable def forGo (gd : DEnv → Prop) (t : TgD) (b : SM) : List D → SM
  | [], ρ => .nx ρ
  | d :: ds, ρ => match t d ρ with
    | none => .no
    | some ρ1 => match b ρ1 with
      | .nx ρ2 => if gd ρ2 then forGo gd t b ds ρ2 else .no
      | .ct ρ2 => if gd ρ2 then forGo gd t b ds ρ2 else .no
      | .bk ρ2 => .nx ρ2
      | .rt s ρ2 => .rt s ρ2
      | .er c d ρ2 => .er c d ρ2
      | .no => .no
noncomputable def sFor (fi : DEnv → Out IS) (t : TgD) (b : SM) : SM := fun ρ => (fi ρ).bindS fun S ρ1 => forGo S.gd t b S.ds ρ1
theorem drop_cons {α : Type} {l : List α} {i : Nat} {d : α} (h : l[i]? = some d) : l.drop i = d :: l.drop (i + 1) := by
  obtain ⟨h1, rfl⟩ := List.getElem?_eq_some_iff.mp h
  exact List.drop_eq_getElem_cons h1
theorem for_red {wi : TI} {fi : DEnv → Out IS} {g : TG} {t : TgD} {b : SM} (h : TgOk W g is t) : ∀ Dn σ H, tS W Ew (sFor fi t b) Dn σ H → tFor (tI W Ew [] fi) g (tS W Ew b) Dn σ H := fun Dn σ H ⟨ts, tss, ρ, w, q⟩ => by
  refine ⟨ts, tss, ρ, w, ?_⟩
  unfold sFor at q
  cases ea : fi ρ with
  | no => rw [ea] at q; exact q
  | er c d ρ' => rw [ea] at q; exact q
  | ok S ρ1 =>
    rw [ea] at q
    simp only [Out.bindS_ok] at q
    intro J H1 us sus hl w1 g1 _ wk
    refine ⟨fun i m σ H => m = S.ds.length - i ∧ i ≤ S.ds.length ∧ ∃ ρ, World W (us ++ ts) (sus ++ tss) σ H ρ ∧ S.gd ρ ∧ FinS W Ew ts tss Dn (forGo S.gd t b (S.ds.drop i) ρ), ⟨S.ds.length, by simp, Nat.zero_le _, ρ1, w1, g1, q⟩, ?_⟩
    rintro i m σ2 H2 ⟨rfl, hi, ρ2, w2, g2, q2⟩
    obtain ⟨t1, t2⟩ := wk.turn [] [] ts tss σ2 H2 ρ2 i rfl w2 g2 (fun j hj => nomatch hj)
    by_cases hlt : i < S.ds.length
    · have hd : S.ds[i]? = some S.ds[i] := by simp [hlt]
      obtain ⟨go, yl⟩ := t1 _ hd
      rw [drop_cons hd] at q2
      simp only [forGo] at q2
      refine .inr ⟨go, fun σ H => ∃ ρ, World W (us ++ ts) (sus ++ tss) σ H ρ ∧ S.gd ρ ∧ FinS W Ew ts tss Dn (forGo S.gd t b (S.ds.drop (i + 1)) ρ), fun σ' H' ⟨ρ', a, b, c⟩ => ⟨S.ds.length - (i + 1), by omega, rfl, by omega, ρ', a, b, c⟩, fun x H' y => ?_⟩
      have w3 := yl x H' y
      cases et : t S.ds[i] ρ2 with
      | none => rw [et] at q2; exact q2.elim
      | some ρ3 =>
        rw [et] at q2
        simp only at q2
        refine h (us ++ ts) (sus ++ tss) σ2 H' ρ2 x _ ρ3 _ w3 et fun σ4 w4 _ _ => ⟨us ++ ts, sus ++ tss, ρ3, w4, ?_⟩
        cases eb : b ρ3 with
        | nx ρ4 =>
          rw [eb] at q2
          simp only at q2
          intro σ5 H5 w5
          split at q2
          · exact ⟨ρ4, w5, by assumption, q2⟩
          · exact q2.elim
        | ct ρ4 =>
          rw [eb] at q2
          simp only at q2
          intro σ5 H5 w5
          split at q2
          · exact ⟨ρ4, w5, by assumption, q2⟩
          · exact q2.elim
        | bk ρ4 => rw [eb] at q2; exact fun σ5 H5 w5 => q2 σ5 H5 (w5.drop hl)
        | rt s ρ4 => rw [eb] at q2; exact fun v5 σ5 H5 w5 => q2 v5 σ5 H5 (World.under (vs := [v5]) (ss := [s]) w5 rfl hl)
        | er c d ρ4 => rw [eb] at q2; exact q2
        | no => rw [eb] at q2; exact q2
    · have e : i = S.ds.length := by omega
      subst e
      refine .inl ⟨t2 rfl, ?_⟩
      rw [List.drop_length] at q2
      exact q2 σ2 H2 (w2.drop hl)
theorem pd_for {tg iter : Expr} {body : List Stmt} {fi : DEnv → Out IS} {g : TG} {t : TgD} {b : SM} {pos : Pos} (h : TgOk W g is t) (hp : PassesOwn (model X.prog X.w) X.A X.env X.xe) (hc : X.calm = true) (hi : PI X tg iter (tI W Ew [] fi)) (hg : PG X tg g) (hb : PSs X body (tS W Ew b))
    (hs : ∀ x, foldedSetIterable iter X.env x = pure x := by intro _; rfl) : PS X (.For tg iter body [] pos) (tS W Ew (sFor fi t b)) := PS.imp (ps_for hp hc hi hg hb hs) (for_red (wi := tI W Ew [] fi) h)

/-! ### while -/
def whGo (c : DEnv → Out Bool) (b : SM) : Nat → SM
  | 0, _ => .no
  | n + 1, ρ => (c ρ).bindS fun k ρ1 => if k then match b ρ1 with
      | .nx ρ2 => whGo c b n ρ2
      | .ct ρ2 => whGo c b n ρ2
      | .bk ρ2 => .nx ρ2
      | .rt s ρ2 => .rt s ρ2
      | .er c d ρ2 => .er c d ρ2
      | .no => .no
    else .nx ρ1
theorem whGo_succ {c : DEnv → Out Bool} {b : SM} : ∀ {n : Nat} {ρ : DEnv}, whGo c b n ρ ≠ .no → whGo c b (n + 1) ρ = whGo c b n ρ
  | 0, ρ, h => absurd rfl h
  | n + 1, ρ, h => by
    rw [whGo, whGo]
    rw [whGo] at h
    cases ec : c ρ with
    | no => rfl
    | er c d ρ' => rfl
    | ok k ρ1 =>
      rw [ec] at h
      simp only [Out.bindS_ok] at h ⊢
      cases k with
      | false => rfl
      | true =>
        simp only [if_true] at h ⊢
        cases eb : b ρ1 with
        | nx ρ2 => rw [eb] at h; exact whGo_succ h
        | ct ρ2 => rw [eb] at h; exact whGo_succ h
        | bk ρ2 => rfl
        | rt s ρ2 => rfl
        | er c d ρ2 => rfl
        | no => rfl
theorem whGo_le {c : DEnv → Out Bool} {b : SM} {n m : Nat} {ρ : DEnv} (h : whGo c b n ρ ≠ .no) (hm : n ≤ m) : whGo c b m ρ = whGo c b n ρ := by
  induction m with
  | zero => obtain rfl : n = 0 := by omega
            rfl
  | succ m ih =>
    by_cases e : n = m + 1
    · subst e; rfl
    · have := ih (by omega)
      rw [whGo_succ (by rw [this]; exact h), this]
open Classical in
noncomputable def sWhile (c : DEnv → Out Bool) (b : SM) : SM := fun ρ => if h : ∃ n, whGo c b n ρ ≠ .no then whGo c b h.choose ρ else .no
theorem sWhile_of {c : DEnv → Out Bool} {b : SM} {n : Nat} {ρ : DEnv} {o : SOut} (h : whGo c b n ρ = o) (ho : o ≠ .no) : sWhile c b ρ = o := by
  have hx : ∃ n, whGo c b n ρ ≠ .no := ⟨n, by rw [h]; exact ho⟩
  unfold sWhile
  rw [dif_pos hx]
  have h2 := hx.choose_spec
  rcases Nat.le_total n hx.choose with z | z
  · rw [whGo_le (by rw [h]; exact ho) z, h]
  · rw [← whGo_le h2 z, h]
theorem while_red {c : DEnv → Out Bool} {b : SM} : ∀ Dn σ H, tS W Ew (sWhile c b) Dn σ H → tWhile (tT W Ew c) (tS W Ew b) Dn σ H := fun Dn σ H ⟨ts, tss, ρ, w, q⟩ => by
  unfold sWhile at q
  split at q
  · rename_i hx
    refine ⟨fun m σ H => ∃ ρ, World W ts tss σ H ρ ∧ FinS W Ew ts tss Dn (whGo c b m ρ), ⟨_, ρ, w, q⟩, ?_⟩
    rintro m σ2 H2 ⟨ρ2, w2, q2⟩
    cases m with
    | zero => exact q2.elim
    | succ m =>
      refine ⟨ts, tss, ρ2, w2, ?_⟩
      rw [whGo] at q2
      cases ec : c ρ2 with
      | no => rw [ec] at q2; exact q2
      | er c d ρ' => rw [ec] at q2; exact q2
      | ok k ρ3 =>
        rw [ec] at q2
        simp only [Out.bindS_ok] at q2
        intro H3 w3
        cases k with
        | false => exact q2 σ2 H3 w3
        | true =>
          simp only [if_true] at q2 ⊢
          refine ⟨fun σ H => ∃ ρ, World W ts tss σ H ρ ∧ FinS W Ew ts tss Dn (whGo c b m ρ), fun σ' H' h' => ⟨m, by omega, h'⟩, ts, tss, ρ3, w3, ?_⟩
          cases eb : b ρ3 with
          | nx ρ4 => rw [eb] at q2; exact fun σ5 H5 w5 => ⟨ρ4, w5, q2⟩
          | ct ρ4 => rw [eb] at q2; exact fun σ5 H5 w5 => ⟨ρ4, w5, q2⟩
          | bk ρ4 => rw [eb] at q2; exact q2
          | rt s ρ4 => rw [eb] at q2; exact q2
          | er c d ρ4 => rw [eb] at q2; exact q2
          | no => rw [eb] at q2; exact q2
  · exact q.elim
theorem pd_while {c : Expr} {body : List Stmt} {t : DEnv → Out Bool} {b : SM} {pos : Pos} (hp : PassesOwn (model X.prog X.w) X.A X.env X.xe) (hc : PT X c (tT W Ew t)) (hb : PSs X body (tS W Ew b)) : PS X (.While c body [] pos) (tS W Ew (sWhile t b)) := PS.imp (ps_while hp hc hb) while_red

/-! ### writing into what is one's own -/
theorem World.write {a : Addr} {c : Cont} (w : World W (vs ++ .ref a :: ts) (ss ++ .ow c :: tss) σ H ρ) (hl : vs.length = ss.length) (hlk : ∀ t kvs, c ≠ .lk t kvs) :
    ∃ H0, Le H0 H ∧ Rdys W H0 H vs ss ∧ ContOk W.K W.cl H0 H a c ∧ H0 a = none ∧ ∀ {u : HO} {c' : Cont} {vs' : List V} {ds' : List D}, ContOk W.K W.cl H0 (upd H a u) a c' → RpL W.K W.cl H0 vs' ds' → World W (vs' ++ .ref a :: ts) (ds'.map Slot.fz ++ .ow c' :: tss) σ (upd H a u) ρ := by
  obtain ⟨H0, fA, hle, hA, nd, hn, _, kf⟩ := World.fstep (vs := vs ++ [.ref a]) (ss := ss ++ [.ow c]) (ts := ts) (tss := tss) (by simpa using w) (by simp [hl])
  rw [List.map_append] at hA
  obtain ⟨f1, f2, rfl, h1, h2⟩ := SlotsOk.split (by simpa using hl) hA
  cases h2 with
  | cons h2 h3 =>
    cases h3
    obtain ⟨b, eb, hc, rfl⟩ := h2
    cases eb
    have ha0 : H0 a = none := hn a (by simp)
    refine ⟨H0, hle, h1.rdys, hc, ha0, fun {u c' vs' ds'} hc' hr => ?_⟩
    have e1 : ∀ b ∈ [a], b = a := fun b hb => by simpa using hb
    have s1 : SlotsOk W.K W.cl H0 (upd H a u) ((vs' ++ [V.ref a]).map some) (ds'.map Slot.fz ++ [Slot.ow c']) [a] := by
      have z := (RpL.slots (W := W) (H := upd H a u) hr).append (SlotsOk.cons (ov := some (.ref a)) (s := .ow c') (f1 := [a]) (f2 := []) ⟨a, rfl, hc', rfl⟩ .nil)
      simpa using z
    have l1 : Le H0 (upd H a u) := fun b o e => by
      rw [upd_ne (ne_of_none e ha0)]; exact hle b o e
    have fr : Fr H0 H (f1 ++ ([a] ++ [])) H0 (upd H a u) [a] := by
      refine ⟨Same.refl _, fun b o e _ n hb => ?_, fun b hb => .inl ?_, fun b hb => ?_, fun b xs e => ?_, fun b o u' e => ?_⟩
      · have : b ≠ a := fun z => hb (by simp [z])
        exact ⟨by rw [upd_ne this]; exact e, n⟩
      · rw [e1 b hb]; simp
      · by_cases z : b = a
        · rw [z, upd_same]; simp
        · rw [upd_ne z]; exact hb
      · by_cases z : b = a
        · subst z
          exact absurd rfl (hA.notup b (by simp) _ e xs)
        · rw [upd_ne z]; exact e
      · by_cases z : b = a
        · subst z
          exfalso
          cases c with
          | lst ds => obtain ⟨_, e', _⟩ := hc; rw [e] at e'; cases e'
          | dct t kvs => obtain ⟨_, e', h'⟩ := hc; rw [e] at e'; cases e'; exact h'.lkD
          | lk t kvs => exact hlk t kvs rfl
        · rw [upd_ne z]; exact e
    have := kf (vs' := vs' ++ [.ref a]) (ss' := ds'.map Slot.fz ++ [.ow c']) (H' := upd H a u) (H0' := H0) (fp' := [a]) (by simp [hr.length]) l1 s1 (by simp) (fun b hb => by rw [e1 b hb]; exact ha0) fr
    simpa using this
theorem RpL.snoc {K : Frag} {cl : ClsT} {xs : List V} {ds : List D} (h : RpL K cl H xs ds) (r : Rp K cl H v d) : RpL K cl H (xs ++ [v]) (ds ++ [d]) := h.append (.cons r .nil)
theorem World.snoc {a : Addr} {ds : List D} (w : World W (v :: .ref a :: ts) (.fz d :: .ow (.lst ds) :: tss) σ H ρ) : ∃ xs, H a = some (.lst xs) ∧ xs.length = ds.length ∧ World W (.ref a :: ts) (.ow (.lst (ds ++ [d])) :: tss) σ (upd H a (.lst (xs ++ [v]))) ρ := by
  obtain ⟨H0, hle, rd, hc, _, k⟩ := World.write (vs := [v]) (ss := [.fz d]) w rfl (fun _ _ z => nomatch z)
  obtain ⟨xs, h1, h2⟩ := hc
  cases rd with
  | cons rd _ =>
    obtain ⟨fp, r, _⟩ := rd
    exact ⟨xs, h1, h2.length, k (vs' := []) (ds' := []) ⟨_, upd_same, h2.snoc r⟩ .nil⟩

/-! ### comprehensions -/
def wipeD (ρ : DEnv) : List Nat → DEnv
  | [] => ρ
  | i :: is => (wipeD ρ is).set i .no
theorem SlotsOk.other {K : Frag} {cl : ClsT} : ∀ {ovs ovs' : List (Option V)} {ss : List Slot} {fp : List Addr}, SlotsOk K cl H0 H ovs ss fp → ovs'.length = ovs.length → (∀ (i : Nat) (s : Slot), ss[i]? = some s → s = .no ∨ ovs'[i]? = ovs[i]?) → SlotsOk K cl H0 H ovs' ss fp
  | [], [], _, _, .nil, _, _ => .nil
  | _ :: _, ov' :: ovs', _, _, .cons (s := s) h t, hl, k => by
    refine .cons ?_ (SlotsOk.other t (by simpa using hl) fun i s e => by simpa using k (i + 1) s (by simpa using e))
    rcases k 0 s rfl with rfl | e
    · exact h
    · simp only [List.getElem?_cons_zero, Option.some.injEq] at e
      rw [e]; exact h
  | _ :: _, [], _, _, _, hl, _ => by simp at hl
  | [], _ :: _, _, _, _, hl, _ => by simp at hl
theorem SlotsOk.wipe {K : Frag} {cl : ClsT} {ovt : List (Option V)} {st : List Slot} (hl : ovt.length = st.length) : ∀ {is : List Nat} {ovs : List (Option V)} {ss : List Slot} {fp : List Addr}, SlotsOk K cl H0 H (ovt ++ ovs) (st ++ ss) fp → fp.Nodup →
    ∃ fp', fp'.Nodup ∧ (∀ a ∈ fp', a ∈ fp) ∧ SlotsOk K cl H0 H (ovt ++ ovs) (st ++ wipeD ss is) fp'
  | [], _, _, fp, h, nd => ⟨fp, nd, fun _ h => h, h⟩
  | i :: is, ovs, ss, fp, h, nd => by
    obtain ⟨f1, nd1, s1, h1⟩ := SlotsOk.wipe (is := is) hl h nd
    by_cases hi : i < (wipeD ss is).length
    · have e : (st ++ wipeD ss is)[st.length + i]? = some (wipeD ss is)[i] := by rw [List.getElem?_append_right (by omega)]; simp [hi]
      obtain ⟨ov, f2, fr, e3, pm, h3, k⟩ := h1.take e
      obtain ⟨fp', pm', h4⟩ := k (ov' := ov) (s' := .no) (f2' := []) rfl
      refine ⟨fp', ?_, ?_, ?_⟩
      · rw [pm'.nodup_iff]
        exact List.Nodup.sublist (List.sublist_append_right f2 fr) (pm.nodup_iff.mp nd1)
      · intro a ha
        exact s1 a (pm.mem_iff.mpr (List.mem_append_right _ (by simpa using pm'.mem_iff.mp ha)))
      · have e5 : (ovt ++ ovs).set (st.length + i) ov = ovt ++ ovs := by
          obtain ⟨hi, e⟩ := List.getElem?_eq_some_iff.mp e3
          rw [← e]
          exact List.set_getElem_self hi
        have e6 : (st ++ wipeD ss is).set (st.length + i) .no = st ++ (wipeD ss is).set i .no := by
          rw [List.set_append_right _ _ (by omega)]
          congr 2
          omega
        rw [e5, e6] at h4
        exact h4
    · refine ⟨f1, nd1, s1, ?_⟩
      show SlotsOk K cl H0 H _ (st ++ (wipeD ss is).set i .no) f1
      rw [List.set_eq_of_length_le (by omega)]
      exact h1
theorem wipeD_length : ∀ (ρ : DEnv) (is : List Nat), (wipeD ρ is).length = ρ.length
  | _, [] => rfl
  | ρ, i :: is => by simp [wipeD, wipeD_length ρ is]
theorem wipeD_no : ∀ {is : List Nat} {ρ : DEnv} {j : Nat}, j ∈ is → j < ρ.length → (wipeD ρ is)[j]? = some .no
  | i :: is, ρ, j, h, hl => by
    by_cases e : i = j
    · subst e; simp [wipeD, wipeD_length, hl]
    · simp only [wipeD]
      rw [List.getElem?_set_ne e]
      exact wipeD_no ((List.mem_cons.mp h).resolve_left fun z => e z.symm) hl
theorem wipe_get : ∀ {is : List Nat} {σ : St} {j : Nat}, j ∈ is → j < σ.length → (L2.wipe σ is)[j]? = some none
  | i :: is, σ, j, h, hl => by
    by_cases e : i = j
    · subst e; simp [L2.wipe, L2.wipe_length, hl]
    · simp only [L2.wipe]
      rw [List.getElem?_set_ne e]
      exact wipe_get ((List.mem_cons.mp h).resolve_left fun z => e z.symm) hl
theorem wipeD_out : ∀ {is : List Nat} {ρ : DEnv} {j : Nat}, j ∉ is → (wipeD ρ is)[j]? = ρ[j]?
  | [], _, _, _ => rfl
  | i :: is, ρ, j, h => by
    simp only [wipeD]
    rw [List.getElem?_set_ne (fun e => h (by simp [e]))]
    exact wipeD_out fun z => h (List.mem_cons_of_mem _ z)
theorem wipeD_idem (ρ : DEnv) (is : List Nat) : wipeD (wipeD ρ is) is = wipeD ρ is := by
  refine List.ext_getElem? fun j => ?_
  by_cases hj : j ∈ is
  · by_cases hb : j < ρ.length
    · rw [wipeD_no hj (by rw [wipeD_length]; exact hb), wipeD_no hj hb]
    · rw [List.getElem?_eq_none (by rw [wipeD_length, wipeD_length]; omega), List.getElem?_eq_none (by rw [wipeD_length]; omega)]
  · rw [wipeD_out hj]
/-- the slots told of are forgotten, whatever stands there -/
theorem World.blur (w : World W ts tss σ H ρ) (hk : ∀ i ∈ W.kp, i ∉ is) (hl : σ'.length = σ.length) (h : ∀ j, j ∉ is → σ'[j]? = σ[j]?) : World W ts tss σ' H (wipeD ρ is) := by
  have hlen := w.len
  have hsl := w.slen
  refine w.of_sub w.len (fun i hi => by rw [h i (hk i hi)]; exact w.keep i hi) fun {H0 fp} hs nd => ?_
  obtain ⟨fp', nd', sb, h1⟩ := SlotsOk.wipe (is := is) (by simpa using hlen) hs nd
  refine ⟨fp', nd', sb, h1.other (by simp [hl]) fun i s e => ?_⟩
  by_cases hi : i < tss.length
  · refine .inr ?_
    rw [List.getElem?_append_left (by simp; omega), List.getElem?_append_left (by simp; omega)]
  · rw [List.getElem?_append_right (by omega)] at e
    by_cases hm : i - tss.length ∈ is
    · have hb := (List.getElem?_eq_some_iff.mp e).1
      rw [wipeD_length] at hb
      rw [wipeD_no hm hb] at e
      exact .inl (Option.some.inj e).symm
    · refine .inr ?_
      rw [List.getElem?_append_right (by simp; omega), List.getElem?_append_right (by simp; omega)]
      simp only [List.length_map]
      rw [hlen]
      exact h _ hm
theorem wipe_same (hl : σ'.length = σ.length) (h : ∀ j, j ∉ is → σ'[j]? = (L2.wipe σ is)[j]?) : L2.wipe σ' is = L2.wipe σ is := by
  refine List.ext_getElem? fun j => ?_
  by_cases hj : j ∈ is
  · by_cases hb : j < σ.length
    · rw [wipe_get hj hb, wipe_get hj (by omega)]
    · rw [List.getElem?_eq_none (by rw [L2.wipe_length]; omega), List.getElem?_eq_none (by rw [L2.wipe_length]; omega)]
  · rw [← h j hj, L2.wipe_out hj]
open Classical in
noncomputable def lcGo (gd : DEnv → Prop) (vl : List Nat) (t : TgD) (c : DEnv → Out Bool) (f : EM) : List D → DEnv → Out (List D)
  | [], ρ => .ok [] ρ
  | d :: ds, ρ => match t d (wipeD ρ vl) with
    | none => .no
    | some ρ1 => (c ρ1).bind fun b ρ2 => if b then (f ρ2).bind fun s ρ3 => match s.shared with
        | none => .no
        | some y => if gd (wipeD ρ3 vl) then (lcGo gd vl t c f ds (wipeD ρ3 vl)).bind fun ys ρ4 => .ok (y :: ys) ρ4 else .no
      else if gd (wipeD ρ2 vl) then lcGo gd vl t c f ds (wipeD ρ2 vl) else .no
def noEr {α : Type} : Out α → Out α
  | .ok a ρ => .ok a ρ
  | _ => .no
@[simp] theorem noEr_ok {α : Type} (a : α) (ρ : DEnv) : noEr (Out.ok a ρ) = .ok a ρ := rfl
noncomputable def eLc (vl : List Nat) (fi : DEnv → Out IS) (t : TgD) (c : DEnv → Out Bool) (f : EM) : EM := fun ρ => (fi ρ).bind fun S ρ1 => (noEr (lcGo S.gd vl t c f S.ds (wipeD ρ1 vl))).bind fun ys ρ2 => .ok (.ow (.lst ys)) ρ2
def FinL (W : Wc) (Ew : XK) (ts : List V) (tss : List Slot) (σ : St) (Q : VK) (acc : List D) : Out (List D) → Prop
  | .ok ys ρ => ∀ v H, World W (v :: ts) (.ow (.lst (acc ++ ys)) :: tss) σ H ρ → Q v H
  | .er c d ρ => ErrTo W Ew c d ρ
  | .no => False
theorem gd_wipe {S : IS} {ρ : DEnv} (h : S.gd ρ → S.gd (wipeD ρ vl)) : S.gd ρ → S.gd (wipeD ρ vl) := h
theorem lc_body {J : It} {S : IS} {us : List V} {sus : List Slot} {H1 : Hp} {ρ1 : DEnv} {Da : Addr} {g : TG} {t : TgD} {c : DEnv → Out Bool} {tt : TT} {te : TE} (h : TgOk W g is t) (his : ∀ i ∈ is, i ∈ vl) (hk : ∀ i ∈ W.kp, i ∉ vl) (hj : ∀ i ∈ js, i ∉ vl) (hgd : ∀ ρ', S.gd ρ' → S.gd (wipeD ρ' vl))
    (ht : ∀ σ H Q, tT W (fun _ _ _ => False) c σ H Q → tt σ H Q) (he : ∀ σ H Q, tO W (fun _ _ _ => False) .t f σ H Q → te σ H Q)
    (hl : us.length = sus.length) (w1 : World W (us ++ ts) (sus ++ tss) σ H1 ρ1) (g1 : S.gd ρ1) (hsz : S.ds.length ≤ sizeLine) (wk : WalkW W J S us sus js σ) (hD : H1 Da = none) (q1 : FinL W (fun _ _ _ => False) ts tss σ Q [] (lcGo S.gd vl t c f S.ds (wipeD ρ1 vl))) :
    ∃ Wv : Nat → Nat → Hp → Prop, (∃ m, Wv 0 m (upd H1 Da (.lst []))) ∧ ∀ i m H, Wv i m H →
      (J.stop i H ∧ Q (.ref Da) H) ∨ (J.go i H ∧ ∃ Nx : Hp → Prop, (∀ H', Nx H' → ∃ m', m' < m ∧ Wv (i + 1) m' H') ∧ ∀ x H', J.yld i H x H' → g x (L2.wipe σ vl) H' fun σ2 H2 => L2.wipe σ2 vl = L2.wipe σ vl ∧ tt σ2 H2 fun b H3 =>
        if b = true then te σ2 H3 fun y H4 => ∃ acc, H4 Da = some (.lst acc) ∧ acc.length < sizeLine ∧ Nx (upd H4 Da (.lst (acc ++ [y]))) else Nx H3) := by
  -- the new list among the temporaries
  have w2 : World W (.ref Da :: (us ++ ts)) (.ow (.lst []) :: (sus ++ tss)) (L2.wipe σ vl) (upd H1 Da (.lst [])) (wipeD ρ1 vl) := by
    obtain ⟨H0, hle, _, _, kr⟩ := World.res0 (vs := []) (ss := []) (ts := us ++ ts) (tss := sus ++ tss) w1 rfl
    exact (show World W (.ref Da :: (us ++ ts)) (.ow (.lst []) :: (sus ++ tss)) σ (upd H1 Da (.lst [])) ρ1 from kr (.newL hle hD .nil)).blur hk (L2.wipe_length σ vl) fun j hj => L2.wipe_out hj
  have back : ∀ {σ2 : St} {H2 : Hp} {ρ2 : DEnv} {acc : List PyData}, (∀ j, j ∉ is → σ2[j]? = (L2.wipe σ vl)[j]?) → σ2.length = (L2.wipe σ vl).length → World W (.ref Da :: (us ++ ts)) (.ow (.lst acc) :: (sus ++ tss)) σ2 H2 ρ2 → World W (.ref Da :: (us ++ ts)) (.ow (.lst acc) :: (sus ++ tss)) (L2.wipe σ vl) H2 (wipeD ρ2 vl) :=
    fun k1 l1 w => w.blur hk l1.symm fun j hj => (k1 j fun z => hj (his j z)).symm
  refine ⟨fun i m H => m = S.ds.length - i ∧ i ≤ S.ds.length ∧ ∃ ρ acc, acc.length ≤ i ∧ World W (.ref Da :: (us ++ ts)) (.ow (.lst acc) :: (sus ++ tss)) (L2.wipe σ vl) H ρ ∧ S.gd ρ ∧ (wipeD ρ vl = ρ) ∧ FinL W (fun _ _ _ => False) ts tss σ Q acc (lcGo S.gd vl t c f (S.ds.drop i) ρ),
    ⟨S.ds.length, by simp, Nat.zero_le _, wipeD ρ1 vl, [], Nat.le_refl _, w2, hgd ρ1 g1, wipeD_idem _ _, q1⟩, ?_⟩
  rintro i m H2 ⟨rfl, hi, ρ2, acc, hacc, w2, g2, wi2, q2⟩
  obtain ⟨t1, t2⟩ := wk.turn [.ref Da] [.ow (.lst acc)] ts tss (L2.wipe σ vl) H2 ρ2 i rfl w2 g2 (fun j hjj => L2.wipe_out (hj j hjj))
  by_cases hlt : i < S.ds.length
  · have hd : S.ds[i]? = some S.ds[i] := by simp [hlt]
    obtain ⟨go, yl⟩ := t1 _ hd
    rw [drop_cons hd] at q2
    simp only [lcGo] at q2
    refine .inr ⟨go, fun H => ∃ ρ acc, acc.length ≤ i + 1 ∧ World W (.ref Da :: (us ++ ts)) (.ow (.lst acc) :: (sus ++ tss)) (L2.wipe σ vl) H ρ ∧ S.gd ρ ∧ (wipeD ρ vl = ρ) ∧ FinL W (fun _ _ _ => False) ts tss σ Q acc (lcGo S.gd vl t c f (S.ds.drop (i + 1)) ρ),
      fun H' ⟨ρ', acc', a, b⟩ => ⟨S.ds.length - (i + 1), by omega, rfl, by omega, ρ', acc', a, b⟩, fun x H' y => ?_⟩
    have w3 := yl x H' y
    rw [wi2] at q2
    cases et : t S.ds[i] ρ2 with
    | none => rw [et] at q2; exact q2.elim
    | some ρ3 =>
      rw [et] at q2
      simp only at q2
      refine h (.ref Da :: (us ++ ts)) (.ow (.lst acc) :: (sus ++ tss)) (L2.wipe σ vl) H' ρ2 x _ ρ3 _ w3 et fun σ4 w4 k4 l4 => ⟨wipe_same (l4.trans (L2.wipe_length σ vl)) fun j hj => k4 j fun z => hj (his j z), ht _ _ _ ⟨.ref Da :: (us ++ ts), .ow (.lst acc) :: (sus ++ tss), ρ3, w4, ?_⟩⟩
      cases ec : c ρ3 with
      | no => rw [ec] at q2; exact q2
      | er c d ρ' => rw [ec] at q2; exact fun cv dx H' ex => (q2 cv dx H' ex).elim
      | ok b ρ4 =>
        rw [ec] at q2
        simp only [Out.bind_ok] at q2
        intro H5 w5
        cases b with
        | false =>
          simp only [Bool.false_eq_true, if_false] at q2 ⊢
          split at q2
          · exact ⟨wipeD ρ4 vl, acc, by omega, back k4 l4 w5, by assumption, wipeD_idem _ _, q2⟩
          · exact q2.elim
        | true =>
          simp only [if_true] at q2 ⊢
          refine he _ _ _ ⟨.ref Da :: (us ++ ts), .ow (.lst acc) :: (sus ++ tss), ρ4, w5, ?_⟩
          cases ef : f ρ4 with
          | no => rw [ef] at q2; exact q2
          | er c d ρ' => rw [ef] at q2; exact fun cv dx H' ex => (q2 cv dx H' ex).elim
          | ok sy ρ5 =>
            rw [ef] at q2
            simp only [Out.bind_ok] at q2
            intro y H6 w6 _
            cases es : sy.shared with
            | none => rw [es] at q2; exact q2.elim
            | some dy =>
              rw [es] at q2
              simp only at q2
              obtain ⟨xs, h1, h2, w7⟩ := World.snoc (w6.freeze es)
              refine ⟨xs, h1, by omega, ?_⟩
              split at q2
              · refine ⟨wipeD ρ5 vl, acc ++ [dy], by simp; omega, back k4 l4 w7, by assumption, wipeD_idem _ _, ?_⟩
                revert q2
                cases lcGo S.gd vl t c f (S.ds.drop (i + 1)) (wipeD ρ5 vl) with
                | no => exact fun q => q
                | er c d ρ' => exact fun q => q
                | ok ys ρ' =>
                  intro q v H w
                  exact q v H (by simpa using w)
              · exact q2.elim
  · have e : i = S.ds.length := by omega
    subst e
    refine .inl ⟨t2 rfl, ?_⟩
    rw [List.drop_length] at q2
    have w8 := World.under (vs := [.ref Da]) (ss := [.ow (.lst acc)]) w2 rfl hl
    have w9 := w8.blur (σ' := σ) hk (L2.wipe_length σ vl).symm fun j hj => (L2.wipe_out hj).symm
    rw [wi2] at w9
    exact q2 _ H2 (by simpa using w9)
theorem lc_red {fi : DEnv → Out IS} {g : TG} {t : TgD} {c : DEnv → Out Bool} (h : TgOk W g is t) (his : ∀ i ∈ is, i ∈ vl) (hk : ∀ i ∈ W.kp, i ∉ vl) (hj : ∀ i ∈ js, i ∉ vl) (hgd : ∀ ρ S ρ1, fi ρ = .ok S ρ1 → ∀ ρ', S.gd ρ' → S.gd (wipeD ρ' vl)) :
    ∀ σ H Q, tO W Ew .t (eLc vl fi t c f) σ H Q → tLc (tI W Ew js fi) g (tT W (fun _ _ _ => False) c) (tO W (fun _ _ _ => False) .t f) vl σ H Q := fun σ H Q ⟨ts, tss, ρ, w, q⟩ => by
  refine ⟨ts, tss, ρ, w, ?_⟩
  unfold eLc at q
  cases ea : fi ρ with
  | no => rw [ea] at q; exact q
  | er c d ρ' => rw [ea] at q; exact q
  | ok S ρ1 =>
    rw [ea] at q
    simp only [Out.bind_ok] at q
    have hgd := hgd ρ S ρ1 ea
    intro J H1 us sus hl w1 g1 hsz wk Da hD
    have fin : ∀ o : Out (List PyData), FinO W Ew ts tss σ .t Q ((noEr o).bind fun ys ρ2 => .ok (.ow (.lst ys)) ρ2) → FinL W (fun _ _ _ => False) ts tss σ Q [] o := fun o q => by
      cases o with
      | no => exact q.elim
      | er c d ρ' => exact (show False from q).elim
      | ok ys ρ' => exact fun v H w => q v H w trivial
    have q1 := fin _ q
    exact lc_body h his hk hj hgd (fun _ _ _ q => q) (fun _ _ _ q => q) hl w1 g1 hsz wk hD q1
end
end Dl
end
section
namespace Dl
open PySem L2 PySem.Spec PyProof.Rows

/-! ### a def's promise, without marks of a running repr -/
structure FnOkG (P : Program) (w : PySem.World) (K : PySem.W.Frag) (mg : Str → Option Value) (base : Heap) (CX : CXT) (k : Nat) (f : Addr) (fd : FuncData) (ps : List Str) (sp : Sp) : Prop where
  len : ∀ vs H Q E, sp vs H Q E → vs.length = ps.length
  run : ∀ (A : Around) (outer : List Env) (s : Shared) (H : Hp) (args : Args) (us : List Value) (vs : List V) (Q : VK) (E : XK), Room k A → A.guards = some [] → Env0 P w K mg base A outer s H → BindsTo s fd args (ps.zip us) → Vals vs us → sp vs H Q E →
    codeAny (model P w) A (.call (.ref f) args) (CR CX outer P w H s Q E) s
theorem FnOkG.mono {P : Program} {w : PySem.World} {K : PySem.W.Frag} {mg : Str → Option Value} {base : Heap} {CX : CXT} {j k : Nat} {f : Addr} {fd : FuncData} {ps : List Str} {sp : Sp} (F : FnOkG P w K mg base CX j f fd ps sp) (h : j ≤ k) :
    FnOkG P w K mg base CX k f fd ps sp := ⟨F.len, fun A outer s H args us vs Q E hr => F.run A outer s H args us vs Q E (hr.mono h)⟩
section
variable {X : Cx} {CX : CXT} {k : Nat} {f C : Addr} {fd : FuncData} {ps ks : List Str} {sp : Sp} {E : XK} {x m : Str} {p pos apos : Pos} {e o : Expr} {es : List Expr} {kws : List Keyword} {ta : TE} {t tk : TA}
theorem run_fnG {pins : List (Addr × Obj)} {σ : L2.St} {H : Hp} {s : Shared} {Q : VK} {us ws : List Value} {vs zs : List V} (F : FnOkG X.prog X.w X.K X.mg X.base CX k f fd ps sp) (hr : Room k X.A) (hgd : X.A.guards = some []) (hx : Passes CX X E)
    (hb : (us ++ ws).length = ps.length → BindsTo s fd ⟨us, ks.zip ws⟩ (ps.zip (us ++ ws)))
    (I : Inv X pins σ H s) (r : Vals vs us) (rz : Vals zs ws) (h : sp (vs ++ zs) H Q E) : wpAny (model X.prog X.w) X.A (call (.ref f) us (ks.zip ws)) (EP X pins σ Q) X.xe s := by
  have r2 := r.append rz
  have hl : (us ++ ws).length = ps.length := by rw [← r2.length]; exact F.len _ _ _ _ h
  refine wpAny_call (codeAny_mono (F.run X.A X.stack s H ⟨us, ks.zip ws⟩ (us ++ ws) (vs ++ zs) Q E hr hgd I.env0 (hb hl) r2 h) fun r s' hq => ?_)
  cases r with
  | error e => exact hx pins σ H s e s' I hq
  | ok fl =>
    cases fl with
    | ret u => exact I.after hq
    | next => exact False.elim hq
    | brk => exact False.elim hq
    | cont => exact False.elim hq
/-- f(e, ..) -/
theorem pe_callG (F : FnOkG X.prog X.w X.K X.mg X.base CX k f fd ps sp) (hr : Room k X.A) (hgd : X.A.guards = some []) (hg : Gl X x) (hm : X.mg x = some (.ref f)) (hk : PySem.W.keepIn X.K (.ref f) = true)
    (hb : ∀ (s : Shared) (us : List Value), us.length = ps.length → BindsTo s fd ⟨us, []⟩ (ps.zip us)) (hx : Passes CX X E)
    (ha : PA X (e :: es) t) (hdb : (x == ("__debug__" : Str)) = false := by decide) (he : starEach (e :: es) X.env = (false, eval e X.env) :: starEach es X.env := by rfl) (hpl : (backTo pos (starEach es X.env)).any (·.1) = false := by rfl) :
    PE X (.Call (.Name x p) (e :: es) [] pos) (fun σ H Q => t σ H fun vs H1 => sp vs H1 Q E) := by
  refine ⟨fun pins s σ H Q I h => ?_⟩
  refine wpAny_Call_Name_kw (ld_glob I hg hm ?_ hdb)
  refine PySem.W.callWith_K (h₀ := X.base) I.ok.mod.kin hk (thn (ha.run pos pins s σ H _ I h) fun us s1 ⟨vs, H1, I1, r, q⟩ => ⟨I1.kIn, ?_⟩) he hpl
  exact run_fnG (ks := []) (ws := []) (zs := []) F hr hgd hx (fun hl => by simpa using hb s1 us (by simpa using hl)) I1 r .nil (by simpa using q)
theorem pe_call0G (F : FnOkG X.prog X.w X.K X.mg X.base CX k f fd [] sp) (hr : Room k X.A) (hgd : X.A.guards = some []) (hg : Gl X x) (hm : X.mg x = some (.ref f)) (hk : PySem.W.keepIn X.K (.ref f) = true)
    (hb : ∀ (s : Shared), BindsTo s fd ⟨[], []⟩ []) (hx : Passes CX X E)
    (hdb : (x == ("__debug__" : Str)) = false := by decide) : PE X (.Call (.Name x p) [] [] pos) (fun σ H Q => sp [] H Q E) := by
  refine ⟨fun pins s σ H Q I h => ?_⟩
  refine wpAny_Call_Name_kw (ld_glob I hg hm ?_ hdb)
  exact PySem.W.callWith_K0 I.kIn hk (run_fnG (us := []) (ks := []) (ws := []) (vs := []) (zs := []) F hr hgd hx (fun hl => by simpa using hb s) I .nil .nil h)
/-- f(e, .., k = v, ..) -/
theorem pe_callKG (F : FnOkG X.prog X.w X.K X.mg X.base CX k f fd ps sp) (hr : Room k X.A) (hgd : X.A.guards = some []) (hg : Gl X x) (hm : X.mg x = some (.ref f)) (hk : PySem.W.keepIn X.K (.ref f) = true)
    (hb : ∀ (s : Shared) (us ws : List Value), us.length + ws.length = ps.length → ws.length = ks.length → BindsTo s fd ⟨us, ks.zip ws⟩ (ps.zip (us ++ ws))) (hx : Passes CX X E)
    (ha : PA X (e :: es) t) (hkw : PK X kws tk) (hall : (backToKw pos (keywordEach kws X.env)).all (·.1.isSome) = true := by rfl) (hks : (backToKw pos (keywordEach kws X.env)).filterMap (·.1) = ks := by rfl)
    (hdb : (x == ("__debug__" : Str)) = false := by decide) (he : starEach (e :: es) X.env = (false, eval e X.env) :: starEach es X.env := by rfl)
    (hpl : ((backTo pos (starEach (e :: es) X.env)).any (·.1) || (backToKw pos (keywordEach kws X.env)).any (·.1.isNone)) = false := by rfl) :
    PE X (.Call (.Name x p) (e :: es) kws pos) (fun σ H Q => t σ H fun vs H1 => tk σ H1 fun zs H2 => zs.length = ks.length ∧ sp (vs ++ zs) H2 Q E) := by
  refine ⟨fun pins s σ H Q I h => ?_⟩
  refine wpAny_Call_Name_kw (ld_glob I hg hm ?_ hdb)
  refine PySem.W.callWith_KW (h₀ := X.base) I.ok.mod.kin hk hall (thn (ha.run pos pins s σ H _ I h) fun us s1 ⟨vs, H1, I1, r, q⟩ => ?_) hpl he
  refine thn (hkw.run pos pins s1 σ H1 _ I1 q) fun ws s2 ⟨zs, H2, I2, rz, l2, q2⟩ => ⟨I2.kIn, ?_⟩
  rw [hks]
  exact run_fnG F hr hgd hx (fun hl => hb s2 us ws (by simpa using hl) (rz.length.symm.trans l2)) I2 r rz q2
/-- f(k = v, ..) -/
theorem pe_callK0G (F : FnOkG X.prog X.w X.K X.mg X.base CX k f fd ps sp) (hr : Room k X.A) (hgd : X.A.guards = some []) (hg : Gl X x) (hm : X.mg x = some (.ref f)) (hk : PySem.W.keepIn X.K (.ref f) = true)
    (hb : ∀ (s : Shared) (us ws : List Value), us.length + ws.length = ps.length → ws.length = ks.length → BindsTo s fd ⟨us, ks.zip ws⟩ (ps.zip (us ++ ws))) (hx : Passes CX X E)
    (hkw : PK X kws tk) (hall : (backToKw pos (keywordEach kws X.env)).all (·.1.isSome) = true := by rfl) (hks : (backToKw pos (keywordEach kws X.env)).filterMap (·.1) = ks := by rfl)
    (hdb : (x == ("__debug__" : Str)) = false := by decide)
    (hpl : ((backTo pos (starEach [] X.env)).any (·.1) || (backToKw pos (keywordEach kws X.env)).any (·.1.isNone)) = false := by rfl) :
    PE X (.Call (.Name x p) [] kws pos) (fun σ H Q => tk σ H fun zs H2 => zs.length = ks.length ∧ sp zs H2 Q E) := by
  refine ⟨fun pins s σ H Q I h => ?_⟩
  refine wpAny_Call_Name_kw (ld_glob I hg hm ?_ hdb)
  refine PySem.W.callWith_KW0 (h₀ := X.base) I.ok.mod.kin hk hall ?_ hpl
  refine thn (hkw.run pos pins s σ H _ I h) fun ws s2 ⟨zs, H2, I2, rz, l2, q2⟩ => ⟨I2.kIn, ?_⟩
  rw [hks]
  exact run_fnG (us := []) (vs := []) F hr hgd hx (fun hl => hb s2 [] ws (by simpa using hl) (rz.length.symm.trans l2)) I2 .nil rz q2
end
/-- a def by its body -/
theorem fn_ofG {CX : CXT} {P : Program} {w : PySem.World} {K : PySem.W.Frag} {mg : Str → Option Value} {base : Heap} {k : Nat} {f : Addr} {name qual : Str} {params : Arguments} {body : List Stmt} {scope : Scope} {dV kV doc pm cdv ct oc : Value} {an od : Option Addr}
    {osl : Array (Option Value)} {N ps : List Str} {sp : Sp} (lk : K.lookup f = some ⟨oc, od, .func (PySem.W.fnOf name qual params body scope dV kV doc pm an cdv ct), osl⟩) (hcd : PySem.W.codeIn K cdv qual = true) (S : FnScope N ps scope)
    (len : ∀ vs H Q E, sp vs H Q E → vs.length = ps.length)
    (hbody : ∀ (A : Around) (outer : List Env) (s : Shared) (H : Hp) (vs : List V) (Q : VK) (E : XK), Room k (A.deeper (envOfC qual scope s.heap.objs.size f cdv)) → A.guards = some [] → sp vs H Q E →
      ∃ t, PSs (cxOf CX P w K mg base N qual scope f cdv A outer s H E) body t ∧ t { nx := fun _ H' => Q .non H', rt := Q } (start N vs) H) :
    FnOkG P w K mg base CX (k + 1) f (PySem.W.fnOf name qual params body scope dV kV doc pm an cdv ct) ps sp := by
  refine ⟨len, fun A outer s H args us vs Q E hr hgd e0 hb r hsp => ?_⟩
  have hl := len _ _ _ _ hsp
  have KX : K.In s.heap := e0.mod.kin.keeps fun b o e => (e0.bs b o e).1
  have lim : s.heap.NoLimit := e0.mod.nolimit.keeps fun b o e => (e0.bs b o e).1
  have hkind : ∀ y ∈ ps.zip us, scope.names.lookup y.1 = some .local ∨ (scope.names.lookup y.1 = some .cell ∧ ((cellsFrom (s.heap.objs.size + 1) scope.names []).lookup y.1).isSome = true) := fun ⟨n, v⟩ hy =>
    (S.par n (List.of_mem_zip hy).1).imp id fun q => ⟨q, PySem.W.cellsFrom_some _ _ _ (.inl q)⟩
  refine codeAny_call_function hr.depth (KX _ _ lk) rfl S.co S.gen rfl (PySem.W.codeRec_of KX hcd) (hb _ _ _ _ ?_)
  refine wpAny_newFunctionEnv_cells S.kind hkind fun env he s1 x => ?_
  subst he
  refine ⟨lim.keeps x.toInCall.keep, codeAny_func ?_⟩
  obtain ⟨t, ht, hq⟩ := hbody A outer s H vs Q E (hr.deeper _) hgd hsp
  have I : Inv (cxOf CX P w K mg base N qual scope f cdv A outer s H E) [] (start N vs) H s1 := inv_start S hr.hd e0 hl r x
  have fin : ∀ {s' : Shared} {σ' : L2.St} {H' : Hp} {v : V} {u : Value}, Inv (cxOf CX P w K mg base N qual scope f cdv A outer s H E) [] σ' H' s' → RelV v u → Q v H' → CE outer P w H s Q u s' :=
    fun J rv q => ⟨_, _, J.os, J.bare, J.base, J.hok, rv, q⟩
  refine wpAny_mono (ht.run [] s1 (start N vs) H _ I hq) (fun fl s' hs => ?_) fun e s' hs => hs
  cases fl with
  | ret u => obtain ⟨v, σ', H', J, rv, q⟩ := hs; exact fin J rv q
  | next => obtain ⟨σ', H', J, q⟩ := hs; exact fin (v := V.non) (u := Value.none) J rfl q
  | brk => exact hs.elim fun _ h => h.elim fun _ h => h.2.elim
  | cont => exact hs.elim fun _ h => h.elim fun _ h => h.2.elim
end Dl
end
section
namespace Dl
open PySem L2
open PyProof.Rows (envOfC)

inductive FOut where
  | ok (s : Slot) (ss : List Slot)
  | er (c : Str) (d : D) (ss : List Slot)
  | no
def FinF (K : Frag) (cl : ClsT) (H0 H : Hp) (fp : List Addr) (vs : List V) (Q : VK) (E : XK) : FOut → Prop
  | .ok s' ss' => ∀ v' H' H0' fp', Le H0' H' → SlotsOk K cl H0' H' ((v' :: vs).map some) (s' :: ss') fp' → fp'.Nodup → (∀ a ∈ fp', H0' a = none) → Fr H0 H fp H0' H' fp' → Q v' H'
  | .er c d ss' => ∀ v' H' H0' fp' C x, Le H0' H' → SlotsOk K cl H0' H' ((v' :: vs).map some) (.fz d :: ss') fp' → fp'.Nodup → (∀ a ∈ fp', H0' a = none) → Fr H0 H fp H0' H' fp' → cl c = some C → H' x = some (.xd [("value", v')]) → E (.ref C) (some x) H'
  | .no => False
def spF (K : Frag) (cl : ClsT) (n : Nat) (F : List Slot → FOut) : Sp := fun vs H Q E => ∃ H0 fp ss, vs.length = n ∧ Le H0 H ∧ SlotsOk K cl H0 H (vs.map some) ss fp ∧ fp.Nodup ∧ (∀ a ∈ fp, H0 a = none) ∧ FinF K cl H0 H fp vs Q E (F ss)

/-! ### lending -/
def lend : List Kd → List Slot → DEnv → List Slot × DEnv
  | .t :: ks, s :: ss, ρ => (s :: (lend ks ss ρ).1, (lend ks ss ρ).2)
  | .n i :: ks, s :: ss, ρ => (ρ.getD i .no :: (lend ks ss (ρ.set i s)).1, (lend ks ss (ρ.set i s)).2)
  | _, _, ρ => ([], ρ)
def unlend : List Kd → List Slot → DEnv → DEnv
  | .t :: ks, _ :: ss, ρ => unlend ks ss ρ
  | .n i :: ks, s :: ss, ρ => unlend ks ss (ρ.set i s)
  | _, _, ρ => ρ
@[simp] theorem lend_nil (ρ : DEnv) : lend [] [] ρ = ([], ρ) := rfl
@[simp] theorem lend_t (ks : List Kd) (s : Slot) (ss : List Slot) (ρ : DEnv) : lend (.t :: ks) (s :: ss) ρ = (s :: (lend ks ss ρ).1, (lend ks ss ρ).2) := rfl
@[simp] theorem lend_n (i : Nat) (ks : List Kd) (s : Slot) (ss : List Slot) (ρ : DEnv) : lend (.n i :: ks) (s :: ss) ρ = (ρ.getD i .no :: (lend ks ss (ρ.set i s)).1, (lend ks ss (ρ.set i s)).2) := rfl
@[simp] theorem unlend_nil (ss : List Slot) (ρ : DEnv) : unlend [] ss ρ = ρ := by cases ss <;> rfl
@[simp] theorem unlend_t (ks : List Kd) (s : Slot) (ss : List Slot) (ρ : DEnv) : unlend (.t :: ks) (s :: ss) ρ = unlend ks ss ρ := rfl
@[simp] theorem unlend_n (i : Nat) (ks : List Kd) (s : Slot) (ss : List Slot) (ρ : DEnv) : unlend (.n i :: ks) (s :: ss) ρ = unlend ks ss (ρ.set i s) := rfl
section
variable {X : Cx} {W : Wc} {Ew : XK} {js is vl : List Nat} {ts vs us zs : List V} {tss ss sus szs : List Slot} {σ σ' : St} {H H' H0 H0' : Hp} {ρ : DEnv} {v v1 v2 : V} {s s1 s2 : Slot} {e : Expr} {k ka kb kc : Kd} {f fa fb fc : EM} {Q Q' : VK} {d d1 d2 : D} {p : Addr} {pre : List V} {preS : List Slot}
theorem World.xchAt {i : Nat} {s' : Slot} (w : World W (pre ++ v :: ts) (preS ++ s :: tss) σ H ρ) (hl : pre.length = preS.length) (e1 : σ[i]? = some (some v)) (e2 : ρ[i]? = some s') : World W (pre ++ v :: ts) (preS ++ s' :: tss) σ H (ρ.set i s) :=
  World.back ((World.move w hl).xch e1 e2) hl
theorem World.lend : ∀ {ks : List Kd} {vs : List V} {ss : List Slot} {pre : List V} {preS : List Slot} {ρ : DEnv}, pre.length = preS.length → vs.length = ss.length → KdsOk σ ks vs → World W (pre ++ (vs ++ ts)) (preS ++ (ss ++ tss)) σ H ρ →
    World W (pre ++ (vs ++ ts)) (preS ++ ((Dl.lend ks ss ρ).1 ++ tss)) σ H (Dl.lend ks ss ρ).2 ∧ (Dl.lend ks ss ρ).1.length = ss.length
  | [], [], [], _, _, _, _, _, .nil, w => ⟨w, rfl⟩
  | .t :: ks, v :: vs, s :: ss, pre, preS, ρ, hp, hl, .cons _ hk, w => by
    obtain ⟨h1, h2⟩ := World.lend (ks := ks) (vs := vs) (ss := ss) (pre := pre ++ [v]) (preS := preS ++ [s]) (ρ := ρ) (by simp [hp]) (by simpa using hl) hk (by simpa using w)
    exact ⟨by simpa using h1, by simp [h2]⟩
  | .n i :: ks, v :: vs, s :: ss, pre, preS, ρ, hp, hl, .cons h0 hk, w => by
    have hi : i < ρ.length := by have := (List.getElem?_eq_some_iff.mp (show σ[i]? = some (some v) from h0)).1; have := w.slen; omega
    have e2 : ρ[i]? = some (ρ.getD i .no) := by rw [List.getD_eq_getElem?_getD]; simp [hi]
    have w1 := World.xchAt (pre := pre) (preS := preS) (v := v) (s := s) (ts := vs ++ ts) (tss := ss ++ tss) (by simpa using w) hp h0 e2
    obtain ⟨h1, h2⟩ := World.lend (ks := ks) (vs := vs) (ss := ss) (pre := pre ++ [v]) (preS := preS ++ [ρ.getD i .no]) (ρ := ρ.set i s) (by simp [hp]) (by simpa using hl) hk (by simpa using w1)
    exact ⟨by simpa using h1, by simp [h2]⟩
  | [], _ :: _, _, _, _, _, _, _, h, _ => nomatch h
  | [], [], _ :: _, _, _, _, _, hl, _, _ => by simp at hl
  | .t :: _, [], _, _, _, _, _, _, h, _ => nomatch h
  | .n _ :: _, [], _, _, _, _, _, _, h, _ => nomatch h
  | .t :: _, _ :: _, [], _, _, _, _, hl, _, _ => by simp at hl
  | .n _ :: _, _ :: _, [], _, _, _, _, hl, _, _ => by simp at hl
theorem World.unlend : ∀ {ks : List Kd} {vs : List V} {ss : List Slot} {pre : List V} {preS : List Slot} {ρ : DEnv}, pre.length = preS.length → vs.length = ss.length → KdsOk σ ks vs → World W (pre ++ (vs ++ ts)) (preS ++ (ss ++ tss)) σ H ρ →
    ∃ ss', vs.length = ss'.length ∧ World W (pre ++ (vs ++ ts)) (preS ++ (ss' ++ tss)) σ H (Dl.unlend ks ss ρ)
  | [], [], [], _, _, _, _, _, .nil, w => ⟨[], rfl, w⟩
  | .t :: ks, v :: vs, s :: ss, pre, preS, ρ, hp, hl, .cons _ hk, w => by
    obtain ⟨ss', h1, h2⟩ := World.unlend (ks := ks) (vs := vs) (ss := ss) (pre := pre ++ [v]) (preS := preS ++ [s]) (ρ := ρ) (by simp [hp]) (by simpa using hl) hk (by simpa using w)
    exact ⟨s :: ss', by simp [h1], by simpa using h2⟩
  | .n i :: ks, v :: vs, s :: ss, pre, preS, ρ, hp, hl, .cons h0 hk, w => by
    have hi : i < ρ.length := by have := (List.getElem?_eq_some_iff.mp (show σ[i]? = some (some v) from h0)).1; have := w.slen; omega
    have e2 : ρ[i]? = some (ρ.getD i .no) := by rw [List.getD_eq_getElem?_getD]; simp [hi]
    have w1 := World.xchAt (pre := pre) (preS := preS) (v := v) (s := s) (ts := vs ++ ts) (tss := ss ++ tss) (by simpa using w) hp h0 e2
    obtain ⟨ss', h1, h2⟩ := World.unlend (ks := ks) (vs := vs) (ss := ss) (pre := pre ++ [v]) (preS := preS ++ [ρ.getD i .no]) (ρ := ρ.set i s) (by simp [hp]) (by simpa using hl) hk (by simpa using w1)
    exact ⟨ρ.getD i .no :: ss', by simp [h1], by simpa using h2⟩
  | [], _ :: _, _, _, _, _, _, _, h, _ => nomatch h
  | [], [], _ :: _, _, _, _, _, hl, _, _ => by simp at hl
  | .t :: _, [], _, _, _, _, _, _, h, _ => nomatch h
  | .n _ :: _, [], _, _, _, _, _, _, h, _ => nomatch h
  | .t :: _, _ :: _, [], _, _, _, _, hl, _, _ => by simp at hl
  | .n _ :: _, _ :: _, [], _, _, _, _, hl, _, _ => by simp at hl

/-! ### calls -/
def eCall (r : List (Kd × EM)) (F : List Slot → FOut) : EM := fun ρ => (eArgs r ρ).bind fun ss ρ1 => match F (lend (r.map (·.1)) ss ρ1).1 with
  | .ok s ss' => .ok s (unlend (r.map (·.1)) ss' (lend (r.map (·.1)) ss ρ1).2)
  | .er c d ss' => .er c d (unlend (r.map (·.1)) ss' (lend (r.map (·.1)) ss ρ1).2)
  | .no => .no
theorem callW {ks : List Kd} {n : Nat} {F : List Slot → FOut} {ρ1 : DEnv} (hn : ss.length = n) (w : World W (vs ++ ts) (ss ++ tss) σ H ρ1) (hl : vs.length = ss.length) (hk : KdsOk σ ks vs)
    (q : FinO W Ew ts tss σ .t Q (match F (lend ks ss ρ1).1 with
      | .ok s ss' => .ok s (unlend ks ss' (lend ks ss ρ1).2)
      | .er c d ss' => .er c d (unlend ks ss' (lend ks ss ρ1).2)
      | .no => .no)) : spF W.K W.cl n F vs H Q Ew := by
  obtain ⟨w1, l1⟩ := World.lend (pre := []) (preS := []) rfl hl hk w
  obtain ⟨H0, fA, hle, hA, nd, hf, _, kf⟩ := World.fstep (vs := vs) (ss := (lend ks ss ρ1).1) (ts := ts) (tss := tss) w1 (hl.trans l1.symm)
  refine ⟨H0, fA, _, hl.trans hn, hle, hA, nd, hf, ?_⟩
  cases eF : F (lend ks ss ρ1).1 with
  | no => rw [eF] at q; exact q
  | ok s' ss' =>
    rw [eF] at q
    intro v' H' H0' fp' h1 h2 h3 h4 h5
    have hl' : (v' :: vs).length = (s' :: ss').length := by simpa using h2.length
    have w2 := kf hl' h1 h2 h3 h4 h5
    obtain ⟨ss'', h6, w3⟩ := World.unlend (ks := ks) (vs := vs) (ss := ss') (pre := [v']) (preS := [s']) rfl (by simpa using hl') hk w2
    exact q v' H' (World.under (vs := [v']) (ss := [s']) w3 rfl h6) trivial
  | er c d ss' =>
    rw [eF] at q
    intro v' H' H0' fp' C x h1 h2 h3 h4 h5 h7 h8
    have hl' : (v' :: vs).length = (Slot.fz d :: ss').length := by simpa using h2.length
    have w2 := kf hl' h1 h2 h3 h4 h5
    obtain ⟨ss'', h6, w3⟩ := World.unlend (ks := ks) (vs := vs) (ss := ss') (pre := [v']) (preS := [.fz d]) rfl (by simpa using hl') hk w2
    have w4 := World.under (vs := [v']) (ss := [.fz d]) w3 rfl h6
    have w5 := World.under (vs := [v']) (ss := [.fz d]) (us := ts) (sus := tss) (ts := []) (tss := []) (by simpa using w4) rfl (by simpa using w4.len)
    exact q (.ref C) (some x) H' ⟨σ, v', x, C, by simpa using w5, h7, rfl, rfl, h8⟩
theorem callO {n : Nat} {F : List Slot → FOut} {r : List (Kd × EM)} (hn : r.length = n) : ∀ σ H Q, tO W Ew .t (eCall r F) σ H Q → tAr W Ew (r.map (·.1)) (eArgs r) σ H fun vs H1 => spF W.K W.cl n F vs H1 Q Ew := fun σ H Q ⟨ts, tss, ρ, w, q⟩ => by
  refine ⟨ts, tss, ρ, w, ?_⟩
  unfold eCall at q
  cases ea : eArgs r ρ with
  | no => rw [ea] at q; exact q
  | er c d ρ' => rw [ea] at q; exact q
  | ok ss ρ1 =>
    rw [ea] at q
    simp only [Out.bind_ok] at q
    intro vs H1 hl w1 k1
    exact callW ((eArgs_length ea).trans hn) w1 hl k1 q
/-! keywords -/
theorem PK.imp {kws : List Keyword} {t t' : TA} (h : PK X kws t) (i : ∀ σ H Q, t' σ H Q → t σ H Q) : PK X kws t' := ⟨fun pos pins s σ H Q I q => h.run pos pins s σ H Q I (i σ H Q q)⟩
theorem pd_knil : PK X [] (tAr W Ew [] (eArgs [])) := PK.imp pk_nil fun σ H Q ⟨ts, tss, ρ, w, q⟩ => q [] H rfl w .nil
theorem pd_kcons {nm : Option Str} {kpos : Pos} {kws : List Keyword} {r : List (Kd × EM)} (ha : PE X e (tO W Ew k f)) (hr : PK X kws (tAr W Ew (r.map (·.1)) (eArgs r))) :
    PK X (⟨nm, e, kpos⟩ :: kws) (tAr W Ew (k :: r.map (·.1)) (eArgs ((k, f) :: r))) := PK.imp (pk_cons ha hr) fun σ H Q ⟨ts, tss, ρ, w, q⟩ => by
  refine ⟨ts, tss, ρ, w, ?_⟩
  simp only [eArgs] at q
  cases ea : f ρ with
  | no => rw [ea] at q; exact q
  | er c d ρ' => rw [ea] at q; exact q
  | ok s ρ1 =>
    rw [ea] at q
    simp only [Out.bind_ok] at q
    intro v H1 w1 k1
    refine ⟨v :: ts, s :: tss, ρ1, w1, ?_⟩
    cases eb : eArgs r ρ1 with
    | no => rw [eb] at q; exact q
    | er c d ρ' => rw [eb] at q; exact q
    | ok ss ρ2 =>
      rw [eb] at q
      simp only [Out.bind_ok] at q
      intro vs H2 hl w2 k2
      exact q (v :: vs) H2 (by simp [hl]) (World.move w2 hl) (.cons k1 k2)
theorem eArgs_append : ∀ {r r' : List (Kd × EM)} {ρ : DEnv}, eArgs (r ++ r') ρ = (eArgs r ρ).bind fun a ρ1 => (eArgs r' ρ1).bind fun b ρ2 => .ok (a ++ b) ρ2
  | [], r', ρ => by
    simp only [List.nil_append, eArgs, Out.bind_ok]
    cases eArgs r' ρ <;> rfl
  | (k, f) :: r, r', ρ => by
    simp only [List.cons_append, eArgs]
    cases f ρ with
    | no => rfl
    | er c d ρ' => rfl
    | ok s ρ1 =>
      simp only [Out.bind_ok]
      rw [eArgs_append]
      cases eArgs r ρ1 with
      | no => rfl
      | er c d ρ' => rfl
      | ok ss ρ2 =>
        simp only [Out.bind_ok]
        cases eArgs r' ρ2 <;> rfl
theorem KdsOk.append : ∀ {ks js : List Kd} {vs us : List V}, KdsOk σ ks vs → KdsOk σ js us → KdsOk σ (ks ++ js) (vs ++ us)
  | _, _, _, _, .nil, h => h
  | _, _, _, _, .cons a b, h => .cons a (KdsOk.append b h)
theorem World.swap (w : World W (us ++ (vs ++ ts)) (sus ++ (ss ++ tss)) σ H ρ) (h1 : us.length = sus.length) (h2 : vs.length = ss.length) : World W (vs ++ (us ++ ts)) (ss ++ (sus ++ tss)) σ H ρ := by
  refine w.of_perm (by have := w.len; simp only [List.length_append] at this ⊢; omega) w.keep fun {H0 fp} h => ?_
  simp only [List.map_append, List.append_assoc] at h ⊢
  obtain ⟨f1, f2, rfl, a1, a2⟩ := SlotsOk.split (by simpa using h1) h
  obtain ⟨f3, f4, rfl, b1, b2⟩ := SlotsOk.split (by simpa using h2) a2
  refine ⟨f3 ++ (f1 ++ f4), ?_, b1.append (a1.append b2)⟩
  rw [← List.append_assoc, ← List.append_assoc]
  exact List.Perm.append_right _ List.perm_append_comm
theorem callKO {n m : Nat} {F : List Slot → FOut} {r r' : List (Kd × EM)} (hn : r.length + r'.length = n) (hm : r'.length = m) : ∀ σ H Q, tO W Ew .t (eCall (r ++ r') F) σ H Q →
    tAr W Ew (r.map (·.1)) (eArgs r) σ H fun vs H1 => tAr W Ew (r'.map (·.1)) (eArgs r') σ H1 fun zs H2 => zs.length = m ∧ spF W.K W.cl n F (vs ++ zs) H2 Q Ew := fun σ H Q ⟨ts, tss, ρ, w, q⟩ => by
  refine ⟨ts, tss, ρ, w, ?_⟩
  unfold eCall at q
  rw [eArgs_append] at q
  cases ea : eArgs r ρ with
  | no => rw [ea] at q; exact q
  | er c d ρ' => rw [ea] at q; exact q
  | ok ss ρ1 =>
    rw [ea] at q
    simp only [Out.bind_ok] at q
    intro vs H1 hl w1 k1
    refine ⟨vs ++ ts, ss ++ tss, ρ1, w1, ?_⟩
    cases eb : eArgs r' ρ1 with
    | no => rw [eb] at q; exact q
    | er c d ρ' => rw [eb] at q; exact q
    | ok ss' ρ2 =>
      rw [eb] at q
      simp only [Out.bind_ok, List.map_append] at q
      intro zs H2 hl' w2 k2
      have l1 := eArgs_length ea
      have l2 := eArgs_length eb
      exact ⟨by omega, callW (ss := ss ++ ss') (by simp; omega) (by simpa using World.swap w2 hl' hl) (by simp [hl, hl']) (k1.append k2) q⟩

/-! ### a def of the data layer -/
structure Cld (P : Program) (w : PySem.World) (K : Frag) (mg : Str → Option Value) (base : Heap) (cl : ClsT) (k : Nat) (x : Str) (ps : List Str) (F : List Slot → FOut) : Prop where
  ex : ∃ (f : Addr) (fd : FuncData), FnOkG P w K mg base (L2.CX P w) k f fd ps (spF K cl ps.length F) ∧ mg x = some (.ref f) ∧ PySem.W.keepIn K (.ref f) = true ∧
    ∀ (s : Shared) (us ws : List Value) (ks : List Str), us.length + ws.length = ps.length → ks = ps.drop us.length → BindsTo s fd ⟨us, ks.zip ws⟩ (ps.zip (us ++ ws))
section
variable {kl : Nat} {x : Str} {ps : List Str} {F : List Slot → FOut} {es : List Expr} {kws : List Keyword} {r r' : List (Kd × EM)} {pn pos : Pos} {ks : List Str}
theorem pd_call (C : Cld X.prog X.w X.K X.mg X.base W.cl kl x ps F) (hK : X.K = W.K) (hr : Room kl X.A) (hgd : X.A.guards = some []) (hg : Gl X x) (hx : Passes (L2.CX X.prog X.w) X Ew) (hn : r.length = ps.length)
    (ha : PA X (e :: es) (tAr W Ew (r.map (·.1)) (eArgs r))) (hdb : (x == ("__debug__" : Str)) = false := by decide) (he : starEach (e :: es) X.env = (false, eval e X.env) :: starEach es X.env := by rfl) (hpl : (backTo pos (starEach es X.env)).any (·.1) = false := by rfl) :
    PE X (.Call (.Name x pn) (e :: es) [] pos) (tO W Ew .t (eCall r F)) := by
  obtain ⟨f, fd, h1, h2, h3, h4⟩ := C.ex
  rw [hK] at h1
  refine PE.imp (pe_callG (by rw [hK]; exact h1) hr hgd hg h2 h3 (fun s us hl => ?_) hx ha hdb he hpl) (callO hn)
  have := h4 s us [] [] (by simpa using hl) (by rw [hl]; simp)
  simpa using this
theorem pd_callK (C : Cld X.prog X.w X.K X.mg X.base W.cl kl x ps F) (hK : X.K = W.K) (hr : Room kl X.A) (hgd : X.A.guards = some []) (hg : Gl X x) (hx : Passes (L2.CX X.prog X.w) X Ew) (hn : r.length + r'.length = ps.length) (hks' : ks = ps.drop r.length)
    (ha : PA X (e :: es) (tAr W Ew (r.map (·.1)) (eArgs r))) (hkw : PK X kws (tAr W Ew (r'.map (·.1)) (eArgs r'))) (hall : (backToKw pos (keywordEach kws X.env)).all (·.1.isSome) = true := by rfl) (hks : (backToKw pos (keywordEach kws X.env)).filterMap (·.1) = ks := by rfl)
    (hdb : (x == ("__debug__" : Str)) = false := by decide) (he : starEach (e :: es) X.env = (false, eval e X.env) :: starEach es X.env := by rfl)
    (hpl : ((backTo pos (starEach (e :: es) X.env)).any (·.1) || (backToKw pos (keywordEach kws X.env)).any (·.1.isNone)) = false := by rfl) :
    PE X (.Call (.Name x pn) (e :: es) kws pos) (tO W Ew .t (eCall (r ++ r') F)) := by
  obtain ⟨f, fd, h1, h2, h3, h4⟩ := C.ex
  rw [hK] at h1
  refine PE.imp (pe_callKG (by rw [hK]; exact h1) hr hgd hg h2 h3 (fun s us ws hl hl2 => h4 s us ws ks hl ?_) hx ha hkw hall hks hdb he hpl) (callKO hn ?_)
  · rw [hks']; congr 1; have := congrArg List.length hks'; simp at this; omega
  · have := congrArg List.length hks'; simp at this; omega
theorem pd_callK0 (C : Cld X.prog X.w X.K X.mg X.base W.cl kl x ps F) (hK : X.K = W.K) (hr : Room kl X.A) (hgd : X.A.guards = some []) (hg : Gl X x) (hx : Passes (L2.CX X.prog X.w) X Ew) (hn : r'.length = ps.length)
    (hkw : PK X kws (tAr W Ew (r'.map (·.1)) (eArgs r'))) (hall : (backToKw pos (keywordEach kws X.env)).all (·.1.isSome) = true := by rfl) (hks : (backToKw pos (keywordEach kws X.env)).filterMap (·.1) = ps := by rfl)
    (hdb : (x == ("__debug__" : Str)) = false := by decide)
    (hpl : ((backTo pos (starEach [] X.env)).any (·.1) || (backToKw pos (keywordEach kws X.env)).any (·.1.isNone)) = false := by rfl) :
    PE X (.Call (.Name x pn) [] kws pos) (tO W Ew .t (eCall r' F)) := by
  obtain ⟨f, fd, h1, h2, h3, h4⟩ := C.ex
  rw [hK] at h1
  refine PE.imp (pe_callK0G (by rw [hK]; exact h1) hr hgd hg h2 h3 (fun s us ws hl hl2 => h4 s us ws ps hl ?_) hx hkw hall hks hdb hpl) fun σ H Q q => ?_
  · have : us.length = 0 := by omega
    rw [this]; rfl
  · obtain ⟨ts, tss, ρ, w, q⟩ := callKO (r := []) (r' := r') (by simpa using hn) hn σ H Q q
    have q' := q [] H rfl w .nil
    simpa using q'
end
/-! ### a def's body -/
def kept : List Bool → DEnv → List Slot
  | true :: m, s :: ρ => s :: kept m ρ
  | false :: m, _ :: ρ => .no :: kept m ρ
  | _ :: m, [] => .no :: kept m []
  | [], _ => []
@[simp] theorem kept_nil (ρ : DEnv) : kept [] ρ = [] := by cases ρ <;> rfl
@[simp] theorem kept_t (m : List Bool) (s : Slot) (ρ : DEnv) : kept (true :: m) (s :: ρ) = s :: kept m ρ := rfl
@[simp] theorem kept_f (m : List Bool) (s : Slot) (ρ : DEnv) : kept (false :: m) (s :: ρ) = .no :: kept m ρ := rfl
def kpFrom : Nat → List Bool → List Nat
  | _, [] => []
  | i, true :: m => i :: kpFrom (i + 1) m
  | i, false :: m => kpFrom (i + 1) m
def runF (nN : Nat) (m : List Bool) (b : SM) (ss : List Slot) : FOut := match b (ss ++ List.replicate (nN - m.length) .no) with
  | .nx ρ => .ok (.fz .none) (kept m ρ)
  | .rt s ρ => .ok s (kept m ρ)
  | .er c d ρ => .er c d (kept m ρ)
  | _ => .no
theorem kpFrom_mem : ∀ {m : List Bool} {i j : Nat}, m[j]? = some true → i + j ∈ kpFrom i m
  | true :: m, i, 0, _ => by simp [kpFrom]
  | true :: m, i, j + 1, h => by
    simp only [kpFrom]
    refine List.mem_cons_of_mem _ ?_
    have := kpFrom_mem (m := m) (i := i + 1) (j := j) (by simpa using h)
    rwa [show i + 1 + j = i + (j + 1) by omega] at this
  | false :: m, i, 0, h => by simp at h
  | false :: m, i, j + 1, h => by
    simp only [kpFrom]
    have := kpFrom_mem (m := m) (i := i + 1) (j := j) (by simpa using h)
    rwa [show i + 1 + j = i + (j + 1) by omega] at this
  | [], _, _, h => by simp at h
theorem kpFrom_lt : ∀ {m : List Bool} {i j : Nat}, j ∈ kpFrom i m → j < i + m.length
  | [], i, j, h => nomatch h
  | true :: m, i, j, h => by
    simp only [kpFrom] at h
    rcases List.mem_cons.mp h with rfl | h
    · simp
    · have := kpFrom_lt h; simp; omega
  | false :: m, i, j, h => by
    simp only [kpFrom] at h
    have := kpFrom_lt h; simp; omega
theorem SlotsOk.kept {K : Frag} {cl : ClsT} : ∀ {m : List Bool} {vs : List V} {ovs : List (Option V)} {ρ : DEnv} {fp : List Addr}, SlotsOk K cl H0 H ovs ρ fp → vs.length = m.length → (∀ (i : Nat), m[i]? = some true → ovs[i]? = (vs[i]?).map some) →
    ∃ fp' : List Addr, fp'.Sublist fp ∧ SlotsOk K cl H0 H (vs.map some) (Dl.kept m ρ) fp'
  | [], [], _, ρ, fp, _, _, _ => ⟨[], List.nil_sublist _, by rw [kept_nil]; exact .nil⟩
  | b :: m, v :: vs, _, _, _, .cons (ov := ov) (s := s) (f1 := f1) (f2 := f2) h t, hl, hk => by
    obtain ⟨fp', h1, h2⟩ := SlotsOk.kept (m := m) (vs := vs) t (by simpa using hl) fun i hi => by simpa using hk (i + 1) (by simpa using hi)
    cases b with
    | true =>
      have e : ov = some v := by simpa using hk 0 rfl
      subst e
      exact ⟨f1 ++ fp', h1.append_left f1, .cons h h2⟩
    | false => exact ⟨[] ++ fp', h1.trans (List.sublist_append_right f1 f2), .cons (f1 := []) rfl h2⟩
  | b :: m, v :: vs, _, _, _, .nil, hl, hk => by
    obtain ⟨fp', h1, h2⟩ := SlotsOk.kept (K := K) (cl := cl) (m := m) (vs := vs) (ovs := []) (ρ := []) (fp := []) .nil (by simpa using hl) fun i hi => by
      have := hk (i + 1) (by simpa using hi)
      simpa using this
    refine ⟨[] ++ fp', by simpa using h1, ?_⟩
    have : Dl.kept (b :: m) [] = .no :: Dl.kept m [] := by cases b <;> rfl
    rw [this]
    exact .cons (f1 := []) rfl h2
  | [], _ :: _, _, _, _, _, hl, _ => by simp at hl
  | _ :: _, [], _, _, _, _, hl, _ => by simp at hl
theorem SlotsOk.nones {K : Frag} {cl : ClsT} : ∀ {n : Nat}, SlotsOk K cl H0 H (List.replicate n none) (List.replicate n .no) []
  | 0 => .nil
  | n + 1 => .cons (f1 := []) (f2 := []) rfl SlotsOk.nones
end
/-- a def of the text, by its body's evaluation -/
theorem cld_mk {P : Program} {w : PySem.World} {K : Frag} {mg : Str → Option Value} {base : Heap} {cl : ClsT} {k : Nat} {x : Str} {st : Stmt} {f : Addr} {fd : FuncData} {N ps : List Str} {m : List Bool} {b : SM} (F : Fun K x x st f fd) (hm : mg x = some (.ref f)) (S : FnScope N ps (defScope st)) (hml : m.length = ps.length) (hN : ps.length ≤ N.length)
    (hb : ∀ (kV doc pm : Value) (an : Option Addr) (cdv ct : Value) (us ws : List Value) (ks : List Str), us.length + ws.length = ps.length → ks = ps.drop us.length → bindArgs (PySem.W.fnOf x x (defArgs st) (defBody st) (defScope st) .none kV doc pm an cdv ct) ⟨us, ks.zip ws⟩ = pure (ps.zip (us ++ ws)))
    (hbody : ∀ (cdv : Value) (A : Around) (outer : List Env) (s : Shared) (H : Hp) (E : XK) (G : Gm), Room k (A.deeper (envOfC x (defScope st) s.heap.objs.size f cdv)) → A.guards = some [] →
      PSs (cxOf (L2.CX P w) P w K mg base N x (defScope st) f cdv A outer s H E) (defBody st) (tS ⟨K, cl, kpFrom 0 m, G⟩ E b)) :
    Cld P w K mg base cl (k + 1) x ps (runF N.length m b) := by
  obtain ⟨oc, od, kV, doc, pm, an, cdv, ct, osl, rfl, lk, hcd⟩ := F.ex
  refine ⟨f, _, fn_ofG lk hcd S (fun vs H Q E h => ?_) (fun A outer s H vs Q E hr hgd hsp => ?_), hm, F.kp, fun s us ws ks hl hks => .of_eq (hb _ _ _ _ _ _ us ws ks hl hks)⟩
  · obtain ⟨_, _, _, h, _⟩ := h
    exact h
  · obtain ⟨H0, fp, ss, hn, hle, hs, nd, hf, q⟩ := hsp
    refine ⟨_, hbody cdv A outer s H E ⟨H0, H, fp, vs⟩ hr hgd, [], [], ss ++ List.replicate (N.length - m.length) .no, ?_, ?_⟩
    · refine ⟨rfl, ⟨H0, fp, hle, ?_, nd, hf, Fr.refl⟩, fun i hi => ?_⟩
      · have := hs.append (SlotsOk.nones (K := K) (cl := cl) (H0 := H0) (H := H) (n := N.length - m.length))
        simpa [L2.start, hn, hml] using this
      · have := kpFrom_lt hi
        show (L2.start N vs)[i]? = (vs[i]?).map some
        unfold L2.start
        rw [List.getElem?_append_left (by simp; omega), List.getElem?_map]
    · have fin : ∀ {v : V} {sl : Slot} {σ' : L2.St} {H' : Hp} {ρ' : DEnv}, World ⟨K, cl, kpFrom 0 m, ⟨H0, H, fp, vs⟩⟩ [v] [sl] σ' H' ρ' →
          ∃ (H0' : Hp) (fp' : List Addr), Le H0' H' ∧ SlotsOk K cl H0' H' ((v :: vs).map some) (sl :: kept m ρ') fp' ∧ fp'.Nodup ∧ (∀ a ∈ fp', H0' a = none) ∧ Fr H0 H fp H0' H' fp' := fun {v sl σ' H' ρ'} w => by
        obtain ⟨H0', fp', a1, a2, a3, a4, a5⟩ := w.ex
        have a2' : SlotsOk K cl H0' H' (some v :: σ') (sl :: ρ') fp' := by simpa using a2
        cases a2' with
        | cons b1 b2 =>
          rename_i g1 g2
          obtain ⟨fp2, c1, c2⟩ := SlotsOk.kept (m := m) (vs := vs) b2 (by rw [hn, hml]) fun i hi => by
            have := w.keep i (by simpa using kpFrom_mem (i := 0) hi)
            exact this
          exact ⟨H0', g1 ++ fp2, a1, .cons b1 c2, (c1.append_left g1).nodup a3, fun a ha => a4 a ((c1.append_left g1).subset ha), a5.less fun a ha => (c1.append_left g1).subset ha⟩
      unfold runF at q
      cases eb : b (ss ++ List.replicate (N.length - m.length) .no) with
      | no => rw [eb] at q; exact q.elim
      | bk ρ' => rw [eb] at q; exact q.elim
      | ct ρ' => rw [eb] at q; exact q.elim
      | nx ρ' =>
        rw [eb] at q
        intro σ' H' w
        obtain ⟨H0', fp', a1, a2, a3, a4, a5⟩ := fin (w.push .non)
        exact q _ H' H0' fp' a1 a2 a3 a4 a5
      | rt sl ρ' =>
        rw [eb] at q
        intro v σ' H' w
        obtain ⟨H0', fp', a1, a2, a3, a4, a5⟩ := fin w
        exact q _ H' H0' fp' a1 a2 a3 a4 a5
      | er c d ρ' =>
        rw [eb] at q
        intro cv dx H' h
        obtain ⟨σ', v, x, C, w, e1, e2, e3, e4⟩ := h
        subst e2 e3
        obtain ⟨H0', fp', a1, a2, a3, a4, a5⟩ := fin w
        exact q v H' H0' fp' C x a1 a2 a3 a4 a5 e1 e4
end Dl
end
section
set_option maxHeartbeats 2000000
namespace Dl
open PySem L2 PySem.Spec PyProof.Rows
theorem law_callG {P : Program} {w : PySem.World} {K : PySem.W.Frag} {mg mb : Str → Option Value} {CX : CXT} {k : Nat} {fa a : Addr} {x : Str} {sp : Sp} {s₁ : Shared} {vs : List Value} {ns : List Int}
    (KX : K.In s₁.heap) (hns : s₁.heap.Ns mainGlobals mg) (hb : s₁.heap.Ns builtinsNs mb) (hbb : ∀ x : Str, x ≠ "__name__" → mb x = bootBuiltins x) (hlim : s₁.heap.NoLimit) (hg : s₁.gens = #[])
    (ha : s₁.heap.get? a = some { cls := .type "list", data := .seq vs.toArray }) (hi : IntsAre vs ns) (hl : ns.length ≤ sizeLine) (hr : Room k callerA)
    (F : ∀ base : Heap, K.In base → base.Ns mainGlobals mg → ∃ fd : FuncData, FnOkG P w K mg base CX k fa fd [x] sp ∧ ∀ (s : Shared) (u : Value), BindsTo s fd ⟨[u], []⟩ [(x, u)])
    (hsp : ∀ H : Hp, Only H → SqL K H a (ns.map V.int) → sp [.ref a] H (fun v _ => v = .bl true) fun _ _ _ => False)
    (hCX : ∀ H e s', CX [] H s₁ (fun _ _ _ => False) e s' → False) :
    codeAny (model P w) callerA (.call (.ref fa) ⟨[.ref a], []⟩) (fun r s' => r = .ok (.ret (.bool true)) ∧ OldK s₁.heap s'.heap ∧ s'.os = s₁.os ∧ AllBare s'.gens) s₁ := by
  have rv := vals_ints hi
  have lenV := hi.length
  -- from an abstract heap in which nothing but the script may be tracked
  have core : ∀ H : Hp, Only H → SqL K H a (ns.map V.int) → HOk P w H s₁.heap → (∀ b, H b ≠ none → b = a) → (H a ≠ none → K.lookup a = none) →
      codeAny (model P w) callerA (.call (.ref fa) ⟨[.ref a], []⟩) (fun r s' => r = .ok (.ret (.bool true)) ∧ OldK s₁.heap s'.heap ∧ s'.os = s₁.os ∧ AllBare s'.gens) s₁ := by
    intro H hO hS hok hA hK
    have base_of : ∀ {b : Addr} {o : Obj}, s₁.heap.get? b = some o → H b = none → (hidT s₁.heap H).get? b = some o := fun e n => hidT_get e n
    have noA : ∀ {b : Addr} {o : Obj} {es : Array DictEntry} {ep : Nat}, s₁.heap.get? b = some o → o.data = .dict es ep → H b = none := fun {b o es ep} e d => by
      cases q : H b with
      | none => rfl
      | some u =>
        have e' : b = a := hA b (by rw [q]; simp)
        subst e'
        rw [ha] at e; cases e
        have d' : Data.seq vs.toArray _ = Data.dict es ep := d
        cases d'
    have nsK : ∀ {b : Addr} {m : Str → Option Value}, s₁.heap.Ns b m → (hidT s₁.heap H).Ns b m := fun {b m} ⟨o, es, ep, e, d, r⟩ => ⟨o, es, ep, base_of e (noA e d), d, r⟩
    have hKb : K.In (hidT s₁.heap H) := fun b o e => base_of (KX b o e) (by
      cases q : H b with
      | none => rfl
      | some u =>
        have e' : b = a := hA b (by rw [q]; simp)
        subst e'
        rw [hK (by rw [q]; simp)] at e; cases e)
    have hM : Mod K mg (hidT s₁.heap H) := ⟨hKb, nsK hns, ⟨mb, nsK hb, hbb⟩, let ⟨mc, h1, h2⟩ := hlim; ⟨mc, nsK h1, h2⟩⟩
    have e0 : Env0 P w K mg (hidT s₁.heap H) callerA [] s₁ H := ⟨rfl, hM, fun b o e => of_hidT e, Nat.le_of_eq (hidT_size _ _), trivial, fun b hb => absurd (show b ∈ ([] : List Addr) from hb) (by simp), hok, .of_eq hg⟩
    obtain ⟨fd, F1, hbind⟩ := F _ hKb (nsK hns)
    refine codeAny_mono (F1.run callerA [] s₁ H ⟨[.ref a], []⟩ [.ref a] [.ref a] _ _ hr rfl e0 (hbind s₁ (.ref a)) (.cons rfl .nil) (hsp H hO hS)) fun r s' h => ?_
    cases r with
    | error e => exact (hCX H e s' h).elim
    | ok fl =>
      cases fl with
      | next => exact False.elim h
      | brk => exact False.elim h
      | cont => exact False.elim h
      | ret u =>
        obtain ⟨v, H', os, bare, un, hok', r', q⟩ := h
        have q' : v = .bl true := q
        subst q'
        obtain rfl : u = Value.bool true := r'
        refine ⟨rfl, OldK.of_keep fun b o e => ?_, os, bare⟩
        cases q : H b with
        | none => exact un.keep b o e q (by intro z; exact absurd (show b ∈ ([] : List Addr) from z) (by simp)) (by simp)
        | some u =>
          rcases hO b with z | ⟨ob, xs, z⟩
          · rw [q] at z; cases z
          · have z2 := un.frzs b ob _ z
            obtain ⟨e1, _⟩ := hok b _ z
            obtain ⟨e2, _⟩ := hok' b _ z2
            rw [e] at e1; cases e1
            exact e2
  cases hk : K.lookup a with
  | some o =>
    -- the script is one of the module's own objects
    have e := KX a o hk
    rw [ha] at e
    cases e
    refine core (fun _ => none) (fun _ => .inl rfl) (.inr ⟨_, vs.toArray, _, hk, rfl, rfl, rfl, by rw [List.size_toArray, lenV]; exact hl, by simpa using rv⟩) (fun b u z => by have z' : (none : Option HO) = some u := z; cases z') (fun b z => absurd rfl z) fun z => absurd rfl z
  | none =>
    refine core (fun b => if b = a then some (.frz { cls := .type "list", data := .seq vs.toArray } (.lst (ns.map V.int))) else none) (fun b => ?_) (.inl (.inr ⟨{ cls := .type "list", data := .seq vs.toArray }, if_pos rfl⟩)) (fun b u z => ?_) (fun b z => ?_) fun _ => hk
    · by_cases hb : b = a
      · exact .inr ⟨_, _, if_pos hb⟩
      · exact .inl (if_neg hb)
    · by_cases hb : b = a
      · have z' := (if_pos hb).symm.trans z
        cases z'
        subst hb
        exact ⟨ha, by rw [List.length_map]; exact hl, vs, _, rv, ha⟩
      · have z' := (if_neg hb).symm.trans z
        cases z'
    · by_cases hb : b = a
      · exact hb
      · exact absurd (if_neg hb) z
/-- the law's end, from the evaluation of its def -/
theorem walk_ofG {l : PySem.W.OpenLaw} {n k : Nat} {q : Program} {loose : List Str} {XP : (Str → Option Value) → Heap → Prop} {YP : PySem.World → Heap → Prop} {d : DefRec} {x : Str}
    (hn : l.most = some n) (hn2 : n ≤ sizeLine) (hdf : d.params.defaults = []) (hr : Room k callerA)
    (F : ∀ (w : PySem.World) (mg : Str → Option Value) (fa : Addr) (h : Heap), YP w h → h.Ns mainGlobals mg → mg d.name = some (.ref fa) →
      ∃ (K : PySem.W.Frag) (cl : ClsT) (G : List Slot → FOut), K.In h ∧ (∀ ns : List Int, ns.length ≤ n → ∃ ss', G [.fz (scrD (ns.map .int))] = .ok (.fz (.bool true)) ss') ∧
        ∀ base : Heap, K.In base → base.Ns mainGlobals mg → Cld l.prog w K mg base cl k d.name [x] G) :
    PySem.W.WalkO q loose XP YP l.row.toRowW d [] (fun f vs => PySem.call f vs) := by
  refine Att.attach_call hn hdf fun w s₀ s₁ mg mb fa o pm cd doc a vs ns G Y ho hd hcd hmg hobj hints hlen hg => ?_
  obtain ⟨K, cl, Gf, KX, hG, hF⟩ := F w mg fa _ Y G.T.g hmg
  refine law_callG (CX := L2.CX l.prog w) (k := k) KX G.T.g G.T.b G.T.builtins G.T.nolimit hg hobj hints (Nat.le_trans hlen hn2) hr (sp := spF K cl 1 Gf) (x := x) (fun base h1 h2 => ?_) (fun H hO hS => ?_) fun H e s' h => ?_
  · obtain ⟨f, fd, c1, c2, c3, c4⟩ := (hF base h1 h2).ex
    rw [hmg] at c2
    cases c2
    exact ⟨fd, c1, fun s u => by simpa using c4 s [u] [] [] rfl rfl⟩
  · obtain ⟨ss', e⟩ := hG ns hlen
    refine ⟨H, [], [.fz (scrD (ns.map .int))], rfl, Le.refl H, ?_, List.nodup_nil, fun a ha => absurd ha (by simp), ?_⟩
    · refine SlotsOk.cons (f1 := []) (f2 := []) ⟨.scr hS ?_, rfl⟩ .nil
      clear hobj hints hlen hG hS e
      induction ns with
      | nil => exact .nil
      | cons i ns ih => exact .cons (.int i) ih
    · rw [e]
      intro v' H' H0' fp' _ h2 _ _ _
      cases h2 with
      | cons h2 _ =>
        cases h2.1
        rfl
  · obtain ⟨_, _, _, _, _, _, _, _, _, _, _, _, z⟩ := h
    exact z.elim
end Dl
end
section
namespace Dl
open PySem L2

section
variable {X : Cx} {W : Wc} {Ew : XK} {js is vl : List Nat} {ts vs us zs : List V} {tss ss sus szs : List Slot} {σ σ' : St} {H H' H0 H0' : Hp} {ρ : DEnv} {v v1 v2 : V} {s s1 s2 : Slot} {e : Expr} {k ka kb kc : Kd} {f fa fb fc : EM} {Q Q' : VK} {d d1 d2 : D} {p : Addr} {pre : List V} {preS : List Slot}
/-- a list comprehension -/
theorem pd_lc {elt tg iter : Expr} {ifs : List Expr} {scope : Scope} {own : List (Str × Nat)} {pos : Pos} {fi : DEnv → Out IS} {g : TG} {t : TgD} {c : DEnv → Out Bool} (h : TgOk W g is t) (his : ∀ i ∈ is, i ∈ own.map (·.2)) (hk : ∀ i ∈ W.kp, i ∉ own.map (·.2)) (hj : ∀ i ∈ js, i ∉ own.map (·.2))
    (hgd : ∀ ρ S ρ1, fi ρ = .ok S ρ1 → ∀ ρ', S.gd ρ' → S.gd (wipeD ρ' (own.map (·.2)))) (hc : X.calm = true) (hN : X.N.Nodup) (hi : PI X tg iter (tI W Ew js fi)) (ok : BlkOk X.N X.env.scope scope own)
    (hg : ∀ (s : Shared) (H : Hp) (C : Addr) (cl : List (Str × Addr)) (fp : List Addr), PG (X.blk s H scope (compEnvC scope cl C X.env) fp) tg g) (ht : ∀ (s : Shared) (H : Hp) (C : Addr) (cl : List (Str × Addr)) (fp : List Addr), PTs (X.blk s H scope (compEnvC scope cl C X.env) fp) ifs (tT W (fun _ _ _ => False) c))
    (he : ∀ (s : Shared) (H : Hp) (C : Addr) (cl : List (Str × Addr)) (fp : List Addr), PE (X.blk s H scope (compEnvC scope cl C X.env) fp) elt (tO W (fun _ _ _ => False) .t f)) (hs : ∀ x, foldedSetIterable iter X.env x = pure x := by intro _; rfl) :
    PE X (.ListComp elt [⟨tg, iter, ifs, 0⟩] scope pos) (tO W Ew .t (eLc (own.map (·.2)) fi t c f)) := PE.imp (pe_lc hc hN hi ok hg ht he hs) (lc_red h his hk hj hgd)
theorem pd_setLc {i : Nat} {y : Str} {py : Pos} {elt tg iter : Expr} {ifs : List Expr} {scope : Scope} {own : List (Str × Nat)} {pos spos : Pos} {fi : DEnv → Out IS} {g : TG} {t : TgD} {c : DEnv → Out Bool} (hki : i ∉ W.kp) (h : TgOk W g is t) (his : ∀ i ∈ is, i ∈ own.map (·.2)) (hk : ∀ i ∈ W.kp, i ∉ own.map (·.2)) (hj : ∀ i ∈ js, i ∉ own.map (·.2))
    (hgd : ∀ ρ S ρ1, fi ρ = .ok S ρ1 → ∀ ρ', S.gd ρ' → S.gd (wipeD ρ' (own.map (·.2)))) (hc : X.calm = true) (hN : X.N.Nodup) (hy : X.N[i]? = some y) (hyl : X.env.scope.names.lookup y = some .local)
    (hsw : swapsWith (.ListComp elt [⟨tg, iter, ifs, 0⟩] scope pos) (some (.Name y py)) spos.line X.env = pure true) (hi : PI X tg iter (tI W Ew js fi)) (ok : BlkOk X.N X.env.scope scope own)
    (hg : ∀ (s : Shared) (H : Hp) (C : Addr) (cl : List (Str × Addr)) (fp : List Addr), PG (X.blk s H scope (compEnvC scope cl C X.env) fp) tg g) (ht : ∀ (s : Shared) (H : Hp) (C : Addr) (cl : List (Str × Addr)) (fp : List Addr), PTs (X.blk s H scope (compEnvC scope cl C X.env) fp) ifs (tT W (fun _ _ _ => False) c))
    (he : ∀ (s : Shared) (H : Hp) (C : Addr) (cl : List (Str × Addr)) (fp : List Addr), PE (X.blk s H scope (compEnvC scope cl C X.env) fp) elt (tO W (fun _ _ _ => False) .t f)) (hs : ∀ x, foldedSetIterable iter X.env x = pure x := by intro _; rfl) :
    PS X (.Assign [.Name y py] (.ListComp elt [⟨tg, iter, ifs, 0⟩] scope pos) spos) (tS W Ew (sSet i (eLc (own.map (·.2)) fi t c f))) := PS.imp (ps_setLc hc hN hy hyl hsw hi ok hg ht he hs) fun Dn σ H q => by
  obtain ⟨ts, tss, ρ, w, q⟩ := set_red hki Dn σ H q
  exact lc_red h his hk hj hgd σ H _ ⟨ts, tss, ρ, w, q⟩
theorem gdOf_wipe (hk : ∀ i ∈ k.ix, i ∉ vl) {ρ' : DEnv} (h : gdOf k d ρ') : gdOf k d (wipeD ρ' vl) := by
  cases k with
  | t => trivial
  | n i =>
    have hi := hk i (by simp [Kd.ix])
    show ((wipeD ρ' vl).getD i .no).d? = some d
    rw [List.getD_eq_getElem?_getD, wipeD_out hi, ← List.getD_eq_getElem?_getD]
    exact h
theorem gd_seq (hk : ∀ i ∈ k.ix, i ∉ vl) : ∀ ρ S ρ1, iSeq k f ρ = .ok S ρ1 → ∀ ρ', S.gd ρ' → S.gd (wipeD ρ' vl) := fun ρ S ρ1 h ρ' g => by
  unfold iSeq at h
  cases ea : f ρ with
  | no => rw [ea] at h; cases h
  | er c d ρ' => rw [ea] at h; cases h
  | ok s ρ2 =>
    rw [ea] at h
    simp only [Out.bind_ok] at h
    split at h
    · split at h
      · cases h; exact gdOf_wipe hk g
      · cases h
    · cases h
theorem gd_rg : ∀ ρ S ρ1, iRg f ρ = .ok S ρ1 → ∀ ρ', S.gd ρ' → S.gd (wipeD ρ' vl) := fun ρ S ρ1 h ρ' g => by
  unfold iRg at h
  cases ea : f ρ with
  | no => rw [ea] at h; cases h
  | er c d ρ' => rw [ea] at h; cases h
  | ok s ρ2 =>
    rw [ea] at h
    simp only [Out.bind_ok] at h
    split at h
    · split at h
      · cases h; trivial
      · cases h
    · cases h
def tYesD : DEnv → Out Bool := fun ρ => .ok true ρ
@[simp] theorem tYesD_eq (ρ : DEnv) : tYesD ρ = .ok true ρ := rfl
theorem PTs.imp {ifs : List Expr} {t t' : TT} (h : PTs X ifs t) (i : ∀ σ H Q, t' σ H Q → t σ H Q) : PTs X ifs t' := ⟨fun pins s σ H Q I q => h.run pins s σ H Q I (i σ H Q q)⟩
theorem pd_yes : PTs X [] (tT W Ew tYesD) := PTs.imp pts_nil fun σ H Q ⟨ts, tss, ρ, w, q⟩ => q H w

/-! ### one's own object in a slot -/
theorem World.env {i : Nat} (w : World W ts tss σ H ρ) (e2 : ρ[i]? = some (.ow c)) : ∃ a, σ[i]? = some (some (.ref a)) := by
  obtain ⟨H0, fp, _, h, _⟩ := w.ex
  obtain ⟨g1, g2, _, _, hD⟩ := SlotsOk.split (by simpa using w.len) h
  obtain ⟨ov, f1, f2, f3, e3, _, h1, _⟩ := hD.at e2
  cases ov with
  | none => exact h1.elim
  | some v => obtain ⟨a, rfl, _⟩ := h1; exact ⟨a, e3⟩
theorem World.envW {i : Nat} {a : Addr} {c : Cont} (w : World W (vs ++ ts) (ss ++ tss) σ H ρ) (hl : vs.length = ss.length) (e1 : σ[i]? = some (some (.ref a))) (e2 : ρ[i]? = some (.ow c)) (hlk : ∀ t kvs, c ≠ .lk t kvs := by intro _ _ z; cases z) :
    ∃ H0, Le H0 H ∧ Rdys W H0 H vs ss ∧ ContOk W.K W.cl H0 H a c ∧ ∀ {u : HO} {c' : Cont} {vs' : List V} {ds' : List D}, ContOk W.K W.cl H0 (upd H a u) a c' → RpL W.K W.cl H0 vs' ds' → World W (vs' ++ ts) (ds'.map Slot.fz ++ tss) σ (upd H a u) (ρ.set i (.ow c')) := by
  have hi := (List.getElem?_eq_some_iff.mp e2).1
  have w1 := ((w.pushNo (.ref a)).xch e1 e2)
  have w2 : World W (vs ++ .ref a :: ts) (ss ++ .ow c :: tss) σ H (ρ.set i .no) := World.back (vs := vs) (ss := ss) w1 hl
  obtain ⟨H0, hle, rd, hc, _, kw⟩ := World.write w2 hl hlk
  refine ⟨H0, hle, rd, hc, fun {u c' vs' ds'} h1 h2 => ?_⟩
  have w3 := World.move (kw h1 h2) (by simpa using h2.length)
  have w4 := (w3.xch e1 (by rw [List.getElem?_set_self (by simpa using hi)])).pop
  simpa using w4
def small (n : Nat) : Bool := decide (n ≤ 1000000)
theorem small_lt {n : Nat} (h : small n = true) : n < sizeLine := by
  have h2 : n ≤ 1000000 := by simpa [small] using h
  have : 2000001 ≤ sizeLine := million
  omega
/-! xs.append(e), xs.pop(), xs.pop(i), xs.extend(ys) -/
def ownL (i : Nat) (ρ : DEnv) : Option (List D) := match ρ.getD i .no with
  | .ow (.lst ds) => some ds
  | _ => none
theorem ownL_inv {i : Nat} {ds : List D} (h : ownL i ρ = some ds) : ρ[i]? = some (.ow (.lst ds)) := by
  unfold ownL at h
  split at h
  · rename_i ds' e; cases h; exact getD_some e (by simp)
  · cases h
def eApp (i : Nat) (f : EM) : EM := fun ρ => match ownL i ρ with
  | none => .no
  | some _ => (f ρ).bind fun s ρ1 => match s.shared with
    | none => .no
    | some d => match ownL i ρ1 with
      | none => .no
      | some ds => if small ds.length then .ok (.fz .none) (ρ1.set i (.ow (.lst (ds ++ [d])))) else .no
theorem World.tyL {i : Nat} {ds : List D} {K : Frag} (w : World W ts tss σ H ρ) (h : ownL i ρ = some ds) : ∃ a, σ[i]? = some (some (.ref a)) ∧ tyV K "list" (.ref a) H := by
  have e := ownL_inv h
  obtain ⟨a, ha⟩ := w.env e
  obtain ⟨H0, _, _, hc, _⟩ := World.envW (vs := []) (ss := []) w rfl ha e
  obtain ⟨xs, h1, _⟩ := hc
  exact ⟨a, ha, .inl ⟨rfl, xs, SqL.of h1⟩⟩
theorem app_red {i : Nat} {K : Frag} : ∀ σ H Q, tO W Ew .t (eApp i f) σ H Q → tBM K "list" rAppend (tVar i) (tAr W Ew [.t] (eArgs [(.t, f)])) σ H Q := fun σ H Q ⟨ts, tss, ρ, w, q⟩ => by
  unfold eApp at q
  cases e0 : ownL i ρ with
  | none => rw [e0] at q; exact q.elim
  | some ds0 =>
    rw [e0] at q
    simp only at q
    obtain ⟨a, ha, ty⟩ := w.tyL (K := K) e0
    refine ⟨_, ha, ty, ts, tss, ρ, w, ?_⟩
    simp only [eArgs]
    cases ea : f ρ with
    | no => rw [ea] at q; exact q
    | er c d ρ' => rw [ea] at q; exact q
    | ok s ρ1 =>
      rw [ea] at q
      simp only [Out.bind_ok] at q ⊢
      cases es : s.shared with
      | none => rw [es] at q; exact q.elim
      | some d =>
        rw [es] at q
        simp only at q
        cases e1 : ownL i ρ1 with
        | none => rw [e1] at q; exact q.elim
        | some ds =>
          rw [e1] at q
          simp only at q
          intro vs H1 hl w1 _
          match vs, hl with
          | [v], _ =>
            split at q
            · rename_i hs
              have w2 : World W ([v] ++ ts) ([.fz d] ++ tss) σ H1 ρ1 := World.freeze w1 es
              obtain ⟨H0, hle, rd, hc, kw⟩ := World.envW w2 rfl ha (ownL_inv e1)
              obtain ⟨xs, h1, h2⟩ := hc
              cases rd with
              | cons rd _ =>
                obtain ⟨fp, r, _⟩ := rd
                exact ⟨a, xs, v, rfl, rfl, h1, small_lt (by rw [h2.length]; exact hs), q _ _ (World.push (kw (vs' := []) (ds' := []) ⟨_, upd_same, h2.snoc r⟩ .nil) .non) trivial⟩
            · exact q.elim
def ePop (i : Nat) (f : EM) : EM := fun ρ => match ownL i ρ with
  | none => .no
  | some _ => (f ρ).bind fun s ρ1 => match s.d? with
    | some (.int j) => match ownL i ρ1 with
      | none => .no
      | some ds => if 0 ≤ j then match ds[j.toNat]? with
        | some d => if small ds.length then .ok (.fz d) (ρ1.set i (.ow (.lst (ds.eraseIdx j.toNat)))) else .no
        | none => .no
       else .no
    | _ => .no
theorem pop_red {i : Nat} {K : Frag} : ∀ σ H Q, tO W Ew .t (ePop i f) σ H Q → tBM K "list" rPopAt (tVar i) (tAr W Ew [.t] (eArgs [(.t, f)])) σ H Q := fun σ H Q ⟨ts, tss, ρ, w, q⟩ => by
  unfold ePop at q
  cases e0 : ownL i ρ with
  | none => rw [e0] at q; exact q.elim
  | some ds0 =>
    rw [e0] at q
    simp only at q
    obtain ⟨a, ha, ty⟩ := w.tyL (K := K) e0
    refine ⟨_, ha, ty, ts, tss, ρ, w, ?_⟩
    simp only [eArgs]
    cases ea : f ρ with
    | no => rw [ea] at q; exact q
    | er c d ρ' => rw [ea] at q; exact q
    | ok s ρ1 =>
      rw [ea] at q
      simp only [Out.bind_ok] at q ⊢
      split at q
      · rename_i j es
        cases e1 : ownL i ρ1 with
        | none => rw [e1] at q; exact q.elim
        | some ds =>
          rw [e1] at q
          simp only at q
          intro vs H1 hl w1 _
          match vs, hl with
          | [v], _ =>
            split at q
            · rename_i hj
              split at q
              · rename_i d ed
                split at q
                · rename_i hs
                  obtain ⟨H0, hle, rd, hc, kw⟩ := World.envW (vs := [v]) (ss := [s]) w1 rfl ha (ownL_inv e1)
                  obtain ⟨xs, h1, h2⟩ := hc
                  cases rd with
                  | cons rd _ =>
                    have hlt := (List.getElem?_eq_some_iff.mp ed).1
                    have hlx : j.toNat < xs.length := by rw [h2.length]; exact hlt
                    obtain ⟨d', e3, e4⟩ := h2.get (show xs[j.toNat]? = some xs[j.toNat] by simp [hlx])
                    rw [ed] at e3
                    cases e3
                    have hsm := small_lt hs
                    have hz : sizeLine ≤ 2 ^ 30 := by decide
                    refine ⟨a, xs, j, j.toNat, xs[j.toNat], rfl, by rw [rd.int es], h1, by omega, by omega, ?_, by simp [hlx], ?_⟩
                    · refine (ixN_seq (n := xs.length) (i := j) (j := j.toNat) ?_).1
                      unfold ixN
                      rw [if_pos hj, if_pos (by omega)]
                    · exact q _ _ (kw (vs' := [xs[j.toNat]]) (ds' := [d]) ⟨_, upd_same, h2.eraseIdx _⟩ (.cons e4 .nil)) trivial
                · exact q.elim
              · exact q.elim
            · exact q.elim
      · exact q.elim
def eExt (i : Nat) (f : EM) : EM := fun ρ => match ownL i ρ with
  | none => .no
  | some _ => (f ρ).bind fun s ρ1 => match s with
    | .ow (.lst es) => match ownL i ρ1 with
      | none => .no
      | some ds => if small (ds.length + es.length) then .ok (.fz .none) (ρ1.set i (.ow (.lst (ds ++ es)))) else .no
    | _ => .no
theorem ext_red {i : Nat} {K : Frag} : ∀ σ H Q, tO W Ew .t (eExt i f) σ H Q → tBM K "list" rExtend (tVar i) (tAr W Ew [.t] (eArgs [(.t, f)])) σ H Q := fun σ H Q ⟨ts, tss, ρ, w, q⟩ => by
  unfold eExt at q
  cases e0 : ownL i ρ with
  | none => rw [e0] at q; exact q.elim
  | some ds0 =>
    rw [e0] at q
    simp only at q
    obtain ⟨a, ha, ty⟩ := w.tyL (K := K) e0
    refine ⟨_, ha, ty, ts, tss, ρ, w, ?_⟩
    simp only [eArgs]
    cases ea : f ρ with
    | no => rw [ea] at q; exact q
    | er c d ρ' => rw [ea] at q; exact q
    | ok s ρ1 =>
      rw [ea] at q
      simp only [Out.bind_ok] at q ⊢
      split at q
      · rename_i es
        cases e1 : ownL i ρ1 with
        | none => rw [e1] at q; exact q.elim
        | some ds =>
          rw [e1] at q
          simp only at q
          intro vs H1 hl w1 _
          match vs, hl with
          | [v], _ =>
            split at q
            · rename_i hs
              obtain ⟨H0, hle, rd, hc, kw⟩ := World.envW (vs := [v]) (ss := [.ow (.lst es)]) w1 rfl ha (ownL_inv e1)
              obtain ⟨xs, h1, h2⟩ := hc
              cases rd with
              | cons rd _ =>
                obtain ⟨fp, b, rfl, ⟨zs, h3, h4⟩, _⟩ := rd
                have := small_lt hs
                exact ⟨a, b, xs, zs, rfl, rfl, h1, h3, by have := h2.length; have := h4.length; omega, q _ _ (World.push (kw (vs' := []) (ds' := []) ⟨_, upd_same, h2.append h4⟩ .nil) .non) trivial⟩
            · exact q.elim
      · exact q.elim
section
variable {i : Nat} {x : Str} {px apos cpos : Pos} {a : Expr}
theorem pd_app (ho : PE X (.Name x px) (tVar i)) (ha : PA X [a] (tAr W Ew [.t] (eArgs [(.t, f)])))
    (hbase : attributeBase (.Name x px) "append" X.env (eval (.Name x px) X.env) = eval (.Name x px) X.env := by rfl)
    (hfew : ((backTo cpos (starEach [a] X.env)).all (fun x => !x.1) && (backToKw cpos (keywordEach [] X.env)).all (fun x => x.1.isSome)
      && decide ([a].length + ([] : List Keyword).length + (if ([] : List Keyword).isEmpty then 0 else 1) < 30)) = true := by rfl)
    (hline : (apos.endLine == cpos.line) = true := by rfl) (hs : starEach [a] X.env = (false, eval a X.env) :: starEach [] X.env := by rfl) (hplain : (backTo cpos (starEach [] X.env)).any (·.1) = false := by rfl) :
    PE X (.Call (.Attribute (.Name x px) "append" apos) [a] [] cpos) (tO W Ew .t (eApp i f)) :=
  PE.imp (pe_bm PySem.F.plainAttrs_list PySem.F.slot_list_append PySem.F.type_list_append mt_append ho ha hbase hfew hline hs hplain) app_red
theorem pd_pop (ho : PE X (.Name x px) (tVar i)) (ha : PA X [a] (tAr W Ew [.t] (eArgs [(.t, f)])))
    (hbase : attributeBase (.Name x px) "pop" X.env (eval (.Name x px) X.env) = eval (.Name x px) X.env := by rfl)
    (hfew : ((backTo cpos (starEach [a] X.env)).all (fun x => !x.1) && (backToKw cpos (keywordEach [] X.env)).all (fun x => x.1.isSome)
      && decide ([a].length + ([] : List Keyword).length + (if ([] : List Keyword).isEmpty then 0 else 1) < 30)) = true := by rfl)
    (hline : (apos.endLine == cpos.line) = true := by rfl) (hs : starEach [a] X.env = (false, eval a X.env) :: starEach [] X.env := by rfl) (hplain : (backTo cpos (starEach [] X.env)).any (·.1) = false := by rfl) :
    PE X (.Call (.Attribute (.Name x px) "pop" apos) [a] [] cpos) (tO W Ew .t (ePop i f)) :=
  PE.imp (pe_bm PySem.F.plainAttrs_list PySem.F.slot_list_pop PySem.F.type_list_pop mt_popAt ho ha hbase hfew hline hs hplain) pop_red
theorem pd_ext (ho : PE X (.Name x px) (tVar i)) (ha : PA X [a] (tAr W Ew [.t] (eArgs [(.t, f)])))
    (hbase : attributeBase (.Name x px) "extend" X.env (eval (.Name x px) X.env) = eval (.Name x px) X.env := by rfl)
    (hfew : ((backTo cpos (starEach [a] X.env)).all (fun x => !x.1) && (backToKw cpos (keywordEach [] X.env)).all (fun x => x.1.isSome)
      && decide ([a].length + ([] : List Keyword).length + (if ([] : List Keyword).isEmpty then 0 else 1) < 30)) = true := by rfl)
    (hline : (apos.endLine == cpos.line) = true := by rfl) (hs : starEach [a] X.env = (false, eval a X.env) :: starEach [] X.env := by rfl) (hplain : (backTo cpos (starEach [] X.env)).any (·.1) = false := by rfl) :
    PE X (.Call (.Attribute (.Name x px) "extend" apos) [a] [] cpos) (tO W Ew .t (eExt i f)) :=
  PE.imp (pe_bm PySem.F.plainAttrs_list PySem.F.slot_list_extend PySem.F.type_list_extend mt_extend ho ha hbase hfew hline hs hplain) ext_red
end
/-! ### o[k] = e -/
def dPut (kvs : List (D × D)) (k x : D) : List (D × D) := if (kvs.any fun e => PyData.eqv e.1 k) then kvs.map (fun e => if PyData.eqv e.1 k then (e.1, x) else e) else kvs ++ [(k, x)]
def stoOp : Cont → D → D → Option Cont
  | .lst ds, .int i, d => (ixN ds.length i).map fun k => .lst (ds.set k d)
  | .dct t kvs, k, d => if isKey t k && small kvs.length then some (.dct t (dPut kvs k d)) else none
  | _, _, _ => none
theorem put_any {κ : Type} [DecidableEq κ] (enc : κ → D) (he : ∀ a b, PyData.eqv (enc a) (enc b) = decide (a = b)) : ∀ {l : List (κ × V)} {kvs : List (D × D)} (k : κ), kvs.map (·.1) = l.map (fun e => enc e.1) →
    (kvs.any fun e => PyData.eqv e.1 (enc k)) = (l.any fun e => decide (e.1 = k))
  | [], [], _, _ => rfl
  | [], _ :: _, _, e => by simp at e
  | _ :: _, [], _, e => by simp at e
  | (k0, v0) :: l, (d0, e0) :: kvs, k, e => by
    simp only [List.map_cons, List.cons.injEq] at e
    obtain ⟨e1, e2⟩ := e
    subst e1
    simp only [List.any_cons, he, put_any enc he k e2]
theorem put_map {κ : Type} [DecidableEq κ] (enc : κ → D) (he : ∀ a b, PyData.eqv (enc a) (enc b) = decide (a = b)) {K : Frag} {cl : ClsT} {y : V} {x : D} (hx : Rp K cl H y x) : ∀ {l : List (κ × V)} {kvs : List (D × D)} (k : κ), kvs.map (·.1) = l.map (fun e => enc e.1) → RpL K cl H (l.map (·.2)) (kvs.map (·.2)) →
    (kvs.map fun e => if PyData.eqv e.1 (enc k) then (e.1, x) else e).map (·.1) = (l.map fun e => if e.1 = k then (e.1, y) else e).map (fun e => enc e.1) ∧
    RpL K cl H ((l.map fun e => if e.1 = k then (e.1, y) else e).map (·.2)) ((kvs.map fun e => if PyData.eqv e.1 (enc k) then (e.1, x) else e).map (·.2))
  | [], [], _, _, h => ⟨rfl, .nil⟩
  | [], _ :: _, _, e, _ => by simp at e
  | _ :: _, [], _, e, _ => by simp at e
  | (k0, v0) :: l, (d0, e0) :: kvs, k, e, h => by
    simp only [List.map_cons, List.cons.injEq] at e h
    obtain ⟨e1, e2⟩ := e
    subst e1
    cases h with
    | cons h1 h2 =>
      obtain ⟨i1, i2⟩ := put_map enc he hx k e2 h2
      by_cases q : k0 = k
      · subst q
        simp only [List.map_cons, he, decide_true, if_true]
        exact ⟨by rw [i1], .cons hx i2⟩
      · simp only [List.map_cons, he, decide_eq_false q, if_neg q]
        exact ⟨by simp only [Bool.false_eq_true, if_false]; rw [i1], .cons (by simpa using h1) i2⟩
theorem put_ok {κ : Type} [DecidableEq κ] (enc : κ → D) (he : ∀ a b, PyData.eqv (enc a) (enc b) = decide (a = b)) {K : Frag} {cl : ClsT} {y : V} {x : D} (hx : Rp K cl H y x) {l : List (κ × V)} {kvs : List (D × D)} (k : κ) (h1 : kvs.map (·.1) = l.map (fun e => enc e.1)) (h2 : RpL K cl H (l.map (·.2)) (kvs.map (·.2))) :
    (dPut kvs (enc k) x).map (·.1) = (putK l k y).map (fun e => enc e.1) ∧ RpL K cl H ((putK l k y).map (·.2)) ((dPut kvs (enc k) x).map (·.2)) := by
  unfold dPut putK
  rw [put_any enc he k h1]
  split
  · exact put_map enc he hx k h1 h2
  · refine ⟨by simp [h1], ?_⟩
    simp only [List.map_append, List.map_cons, List.map_nil]
    exact h2.append (.cons hx .nil)
def rSto : V → V → V → Hp → (Hp → Prop) → Prop := fun o i v H Q => rSetL o i v H Q ∨ ∃ a H', o = .ref a ∧ DPut H a i v H' ∧ Q H'
theorem set_sto (hu : X.A.units + 1 < cLine) : PSet X rSto := by
  intro pins s σ H o i v ov iv u Q I ro ri rv h
  rcases h with h | ⟨a, H', rfl, g, q⟩
  · exact set_list pins s σ H o i v ov iv u Q I ro ri rv h
  · obtain rfl : ov = Value.ref a := ro
    exact d_setItem hu I g ri rv fun s' I' => ⟨H', I', q⟩
def ownC (j : Nat) (ρ : DEnv) : Option Cont := match ρ.getD j .no with
  | .ow c => some c
  | _ => none
theorem ownC_inv {i : Nat} {c : Cont} (h : ownC i ρ = some c) : ρ[i]? = some (.ow c) := by
  unfold ownC at h
  split at h
  · rename_i ds' e; cases h; exact getD_some e (by simp)
  · cases h
def sSto (j : Nat) (fv fi : EM) : SM := fun ρ => (fv ρ).bindS fun sv ρ1 => match sv.shared with
  | none => .no
  | some d => match ownC j ρ1 with
    | none => .no
    | some _ => (fi ρ1).bindS fun si ρ2 => match si.d? with
      | none => .no
      | some di => match ownC j ρ2 with
        | none => .no
        | some c => match stoOp c di d with
          | some c' => .nx (ρ2.set j (.ow c'))
          | none => .no
theorem RpL.keyV {K : Frag} {cl : ClsT} : ∀ {key : List Key} {ys : List V}, RpL K cl H ys (key.map keyD) → ys = key.map kV
  | [], _, h => by cases h; rfl
  | k0 :: key, _, h => by
    cases h with
    | cons r1 r2 => rw [RpL.keyV r2]; cases k0 <;> (cases r1; rfl)
theorem sto_ok {a : Addr} {c c' : Cont} {i v : V} {di d : D} {Qh : Hp → Prop} (hle : Le H0 H) (hc : ContOk W.K W.cl H0 H a c) (hi : Rp W.K W.cl H i di) (hv : Rp W.K W.cl H0 v d) (h : stoOp c di d = some c')
    (q : ∀ u, ContOk W.K W.cl H0 (upd H a u) a c' → Qh (upd H a u)) : rSto (.ref a) i v H Qh := by
  cases c with
  | lst ds =>
    obtain ⟨xs, h1, h2⟩ := hc
    cases di <;> simp only [stoOp] at h <;> first | cases h | skip
    rename_i n
    obtain ⟨k, hk, rfl⟩ := Option.map_eq_some_iff.mp h
    cases hi
    exact .inl ⟨a, xs, n, k, rfl, rfl, h1, by rw [h2.length]; exact hk, q _ ⟨_, upd_same, h2.set k hv⟩⟩
  | dct t kvs =>
    simp only [stoOp] at h
    split at h
    · rename_i hk
      cases h
      simp only [Bool.and_eq_true] at hk
      obtain ⟨hk, hs⟩ := hk
      obtain ⟨u, h1, h2⟩ := hc
      cases t with
      | false =>
        obtain ⟨l, rfl, h3, h4⟩ := h2
        simp only [isKey, Option.isSome_iff_exists] at hk
        obtain ⟨key, hk⟩ := hk
        have ek := flatD_key hk
        subst ek
        obtain ⟨p1, p2⟩ := put_ok keyD eqv_keyD hv key h3 h4
        have ei : i = kV key := by cases key <;> (cases hi; rfl)
        subst ei
        refine .inr ⟨a, _, rfl, .k h1 ?_, q _ ⟨_, upd_same, _, rfl, p1, p2⟩⟩
        have := small_lt hs
        have := congrArg List.length h3
        simp at this
        omega
      | true =>
        obtain ⟨l, rfl, h3, h4⟩ := h2
        cases di <;> simp only [isKey] at hk <;> first | cases hk | skip
        rename_i kds
        rw [Option.isSome_iff_exists] at hk
        obtain ⟨key, hk⟩ := hk
        have ek := flatsD_keys hk
        subst ek
        obtain ⟨p1, p2⟩ := put_ok keysD eqv_keysD hv key h3 h4
        cases hi with
        | @tup b ys _ e r =>
          have ey : ys = key.map kV := RpL.keyV r
          subst ey
          refine .inr ⟨a, _, rfl, .t h1 e ?_, q _ ⟨_, upd_same, _, rfl, p1, p2⟩⟩
          have := small_lt hs
          have := congrArg List.length h3
          simp at this
          omega
    · cases h
  | lk t kvs => cases h
theorem sto_red {j : Nat} : ∀ Dn σ H, tS W Ew (sSto j fa fb) Dn σ H → tAsg (tO W Ew .t fa) (gSub (tVar j) (tO W Ew .t fb) rSto) Dn σ H := fun Dn σ H ⟨ts, tss, ρ, w, q⟩ => by
  refine ⟨ts, tss, ρ, w, ?_⟩
  unfold sSto at q
  cases ea : fa ρ with
  | no => rw [ea] at q; exact q
  | er c d ρ' => rw [ea] at q; exact q
  | ok sv ρ1 =>
    rw [ea] at q
    simp only [Out.bindS_ok] at q
    cases es : sv.shared with
    | none => rw [es] at q; exact q.elim
    | some d =>
      rw [es] at q
      simp only at q
      intro v H1 w1 _
      have w2 := w1.freeze es
      cases e0 : ownC j ρ1 with
      | none => rw [e0] at q; exact q.elim
      | some c0 =>
        rw [e0] at q
        simp only at q
        obtain ⟨a, ha⟩ := w2.env (ownC_inv e0)
        refine ⟨.ref a, ha, v :: ts, .fz d :: tss, ρ1, w2, ?_⟩
        cases eb : fb ρ1 with
        | no => rw [eb] at q; exact q
        | er c d ρ' => rw [eb] at q; exact q
        | ok si ρ2 =>
          rw [eb] at q
          simp only [Out.bindS_ok] at q
          intro vi H2 w3 _
          cases edi : si.d? with
          | none => rw [edi] at q; exact q.elim
          | some di =>
            rw [edi] at q
            simp only at q
            cases e1 : ownC j ρ2 with
            | none => rw [e1] at q; exact q.elim
            | some c =>
              rw [e1] at q
              simp only at q
              cases e2 : stoOp c di d with
              | none => rw [e2] at q; exact q.elim
              | some c' =>
                rw [e2] at q
                obtain ⟨H0, hle, rd, hc, kw⟩ := World.envW (vs := [vi, v]) (ss := [si, .fz d]) (ts := ts) (tss := tss) w3 rfl ha (ownC_inv e1) (fun t kvs z => by subst z; cases e2)
                cases rd with
                | cons r1 rd =>
                  cases rd with
                  | cons r2 _ =>
                    obtain ⟨_, r2, _⟩ := r2
                    exact sto_ok hle hc (r1.rp hle edi) r2 e2 fun u hu => q σ _ (kw (vs' := []) (ds' := []) hu .nil)
section
variable {j : Nat} {x : Str} {px pos pos' : Pos} {ix : Expr}
theorem pd_sto (hu : X.A.units + 1 < cLine) (ho : PE X (.Name x px) (tVar j)) (hi : PE X ix (tO W Ew .t fb)) (hv : PE X e (tO W Ew .t fa))
    (ha : ∀ v, assign (.Subscript (.Name x px) ix pos') X.env v = (do
      let ov ← holding [v] (eval (.Name x px) X.env)
      let iv ← holding [v, ov] (eval ix X.env)
      standAt pos'
      holding [v, ov, iv] (setItem ov iv v)
      release [v, ov, iv] []) := by intro _; rfl)
    (hs : swapsWithSole [.Subscript (.Name x px) ix pos'] e pos.line X.env = pure false := by rfl) (hw : swappedStores [.Subscript (.Name x px) ix pos'] e X.env = pure none := by rfl)
    (h1 : (assignEach [.Subscript (.Name x px) ix pos'] X.env).map (·.2) = [assign (.Subscript (.Name x px) ix pos') X.env] := by rfl) : PS X (.Assign [.Subscript (.Name x px) ix pos'] e pos) (tS W Ew (sSto j fa fb)) :=
  PS.imp (ps_asg hv (pg_sub ho hi (set_sto hu) ha) hs hw h1) sto_red
end
end
end Dl
end
section
namespace Dl
open PySem L2
open PySem.W (EachIs)

def sortB (ds : List D) : Bool := (ds.all fun d => match d with | .tuple (_ :: _) => true | _ => false) || ds.all fun d => match d with | .none => false | .tuple _ => false | _ => true
def sortK (ds : List D) : Option (List D) := if layL 60 ds && allAlike ds && sortB ds then some (ds.mergeSort (PySem.W.dataLe false id)) else none
def sortL (ds : List D) : Option (List D) := if ds.length ≤ 1 then some ds else sortK ds
theorem sortK_inv {ds es : List D} (h : sortK ds = some es) : es = ds.mergeSort (PySem.W.dataLe false id) ∧ layL 60 ds = true ∧ PySem.W.AllAlike ds ∧ PySem.W.Sortable ds := by
  unfold sortK at h
  split at h
  · rename_i hc
    cases h
    simp only [Bool.and_eq_true] at hc
    obtain ⟨⟨h1, h2⟩, h3⟩ := hc
    refine ⟨rfl, h1, fun d hd d' hd' => List.all_eq_true.mp (List.all_eq_true.mp h2 d hd) d' hd', ?_⟩
    unfold sortB at h3
    rw [Bool.or_eq_true] at h3
    rcases h3 with h3 | h3
    · refine .inl fun d hd => ?_
      have := List.all_eq_true.mp h3 d hd
      split at this
      · exact ⟨_, _, rfl⟩
      · cases this
    · refine .inr fun d hd => ?_
      have := List.all_eq_true.mp h3 d hd
      refine ⟨fun e => ?_, fun xs e => ?_⟩ <;> (subst e; simp at this)
  · cases h
section
variable {X : Cx} {W : Wc} {Ew : XK} {pins : List (Addr × Obj)} {σ : L2.St} {H H0 : Hp} {s : Shared} {v : V} {u : Value} {sl sl' : Slot} {d : D} {a : Addr} {xs : List V} {ds : List D}
/-- what a value of the heap stands for -/
def Rr (W : Wc) (H0 : Hp) (u : Value) (d : D) : Prop := ∃ v, RelV v u ∧ Rp W.K W.cl H0 v d
theorem each_rr : ∀ {xs : List V} {ds : List D} {us : List Value}, RpL W.K W.cl H0 xs ds → Vals xs us → EachIs (Rr W H0) us ds
  | [], _, _, h, r => by cases h; cases r; exact .nil
  | x :: xs, _, _, h, r => by
    cases h with
    | cons h1 h2 =>
      cases r with
      | cons r1 r2 => exact .cons ⟨_, r1, h1⟩ (each_rr h2 r2)
theorem rr_each : ∀ {us : List Value} {ds : List D}, EachIs (Rr W H0) us ds → ∃ xs, Vals xs us ∧ RpL W.K W.cl H0 xs ds
  | _, _, .nil => ⟨[], .nil, .nil⟩
  | _, _, .cons h t => by
    obtain ⟨v, r1, h1⟩ := h
    obtain ⟨xs, r2, h2⟩ := rr_each t
    exact ⟨v :: xs, .cons r1 r2, .cons h1 h2⟩
theorem units2 (ax : Ax X) {ds : List D} (h : layL 60 ds = true) : ∀ b, b ∈ ds → X.A.units + 2 + (id b : D).depth < cLine := fun b hb => by
  have h1 := lay_depth 60 b ((layL_iff 60 ds).mp h b hb)
  have := ax.un
  show X.A.units + 2 + b.depth < cLine
  omega
theorem short_perm {α : Type} {l m : List α} (h : m.length ≤ 1) (p : l.Perm m) : l = m := by
  rcases m with _ | ⟨x, _ | ⟨y, t⟩⟩
  · exact p.eq_nil
  · exact List.perm_singleton.mp p
  · simp at h
theorem sort_short (ax : Ax X) {xs : List V} {its : List Value} {Q : Value → Shared → Prop} {E : Value → Shared → Prop} (h1 : its.length ≤ 1) (hl : s.heap.IsList a its.toArray) (h : Q (.ref (s.heap.objs.size + 1)) { s with heap := PyProof.Rows.sortedAll s.heap its its.toArray }) :
    wpAny (model X.prog X.w) X.A (call (.builtin "sorted") [.ref a]) Q E s := by
  have hz : its.length ≤ sizeLine := by have := million; omega
  refine SrtO.sorted_ord (ltv := SrtO.ltIv) SrtO.swo_int hl hz (fun h2 => absurd h2 (by omega)) fun out h2 h3 => ?_
  have e : out = its := short_perm h1 h3.perm
  subst e
  exact h
def sortedOp : D → Option Slot
  | .list ds => (sortL ds).map fun es => .ow (.lst es)
  | d => match asDct d with
    | some (true, kvs) => (sortK (kvs.map (·.1))).map fun es => .ow (.lst es)
    | _ => none
theorem og_sortedL (ax : Ax X) (hK : X.K = W.K) {x : V} {us : List Value} {Q : VK} {s1 s' : Slot} {ds : List D} (I : Inv X pins σ H s) (r : Vals [x] us) (hle : Le H0 H) (r1 : Rdy W H0 H x s1) (e1 : s1.d? = some (.list ds)) (e3 : (sortL ds).map (fun es => Slot.ow (.lst es)) = some s')
    (q : ∀ v' H' H0', Res W H0 H H0' H' v' s' → Q v' H') : wpAny (model X.prog X.w) X.A (call (.builtin "sorted") us) (EP X pins σ Q) X.xe s := by
  obtain ⟨es, e4, rfl⟩ := Option.map_eq_some_iff.mp e3
  obtain ⟨l, xs, rfl, h1, p1⟩ := r1.lst hle e1
  obtain ⟨u, rfl, rx⟩ := vals1 r
  cases rx
  obtain ⟨z, its, n, rv, hl, e⟩ := rd_list I h1
  have hli : s.heap.IsList l its.toArray := ⟨_, e, rfl, n, rfl⟩
  have fin : ∀ {out : List Value} {es : List D}, (∀ v' H' H0', Res W H0 H H0' H' v' (.ow (.lst es)) → Q v' H') → es.length ≤ sizeLine → EachIs (Rr W H0) out es → EP X pins σ Q (.ref (s.heap.objs.size + 1)) { s with heap := PyProof.Rows.sortedAll s.heap its (List.toArray out) } := fun {out es} q hz ee => by
    obtain ⟨ys, r2, p2⟩ := rr_each ee
    obtain ⟨ep, he'⟩ := PyProof.Rows.sortedAll_at s.heap its out.toArray
    have hf : H (s.heap.objs.size + 1) = none := I.hok.fresh (Nat.le_succ _)
    exact ⟨.ref _, upd H (s.heap.objs.size + 1) (.lst ys), I.laid (t' := s.toks) (fun _ _ => PyProof.Rows.sortedAll_old) (Nat.le_succ _) ⟨by rw [p2.length]; exact hz, out, ep, r2, he'⟩, rfl, q _ _ _ (.newL hle hf p2)⟩
  unfold sortL at e4
  split at e4
  · rename_i h1'
    cases e4
    refine sort_short ax (xs := xs) (by rw [← rv.length, p1.length]; exact h1') hli ?_
    exact fin q (by have := million; omega) (each_rr p1 rv)
  · obtain ⟨rfl, k1, k2, k3⟩ := sortK_inv e4
    obtain ⟨its', hl', rv', as, ra⟩ := rd_reads I hle h1 p1 hK (layL_plain 60 ds k1)
    have hii : its' = its := by
      obtain ⟨o', e', c', n', d'⟩ := hl'
      rw [e] at e'
      cases e'
      cases d'
      rfl
    subst hii
    have hlen : ds.length ≤ sizeLine := by rw [← p1.length]; exact z
    refine PySem.W.sorted_data (R := Rr W H0) (enc := id) (bs := ds) hli (each_rr p1 rv) ?_ (by simpa using k2) (by simpa using k3) hlen (units2 ax k1) fun out ho ee => fin q (by rw [List.length_mergeSort]; exact hlen) ee
    have := PySem.W.readsAll_each (h := s.heap) (id : D → D) (vs := its') (bs := ds) (as := as) (by simpa using ra)
    exact this
mutual
theorem reads_lt {h : Heap} : ∀ (d : D) (v : Value) (as : List Addr), d.plain = true → Reads h v d as → ∀ a ∈ as, a < h.objs.size
  | .none, _, _, _, r, a, ha => by cases r; cases ha
  | .bool _, _, _, _, r, a, ha => by cases r; cases ha
  | .int _, _, _, _, r, a, ha => by cases r; cases ha
  | .str _, _, _, _, r, a, ha => by cases r; cases ha
  | .list xs, _, _, hp, r, a, ha => by
    cases r with
    | list h1 h2 h3 h4 =>
      rcases List.mem_cons.mp ha with rfl | ha
      · exact Heap.lt_size h1
      · exact readsAll_lt xs _ _ (by simpa [PyData.plain] using hp) h4 a ha
  | .tuple xs, _, _, hp, r, a, ha => by
    cases r with
    | tuple h1 h2 h3 h4 => exact readsAll_lt xs _ _ (by simpa [PyData.plain] using hp) h4 a ha
  | .dict _, _, _, hp, _, _, _ => by simp [PyData.plain] at hp
theorem readsAll_lt {h : Heap} : ∀ (ds : List D) (vs : List Value) (as : List Addr), PyData.plainAll ds = true → ReadsAll h vs ds as → ∀ a ∈ as, a < h.objs.size
  | [], _, _, _, r, a, ha => by cases r; cases ha
  | d :: ds, _, _, hp, r, a, ha => by
    rw [PyData.plainAll, Bool.and_eq_true] at hp
    cases r with
    | cons h1 h2 => exact (List.mem_append.mp ha).elim (reads_lt d _ _ hp.1 h1 a) (readsAll_lt ds _ _ hp.2 h2 a)
end
theorem each_reads_lt {h h' : Heap} (hk : ∀ b o, h.get? b = some o → h'.get? b = some o) : ∀ {vs : List Value} {ds : List D} {as : List Addr}, PyData.plainAll ds = true → ReadsAll h vs ds as → EachIs (fun v b => ∃ as, Reads h' v (id b) as ∧ h.objs.size ∉ as) vs ds
  | _, _, _, _, .nil => .nil
  | _, _, _, hp, .cons h1 h2 => by
    rw [PyData.plainAll, Bool.and_eq_true] at hp
    exact .cons ⟨_, PyProof.Rows.Reads.keeps hk h1, fun z => absurd (reads_lt _ _ _ hp.1 h1 _ z) (Nat.lt_irrefl _)⟩ (each_reads_lt hk hp.2 h2)
/-- all tuples of the heap told of -/
def adT (H0 H : Hp) : Hp := fun a => match H0 a with
  | some o => some o
  | none => match H a with
    | some (.tup xs) => some (.tup xs)
    | _ => none
theorem adT_same : Same H0 (adT H0 H) := fun a o e => by unfold adT; rw [e]
theorem adT_le (hle : Le H0 H) : Le (adT H0 H) H := fun a o e => by
  unfold adT at e
  split at e
  · rename_i e0; cases e; exact hle a _ e0
  · split at e
    · rename_i e0; cases e; exact .inl e0
    · cases e
theorem adT_no {o : HO} (h : H a = some o) (hn : NoTup o) (h0 : H0 a = none) : adT H0 H a = none := by
  unfold adT
  rw [h0, h]
  simp only
  split
  · rename_i xs e; exact absurd (Option.some.inj e) (hn xs)
  · rfl
theorem adT_tup {xs : List V} (hle : Le H0 H) (h : H a = some (.tup xs)) : adT H0 H a = some (.tup xs) := by
  unfold adT
  split
  · rename_i o e0
    rcases hle a o e0 with z | ⟨k, _, z⟩
    · rw [h] at z; cases z; rfl
    · rw [h] at z; cases z
  · rw [h]
theorem RpL.ofKeys {K : Frag} {cl : ClsT} : ∀ k : List Key, RpL K cl H (k.map kV) (k.map keyD)
  | [] => .nil
  | .inl i :: k => .cons (.int i) (RpL.ofKeys k)
  | .inr x :: k => .cons (.str x) (RpL.ofKeys k)
theorem isKeys_rp {l : List (List Key × V)} {bs : List Addr} (hle : Le H0 H) (h : L2.IsKeys H l bs) : RpL W.K W.cl (adT H0 H) (bs.map V.ref) (l.map fun e => keysD e.1) := by
  unfold L2.IsKeys at h
  induction h with
  | nil => exact .nil
  | cons h t ih => exact .cons (.tup (adT_tup hle h) (RpL.ofKeys _)) ih
theorem Res.newA {ds : List D} {vs : List V} {p : Addr} (hle : Le H0 H) (hp : H p = none) (h : RpL W.K W.cl (adT H0 H) vs ds) : Res W H0 H (adT H0 H) (upd H p (.lst vs)) (.ref p) (.ow (.lst ds)) := by
  have h0 := (adT_le hle).free hp
  refine ⟨[p], ⟨p, rfl, ⟨vs, upd_same, h⟩, rfl⟩, by simp, fun a ha => ?_, adT_same, fun a o e => ?_, upd_le2 (adT_le hle) h0, fun a o h1 h2 h3 => adT_no h1 h2 h3⟩
  · obtain rfl : a = p := by simpa using ha
    exact ⟨hp, h0⟩
  · rw [upd_ne (ne_of_none e hp)]; exact e
theorem og_sortedT (ax : Ax X) (hK : X.K = W.K) (hcalm : X.calm = true) {x : V} {us : List Value} {Q : VK} {s1 s' : Slot} {kvs : List (D × D)} (I : Inv X pins σ H s) (r : Vals [x] us) (hle : Le H0 H) (r1 : Rdy W H0 H x s1) (e1 : s1.d? = some (dctD true kvs)) (e3 : (sortK (kvs.map (·.1))).map (fun es => Slot.ow (.lst es)) = some s')
    (q : ∀ v' H' H0', Res W H0 H H0' H' v' s' → Q v' H') : wpAny (model X.prog X.w) X.A (call (.builtin "sorted") us) (EP X pins σ Q) X.xe s := by
  obtain ⟨es', e4, rfl⟩ := Option.map_eq_some_iff.mp e3
  obtain ⟨rfl, k1, k2, k3⟩ := sortK_inv e4
  obtain ⟨d, uo, rfl, hd, ⟨l, rfl, h3, h4⟩⟩ := r1.dct hle e1 (fun z => nomatch z)
  obtain ⟨u, rfl, rx⟩ := vals1 r
  cases rx
  obtain ⟨z, hs, ks, pr, o, es, ep, ho, hx, hdt, he, hn⟩ := (show ObjOk X.prog X.w H s.heap d (.dT l) from hd.ok I.hok)
  have l1 : es.size = ks.length := size_of_entries he
  have l2 : l.length = ks.length := Paired.length pr
  refine Calls.call_function_entry PyProof.Rows.kind_sorted PyProof.Rows.plain_sorted PyProof.Rows.entry_sorted (PyProof.Rows.args_sorted1 _) ?_
  unfold Builtin.«sorted»
  refine wpAny_bind (m := checkCount "sorted" 1 1 _) (wpAny_pure ?_)
  refine wpAny_bind (PySem.W.kdu_collect (A := X.A.in1) (kdl_raw hs hx hdt) (I.ok.hd hcalm) ho (by omega) fun h' tk acc hk it => ?_)
  have ea : acc.toList = (ks.map fun x => x.2.1).map Value.ref := by
    have hl : acc.toList.length = ks.length := by rw [Array.length_toList, it.1]; exact l1
    apply List.ext_getElem?
    intro j
    rw [List.map_map, List.getElem?_map]
    cases hj : acc.toList[j]? with
    | none =>
      have h1 := List.getElem?_eq_none_iff.mp hj
      rw [List.getElem?_eq_none (by omega)]
      all_goals rfl
    | some v =>
      obtain ⟨en, hen, hv⟩ := it.2 j v (by rw [← Array.getElem?_toList]; exact hj)
      have qe := entry_at he j
      rw [hen] at qe
      cases hb : ks[j]? with
      | none =>
        rw [hb] at qe
        exact nomatch (show some en = none from qe)
      | some b =>
        rw [hb] at qe
        have e2 : en = entryOfKey (tupleKind (mixKind X.prog X.w)) b := Option.some.inj qe
        rw [hv, e2]
        all_goals rfl
  have hkeys : l.map (fun e => keysD e.1) = kvs.map (·.1) := h3.symm
  have rp : RpL W.K W.cl (adT H0 H) ((ks.map fun x => x.2.1).map V.ref) (kvs.map (·.1)) := by
    rw [← hkeys]; exact isKeys_rp hle (isKeys_of pr)
  have rv : Vals ((ks.map fun x => x.2.1).map V.ref) acc.toList := by rw [ea]; exact vals_refs _
  have I1 : Inv X pins σ H { s with heap := h', toks := tk } := I.kept hk
  have hz : acc.toList.length ≤ sizeLine := by rw [Array.length_toList, it.1]; omega
  refine wpAny_bind (wpAny_newList ?_ hz)
  have hoL : (h'.push (PyProof.Rows.seqObj "list" acc.toList.toArray 0)).get? h'.objs.size = some (PyProof.Rows.seqObj "list" acc.toList.toArray 0) := Heap.get?_push_size _ rfl
  show wpAny _ _ _ _ _ { s with heap := h'.push (PyProof.Rows.seqObj "list" acc.toList.toArray 0), toks := tk }
  have pl := layL_plain 60 _ k1
  obtain ⟨as, ra⟩ := Dp.readsAll I1 (kvs.map (·.1)) ((ks.map fun x => x.2.1).map V.ref) acc.toList (by rw [hK]; exact (rp.mono (adT_le hle)).dp pl) rv
  have lk : (kvs.map (·.1)).length ≤ sizeLine := by
    have := rp.length
    simp only [List.length_map] at this ⊢
    omega
  have ku : ∀ b, b ∈ kvs.map (·.1) → X.A.in1.units + 1 + (id b : D).depth < cLine := fun b hb => units2 ax k1 b hb
  refine wpAny_bind (wpAny_holding (PySem.W.list_sort_data (A := X.A.in1) (R := Rr W (adT H0 H)) (enc := id) (bs := kvs.map (·.1)) (s := { s with heap := h'.push (PyProof.Rows.seqObj "list" acc.toList.toArray 0), toks := tk }) hoL (each_rr rp rv) (each_reads_lt (fun b o e => Heap.get?_push_of_some _ e) pl ra) (by simpa using k2) (by simpa using k3) lk ku fun out hlo ee => ?_))
  obtain ⟨ys, r2, p2⟩ := rr_each ee
  obtain ⟨e', he'⟩ := PyProof.Rows.sortedHeap_at (vs := acc.toList) (out := out.toArray) hoL
  refine wpAny_pure ⟨_, rfl, .ref h'.objs.size, upd H h'.objs.size (.lst ys), I1.laid (t' := tk) (fun b u e => ?_) (Nat.le_refl _) (show ObjOk X.prog X.w _ _ _ (.lst ys) from ⟨by rw [p2.length, List.length_mergeSort]; exact lk, out, e', r2, he'⟩), rfl, q _ _ _ (.newA hle (I1.hok.fresh (Nat.le_refl _)) p2)⟩
  have hb : b < h'.objs.size := Heap.lt_size e
  rw [PyProof.Rows.sortedHeap_old (Nat.ne_of_lt hb) (by rw [PyProof.Rows.size_push']; exact Nat.lt_succ_of_lt hb)]
  exact Heap.get?_push_of_some _ e
theorem og_sorted (ax : Ax X) (hK : X.K = W.K) (hcalm : X.calm = true) : CallR X (.builtin "sorted") (rGN W (gN1 sortedOp)) := ogN1 fun pins s σ H H0 x us Q s1 s' a I r hle r1 e1 e3 q => by
  unfold sortedOp at e3
  split at e3
  · exact og_sortedL ax hK I r hle r1 e1 e3 q
  · split at e3
    · rename_i kvs ea
      obtain ⟨ed, hn⟩ := asDct_inv ea
      rw [ed] at e1
      exact og_sortedT ax hK hcalm I r hle r1 e1 e3 q
    · cases e3
end
end Dl
end
section
set_option maxHeartbeats 4000000
/-! the length of a set of ints and texts that stand in a list or a tuple -/
namespace DlS
open PySem PySem.Spec PyProof.Rows L2
/-- how many different ones stand ahead of the i-th -/
def inK (l : List Key) (k : Key) : Bool := l.any fun x => decide (x = k)
def dn (ks : List Key) : Nat → Nat
  | 0 => 0
  | i + 1 => match ks[i]? with
    | some k => if inK (ks.take i) k = true then dn ks i else dn ks i + 1
    | none => dn ks i
theorem inK_succ {ks : List Key} {i : Nat} {z : Key} (hz : ks[i]? = some z) (j : Key) : inK (ks.take (i + 1)) j = (inK (ks.take i) j || decide (j = z)) := by
  rw [List.take_add_one, hz]
  show ((ks.take i ++ [z]).any fun x => decide (x = j)) = (((ks.take i).any fun x => decide (x = j)) || decide (j = z))
  rw [List.any_append]
  congr 1
  show (decide (z = j) || false) = decide (j = z)
  rw [Bool.or_false]
  exact decide_eq_decide.mpr ⟨Eq.symm, Eq.symm⟩
theorem dn_le (ks : List Key) : ∀ i, dn ks i ≤ i
  | 0 => Nat.le_refl 0
  | i + 1 => by
    have := dn_le ks i
    unfold dn
    split
    · split <;> omega
    · omega
section
variable {P : Program} {w : World} {A : Around} {E : Value → Shared → Prop} {s : Shared}
theorem set_loop {I : Addr} {fp wr : List Addr} {G : Array GenState → Array GenState → Prop} {n : Nat} {Pv : Nat → Value → Prop} {St : Nat → Shared → Prop} {R : Result → Shared → Prop}
    (W : WalksS P w A.in1 I fp wr G n Pv St) (S : Addr) (hSf : S ∉ fp) (ks : List Key) (hn : n = ks.length) (hb : ks.length + 1 < scanBound) (hval : ∀ i v, Pv i v → ∃ k, ks[i]? = some k ∧ (mixKind P w).is k v = true ∧ v.scannable = true) :
    ∀ (k i : Nat) (s : Shared), n - i = k → i ≤ n → St i s → s.heap.SetOf (mixKind P w) S (inK (ks.take i)) (dn ks i) →
      (∀ s', Moved (S :: wr) G s s' → s'.heap.SetOf (mixKind P w) S (inK ks) (dn ks n) → R (.ok (.ret .none)) s') →
      codeAny (model P w) A (.builtin "set.update.loop" ⟨[.ref S, .ref I], []⟩) R s := by
  have hSw : S ∉ wr := fun h => hSf (W.sub _ h)
  have hsub : ∀ b ∈ wr, b ∈ S :: wr := fun b hb => List.mem_cons_of_mem _ hb
  intro k
  induction k with
  | zero =>
    intro i s hk' hi hst hS hR
    have hin : i = n := by omega
    subst hin
    refine codeAny_builtin F.entry_set_update_loop ?_
    rw [Around.under_plainId F.plain_set_update_loop _]
    show wpAny _ A.in1 (pyNext (.ref I) >>= _) _ _ s
    refine wpAny_bind (W.done s _ _ hst fun s' hm => ?_)
    show wpAny _ A.in1 (ret Value.none) _ _ s'
    have e : ks.take i = ks := List.take_of_length_le (by omega)
    rw [e] at hS
    exact wpAny_pure (hR s' (hm.mono hsub) (setOf_at hS fun o e => hm.heap S o hSw e))
  | succ k ih =>
    intro i s hk' hi hst hS hR
    have hlt : i < n := by omega
    refine codeAny_builtin F.entry_set_update_loop ?_
    rw [Around.under_plainId F.plain_set_update_loop _]
    show wpAny _ A.in1 (pyNext (.ref I) >>= _) _ _ s
    refine wpAny_bind (W.item i s _ _ hlt hst fun v s' hP hst' hm => ?_)
    obtain ⟨z, hz, hkey, hsc⟩ := hval i v hP
    have hS' : s'.heap.SetOf (mixKind P w) S (inK (ks.take i)) (dn ks i) := setOf_at hS fun o e => hm.heap S o hSw e
    show wpAny _ A.in1 (holding [v] (setAdd S v) >>= _) _ _ s'
    refine wpAny_bind (wpAny_holding ?_)
    unfold setAdd
    refine wpAny_holding ?_
    refine wpAny_bind ((mixKind P w).pyHash (k := z) hkey ?_)
    have hd := dn_le ks i
    refine wpAny_setAddHashed_of (knd := mixKind P w) (s := { s' with toks := s'.toks + 1 }) hkey hsc hS' (by omega) fun h' hsb hS2 => ?_
    have hS3 : h'.SetOf (mixKind P w) S (inK (ks.take (i + 1))) (dn ks (i + 1)) := by
      have e1 : inK (ks.take (i + 1)) = fun k' => inK (ks.take i) k' || decide (k' = z) := funext fun j => inK_succ hz j
      have e2 : dn ks (i + 1) = if inK (ks.take i) z = true then dn ks i else dn ks i + 1 := by rw [dn, hz]
      rw [e1, e2]
      exact hS2
    refine wpAny_pure ⟨plainId_quiet F.plain_set_update_loop _, ih (i + 1) _ (by omega) hlt (W.frame _ s' _ _ hst' (Nat.le_succ _) fun b hb o e => ?_) hS3 fun s'' hm'' hS'' => ?_⟩
    · rw [hsb.2 b (fun h : b = S => hSf (by rw [← h]; exact hb))]; exact e
    · refine hR s'' (Moved.trans W.gtrans ((hm.mono hsub).then_heap (Nat.le_succ _) fun b o hb e => ?_) hm'') hS''
      rw [hsb.2 b (fun h : b = S => hb (by rw [h]; exact List.mem_cons_self))]; exact e
/-- set(xs): T tells whether xs is a list or a tuple -/
theorem call_setK {l : Addr} {items : Array Value} (T : Bool) (ks : List Key) {Q : Value → Shared → Prop} (hh : A.handled = none) (hl : if T then s.heap.IsTuple l items else s.heap.IsList l items) (hit : Vals (ks.map kV) items.toList) (hb : ks.length + 1 < scanBound)
    (h : ∀ (h' : Heap) (tk : Nat), h'.SetOf (mixKind P w) s.heap.objs.size (inK ks) (dn ks ks.length) → (∀ b o, s.heap.get? b = some o → h'.get? b = some o) → Q (.ref s.heap.objs.size) { s with heap := h', toks := tk }) :
    wpAny (model P w) A (call (.type "set") [.ref l]) Q E s := by
  have hisz : items.size = ks.length := by
    have q := hit.length
    simp only [Array.length_toList, List.length_map] at q
    exact q.symm
  have hval : ∀ (i : Nat) (v : Value), items[i]? = some v → ∃ k, ks[i]? = some k ∧ (mixKind P w).is k v = true ∧ v.scannable = true := fun i v hv => by
    have hi : i < ks.length := by rw [← hisz]; exact (Array.getElem?_eq_some_iff.mp hv).1
    obtain ⟨u, hu, r⟩ := hit.get (i := i) (x := kV ks[i]) (by simp [hi])
    rw [Array.getElem?_toList, hv] at hu
    cases hu
    exact ⟨ks[i], by simp [hi], kV_is r, key_scan r⟩
  obtain ⟨c, tl, hmro⟩ := F.called_set.mro
  have hmade := F.called_set.made
  have hsub := F.called_set.sub
  refine wpAny_call (codeAny_of_tree ?_)
  show wpAny _ _ (callAny (.type "set") _) _ _ _
  refine wpAny_pure ⟨Code.quiet_builtin _ (by decide +kernel), codeAny_builtin F.entry_type_call ?_⟩
  rw [Around.under_plain (weight_type_call_type "set" [.ref l] []) rfl]
  have h1 := F.called_set.notType
  have h2 := F.called_set.canCreate
  have hct := F.typeCall_set_1 (.ref l)
  repeat (any_goals (first | assumption | wp_step))
  refine codeAny_mono (code_set_led1 (.ref l) (E := E) (Q₁ := fun obj s₁ => obj = .ref s.heap.objs.size ∧ s₁ = { s with heap := s.heap.push { cls := .type "set", dict := none, data := .set #[] 0 (.fresh 0 0 (!w.params.followText "set-order")) } }) ⟨rfl, rfl⟩) fun r s₁ hr => ?_
  cases r with
  | error e => exact hr
  | ok fl =>
    cases fl with
    | ret obj =>
      obtain ⟨rfl, rfl⟩ := hr
      have hS : (s.heap.push { cls := .type "set", dict := none, data := .set #[] 0 (.fresh 0 0 (!w.params.followText "set-order")) }).get? s.heap.objs.size = some { cls := .type "set", dict := none, data := .set #[] 0 (.fresh 0 0 (!w.params.followText "set-order")) } := Heap.get?_push_size _ rfl
      have hT : Shared.TypeIs { s with heap := s.heap.push { cls := .type "set", dict := none, data := .set #[] 0 (.fresh 0 0 (!w.params.followText "set-order")) } } (.ref s.heap.objs.size) "set" := ⟨_, hS, rfl⟩
      have hli := F.called_set.init.lookup
      have hbi := F.called_set.init.bind (.ref s.heap.objs.size)
      repeat (any_goals (first | assumption | wp_step))
      refine codeAny_mono (codeAny_call_builtin (R := wants (fun r s₂ => r = .none ∧ ∃ h' tk, s₂ = { s with heap := h', toks := tk } ∧ h'.SetOf (mixKind P w) s.heap.objs.size (inK ks) (dn ks ks.length) ∧
          (∀ b o, s.heap.get? b = some o → h'.get? b = some o)) E) F.called_set.init.plain F.entry_set_init (check_set_init_1 hT ?_)) fun r₂ s₂ hr₂ => ?_
      · have hlS : l < s.heap.objs.size := by
          cases T with
          | true => obtain ⟨o, ho, _⟩ := (show s.heap.IsTuple l items from hl); exact Heap.lt_size ho
          | false => obtain ⟨o, ho, _⟩ := (show s.heap.IsList l items from hl); exact Heap.lt_size ho
        generalize hk : (s.heap.push { cls := .type "set", dict := none, data := .set #[] 0 (.fresh 0 0 (!w.params.followText "set-order")) }) = hp at hS hT
        have kp : ∀ b o, s.heap.get? b = some o → hp.get? b = some o := fun b o e => by rw [← hk]; exact Heap.get?_push_of_some _ e
        have hsz : hp.objs.size = s.heap.objs.size + 1 := by rw [← hk]; exact Heap.size_push ..
        have hh3 : A.in1.in1.in1.handled = none := by simp [hh]
        have hneI : l ≠ hp.objs.size := by rw [hsz]; exact Nat.ne_of_lt (Nat.lt_succ_of_lt hlS)
        have hSf : s.heap.objs.size ∉ [hp.objs.size, l] := by
          rw [hsz]; simp only [List.mem_cons, List.mem_singleton, List.not_mem_nil, or_false, not_or]
          exact ⟨Nat.ne_of_lt (Nat.lt_succ_self _), Nat.ne_of_gt hlS⟩
        have new : ∀ oi : Obj, (hp.push oi).SetOf (mixKind P w) s.heap.objs.size (inK (ks.take 0)) (dn ks 0) := fun oi =>
          ⟨_, #[], 0, _, Heap.get?_push_of_some _ hS, ⟨rfl, rfl, rfl⟩, rfl, (fun e he => by simp at he), (fun k => by simp [inK]), (by decide), (by rfl), rfl⟩
        have fin : ∀ (oi : Obj) (s' : Shared), Moved (s.heap.objs.size :: [hp.objs.size]) (fun g g' => g' = g) { s with heap := hp.push oi } s' → s'.heap.SetOf (mixKind P w) s.heap.objs.size (inK ks) (dn ks items.size) →
            ∃ h' tk, s' = { s with heap := h', toks := tk } ∧ h'.SetOf (mixKind P w) s.heap.objs.size (inK ks) (dn ks ks.length) ∧ (∀ b o, s.heap.get? b = some o → h'.get? b = some o) := fun oi s' hm hS' => by
          obtain ⟨h', g2, d', tk', os'⟩ := s'
          have eg : g2 = s.gens := hm.gens
          have ed : d' = s.drawn := hm.drawn
          have eo : os' = s.os := hm.os
          subst eg; subst ed; subst eo
          rw [hisz] at hS'
          refine ⟨h', tk', rfl, hS', fun b o e => ?_⟩
          have hb0 : b < s.heap.objs.size := Heap.lt_size e
          exact hm.heap b o (by simp only [List.mem_cons, List.mem_singleton, List.not_mem_nil, or_false, not_or]; exact ⟨Nat.ne_of_lt hb0, by rw [hsz]; exact Nat.ne_of_lt (Nat.lt_succ_of_lt hb0)⟩) (Heap.get?_push_of_some _ (kp _ _ e))
        cases T with
        | true =>
          obtain ⟨ol, hol, hcl, nl, hdl⟩ := (show s.heap.IsTuple l items from hl)
          obtain ⟨ocls, odict, odata, oslots⟩ := ol
          simp only at hcl hdl
          subst hcl; subst hdl
          have hol' := kp _ _ hol
          have hsls := F.sub_tuple_set
          have hslf := F.sub_tuple_frozenset
          have hne : (Value.type "tuple" == Value.type "dict") = false := by decide
          have hl1 : hp.IsTuple l items := ⟨_, hol', rfl, nl, rfl⟩
          unfold Builtin.«set.__init__» noKeywords Builtin.Frozenset.updateFrom
          generalize hPI : pyIter = PI
          wp_walk
          subst hPI
          refine wpAny_pyIter_tuple hl1 ?_
          refine wpAny_bind (wpAny_runValue ?_)
          refine set_loop ((Walks.tuple hh3 _ l hneI items).toS) s.heap.objs.size hSf ks hisz hb hval (items.size - 0) 0 _ (by omega) (Nat.zero_le _) ⟨⟨_, Heap.get?_push_size _ rfl, rfl, rfl⟩, (hl1.push _)⟩ (new _) ?hR
          case hR =>
            intro s' hm hS'
            obtain ⟨h', tk', rfl, k1, k2⟩ := fin _ s' hm hS'
            show wpAny _ _ _ _ _ _
            refine wpAny_pure ?_
            show wpAny _ _ (ret Value.none) _ _ _
            exact wpAny_pure ⟨rfl, h', tk', rfl, k1, k2⟩
        | false =>
          obtain ⟨ol, hol, hcl, nl, hdl⟩ := (show s.heap.IsList l items from hl)
          obtain ⟨ocls, odict, odata, oslots⟩ := ol
          simp only at hcl hdl
          subst hcl; subst hdl
          have hol' := kp _ _ hol
          have hsls := F.sub_list_set
          have hslf := F.sub_list_frozenset
          have hne : (Value.type "list" == Value.type "dict") = false := by decide
          have hl1 : hp.IsList l items := ⟨_, hol', rfl, nl, rfl⟩
          unfold Builtin.«set.__init__» noKeywords Builtin.Frozenset.updateFrom
          generalize hPI : pyIter = PI
          wp_walk
          subst hPI
          refine wpAny_pyIter_list hl1 ?_
          refine wpAny_bind (wpAny_runValue ?_)
          refine set_loop ((Walks.list hh3 _ l hneI items).toS) s.heap.objs.size hSf ks hisz hb hval (items.size - 0) 0 _ (by omega) (Nat.zero_le _) ⟨⟨_, Heap.get?_push_size _ rfl, rfl, rfl⟩, (hl1.push _)⟩ (new _) ?hR
          case hR =>
            intro s' hm hS'
            obtain ⟨h', tk', rfl, k1, k2⟩ := fin _ s' hm hS'
            show wpAny _ _ _ _ _ _
            refine wpAny_pure ?_
            show wpAny _ _ (ret Value.none) _ _ _
            exact wpAny_pure ⟨rfl, h', tk', rfl, k1, k2⟩
      · cases r₂ with
        | error e => exact hr₂
        | ok fl₂ =>
          cases fl₂ with
          | ret r =>
            obtain ⟨rfl, h', tk, rfl, hS', hk'⟩ := hr₂
            repeat (any_goals (first | assumption | wp_step))
            exact h _ _ hS' hk'
          | _ => exact hr₂.elim
    | _ => exact hr.elim
end
end DlS
end
section
namespace Dl
open PySem L2

section
variable {X : Cx} {W : Wc} {Ew : XK} {pins : List (Addr × Obj)} {σ : L2.St} {H H0 : Hp} {s : Shared} {v : V} {u : Value} {sl' : Slot} {d : D} {a : Addr} {xs : List V} {ds : List D} {e : Expr} {k : Kd} {f : EM} {pos p : Pos}
/-! ### {} and dict() -/
def eDct (t : Bool) : EM := fun ρ => .ok (.ow (.dct t [])) ρ
@[simp] theorem eDct_eq (t : Bool) (ρ : DEnv) : eDct t ρ = .ok (.ow (.dct t [])) ρ := rfl
theorem pd_dct0 : PE X (.Dict [] [] pos) (tO W Ew .t (eDct false)) := PE.imp pe_dnewK fun σ H Q ⟨ts, tss, ρ, w, q⟩ p hp => by
  obtain ⟨H0, hle, _, _, kr⟩ := World.res (vs := []) (ss := []) (ts := ts) (tss := tss) w rfl
  exact q _ _ (kr (.newD (l := []) hle hp rfl .nil)) trivial
theorem pd_dct1 : PE X (.Dict [] [] pos) (tO W Ew .t (eDct true)) := PE.imp pe_dnewT fun σ H Q ⟨ts, tss, ρ, w, q⟩ p hp => by
  obtain ⟨H0, hle, _, _, kr⟩ := World.res (vs := []) (ss := []) (ts := ts) (tss := tss) w rfl
  exact q _ _ (kr (.newDT (l := []) hle hp rfl .nil)) trivial
/-! ### isinstance(x, T) -/
def tyName : D → Option String
  | .none => some "NoneType"
  | .bool _ => some "bool"
  | .int _ => some "int"
  | .str _ => some "str"
  | .list _ => some "list"
  | .tuple _ => some "tuple"
  | .dict _ => none
def tyB (t T : String) : Bool := decide (t = T) || (decide (t = "bool") && decide (T = "int"))
def tyKnown (T : String) : Bool := ["int", "str", "bool", "tuple", "list", "dict"].contains T
def isTy (T : String) (d : D) : Option Bool := (tyName d).bind fun t => if tyKnown T then some (tyB t T) else none
@[simp] theorem isTy_int_none : isTy "int" .none = some false := rfl
@[simp] theorem isTy_int_bool (b : Bool) : isTy "int" (.bool b) = some true := rfl
@[simp] theorem isTy_int_int (i : Int) : isTy "int" (.int i) = some true := rfl
@[simp] theorem isTy_int_str (x : Str) : isTy "int" (.str x) = some false := rfl
@[simp] theorem isTy_int_list (ds : List D) : isTy "int" (.list ds) = some false := rfl
@[simp] theorem isTy_int_tuple (ds : List D) : isTy "int" (.tuple ds) = some false := rfl
@[simp] theorem isTy_str_none : isTy "str" .none = some false := rfl
@[simp] theorem isTy_str_bool (b : Bool) : isTy "str" (.bool b) = some false := rfl
@[simp] theorem isTy_str_int (i : Int) : isTy "str" (.int i) = some false := rfl
@[simp] theorem isTy_str_str (x : Str) : isTy "str" (.str x) = some true := rfl
@[simp] theorem isTy_str_list (ds : List D) : isTy "str" (.list ds) = some false := rfl
@[simp] theorem isTy_str_tuple (ds : List D) : isTy "str" (.tuple ds) = some false := rfl
@[simp] theorem isTy_bool_none : isTy "bool" .none = some false := rfl
@[simp] theorem isTy_bool_bool (b : Bool) : isTy "bool" (.bool b) = some true := rfl
@[simp] theorem isTy_bool_int (i : Int) : isTy "bool" (.int i) = some false := rfl
@[simp] theorem isTy_bool_str (x : Str) : isTy "bool" (.str x) = some false := rfl
@[simp] theorem isTy_bool_list (ds : List D) : isTy "bool" (.list ds) = some false := rfl
@[simp] theorem isTy_bool_tuple (ds : List D) : isTy "bool" (.tuple ds) = some false := rfl
@[simp] theorem isTy_tuple_none : isTy "tuple" .none = some false := rfl
@[simp] theorem isTy_tuple_bool (b : Bool) : isTy "tuple" (.bool b) = some false := rfl
@[simp] theorem isTy_tuple_int (i : Int) : isTy "tuple" (.int i) = some false := rfl
@[simp] theorem isTy_tuple_str (x : Str) : isTy "tuple" (.str x) = some false := rfl
@[simp] theorem isTy_tuple_list (ds : List D) : isTy "tuple" (.list ds) = some false := rfl
@[simp] theorem isTy_tuple_tuple (ds : List D) : isTy "tuple" (.tuple ds) = some true := rfl
@[simp] theorem isTy_list_none : isTy "list" .none = some false := rfl
@[simp] theorem isTy_list_bool (b : Bool) : isTy "list" (.bool b) = some false := rfl
@[simp] theorem isTy_list_int (i : Int) : isTy "list" (.int i) = some false := rfl
@[simp] theorem isTy_list_str (x : Str) : isTy "list" (.str x) = some false := rfl
@[simp] theorem isTy_list_list (ds : List D) : isTy "list" (.list ds) = some true := rfl
@[simp] theorem isTy_list_tuple (ds : List D) : isTy "list" (.tuple ds) = some false := rfl
@[simp] theorem isTy_dict_none : isTy "dict" .none = some false := rfl
@[simp] theorem isTy_dict_bool (b : Bool) : isTy "dict" (.bool b) = some false := rfl
@[simp] theorem isTy_dict_int (i : Int) : isTy "dict" (.int i) = some false := rfl
@[simp] theorem isTy_dict_str (x : Str) : isTy "dict" (.str x) = some false := rfl
@[simp] theorem isTy_dict_list (ds : List D) : isTy "dict" (.list ds) = some false := rfl
@[simp] theorem isTy_dict_tuple (ds : List D) : isTy "dict" (.tuple ds) = some false := rfl
def kitTT (t T : String) : Option Bool := if (Value.type t == Value.type T) = true then some true else if PySem.W.kitMeta T = true then (fastBuiltinMro t).map (·.contains (.type T)) else none
theorem kit_tt (K : Frag) (t T : String) : PySem.W.kitOne K (.type t) (.type T) = kitTT t T := rfl
theorem kit_tab : (["NoneType", "bool", "int", "str", "list", "tuple"].all fun t => ["int", "str", "bool", "tuple", "list", "dict"].all fun T => kitTT t T == some (tyB t T)) = true := by decide +kernel
theorem kit_of {K : Frag} {T t : String} (ht : t ∈ ["NoneType", "bool", "int", "str", "list", "tuple"]) (hT : tyKnown T = true) : PySem.W.kitOne K (.type t) (.type T) = some (tyB t T) := by
  rw [kit_tt]
  have h1 := List.all_eq_true.mp kit_tab t ht
  have h2 := List.all_eq_true.mp h1 T (by simpa [tyKnown] using hT)
  exact eq_of_beq h2
def eIsi (k : Kd) (f : EM) (T : String) : EM := fun ρ => (f ρ).bind fun s ρ1 => ofO (((sl k s ρ1).d?.bind (isTy T)).map fun b => .fz (.bool b)) ρ1
theorem Rdy.tyX {t : String} {s1 : Slot} (hK : X.K = W.K) (hle : Le H0 H) (h : Rdy W H0 H v s1) (e : s1.d? = some d) (ht : tyName d = some t) : t ∈ ["NoneType", "bool", "int", "str", "list", "tuple"] ∧ TyX X.K H v (.type t) := by
  cases d <;> simp only [tyName] at ht <;> cases ht
  · rw [h.non e]; exact ⟨by simp, .base .non⟩
  · rw [h.bl e]; exact ⟨by simp, .base (.bl _)⟩
  · rw [h.int e]; exact ⟨by simp, .base (.int _)⟩
  · rw [h.str e]; exact ⟨by simp, .base (.str _)⟩
  · obtain ⟨a, xs, rfl, h1, _⟩ := h.lst hle e
    exact ⟨by simp, .base (h1.elim .lst fun ⟨o, h1⟩ => .frz h1)⟩
  · obtain ⟨a, xs, rfl, h1, _⟩ := h.tup hle e
    exact ⟨by simp, .base (.tup h1)⟩
theorem isi_red {T : String} (hK : X.K = W.K) : ∀ σ H Q, tO W Ew .t (eIsi k f T) σ H Q → tCB (rIsi X.K) (tCons (tO W Ew k f) (tCons (tC (.ty T)) tNil)) σ H Q := fun σ H Q ⟨ts, tss, ρ, w, q⟩ => by
  refine ⟨ts, tss, ρ, w, ?_⟩
  unfold eIsi at q
  cases ea : f ρ with
  | no => rw [ea] at q; exact q
  | er c d ρ' => rw [ea] at q; exact q
  | ok s1 ρ1 =>
    rw [ea] at q
    simp only [Out.bind_ok] at q
    intro v H1 w1 k1
    cases ed : (sl k s1 ρ1).d? with
    | none => rw [ed] at q; exact q.elim
    | some d =>
      rw [ed] at q
      simp only [Option.bind_some, isTy] at q
      cases et : tyName d with
      | none => rw [et] at q; exact q.elim
      | some t =>
        rw [et] at q
        simp only [Option.bind_some] at q
        split at q
        · rename_i hT
          obtain ⟨H0, hle, rd⟩ := World.top w1 k1
          obtain ⟨h1, h2⟩ := rd.tyX hK hle ed et
          exact ⟨v, .ty T, .type t, .type T, tyB t T, rfl, .ty T, h2, kit_of h1 hT, q _ _ (w1.pop.push (.bl _)) trivial⟩
        · exact q.elim
theorem pd_isi {a : Expr} {T : String} {x : Str} {p1 p2 : Pos} (hK : X.K = W.K) (hg : Gl X "isinstance") (hm : X.mg "isinstance" = none) (hg2 : Gl X x) (hm2 : X.mg x = none) (hv2 : bootBuiltins x = some (.type T)) (h : PE X a (tO W Ew k f))
    (hn2 : x ≠ "__name__" := by decide) (hd2 : (x == ("__debug__" : Str)) = false := by decide)
    (he : starEach [a, .Name x p2] X.env = (false, eval a X.env) :: starEach [.Name x p2] X.env := by rfl) (he2 : starEach [.Name x p2] X.env = (false, eval (.Name x p2) X.env) :: starEach [] X.env := by rfl) (hpl : (backTo pos (starEach [.Name x p2] X.env)).any (·.1) = false := by rfl) :
    PE X (.Call (.Name "isinstance" p1) [a, .Name x p2] [] pos) (tO W Ew .t (eIsi k f T)) :=
  PE.imp (pe_callB call_isi hg hm PyProof.Rows.boot_isinstance (pa_cons h (pa_cons (pe_bltn (v := .ty T) hg2 hm2 hv2 (show RelV (.ty T) (.type T) from rfl) hn2 hd2) pa_nil he2) he) (by decide) (by decide) he hpl) (isi_red hK)
end
end Dl
end
section
namespace Dl
open PySem L2
section
variable {X : Cx} {W : Wc} {Ew : XK} {pins : List (Addr × Obj)} {σ : L2.St} {H H0 : Hp} {s : Shared} {v : V} {u : Value} {sl' : Slot} {d : D} {a : Addr} {xs : List V} {ds : List D} {e : Expr} {k : Kd} {f : EM} {pos p : Pos}
/-! ### repr(x) -/
def reprOp (d : D) : Option Slot := if lay 60 d && d.showable && decide (d.shown.length ≤ 1000000) then some (.fz (.str d.shown)) else none
theorem plain_noDict : ∀ (d : D), d.plain = true → d.hasDict = false := by
  have key : ∀ n, (∀ d : D, sizeOf d < n → d.plain = true → d.hasDict = false) ∧ ∀ ds : List D, sizeOf ds < n → PyData.plainAll ds = true → PyData.hasDictAll ds = false := by
    intro n
    induction n with
    | zero => exact ⟨fun d h => absurd h (Nat.not_lt_zero _), fun d h => absurd h (Nat.not_lt_zero _)⟩
    | succ n ih =>
      refine ⟨fun d hd hp => ?_, fun ds hd hp => ?_⟩
      · cases d <;> simp only [PyData.hasDict]
        · exact ih.2 _ (by simp at hd; omega) (by simpa [PyData.plain] using hp)
        · exact ih.2 _ (by simp at hd; omega) (by simpa [PyData.plain] using hp)
        · simp [PyData.plain] at hp
      · cases ds with
        | nil => simp [PyData.hasDictAll]
        | cons d ds =>
          rw [PyData.plainAll, Bool.and_eq_true] at hp
          simp only [PyData.hasDictAll, Bool.or_eq_false_iff]
          exact ⟨ih.1 _ (by simp at hd; omega) hp.1, ih.2 _ (by simp at hd; omega) hp.2⟩
  exact fun d => (key (sizeOf d + 1)).1 d (Nat.lt_succ_self _)
theorem og_repr (ax : Ax X) (hK : X.K = W.K) : CallR X (.builtin "repr") (rGN W (gN1 reprOp)) := ogN1 fun pins s σ H H0 x us Q s1 s' d I r hle r1 e1 e3 q => by
  unfold reprOp at e3
  split at e3
  · rename_i hc
    cases e3
    simp only [Bool.and_eq_true, decide_eq_true_eq] at hc
    obtain ⟨⟨h1, h2⟩, h3⟩ := hc
    have hz : d.shown.length ≤ sizeLine := by have := million; omega
    obtain ⟨u, rfl, rx⟩ := vals1 r
    obtain ⟨as, rd⟩ := r1.reads I hK hle e1 (lay_plain 60 d h1) rx
    have fin : ∀ {h' : Heap} {tk : Nat} {t : Tok}, (∀ b o, s.heap.get? b = some o → h'.get? b = some o) → EP X pins σ Q (.str d.shown t) { s with heap := h', toks := tk } := fun hk => ⟨.str d.shown, H, I.kept hk, ⟨_, rfl⟩, q _ _ _ (.atom hle (.str _))⟩
    have fin2 : ∀ {tk : Nat} {t : Tok}, EP X pins σ Q (.str d.shown t) { s with toks := tk } := ⟨.str d.shown, H, I.tok _, ⟨_, rfl⟩, q _ _ _ (.atom hle (.str _))⟩
    cases rd with
    | none => exact PySem.P.repr_of_none fin2
    | bool b => exact PySem.P.repr_of_bool (by simpa [PyData.shown] using fin2)
    | int i t => exact PySem.P.repr_of_int (by simpa [PyData.showable] using h2) fin2
    | str y t => exact PySem.P.repr_of_str fin2 hz
    | list g1 g2 g3 g4 => exact PySem.repr_of_reads' (Reads.list g1 g2 g3 g4) h2 (fun z => by rw [plain_noDict _ (lay_plain 60 _ h1)] at z; cases z) ax.gd (by have := lay_depth 60 _ h1; have := ax.un; omega) (fun _ _ e => e) (fun h' u tk hk => fin hk) hz
    | tuple g1 g2 g3 g4 => exact PySem.repr_of_reads' (Reads.tuple g1 g2 g3 g4) h2 (fun z => by rw [plain_noDict _ (lay_plain 60 _ h1)] at z; cases z) ax.gd (by have := lay_depth 60 _ h1; have := ax.un; omega) (fun _ _ e => e) (fun h' u tk hk => fin hk) hz
    | dict _ _ _ _ => simp [lay] at h1
  · cases e3
/-! ### max(xs), min(xs) -/
theorem maxD_mem : ∀ (x : D) (xs : List D), PySem.W.maxD x xs ∈ x :: xs := by
  intro x xs
  unfold PySem.W.maxD
  have : ∀ (xs : List D) (a : D), xs.foldl (fun a y => if PySem.W.dataLt a y then y else a) a ∈ a :: xs := by
    intro xs
    induction xs with
    | nil => intro a; simp
    | cons y ys ih =>
      intro a
      simp only [List.foldl_cons]
      have := ih (if PySem.W.dataLt a y then y else a)
      rcases List.mem_cons.mp this with h | h
      · rw [h]; split <;> simp
      · simp [h]
  exact this xs x
theorem minD_mem : ∀ (x : D) (xs : List D), PySem.W.minD x xs ∈ x :: xs := by
  intro x xs
  unfold PySem.W.minD
  have : ∀ (xs : List D) (a : D), xs.foldl (fun a y => if PySem.W.dataLt y a then y else a) a ∈ a :: xs := by
    intro xs
    induction xs with
    | nil => intro a; simp
    | cons y ys ih =>
      intro a
      simp only [List.foldl_cons]
      have := ih (if PySem.W.dataLt y a then y else a)
      rcases List.mem_cons.mp this with h | h
      · rw [h]; split <;> simp
      · simp [h]
  exact this xs x
theorem readsAll_get {h : Heap} : ∀ {vs : List Value} {ds : List D} {as : List Addr} {i : Nat} {v : Value}, ReadsAll h vs ds as → vs[i]? = some v → ∃ d as', ds[i]? = some d ∧ Reads h v d as'
  | _, _, _, 0, v, .cons h1 h2, e => by cases e; exact ⟨_, _, rfl, h1⟩
  | _, _, _, i + 1, v, .cons h1 h2, e => by
    obtain ⟨d, as', e1, r⟩ := readsAll_get (i := i) h2 (by simpa using e)
    exact ⟨d, as', by simpa using e1, r⟩
theorem vals_get : ∀ {xs : List V} {us : List Value} {i : Nat} {u : Value}, Vals xs us → us[i]? = some u → ∃ x, xs[i]? = some x ∧ RelV x u
  | _, _, 0, u, .cons h1 h2, e => by cases e; exact ⟨_, rfl, h1⟩
  | _, _, i + 1, u, .cons h1 h2, e => by
    obtain ⟨x, e1, r⟩ := vals_get (i := i) h2 (by simpa using e)
    exact ⟨x, by simpa using e1, r⟩
/-- the one that is chosen -/
theorem pick_ok (hK : X.K = W.K) {x : D} {rest : List D} {m : D} {its : List Value} {as : List Addr} {Q : VK} {h' : Heap} {tk : Nat} {u : Value} {bs : List Addr} {i : Nat} (I : Inv X pins σ H s) (hle : Le H0 H) (p1 : RpL W.K W.cl H0 xs (x :: rest)) (rv : Vals xs its) (ra : ReadsAll s.heap its (x :: rest) as)
    (al : PySem.W.AlikeAll (x :: rest)) (hm : m ∈ x :: rest) (hi : its[i]? = some u) (hr : Reads h' u m bs) (hk : ∀ b o, s.heap.get? b = some o → h'.get? b = some o) (q : ∀ v' H' H0', Res W H0 H H0' H' v' (.fz m) → Q v' H') : EP X pins σ Q u { s with heap := h', toks := tk } := by
  obtain ⟨d, as', ed, rd⟩ := readsAll_get ra hi
  have hd : d ∈ x :: rest := List.mem_of_getElem? ed
  have e : d = m := PySem.W.alike_unique _ _ _ _ _ (al.1 d hd m hm) (PyProof.Rows.Reads.keeps hk rd) hr
  subst e
  obtain ⟨v, ev, rel⟩ := vals_get rv hi
  obtain ⟨d', ed', rp⟩ := p1.get ev
  rw [ed] at ed'
  cases ed'
  exact ⟨v, H, I.kept hk, rel, q _ _ _ (.child hle rp)⟩
theorem og_max1 (ax : Ax X) (hK : X.K = W.K) : CallR X (.builtin "max") (rGN W (gN1 max1Op)) := ogN1 fun pins s σ H H0 x us Q s1 s' d I r hle r1 e1 e3 q => by
  unfold max1Op at e3
  split at e3
  · rename_i x0 rest
    split at e3
    · rename_i hc
      cases e3
      have al := alikeAll_of hc
      simp only [Bool.and_eq_true] at hc
      obtain ⟨l, xs, rfl, h1, p1⟩ := r1.lst hle e1
      obtain ⟨its, hl, rv, as, ra⟩ := rd_reads I hle h1 p1 hK (layL_plain 60 _ hc.1.1)
      obtain ⟨u, rfl, rx⟩ := vals1 r
      cases rx
      refine PySem.W.max_list_data ax.hd hl (by simpa using ra) al ?_ fun i v h' tk bs hi hr hk => pick_ok hK I hle p1 rv ra al (maxD_mem _ _) (by simpa using hi) hr hk q
      have := layL_depth 60 _ hc.1.1
      have := ax.un
      omega
    · cases e3
  · cases e3
theorem og_min1 (ax : Ax X) (hK : X.K = W.K) : CallR X (.builtin "min") (rGN W (gN1 min1Op)) := ogN1 fun pins s σ H H0 x us Q s1 s' d I r hle r1 e1 e3 q => by
  unfold min1Op at e3
  split at e3
  · rename_i x0 rest
    split at e3
    · rename_i hc
      cases e3
      have al := alikeAll_of hc
      simp only [Bool.and_eq_true] at hc
      obtain ⟨l, xs, rfl, h1, p1⟩ := r1.lst hle e1
      obtain ⟨its, hl, rv, as, ra⟩ := rd_reads I hle h1 p1 hK (layL_plain 60 _ hc.1.1)
      obtain ⟨u, rfl, rx⟩ := vals1 r
      cases rx
      refine PySem.W.min_list_data ax.hd hl (by simpa using ra) al ?_ fun i v h' tk bs hi hr hk => pick_ok hK I hle p1 rv ra al (minD_mem _ _) (by simpa using hi) hr hk q
      have := layL_depth 60 _ hc.1.1
      have := ax.un
      omega
    · cases e3
  · cases e3
end
end Dl
end
section
set_option maxHeartbeats 1000000
/-! zip of lists and tuples, mixed -/
namespace DlZ
open PySem
open PySem.Sem (wp)
abbrev zO (T : Bool) (l : Addr) : Obj := { cls := .type (if T then "tuple_iterator" else "list_iterator"), data := .fields #[.ref l, .int 0 0] }
def IsSq (T : Bool) (h : Heap) (l : Addr) (xs : Array Value) : Prop := match T with
  | true => h.IsTuple l xs
  | false => h.IsList l xs
def IsIt (T : Bool) (h : Heap) (it l : Addr) (i : Nat) : Prop := match T with
  | true => h.IsTupleIter it l i
  | false => h.IsListIter it l i
abbrev zH1 (T1 : Bool) (h : Heap) (l1 : Addr) : Heap := h.push (zO T1 l1)
abbrev zH2 (T1 T2 : Bool) (h : Heap) (l1 l2 : Addr) : Heap := (zH1 T1 h l1).push (zO T2 l2)
abbrev zH3 (T1 T2 : Bool) (h : Heap) (l1 l2 : Addr) : Heap := (zH2 T1 T2 h l1 l2).push { cls := .type "tuple", data := .seq #[.ref h.objs.size, .ref (zH1 T1 h l1).objs.size] }
abbrev zH4 (T1 T2 : Bool) (h : Heap) (l1 l2 : Addr) : Heap := (zH3 T1 T2 h l1 l2).push { cls := .type "tuple", data := .seq #[.none, .none] }
abbrev zH5 (T1 T2 : Bool) (h : Heap) (l1 l2 : Addr) : Heap := (zH4 T1 T2 h l1 l2).push { cls := .type "zip", data := .fields #[.none, .bool false, .bool false, .ref (zH2 T1 T2 h l1 l2).objs.size, .ref (zH3 T1 T2 h l1 l2).objs.size] }
theorem meets_tl (l1 l2 : Addr) (xs ys : Array Value) :
    Meets (Builtin.«zip.__new__» ⟨[.type "zip", .ref l1, .ref l2], []⟩) (fun _ R s => s.heap.IsTuple l1 xs ∧ s.heap.IsList l2 ys ∧
      R (.ok (.ret (.ref (zH4 true false s.heap l1 l2).objs.size))) { s with heap := zH5 true false s.heap l1 l2 }) :=
  .of_wp fun prog w A R s h => by
    obtain ⟨hp, g, d, tk, os⟩ := s; obtain ⟨hl1, hl2, h⟩ := h
    have hsub := sub_zip
    have hL1 : Heap.IsTuple (Shared.heap ⟨hp, g, d, tk, os⟩) l1 xs := hl1
    have hL2 : Heap.IsList (Shared.heap ⟨hp.push { cls := .type "tuple_iterator", data := .fields #[.ref l1, .int 0 0] }, g, d, tk, os⟩) l2 ys := Heap.IsList.push hl2 _
    wp_walk using wpAny_pyIter_tuple hL1, wpAny_pyIter_list hL2
    exact ⟨_, rfl, h⟩
theorem meets_lt (l1 l2 : Addr) (xs ys : Array Value) :
    Meets (Builtin.«zip.__new__» ⟨[.type "zip", .ref l1, .ref l2], []⟩) (fun _ R s => s.heap.IsList l1 xs ∧ s.heap.IsTuple l2 ys ∧
      R (.ok (.ret (.ref (zH4 false true s.heap l1 l2).objs.size))) { s with heap := zH5 false true s.heap l1 l2 }) :=
  .of_wp fun prog w A R s h => by
    obtain ⟨hp, g, d, tk, os⟩ := s; obtain ⟨hl1, hl2, h⟩ := h
    have hsub := sub_zip
    have hL1 : Heap.IsList (Shared.heap ⟨hp, g, d, tk, os⟩) l1 xs := hl1
    have hL2 : Heap.IsTuple (Shared.heap ⟨hp.push { cls := .type "list_iterator", data := .fields #[.ref l1, .int 0 0] }, g, d, tk, os⟩) l2 ys := Heap.IsTuple.push hl2 _
    wp_walk using wpAny_pyIter_list hL1, wpAny_pyIter_tuple hL2
    exact ⟨_, rfl, h⟩
section
variable {prog : Program} {w : World} {A : Around} {E : Value → Shared → Prop} {s : Shared}
theorem call_zipB {T1 T2 : Bool} {l1 l2 : Addr} {xs ys : Array Value} {Q : Value → Shared → Prop} (hl1 : IsSq T1 s.heap l1 xs) (hl2 : IsSq T2 s.heap l2 ys)
    (h : ∀ h', IsZip h' (s.heap.objs.size + 4) (s.heap.objs.size + 2) (s.heap.objs.size + 3) .none → IsPair h' (s.heap.objs.size + 2) (.ref s.heap.objs.size) (.ref (s.heap.objs.size + 1)) →
      IsPair h' (s.heap.objs.size + 3) .none .none → IsIt T1 h' s.heap.objs.size l1 0 → IsIt T2 h' (s.heap.objs.size + 1) l2 0 → h'.objs.size = s.heap.objs.size + 5 →
      (∀ c o, s.heap.get? c = some o → h'.get? c = some o) → Q (.ref (s.heap.objs.size + 4)) { s with heap := h' }) :
    wpAny (model prog w) A (call (.type "zip") [.ref l1, .ref l2]) Q E s := by
  have z1 : (zH1 T1 s.heap l1).objs.size = s.heap.objs.size + 1 := Heap.size_push ..
  have z2 : (zH2 T1 T2 s.heap l1 l2).objs.size = s.heap.objs.size + 2 := by rw [Heap.size_push, z1]
  have z3 : (zH3 T1 T2 s.heap l1 l2).objs.size = s.heap.objs.size + 3 := by rw [Heap.size_push, z2]
  have z4 : (zH4 T1 T2 s.heap l1 l2).objs.size = s.heap.objs.size + 4 := by rw [Heap.size_push, z3]
  have z5 : (zH5 T1 T2 s.heap l1 l2).objs.size = s.heap.objs.size + 5 := by rw [Heap.size_push, z4]
  have g5 : (zH5 T1 T2 s.heap l1 l2).get? (zH4 T1 T2 s.heap l1 l2).objs.size = some _ := Heap.get?_push_size _ rfl
  have g4 : (zH5 T1 T2 s.heap l1 l2).get? (zH3 T1 T2 s.heap l1 l2).objs.size = some _ := Heap.get?_push_of_some _ (Heap.get?_push_size _ rfl)
  have g3 : (zH5 T1 T2 s.heap l1 l2).get? (zH2 T1 T2 s.heap l1 l2).objs.size = some _ := Heap.get?_push_of_some _ (Heap.get?_push_of_some _ (Heap.get?_push_size _ rfl))
  have g2 : (zH5 T1 T2 s.heap l1 l2).get? (zH1 T1 s.heap l1).objs.size = some _ := Heap.get?_push_of_some _ (Heap.get?_push_of_some _ (Heap.get?_push_of_some _ (Heap.get?_push_size _ rfl)))
  have g1 : (zH5 T1 T2 s.heap l1 l2).get? s.heap.objs.size = some _ := Heap.get?_push_of_some _ (Heap.get?_push_of_some _ (Heap.get?_push_of_some _ (Heap.get?_push_of_some _ (Heap.get?_push_size _ rfl))))
  rw [z2, z3, z4] at g5
  rw [z1, z2] at g3
  rw [z3] at g4
  rw [z1] at g2
  have hI : ∀ (T : Bool) (h' : Heap) (it l : Addr), h'.get? it = some (zO T l) → IsIt T h' it l 0 := fun T h' it l e => by
    cases T <;> exact ⟨_, e, rfl, rfl⟩
  have fin := h (zH5 T1 T2 s.heap l1 l2) g5 g3 g4 (hI T1 _ _ _ g1) (hI T2 _ _ _ g2) z5 fun c o x =>
    Heap.get?_push_of_some _ (Heap.get?_push_of_some _ (Heap.get?_push_of_some _ (Heap.get?_push_of_some _ (Heap.get?_push_of_some _ x))))
  cases T1 <;> cases T2
  · exact call_zip_2 hl1 hl2 fun h' a b c d e f g => h h' a b c d e f g
  · refine callType_new F.called_zip (by decide) (F.typeCall_zip_2 _ _) (F.newCall_zip_2 _ _) (fun obj => F.args_object_init_3 obj _ _) F.entry_zip_new (meets_lt l1 l2 xs ys) ⟨hl1, hl2, ?_⟩
    show _ ∧ _
    rw [z4]
    exact ⟨⟨_, g5, rfl⟩, fin⟩
  · refine callType_new F.called_zip (by decide) (F.typeCall_zip_2 _ _) (F.newCall_zip_2 _ _) (fun obj => F.args_object_init_3 obj _ _) F.entry_zip_new (meets_tl l1 l2 xs ys) ⟨hl1, hl2, ?_⟩
    show _ ∧ _
    rw [z4]
    exact ⟨⟨_, g5, rfl⟩, fin⟩
  · exact RZ.call_zipT hl1 hl2 fun h' a b c d e f g => h h' a b c d e f g
theorem drawsB (T : Bool) (hh : A.handled = none) (it l : Addr) (hne : l ≠ it) (items : Array Value) :
    Draws prog w A it [it, l] items.size (fun i v => items[i]? = some v) (fun i h => IsIt T h it l i ∧ IsSq T h l items) := by
  cases T
  · exact Draws.list hh it l hne items
  · exact Draws.tuple hh it l hne items
theorem isIt_at {T : Bool} {h h' : Heap} {it l : Addr} {i : Nat} (x : IsIt T h it l i) (k : ∀ o, h.get? it = some o → h'.get? it = some o) : IsIt T h' it l i := by
  cases T
  · exact Heap.IsListIter.at x k
  · exact Heap.IsTupleIter.at x k
theorem isSq_at {T : Bool} {h h' : Heap} {l : Addr} {xs : Array Value} (x : IsSq T h l xs) (k : ∀ o, h.get? l = some o → h'.get? l = some o) : IsSq T h' l xs := by
  cases T
  · exact Heap.IsList.at x k
  · exact Heap.IsTuple.at x k
theorem isIt_obj {T : Bool} {h : Heap} {it l : Addr} {i : Nat} (x : IsIt T h it l i) : ∃ o, h.get? it = some o ∧ ∀ v, o.data ≠ .cell v := by
  cases T <;> (obtain ⟨o, e, _, d⟩ := x; exact ⟨o, e, fun v q => by rw [d] at q; cases q⟩)
theorem sep_of {z TI TO i1 i2 a b : Addr} (D : ZipApart z TI TO i1 i2 a b) : ZipSep2 z TI TO i1 i2 [i1, a] [i2, b] :=
  ⟨D.TIz, D.TOz, D.TITO, D.TIi1, by simp, by simp only [List.mem_cons, List.not_mem_nil, or_false, not_or]; exact ⟨D.i1z.symm, D.l1z.symm⟩, by simp only [List.mem_cons, List.not_mem_nil, or_false, not_or]; exact ⟨D.TOi1, D.l1TO.symm⟩,
    D.TIi2, by simp, by simp only [List.mem_cons, List.not_mem_nil, or_false, not_or]; exact ⟨D.i2z.symm, D.l2z.symm⟩, by simp only [List.mem_cons, List.not_mem_nil, or_false, not_or]; exact ⟨D.TOi2, D.l2TO.symm⟩,
    by simp only [List.mem_cons, List.not_mem_nil, or_false, not_or]; exact ⟨D.i12, D.l2i1.symm⟩, by simp only [List.mem_cons, List.not_mem_nil, or_false, not_or]; exact ⟨D.i12.symm, D.l1i2.symm⟩⟩
end
end DlZ
namespace DlZ
open PySem PySem.Spec PyProof.Rows L2
def SqB (T : Bool) (K : PySem.W.Frag) (H : Hp) (a : Addr) (xs : List V) : Prop := match T with
  | true => SqT K H a xs
  | false => SqL K H a xs
theorem sqB_inv {X : Cx} {pins : List (Addr × Obj)} {σ : L2.St} {H : Hp} {s : Shared} {T : Bool} {a : Addr} {xs : List V} (I : Inv X pins σ H s) (h : SqB T X.K H a xs) : ∃ its : List Value, Vals xs its ∧ IsSq T s.heap a its.toArray ∧ xs.length ≤ sizeLine := by
  cases T
  · obtain ⟨its, r, p, z⟩ := I.list h; exact ⟨its, r, p.isList, z⟩
  · obtain ⟨its, r, p, z⟩ := I.tuple h; exact ⟨its, r, (show s.heap.IsTuple a its.toArray from p), z⟩
theorem sqB_inj {X : Cx} {pins : List (Addr × Obj)} {σ : L2.St} {H : Hp} {s : Shared} {T : Bool} {a : Addr} {xs ys : List V} (I : Inv X pins σ H s) (h : SqB T X.K H a xs) (h' : SqB T X.K H a ys) : xs = ys := by
  cases T
  · exact I.list_inj h h'
  · exact I.tuple_inj h h'
def ItzB (T1 T2 : Bool) (K : PySem.W.Frag) (a b : Addr) : It :=
  ⟨fun i H => ∃ (xs ys : List V) (x y : V), SqB T1 K H a xs ∧ SqB T2 K H b ys ∧ xs[i]? = some x ∧ ys[i]? = some y,
    fun i H v H' => ∃ T x y, v = .ref T ∧ H T = none ∧ H' = upd H T (.tup [x, y]) ∧ (∀ xs, SqB T1 K H a xs → xs[i]? = some x) ∧ ∀ ys, SqB T2 K H b ys → ys[i]? = some y,
    fun i H => ∃ xs ys : List V, SqB T1 K H a xs ∧ SqB T2 K H b ys ∧ (i = xs.length ∧ i ≤ ys.length ∨ i = ys.length ∧ i ≤ xs.length)⟩
theorem turn_zipB {P : Program} {w : World} {K : PySem.W.Frag} {elts : List Expr} {kk : Nat} {tpos : Pos} {T1 T2 : Bool} {a b z TI TO i1 i2 : Addr} (D : ZipApart z TI TO i1 i2 a b) :
    Turn P w K (.Tuple elts kk tpos) (ItzB T1 T2 K a b) [z, TI, TO, i1, i2] z (fun i h => IsZip h z TI TO .none ∧ IsPair h TI (.ref i1) (.ref i2) ∧ (∃ x y, IsPair h TO x y) ∧ IsIt T1 h i1 a i ∧ IsIt T2 h i2 b i) where
  mem := by simp
  obj := fun i h st c hc => by
    obtain ⟨hz, hTI, ⟨x, y, hTO⟩, h1, h2⟩ := st
    have e' : c = z ∨ c = TI ∨ c = TO ∨ c = i1 ∨ c = i2 := by simpa using hc
    rcases e' with q | q | q | q | q
    · rw [q]; exact ⟨_, hz, fun v q => nomatch q⟩
    · rw [q]; exact ⟨_, hTI, fun v q => nomatch q⟩
    · rw [q]; exact ⟨_, hTO, fun v q => nomatch q⟩
    · rw [q]; exact isIt_obj h1
    · rw [q]; exact isIt_obj h2
  keep := fun i h h' st k => by
    obtain ⟨hz, hTI, ⟨x, y, hTO⟩, h1, h2⟩ := st
    exact ⟨k z (by simp) _ hz, k TI (by simp) _ hTI, ⟨x, y, k TO (by simp) _ hTO⟩, isIt_at h1 fun o q => k i1 (by simp) o q, isIt_at h2 fun o q => k i2 (by simp) o q⟩
  item := by
    intro X hP hw hK hc i pins s σ H E I hf st hg
    subst hP hw hK
    obtain ⟨hz, hTI, ⟨x0, y0, hTO⟩, h1, h2⟩ := st
    obtain ⟨xs, ys, x, y, hqx, hqy, hx, hy⟩ := hg
    obtain ⟨its, rv, p, _⟩ := sqB_inv I hqx
    obtain ⟨its2, rv2, p2, _⟩ := sqB_inv I hqy
    obtain ⟨u, hu, ru⟩ := rv.get hx
    obtain ⟨u2, hu2, ru2⟩ := rv2.get hy
    have hzl : z < s.heap.objs.size := Heap.lt_size hz
    have hh : X.A.in1.handled = none := I.ok.hd hc
    have l1 : i < its.toArray.size := by have := (List.getElem?_eq_some_iff.mp hu).1; simpa using this
    have l2 : i < its2.toArray.size := by have := (List.getElem?_eq_some_iff.mp hu2).1; simpa using this
    refine wpAny_pyNext_zipD2_item (sep_of D) (drawsB T1 hh i1 a D.l1i1 its.toArray) (drawsB T2 hh i2 b D.l2i2 its2.toArray) hz hTI hTO ⟨h1, p⟩ ⟨h2, p2⟩ l1 l2 fun x1 x2 h' tk e1 e2 z' TO' st1' st2' hT hsz hk => ?_
    obtain rfl : x1 = u := by
      have e1' : its.toArray[i]? = some x1 := e1
      rw [List.getElem?_toArray, hu] at e1'; exact (Option.some.inj e1').symm
    obtain rfl : x2 = u2 := by
      have e2' : its2.toArray[i]? = some x2 := e2
      rw [List.getElem?_toArray, hu2] at e2'; exact (Option.some.inj e2').symm
    refine ⟨_, rfl, wpAny_letOwnedTupleGo_zip (s := { s with heap := h', toks := tk }) z' fun h'' z'' sb => ?_⟩
    have hT2 : h''.get? s.heap.objs.size = some { cls := .type "tuple", data := .seq #[x1, x2] } := (sb.2 _ (Nat.ne_of_gt hzl)).trans hT
    have new : ObjOk X.prog X.w (upd H s.heap.objs.size (.tup [x, y])) h'' s.heap.objs.size (.tup [x, y]) :=
      ⟨by show 2 ≤ sizeLine; decide, [x1, x2], .cons ru (.cons ru2 .nil), ⟨_, hT2, rfl, _, rfl⟩⟩
    have I1 : Inv X pins σ (upd H s.heap.objs.size (.tup [x, y])) { s with heap := h'', toks := tk } :=
      I.turnedNew (t' := tk) (ch := [z, TI, TO, i1, i2]) (fun c o hb q => (sb.2 c (fun q' => hb (by simp [q']))).trans (hk c o (fun q' => hb (by simp [q'])) (fun q' => hb (by simp [q'])) (fun q' => hb (by simp [q'])) (fun q' => hb (by simp [q'])) q)) hf (Nat.le_refl _) new
    refine ⟨.ref s.heap.objs.size, _, I1, rfl, ⟨_, x, y, rfl, I.hok.fresh (Nat.le_refl _), rfl, fun l hl => by rw [sqB_inj I hl hqx]; exact hx, fun l hl => by rw [sqB_inj I hl hqy]; exact hy⟩, ⟨z'', ?_, ⟨x1, x2, ?_⟩, ?_, ?_⟩, fun c hcm => ?_⟩
    · exact (sb.2 _ D.TIz).trans (hk _ _ D.TIz D.TITO D.TIi1 D.TIi2 hTI)
    · exact (sb.2 _ D.TOz).trans TO'
    · exact isIt_at st1'.1 fun o q => (sb.2 _ D.i1z).trans q
    · exact isIt_at st2'.1 fun o q => (sb.2 _ D.i2z).trans q
    · have hlt : c < s.heap.objs.size := by
        have e' : c = z ∨ c = TI ∨ c = TO ∨ c = i1 ∨ c = i2 := by simpa using hcm
        rcases e' with q | q | q | q | q
        · rw [q]; exact hzl
        · rw [q]; exact Heap.lt_size hTI
        · rw [q]; exact Heap.lt_size hTO
        · rw [q]; obtain ⟨_, e1, _⟩ := isIt_obj h1; exact Heap.lt_size e1
        · rw [q]; obtain ⟨_, e2, _⟩ := isIt_obj h2; exact Heap.lt_size e2
      rw [upd_ne (Nat.ne_of_lt hlt)]
      exact (hf c hcm).1
  done := by
    intro X hP hw hK hc i pins s σ H E I hf st hg
    subst hP hw hK
    obtain ⟨hz, hTI, ⟨x0, y0, hTO⟩, h1, h2⟩ := st
    obtain ⟨xs, ys, hqx, hqy, hend⟩ := hg
    obtain ⟨its, rv, p, _⟩ := sqB_inv I hqx
    obtain ⟨its2, rv2, p2, _⟩ := sqB_inv I hqy
    have l1 := rv.length
    have l2 := rv2.length
    have hh : X.A.in1.handled = none := I.ok.hd hc
    refine wpAny_pyNext_zipD2_end (i := i) (sep_of D) (drawsB T1 hh i1 a D.l1i1 its.toArray) (drawsB T2 hh i2 b D.l2i2 its2.toArray) hz hTI hTO ⟨h1, p⟩ ⟨h2, p2⟩ (by simp; omega) (by simp; omega) (by simp; omega) fun h' tk hk => ⟨rfl, ?_⟩
    exact I.turnedL (t' := tk) (ch := [z, TI, TO, i1, i2]) (fun c o hb q =>
      hk c o (fun q' => hb (by simp [q'])) (fun q' => hb (by simp [q'])) (fun q' => hb (by simp [q'])) (fun q' => hb (by simp [q'])) q) hf
  self := fun A i s Q E st h => wpAny_pyIter_zip st.1 h
def iZipB (K : PySem.W.Frag) (ta : TA) : TI := fun σ H R => ta σ H fun vs H1 => ∃ T1 T2 a b xs ys, vs = [.ref a, .ref b] ∧ SqB T1 K H1 a xs ∧ SqB T2 K H1 b ys ∧ (xs.length ≤ sizeLine → R (ItzB T1 T2 K a b) H1)
theorem pi_zipB {X : Cx} {e e2 : Expr} {ta : TA} {p pos tpos : Pos} {elts : List Expr} {kk : Nat} (hg : Gl X "zip") (hm : X.mg "zip" = none) (ha : PA X [e, e2] ta)
    (hs : starEach [e, e2] X.env = (false, eval e X.env) :: starEach [e2] X.env := by rfl) (hpl : (backTo pos (starEach [e2] X.env)).any (·.1) = false := by rfl) :
    PI X (.Tuple elts kk tpos) (.Call (.Name "zip" p) [e, e2] [] pos) (iZipB X.K ta) := by
  refine ⟨fun pins s σ H R I h => ?_⟩
  refine Call_ (ld_blt I hg hm PyProof.Rows.boot_zip (PyProof.Rows.callWith_type1 (thn (ha.run pos pins s σ H _ I h) fun us s1 ⟨vs, H1, I1, r1, q1⟩ => ?_) hs hpl))
  obtain ⟨T1, T2, a, b, xs, ys, ex, hqx, hqy, q⟩ := q1
  subst ex
  cases r1 with
  | cons r rr =>
    cases rr with
    | cons r' rr =>
      cases rr
      cases r
      cases r'
      have fresh5 : ∀ c, c ∈ [s1.heap.objs.size + 4, s1.heap.objs.size + 2, s1.heap.objs.size + 3, s1.heap.objs.size, s1.heap.objs.size + 1] → FpOk X pins H1 c := fun c hcm => by
        have hle : s1.heap.objs.size ≤ c := by
          simp only [List.mem_cons, List.not_mem_nil, or_false] at hcm
          omega
        exact I1.fpOk hle (I1.hok.fresh hle)
      obtain ⟨its, rv, p1, hz1⟩ := sqB_inv I1 hqx
      obtain ⟨its2, rv2, p2, _⟩ := sqB_inv I1 hqy
      have lt : ∀ {T : Bool} {a : Addr} {is : Array Value}, IsSq T s1.heap a is → a < s1.heap.objs.size := fun {T a is} h => by
        cases T <;> (obtain ⟨o, e, _⟩ := h; exact Heap.lt_size e)
      refine call_zipB p1 p2 fun h' hz hTI hTO h1 h2 hsz hk => wpAny_pyIter_zip hz ?_
      have I2 : Inv X pins σ H1 { s1 with heap := h' } := I1.kept (t' := s1.toks) hk
      exact ⟨s1.heap.objs.size + 4, [s1.heap.objs.size + 4, s1.heap.objs.size + 2, s1.heap.objs.size + 3, s1.heap.objs.size, s1.heap.objs.size + 1], _, _, H1, rfl, I2, turn_zipB (PySem.W.ktu_apart s1.heap.objs.size a b (lt p1) (lt p2)), ⟨hz, hTI, ⟨_, _, hTO⟩, h1, h2⟩, fresh5, q hz1⟩
end DlZ
end
section
set_option maxHeartbeats 1000000
/-! dict(zip(a, b)) with keys that are tuples -/
namespace DlZ
open PySem
open PySem.Sem (wp)
section
variable {prog : Program} {w : World} {A : Around} {E : Value → Shared → Prop} {s : Shared} {z TI TO T i1 i2 : Addr} {f : Bool} {oT : Obj} {fp1 fp2 : List Addr} {n1 n2 i : Nat} {P1 P2 : Nat → Value → Prop} {St1 St2 : Nat → Heap → Prop}
theorem next_item_held {Q : Value → Shared → Prop} (S : ZipSep2 z TI TO i1 i2 fp1 fp2) (D1 : Draws prog w A i1 fp1 n1 P1 St1) (D2 : Draws prog w A i2 fp2 n2 P2 St2)
    (hz : IsZipHeld s.heap z TI TO T f) (hT : s.heap.get? T = some oT) (hTI : IsPair s.heap TI (.ref i1) (.ref i2)) (st1 : St1 i s.heap) (st2 : St2 i s.heap) (hlt1 : i < n1) (hlt2 : i < n2)
    (hQ : ∀ x y h' tk, P1 i x → P2 i y → IsZipHeld h' z TI TO T true → St1 (i + 1) h' → St2 (i + 1) h' → IsPair h' s.heap.objs.size x y → h'.objs.size = s.heap.objs.size + 1 →
      (∀ c o, c ≠ z → c ≠ i1 → c ≠ i2 → s.heap.get? c = some o → h'.get? c = some o) → Q (.ref s.heap.objs.size) { s with heap := h', toks := tk }) :
    wpAny (model prog w) A (Builtin.«zip.__next__» ⟨[.ref z], []⟩) (fun fin s' => ∃ v, fin = .done (.ret v) ∧ Q v s') E s := by
  obtain ⟨hp, g, d, tk0, os⟩ := s
  show wpAny _ _ (field (.ref z) 2 >>= _) _ _ _
  refine wpAny_bind (wpAny_field hz rfl (x := .bool false) rfl ?_)
  show wpAny _ _ (field (.ref z) 3 >>= _) _ _ _
  refine wpAny_bind (wpAny_field hz rfl (x := .ref TI) rfl ?_)
  refine wpAny_bind (wpAny_seqItems hTI rfl ?_)
  show wpAny _ _ (Builtin.SmallTypes.ownedTupleIsFree (.ref z) >>= _) _ _ _
  refine wpAny_bind (wpAny_tupleHeld_zip hz hT fun h₁ hz₁ hs₁ => ?_)
  simp only [Bool.false_eq_true, if_false]
  refine wpAny_bind ?_
  rw [← Array.forIn_toList]
  simp only [List.forIn_cons, List.forIn_nil]
  refine wpAny_bind (wpAny_bind (wpAny_holding ?_))
  show wpAny _ _ (Builtin.SmallTypes.nextOf (.ref i1) >>= _) _ _ ⟨h₁, g, d, tk0, os⟩
  refine wpAny_bind (D1.item i _ _ _ hlt1 (D1.over st1 hs₁ S.zf1) fun x h₂ tk1 hx sn1 hs₂ => wpAny_pure ?_)
  replace hs₂ : Heap.SameBut i1 h₁ h₂ := hs₂
  refine wpAny_pure ?_
  refine wpAny_bind (wpAny_bind (wpAny_holding ?_))
  show wpAny _ _ (Builtin.SmallTypes.nextOf (.ref i2) >>= _) _ _ ⟨h₂, g, d, tk1, os⟩
  refine wpAny_bind (D2.item i _ _ _ hlt2 (D2.over (D2.over st2 hs₁ S.zf2) hs₂ S.sep1_2) fun y h₃ tk2 hy sn2 hs₃ => wpAny_pure ?_)
  replace hs₃ : Heap.SameBut i2 h₂ h₃ := hs₃
  refine wpAny_pure (wpAny_pure ?_)
  show wpAny _ _ (newTuple [x, y] >>= _) _ _ ⟨h₃, g, d, tk2, os⟩
  refine wpAny_bind (wpAny_newTuple ?_)
  have hsz : h₃.objs.size = hp.objs.size := by rw [hs₃.1, hs₂.1, hs₁.1]
  have hz₃ : IsZipHeld h₃ z TI TO T true := hs₃.extBut _ _ S.zi2 (hs₂.extBut _ _ S.zi1 hz₁)
  have hk : ∀ c o, c ≠ z → c ≠ i1 → c ≠ i2 → hp.get? c = some o → h₃.get? c = some o := fun c o c1 c2 c3 e => hs₃.extBut _ _ c3 (hs₂.extBut _ _ c2 (hs₁.extBut _ _ c1 e))
  have j1 : St1 (i + 1) h₃ := D1.over sn1 hs₃ S.sep2_1
  refine wpAny_pure ⟨_, rfl, ?_⟩
  show Q (.ref h₃.objs.size) ⟨h₃.push { cls := .type "tuple", data := .seq #[x, y] }, g, d, tk2, os⟩
  have hp' : IsPair (h₃.push { cls := .type "tuple", data := .seq #[x, y] }) h₃.objs.size x y := Heap.get?_push_size _ rfl
  have hz4 : (h₃.push { cls := .type "tuple", data := .seq #[x, y] }).objs.size = h₃.objs.size + 1 := Heap.size_push ..
  rw [hsz] at hp' hz4 ⊢
  exact hQ x y _ tk2 hx hy (Heap.get?_push_of_some _ hz₃) (D1.frame _ _ _ j1 fun b hb o e => Heap.get?_push_of_some _ e) (D2.frame _ _ _ sn2 fun b hb o e => Heap.get?_push_of_some _ e) hp' hz4 fun c o c1 c2 c3 e => Heap.get?_push_of_some _ (hk c o c1 c2 c3 e)
theorem next_end_held {Q : Fin → Shared → Prop} (S : ZipSep2 z TI TO i1 i2 fp1 fp2) (D1 : Draws prog w A i1 fp1 n1 P1 St1) (D2 : Draws prog w A i2 fp2 n2 P2 St2)
    (hz : IsZipHeld s.heap z TI TO T f) (hT : s.heap.get? T = some oT) (hTI : IsPair s.heap TI (.ref i1) (.ref i2)) (st1 : St1 i s.heap) (st2 : St2 i s.heap) (hend : i = n1 ∨ (i < n1 ∧ i = n2))
    (hE : ∀ h' tk e, (∀ c o, c ≠ z → c ≠ i1 → c ≠ i2 → s.heap.get? c = some o → h'.get? c = some o) → (∃ o, h'.get? e = some o ∧ o.cls = .type "StopIteration") → E (.ref e) { s with heap := h', toks := tk }) :
    wpAny (model prog w) A (Builtin.«zip.__next__» ⟨[.ref z], []⟩) Q E s := by
  obtain ⟨hp, g, d, tk0, os⟩ := s
  show wpAny _ _ (field (.ref z) 2 >>= _) _ _ _
  refine wpAny_bind (wpAny_field hz rfl (x := .bool false) rfl ?_)
  show wpAny _ _ (field (.ref z) 3 >>= _) _ _ _
  refine wpAny_bind (wpAny_field hz rfl (x := .ref TI) rfl ?_)
  refine wpAny_bind (wpAny_seqItems hTI rfl ?_)
  show wpAny _ _ (Builtin.SmallTypes.ownedTupleIsFree (.ref z) >>= _) _ _ _
  refine wpAny_bind (wpAny_tupleHeld_zip hz hT fun h₁ hz₁ hs₁ => ?_)
  simp only [Bool.false_eq_true, if_false]
  refine wpAny_bind ?_
  rw [← Array.forIn_toList]
  simp only [List.forIn_cons, List.forIn_nil]
  refine wpAny_bind (wpAny_bind (wpAny_holding ?_))
  show wpAny _ _ (Builtin.SmallTypes.nextOf (.ref i1) >>= _) _ _ ⟨h₁, g, d, tk0, os⟩
  rcases hend with rfl | ⟨hlt, rfl⟩
  · refine wpAny_bind (D1.done _ _ _ (D1.over st1 hs₁ S.zf1) fun h₂ e hs₂ he => ?_)
    exact hE h₂ _ e (fun c o c1 c2 _ x => hs₂ _ _ c2 (hs₁.extBut _ _ c1 x)) he
  · refine wpAny_bind (D1.item i _ _ _ hlt (D1.over st1 hs₁ S.zf1) fun x h₂ tk1 hx sn1 hs₂ => wpAny_pure ?_)
    replace hs₂ : Heap.SameBut i1 h₁ h₂ := hs₂
    refine wpAny_pure ?_
    refine wpAny_bind (wpAny_bind (wpAny_holding ?_))
    show wpAny _ _ (Builtin.SmallTypes.nextOf (.ref i2) >>= _) _ _ ⟨h₂, g, d, tk1, os⟩
    refine wpAny_bind (D2.done _ _ _ (D2.over (D2.over st2 hs₁ S.zf2) hs₂ S.sep1_2) fun h₃ e hs₃ he => ?_)
    exact hE h₃ _ e (fun c o c1 c2 c3 x => hs₃ _ _ c3 (hs₂.extBut _ _ c2 (hs₁.extBut _ _ c1 x))) he
theorem pyNext_item_held {Q : Option Value → Shared → Prop} (S : ZipSep2 z TI TO i1 i2 fp1 fp2) (D1 : Draws prog w A.in1 i1 fp1 n1 P1 St1) (D2 : Draws prog w A.in1 i2 fp2 n2 P2 St2)
    (hz : IsZipHeld s.heap z TI TO T f) (hT : s.heap.get? T = some oT) (hTI : IsPair s.heap TI (.ref i1) (.ref i2)) (st1 : St1 i s.heap) (st2 : St2 i s.heap) (hlt1 : i < n1) (hlt2 : i < n2)
    (hQ : ∀ x y h' tk, P1 i x → P2 i y → IsZipHeld h' z TI TO T true → St1 (i + 1) h' → St2 (i + 1) h' → IsPair h' s.heap.objs.size x y → h'.objs.size = s.heap.objs.size + 1 →
      (∀ c o, c ≠ z → c ≠ i1 → c ≠ i2 → s.heap.get? c = some o → h'.get? c = some o) → Q (some (.ref s.heap.objs.size)) { s with heap := h', toks := tk }) :
    wpAny (model prog w) A (pyNext (.ref z)) Q E s := by
  have hTy : s.TypeIs (.ref z) "zip" := ⟨_, hz, rfl⟩
  unfold pyNext
  exact wpAny_bind (wpAny_attempt (wpAny_callSpecial?_slot (name := Str.ofString "__next__") hTy F.slot_zip_next
    (wpAny_call_entry F.slot_zip_next hTy F.entry_zip_next
      (next_item_held S D1 D2 hz hT hTI st1 st2 hlt1 hlt2 fun x y h' tk a b c d e f g hh => wpAny_pure (hQ x y h' tk a b c d e f g hh)) (F.args_zip_next_1 _))))
theorem pyNext_end_held {Q : Option Value → Shared → Prop} (S : ZipSep2 z TI TO i1 i2 fp1 fp2) (D1 : Draws prog w A.in1 i1 fp1 n1 P1 St1) (D2 : Draws prog w A.in1 i2 fp2 n2 P2 St2)
    (hz : IsZipHeld s.heap z TI TO T f) (hT : s.heap.get? T = some oT) (hTI : IsPair s.heap TI (.ref i1) (.ref i2)) (st1 : St1 i s.heap) (st2 : St2 i s.heap) (hend : i = n1 ∨ (i < n1 ∧ i = n2))
    (hQ : ∀ h' tk, (∀ c o, c ≠ z → c ≠ i1 → c ≠ i2 → s.heap.get? c = some o → h'.get? c = some o) → Q none { s with heap := h', toks := tk }) : wpAny (model prog w) A (pyNext (.ref z)) Q E s := by
  have hTy : s.TypeIs (.ref z) "zip" := ⟨_, hz, rfl⟩
  unfold pyNext
  refine wpAny_bind (wpAny_attempt (wpAny_callSpecial?_slot (name := Str.ofString "__next__") hTy F.slot_zip_next
    (wpAny_call_entry F.slot_zip_next hTy F.entry_zip_next (next_end_held S D1 D2 hz hT hTI st1 st2 hend fun h' tk e hk he => ?_) (F.args_zip_next_1 _))))
  obtain ⟨o, ho, hc⟩ := he
  refine wpAny_bind (wpAny_isInstance (T := "StopIteration") (b := true) ⟨o, ho, hc⟩ isSubtype_stop ?_)
  exact wpAny_pure (hQ _ _ hk)
end
theorem isSq_there {T : Bool} {h : Heap} {l : Addr} {xs : Array Value} (x : IsSq T h l xs) : ∃ o, h.get? l = some o := by
  cases T <;> (obtain ⟨o, e, _⟩ := x; exact ⟨o, e⟩)
section
variable {prog : Program} {w : World}
theorem argZipB {T1 T2 : Bool} (z TI TO i1 i2 l1 l2 : Addr) (D : ZipApart z TI TO i1 i2 l1 l2) (xs ys : Array Value) :
    PairArg prog w "zip" z [z, TI, TO, i1, i2, l1, l2] [z, TO, i1, i2] (min xs.size ys.size) (fun i k v => xs[i]? = some k ∧ ys[i]? = some v)
      (fun h => IsZip h z TI TO .none ∧ IsPair h TI (.ref i1) (.ref i2) ∧ (∃ a b, IsPair h TO a b) ∧ IsIt T1 h i1 l1 0 ∧ IsIt T2 h i2 l2 0 ∧ IsSq T1 h l1 xs ∧ IsSq T2 h l2 ys) where
  type := fun s ok => ⟨_, ok.1, rfl⟩
  notDict := by decide
  keep := fun h h' ok hk => by
    obtain ⟨hz, hTI, ⟨a, b, hTO⟩, h1, h2, hl1, hl2⟩ := ok
    exact ⟨hk _ _ hz, hk _ _ hTI, ⟨a, b, hk _ _ hTO⟩, isIt_at h1 fun o e => hk _ o e, isIt_at h2 fun o e => hk _ o e, isSq_at hl1 fun o e => hk _ o e, isSq_at hl2 fun o e => hk _ o e⟩
  there := fun h ok b hb => by
    obtain ⟨hz, hTI, ⟨a, c, hTO⟩, h1, h2, hl1, hl2⟩ := ok
    obtain ⟨o1, h1, _⟩ := isIt_obj h1
    obtain ⟨o2, h2, _⟩ := isIt_obj h2
    obtain ⟨o3, hl1⟩ := isSq_there hl1
    obtain ⟨o4, hl2⟩ := isSq_there hl2
    simp only [List.mem_cons, List.not_mem_nil, or_false] at hb
    rcases hb with rfl | rfl | rfl | rfl | rfl | rfl | rfl
    all_goals first | exact ⟨_, hz⟩ | exact ⟨_, hTI⟩ | exact ⟨_, hTO⟩ | exact ⟨_, h1⟩ | exact ⟨_, h2⟩ | exact ⟨_, hl1⟩ | exact ⟨_, hl2⟩
  sub := fun b hb => by simp at hb ⊢; rcases hb with rfl | rfl | rfl | rfl <;> simp
  noKeys := fun A s Q E hA ok h => getAttrOr_miss_zip ok.1 rfl rfl rfl zip_no_keys (by decide +kernel) hA h
  iter := fun A s d Q E hA ok hd hdf h => by
    obtain ⟨hz, hTI, ⟨a, b, hTO⟩, h1, h2, hl1, hl2⟩ := ok
    simp only [List.mem_cons, List.not_mem_nil, or_false, not_or] at hdf
    obtain ⟨dz, dTI, dTO, di1, di2, dl1, dl2⟩ := hdf
    refine wpAny_pyIter_zip hz (h z [z, TO, i1, i2] (fun i h => IsPair h TI (.ref i1) (.ref i2) ∧ IsIt T1 h i1 l1 i ∧ IsIt T2 h i2 l2 i ∧ IsSq T1 h l1 xs ∧ IsSq T2 h l2 ys ∧
      ((IsZip h z TI TO .none ∧ ∃ a b, IsPair h TO a b) ∨ ∃ T f oT, IsZipHeld h z TI TO T f ∧ h.get? T = some oT ∧ T ≠ z ∧ T ≠ i1 ∧ T ≠ i2 ∧ T ≠ d)) s.heap s.toks ?_
      ⟨hTI, h1, h2, hl1, hl2, .inl ⟨hz, a, b, hTO⟩⟩ (fun _ _ e => e) fun b hb => .inl hb)
    exact {
      off := fun hm => by
        simp only [List.mem_cons, List.not_mem_nil, or_false] at hm
        rcases hm with e | e | e | e
        · exact dz e
        · exact dTO e
        · exact di1 e
        · exact di2 e
      frame := fun i h₁ h₂ st hk => by
        obtain ⟨hTI, h1, h2, hl1, hl2, hz⟩ := st
        refine ⟨hk _ _ (Ne.symm dTI) hTI, isIt_at h1 fun o e => hk _ o (Ne.symm di1) e, isIt_at h2 fun o e => hk _ o (Ne.symm di2) e, isSq_at hl1 fun o e => hk _ o (Ne.symm dl1) e, isSq_at hl2 fun o e => hk _ o (Ne.symm dl2) e, ?_⟩
        rcases hz with ⟨hz, a, b, hTO⟩ | ⟨T, f, oT, hz, hT, r1, r2, r3, r4⟩
        · exact .inl ⟨hk _ _ (Ne.symm dz) hz, a, b, hk _ _ (Ne.symm dTO) hTO⟩
        · exact .inr ⟨T, f, oT, hk _ _ (Ne.symm dz) hz, hk _ _ r4 hT, r1, r2, r3, r4⟩
      item := fun i s₁ Q₁ E₁ hi st hds hQ => by
        obtain ⟨hTI, h1, h2, hl1, hl2, hz⟩ := st
        have hix : i < xs.size := Nat.lt_of_lt_of_le hi (Nat.min_le_left ..)
        have hiy : i < ys.size := Nat.lt_of_lt_of_le hi (Nat.min_le_right ..)
        have hA' : A.in1.handled = none := hA
        have lt : ∀ {c o}, s₁.heap.get? c = some o → s₁.heap.objs.size ≠ c := fun e => Nat.ne_of_gt (Heap.lt_size e)
        have n1 : s₁.heap.objs.size ≠ i1 := let ⟨_, e, _⟩ := isIt_obj h1; lt e
        have n2 : s₁.heap.objs.size ≠ i2 := let ⟨_, e, _⟩ := isIt_obj h2; lt e
        rcases hz with ⟨hz, a, b, hTO⟩ | ⟨T, f, oT, hz, hT, r1, r2, r3, r4⟩
        · refine wpAny_pyNext_zipD2_item (sep_of D) (drawsB T1 hA' i1 l1 D.l1i1 xs) (drawsB T2 hA' i2 l2 D.l2i2 ys) hz hTI hTO ⟨h1, hl1⟩ ⟨h2, hl2⟩ hix hiy fun x y h' tk e1 e2 a1 a2 s1 s2 a5 a6 hk => ?_
          exact hQ s₁.heap.objs.size x y h' tk ⟨e1, e2⟩ (.inl ⟨_, a5, rfl, _, rfl⟩)
            ⟨hk _ _ D.TIz D.TITO D.TIi1 D.TIi2 hTI, s1.1, s2.1, s1.2, s2.2, .inr ⟨s₁.heap.objs.size, false, _, a1, a5, lt hz, n1, n2, Nat.ne_of_gt hds⟩⟩
            fun c o hc e => hk c o (fun x => hc (by simp [x])) (fun x => hc (by simp [x])) (fun x => hc (by simp [x])) (fun x => hc (by simp [x])) e
        · refine pyNext_item_held (sep_of D) (drawsB T1 hA' i1 l1 D.l1i1 xs) (drawsB T2 hA' i2 l2 D.l2i2 ys) hz hT hTI ⟨h1, hl1⟩ ⟨h2, hl2⟩ hix hiy fun x y h' tk e1 e2 a1 s1 s2 a5 a6 hk => ?_
          exact hQ s₁.heap.objs.size x y h' tk ⟨e1, e2⟩ (.inl ⟨_, a5, rfl, _, rfl⟩)
            ⟨hk _ _ D.TIz D.TIi1 D.TIi2 hTI, s1.1, s2.1, s1.2, s2.2, .inr ⟨T, true, oT, a1, hk _ _ r1 r2 r3 hT, r1, r2, r3, r4⟩⟩
            fun c o hc e => hk c o (fun x => hc (by simp [x])) (fun x => hc (by simp [x])) (fun x => hc (by simp [x])) e
      done := fun s₁ Q₁ E₁ st hQ => by
        obtain ⟨hTI, h1, h2, hl1, hl2, hz⟩ := st
        have hA' : A.in1.handled = none := hA
        rcases hz with ⟨hz, a, b, hTO⟩ | ⟨T, f, oT, hz, hT, r1, r2, r3, r4⟩
        · exact wpAny_pyNext_zipD2_end (sep_of D) (drawsB T1 hA' i1 l1 D.l1i1 xs) (drawsB T2 hA' i2 l2 D.l2i2 ys) hz hTI hTO ⟨h1, hl1⟩ ⟨h2, hl2⟩ (by omega) (by omega) (by omega) fun h' tk hk => hQ h' tk fun c o hc e => hk c o (fun x => hc (by simp [x])) (fun x => hc (by simp [x])) (fun x => hc (by simp [x])) (fun x => hc (by simp [x])) e
        · exact pyNext_end_held (sep_of D) (drawsB T1 hA' i1 l1 D.l1i1 xs) (drawsB T2 hA' i2 l2 D.l2i2 ys) hz hT hTI ⟨h1, hl1⟩ ⟨h2, hl2⟩ (by omega) fun h' tk hk => hQ h' tk fun c o hc e => hk c o (fun x => hc (by simp [x])) (fun x => hc (by simp [x])) (fun x => hc (by simp [x])) e }
end
end DlZ
end
section
set_option maxHeartbeats 1000000
namespace DlZ
open PySem PySem.Spec PyProof.Rows L2
abbrev putAll (l : List (List Key × V)) : List (List Key × V) := l.foldl (fun acc e => putK acc e.1 e.2) []
def tDZ (K : PySem.W.Frag) (ta : TA) : TE := fun σ H Q => ta σ H fun vs H1 => ∃ (T1 T2 : Bool) (a b : Addr) (ys : List V) (bs : List (List Key × Addr)), vs = [.ref a, .ref b] ∧ SqB T1 K H1 a (bs.map fun e => V.ref e.2) ∧ SqB T2 K H1 b ys ∧
  (∀ e ∈ bs, H1 e.2 = some (.tup (e.1.map kV))) ∧ ∀ p, H1 p = none → Q (.ref p) (upd H1 p (.dT (putAll ((bs.map (·.1)).zip ys))))
theorem kt_all {H : Hp} : ∀ {l : List (List Key × V)} {m : List (List Key × Addr × Value)} {acc : List (List Key × V)} {acc' : List (List Key × Addr × Value)}, KT H acc acc' → KT H l m → KT H (l.foldl (fun acc e => putK acc e.1 e.2) acc) (storedAllH acc' m)
  | [], _, _, _, h, r => by cases r; exact h
  | e :: l, _, acc, acc', h, r => by
    cases r with
    | @cons _ q _ m r1 r2 =>
      obtain ⟨e1, e2, e3⟩ := r1
      have := h.put e.1 e2 e3
      rw [e1] at this
      rw [List.foldl_cons, e1]
      exact kt_all (acc' := storedH acc' q.1 q.2.1 q.2.2) this r2
theorem putAll_len : ∀ (l : List (List Key × V)) (acc : List (List Key × V)), (l.foldl (fun acc e => putK acc e.1 e.2) acc).length ≤ acc.length + l.length
  | [], acc => by simp
  | e :: l, acc => by
    have h1 := putAll_len l (putK acc e.1 e.2)
    have h2 := length_putK acc e.1 e.2
    simp only [List.foldl_cons, List.length_cons]
    omega
theorem kt_zip {H : Hp} : ∀ {bs : List (List Key × Addr)} {ys : List V} {us : List Value}, Vals ys us → (∀ e ∈ bs, H e.2 = some (.tup (e.1.map kV))) → KT H ((bs.map (·.1)).zip ys) (List.zipWith (fun e u => (e.1, e.2, u)) bs us)
  | [], _, _, _, _ => .nil
  | _ :: _, _, _, .nil, _ => .nil
  | e :: bs, _, _, .cons r1 r2, h => .cons ⟨rfl, h e List.mem_cons_self, r1⟩ (kt_zip r2 fun x hx => h x (List.mem_cons_of_mem _ hx))
theorem pe_dictZip {X : Cx} {e e2 : Expr} {ta : TA} {p p2 pos pos2 : Pos} (hc : X.calm = true) (hu : X.A.units + 200 < cLine) (hg : Gl X "dict") (hm : X.mg "dict" = none) (hg2 : Gl X "zip") (hm2 : X.mg "zip" = none) (ha : PA X [e, e2] ta)
    (hs : starEach [e, e2] X.env = (false, eval e X.env) :: starEach [e2] X.env := by rfl) (hpl : (backTo pos2 (starEach [e2] X.env)).any (·.1) = false := by rfl)
    (na : starEach [.Call (.Name "zip" p2) [e, e2] [] pos2] X.env = (false, eval (.Call (.Name "zip" p2) [e, e2] [] pos2) X.env) :: starEach [] X.env := by rfl) :
    PE X (.Call (.Name "dict" p) [.Call (.Name "zip" p2) [e, e2] [] pos2] [] pos) (tDZ X.K ta) := by
  refine ⟨fun pins s σ H Q I h => ?_⟩
  refine Call_ (ld_blt I hg hm PyProof.Rows.boot_dict ?_)
  refine PyProof.Rows.callWith_type1 (PyProof.Rows.args_cons ?_ na) na rfl
  refine Call_ (ld_blt I hg2 hm2 PyProof.Rows.boot_zip (PyProof.Rows.callWith_type1 (thn (ha.run pos2 pins s σ H _ I h) fun us s1 ⟨vs, H1, I1, r1, q1⟩ => ?_) hs hpl))
  obtain ⟨T1, T2, a, b, ys, bs, rfl, hqx, hqy, hbs, q⟩ := q1
  cases r1 with
  | cons r rr =>
    cases rr with
    | cons r' rr =>
      cases rr
      cases r
      cases r'
      obtain ⟨its, rv, p1, hz1⟩ := sqB_inv I1 hqx
      obtain ⟨its2, rv2, p2', hz2⟩ := sqB_inv I1 hqy
      have lt : ∀ {T : Bool} {a : Addr} {is : Array Value}, IsSq T s1.heap a is → a < s1.heap.objs.size := fun {T a is} h => by
        cases T <;> (obtain ⟨o, e, _⟩ := h; exact Heap.lt_size e)
      have la := lt p1
      have lb := lt p2'
      refine call_zipB p1 p2' fun h' hz hTI hTO h1 h2 hsz hk => PyProof.Rows.args_nil ?_
      have l1 : its.length = bs.length := by have := rv.length; simpa using this.symm
      have l2 := rv2.length
      have ev : ∀ (i : Nat) (u : Value), its[i]? = some u → ∃ e, bs[i]? = some e ∧ u = .ref e.2 := fun i u hu => by
        have hi := (List.getElem?_eq_some_iff.mp hu).1
        have hb : i < bs.length := by omega
        obtain ⟨u', hu', r⟩ := rv.get (i := i) (x := V.ref bs[i].2) (by simp [hb])
        rw [hu] at hu'
        cases hu'
        exact ⟨bs[i], by simp [hb], r⟩
      have keys : ∀ e ∈ bs, (tupleKind (mixKind X.prog X.w)).is s1.heap e.1 e.2 := fun e he => key_of I1.hok (hbs e he)
      refine call_dict_pairsH (knd := tupleKind (mixKind X.prog X.w)) (s := { s1 with heap := h' }) (ps := List.zipWith (fun e u => (e.1, e.2, u)) bs its2) (argZipB (T1 := T1) (T2 := T2) (s1.heap.objs.size + 4) (s1.heap.objs.size + 2) (s1.heap.objs.size + 3) s1.heap.objs.size (s1.heap.objs.size + 1) a b (PySem.W.ktu_apart s1.heap.objs.size a b la lb) its.toArray its2.toArray)
        (I1.ok.hd hc) (tupleKind_room_in1 (A := X.A.in1) (by show X.A.units + 1 + 1 < cLine; omega)) ⟨hz, hTI, ⟨_, _, hTO⟩, h1, h2, isSq_at p1 fun o e => hk _ _ e, isSq_at p2' fun o e => hk _ _ e⟩ ?_ ?_ ?_ fun h2' tk hd' hk' => ?_
      · refine ⟨by simp [l1], fun i key v hr => ?_⟩
        obtain ⟨e1, e2⟩ := hr
        obtain ⟨e, he, rfl⟩ := ev i key (by simpa using e1)
        refine ⟨e.1, e.2, ?_, rfl⟩
        rw [List.getElem?_zipWith, he]
        have : its2[i]? = some v := by simpa using e2
        rw [this]
      · intro h3 hk3 x hx
        obtain ⟨i, hi, rfl⟩ := List.getElem_of_mem hx
        have hi' : i < min bs.length its2.length := by simpa using hi
        simp only [List.getElem_zipWith]
        obtain ⟨o, is, n, k1, k2, k3, k4⟩ := keys (bs[i]'(by omega)) (List.getElem_mem _)
        have hb : i < bs.length := by omega
        have hlt : (bs[i]).2 < s1.heap.objs.size := Heap.lt_size k1
        refine ⟨o, is, n, hk3 (bs[i]).2 _ ?_ ?_ (hk _ _ k1), k2, k3, k4⟩
        · show (bs[i]).2 ≠ h'.objs.size
          rw [hsz]; exact Nat.ne_of_lt (Nat.lt_of_lt_of_le hlt (Nat.le_add_right _ _))
        · simp only [List.mem_cons, List.not_mem_nil, or_false, not_or]
          exact ⟨Nat.ne_of_lt (Nat.lt_of_lt_of_le hlt (Nat.le_add_right _ _)), Nat.ne_of_lt (Nat.lt_of_lt_of_le hlt (Nat.le_add_right _ _)), Nat.ne_of_lt hlt, Nat.ne_of_lt (Nat.lt_of_lt_of_le hlt (Nat.le_add_right _ _))⟩
      · have : its.length ≤ sizeLine := by have := rv.length; omega
        simp only [List.size_toArray]
        omega
      · have hk2 : ∀ b o, s1.heap.get? b = some o → h2'.get? b = some o := fun b o e => by
          have hlt : b < s1.heap.objs.size := Heap.lt_size e
          refine hk' b o ?_ (hk b o e)
          simp only [List.mem_cons, List.not_mem_nil, or_false, not_or]
          exact ⟨Nat.ne_of_lt (Nat.lt_of_lt_of_le hlt (Nat.le_add_right _ _)), Nat.ne_of_lt (Nat.lt_of_lt_of_le hlt (Nat.le_add_right _ _)), Nat.ne_of_lt hlt, Nat.ne_of_lt (Nat.lt_of_lt_of_le hlt (Nat.le_add_right _ _))⟩
        obtain ⟨o, es, ep, ho, hx, hdt, he, his, hn⟩ := hd'
        have hf : H1 h'.objs.size = none := I1.hok.fresh (by omega)
        have kt : KT H1 (putAll ((bs.map (·.1)).zip ys)) (storedAllH [] (List.zipWith (fun e u => (e.1, e.2, u)) bs its2)) := kt_all (acc := []) (acc' := []) .nil (kt_zip rv2 hbs)
        refine ⟨.ref h'.objs.size, upd H1 h'.objs.size (.dT (putAll ((bs.map (·.1)).zip ys))), I1.laid (t' := tk) hk2 (by omega) ⟨?_, ?_, _, kt.keeps fun c zs ec => ?_, o, es, ep, ho, hx, hdt, he, hn⟩, rfl, q _ hf⟩
        · refine Nat.le_trans (putAll_len _ []) ?_
          have : (bs.map fun e => V.ref e.2).length = bs.length := by simp
          simp only [List.length_nil, List.length_zip, List.length_map]
          omega
        · exact beq_eq_false_iff_ne.mpr (by show h'.objs.size ≠ sysModules; rw [hsz]; exact Nat.ne_of_gt (Nat.lt_of_lt_of_le I1.big (Nat.le_add_right _ _)))
        · rw [upd_ne (ne_of_none ec hf)]
          exact ec
end DlZ
namespace Dl
open PySem L2 DlZ
/-! ### in the data layer -/
def seqOf : D → Option (Bool × List D)
  | .list ds => some (false, ds)
  | .tuple ds => some (true, ds)
  | _ => none
section
variable {X : Cx} {W : Wc} {Ew : XK} {js is vl : List Nat} {ts vs us : List V} {tss ss sus : List Slot} {σ σ' : L2.St} {H H' H0 H0' : Hp} {ρ : DEnv} {v v1 v2 : V} {s s1 s2 : Slot} {e e2 : Expr} {k ka kb kc : Kd} {f fa fb fc : EM} {Q Q' : VK} {d d1 d2 : D} {p : Addr}
theorem Rdy.sq {T : Bool} {ds : List D} {K : Frag} (hle : Le H0 H) (h : Rdy W H0 H v s) (e : s.d? = some d) (hd : seqOf d = some (T, ds)) : ∃ a xs, v = .ref a ∧ SqB T K H a xs ∧ RpL W.K W.cl H0 xs ds := by
  cases d <;> simp only [seqOf] at hd <;> cases hd
  · obtain ⟨a, xs, rfl, h1, h2⟩ := h.lst hle e; exact ⟨a, xs, rfl, .inl h1, h2⟩
  · obtain ⟨a, xs, rfl, h1, h2⟩ := h.tup hle e; exact ⟨a, xs, rfl, SqT.of h1, h2⟩
theorem rdys_tail : ∀ {pre us : List V} {preS ss : List Slot}, pre.length = preS.length → Rdys W H0 H (pre ++ us) (preS ++ ss) → Rdys W H0 H us ss
  | [], _, [], _, _, h => h
  | _ :: pre, us, _ :: preS, ss, hl, h => by
    cases h with
    | cons _ t => exact rdys_tail (by simpa using hl) t
  | [], _, _ :: _, _, hl, _ => by simp at hl
  | _ :: _, _, [], _, hl, _ => by simp at hl
theorem kds_keep {σ0 : L2.St} : ∀ {ks : List Kd} {vs : List V}, KdsOk σ0 ks vs → (∀ j ∈ ks.flatMap Kd.ix, σ[j]? = σ0[j]?) → KdsOk σ ks vs
  | _, _, .nil, _ => .nil
  | _, _, .cons h t, hj => .cons (kd_keep h fun j hm => hj j (by simp [hm])) (kds_keep t fun j hm => hj j (by rw [List.flatMap_cons]; exact List.mem_append_right _ hm))
/-- the values walked are ready -/
theorem World.atN {ks : List Kd} {pre : List V} {preS : List Slot} (w : World W (pre ++ (us ++ ts)) (preS ++ (ss ++ tss)) σ H ρ) (hl : pre.length = preS.length) (hu : us.length = ss.length) (hk : KdsOk σ ks us) :
    ∃ H0, Le H0 H ∧ Rdys W H0 H us (slL ks ss ρ) ∧ ∀ {x : V} {d : Slot} {H' H0' : Hp}, Res W H0 H H0' H' x d → World W (x :: (pre ++ (us ++ ts))) (d :: (preS ++ (ss ++ tss))) σ H' ρ := by
  obtain ⟨H0, hle, rd, en, kr⟩ := World.res0 (vs := pre ++ us) (ss := preS ++ ss) (ts := ts) (tss := tss) (by simpa using w) (by simp [hl, hu])
  exact ⟨H0, hle, rdys_sl en (rdys_tail hl rd) hk, fun r => by simpa using kr r⟩
def iZp (ka kb : Kd) (fa fb : EM) : DEnv → Out IS := fun ρ => (eArgs [(ka, fa), (kb, fb)] ρ).bind fun ss ρ1 => match slL [ka, kb] ss ρ1 with
  | [s, t] => match s.d?, t.d? with
    | some a, some b => match seqOf a, seqOf b with
      | some (_, ds), some (_, es) => .ok ⟨List.zipWith (fun x y => .tuple [x, y]) ds es, fun ρ' => gdOf ka a ρ' ∧ gdOf kb b ρ'⟩ ρ1
      | _, _ => .no
    | _, _ => .no
  | _ => .no
theorem pi_zp {p pos tpos : Pos} {elts : List Expr} {kk : Nat} (hg : Gl X "zip") (hm : X.mg "zip" = none) (h1 : PE X e (tO W Ew ka fa)) (h2 : PE X e2 (tO W Ew kb fb))
    (hs : starEach [e, e2] X.env = (false, eval e X.env) :: starEach [e2] X.env := by rfl) (hs2 : starEach [e2] X.env = (false, eval e2 X.env) :: starEach [] X.env := by rfl) (hpl : (backTo pos (starEach [e2] X.env)).any (·.1) = false := by rfl) :
    PI X (.Tuple elts kk tpos) (.Call (.Name "zip" p) [e, e2] [] pos) (tI W Ew (ka.ix ++ kb.ix) (iZp ka kb fa fb)) :=
  PI.imp (pi_zipB hg hm (pd_acons (r := [(kb, fb)]) h1 (pd_acons (r := []) h2 pd_anil hs2) hs) hs hpl) fun σ H R ⟨ts, tss, ρ, w, q⟩ => by
    refine ⟨ts, tss, ρ, w, ?_⟩
    unfold iZp at q
    simp only [List.map_cons, List.map_nil]
    cases ea : eArgs [(ka, fa), (kb, fb)] ρ with
    | no => rw [ea] at q; exact q.elim
    | er c d ρ' => rw [ea] at q; exact q
    | ok ss ρ1 =>
      rw [ea] at q
      simp only [Out.bind_ok] at q ⊢
      intro vs H1 hl w1 k1
      have l2 := eArgs_length ea
      match vs, ss, hl, l2 with
      | [x, y], [sx, sy], _, _ =>
        simp only [slL_cons, slL_nil] at q
        cases e1 : (sl ka sx ρ1).d? with
        | none => rw [e1] at q; exact q.elim
        | some a =>
          cases e2 : (sl kb sy ρ1).d? with
          | none => rw [e1, e2] at q; exact q.elim
          | some b =>
            rw [e1, e2] at q
            simp only at q
            cases s1 : seqOf a with
            | none => rw [s1] at q; exact q.elim
            | some Td =>
              cases s2 : seqOf b with
              | none => rw [s1, s2] at q; exact q.elim
              | some Te =>
                obtain ⟨T1, ds⟩ := Td
                obtain ⟨T2, es⟩ := Te
                rw [s1, s2] at q
                simp only at q
                obtain ⟨H0, hle, rd, _⟩ := World.atN (pre := []) (preS := []) (us := [x, y]) (ss := [sx, sy]) w1 rfl rfl k1
                cases rd with
                | cons r1 rd =>
                  cases rd with
                  | cons r2 _ =>
                    obtain ⟨pa, xs, rfl, p1, p2⟩ := r1.sq (K := X.K) hle e1 s1
                    obtain ⟨pb, ys, rfl, p3, p4⟩ := r2.sq (K := X.K) hle e2 s2
                    refine ⟨T1, T2, pa, pb, xs, ys, rfl, p1, p3, fun hz => q (ItzB T1 T2 X.K pa pb) H1 [.ref pa, .ref pb] [sx, sy] rfl w1 ⟨gd_of e1, gd_of e2⟩ (by have := p2.length; simp only [List.length_zipWith]; omega) ⟨fun pre preS ts tss σ2 H2 ρ2 i hl2 w2 g2 hj => ?_⟩⟩
                    have k2 : KdsOk σ2 [ka, kb] [V.ref pa, V.ref pb] := kds_keep k1 fun j hm => hj j (by simpa using hm)
                    obtain ⟨H0, hle, rd, kr⟩ := World.atN (ks := [ka, kb]) w2 hl2 rfl k2
                    simp only [slL_cons, slL_nil] at rd
                    cases rd with
                    | cons r1 rd =>
                      cases rd with
                      | cons r2 _ =>
                        obtain ⟨pa', xs', ea', p1', p2'⟩ := r1.sq (K := X.K) hle (gd_sl e1 g2.1) s1
                        cases ea'
                        obtain ⟨pb', ys', eb', p3', p4'⟩ := r2.sq (K := X.K) hle (gd_sl e2 g2.2) s2
                        cases eb'
                        have hl1 := p2'.length
                        have hl3 := p4'.length
                        refine ⟨fun d ed => ?_, fun ei => ?_⟩
                        · simp only [List.getElem?_zipWith] at ed
                          cases g1 : ds[i]? with
                          | none => rw [g1] at ed; cases ed
                          | some dx =>
                            cases g3 : es[i]? with
                            | none => rw [g1, g3] at ed; cases ed
                            | some dy =>
                              rw [g1, g3] at ed
                              cases ed
                              have hi1 := (List.getElem?_eq_some_iff.mp g1).1
                              have hi2 := (List.getElem?_eq_some_iff.mp g3).1
                              refine ⟨⟨xs', ys', xs'[i]'(by omega), ys'[i]'(by omega), p1', p3', by simp, by simp⟩, fun v H' hy => ?_⟩
                              obtain ⟨T, vx, vy, rfl, hT, rfl, n1, n2⟩ := hy
                              obtain ⟨_, f1, f2⟩ := p2'.get (n1 xs' p1')
                              rw [g1] at f1
                              cases f1
                              obtain ⟨_, f3, f4⟩ := p4'.get (n2 ys' p3')
                              rw [g3] at f3
                              cases f3
                              exact kr (.newT hle hT (.cons f2 (.cons f4 .nil)))
                        · refine ⟨xs', ys', p1', p3', ?_⟩
                          simp only [List.length_zipWith] at ei
                          omega
/-! dict(zip(a, b)) -/
def isKeys : List D → Bool
  | [] => true
  | d :: ds => isKey true d && isKeys ds
theorem RpL.keysT : ∀ {ds : List D} {xs : List V}, RpL W.K W.cl H0 xs ds → isKeys ds = true → ∃ bs : List (List Key × Addr), xs = bs.map (fun e => V.ref e.2) ∧ ds = bs.map (fun e => keysD e.1) ∧ ∀ e ∈ bs, H0 e.2 = some (.tup (e.1.map kV))
  | [], _, h, _ => by cases h; exact ⟨[], rfl, rfl, fun e he => nomatch he⟩
  | d :: ds, _, h, hk => by
    simp only [isKeys, Bool.and_eq_true] at hk
    cases h with
    | cons h1 h2 =>
      obtain ⟨bs, rfl, rfl, hb⟩ := RpL.keysT h2 hk.2
      have hk1 := hk.1
      cases d <;> simp only [isKey] at hk1 <;> first | cases hk1 | skip
      rename_i kds
      rw [Option.isSome_iff_exists] at hk1
      obtain ⟨key, hk1⟩ := hk1
      have := flatsD_keys hk1
      subst this
      cases h1 with
      | @tup b ys _ e r =>
        refine ⟨(key, b) :: bs, rfl, rfl, fun x hx => ?_⟩
        rcases List.mem_cons.mp hx with rfl | hx
        · rw [e, RpL.keyV r]
        · exact hb x hx
def dPutAll (l : List (D × D)) : List (D × D) := l.foldl (fun acc e => dPut acc e.1 e.2) []
theorem putAll_ok : ∀ {l : List (List Key × V)} {m : List (D × D)} {acc : List (List Key × V)} {acc' : List (D × D)}, acc'.map (·.1) = acc.map (fun e => keysD e.1) → RpL W.K W.cl H0 (acc.map (·.2)) (acc'.map (·.2)) →
    m.map (·.1) = l.map (fun e => keysD e.1) → RpL W.K W.cl H0 (l.map (·.2)) (m.map (·.2)) →
    (m.foldl (fun acc e => dPut acc e.1 e.2) acc').map (·.1) = (l.foldl (fun acc e => putK acc e.1 e.2) acc).map (fun e => keysD e.1) ∧ RpL W.K W.cl H0 ((l.foldl (fun acc e => putK acc e.1 e.2) acc).map (·.2)) ((m.foldl (fun acc e => dPut acc e.1 e.2) acc').map (·.2))
  | [], [], _, _, h1, h2, _, _ => ⟨h1, h2⟩
  | [], _ :: _, _, _, _, _, h3, _ => by simp at h3
  | _ :: _, [], _, _, _, _, h3, _ => by simp at h3
  | (k, v) :: l, (dk, dv) :: m, acc, acc', h1, h2, h3, h4 => by
    simp only [List.map_cons, List.cons.injEq] at h3 h4
    obtain ⟨rfl, h3⟩ := h3
    cases h4 with
    | cons r h4 =>
      obtain ⟨p1, p2⟩ := put_ok keysD eqv_keysD r k h1 h2
      exact putAll_ok (acc := putK acc k v) (acc' := dPut acc' (keysD k) dv) p1 p2 h3 h4
def dzOp (a b : D) : Option Slot := match seqOf a, seqOf b with
  | some (_, ds), some (_, es) => if isKeys ds then some (.ow (.dct true (dPutAll (ds.zip es)))) else none
  | _, _ => none
theorem pd_dz {p p2 pos pos2 : Pos} (ax : Ax X) (hg : Gl X "dict") (hm : X.mg "dict" = none) (hg2 : Gl X "zip") (hm2 : X.mg "zip" = none) (h1 : PE X e (tO W Ew ka fa)) (h2 : PE X e2 (tO W Ew kb fb))
    (hs : starEach [e, e2] X.env = (false, eval e X.env) :: starEach [e2] X.env := by rfl) (hs2 : starEach [e2] X.env = (false, eval e2 X.env) :: starEach [] X.env := by rfl) (hpl : (backTo pos2 (starEach [e2] X.env)).any (·.1) = false := by rfl)
    (na : starEach [.Call (.Name "zip" p2) [e, e2] [] pos2] X.env = (false, eval (.Call (.Name "zip" p2) [e, e2] [] pos2) X.env) :: starEach [] X.env := by rfl) :
    PE X (.Call (.Name "dict" p) [.Call (.Name "zip" p2) [e, e2] [] pos2] [] pos) (tO W Ew .t (eB [(ka, fa), (kb, fb)] (gN2 dzOp))) :=
  PE.imp (pe_dictZip ax.calm ax.un hg hm hg2 hm2 (pd_acons (r := [(kb, fb)]) h1 (pd_acons (r := []) h2 pd_anil hs2) hs) hs hpl na) fun σ H Q q => by
    refine roN (rd := fun vs H1 Q => ∃ (T1 T2 : Bool) (a b : Addr) (ys : List V) (bs : List (List Key × Addr)), vs = [.ref a, .ref b] ∧ SqB T1 X.K H1 a (bs.map fun e => V.ref e.2) ∧ SqB T2 X.K H1 b ys ∧
      (∀ e ∈ bs, H1 e.2 = some (.tup (e.1.map kV))) ∧ ∀ p, H1 p = none → Q (.ref p) (upd H1 p (.dT (putAll ((bs.map (·.1)).zip ys))))) (r := [(ka, fa), (kb, fb)]) rfl (fun H0 H vs ss s' Q hle rd hg q => ?_) σ H Q q
    obtain ⟨s1, s2, a, b, rfl, e1, e2, e3⟩ := gN2_inv hg
    obtain ⟨x, y, rfl, r1, r2⟩ := rd.two
    unfold dzOp at e3
    split at e3
    · rename_i T1 ds T2 es sa sb
      split at e3
      · rename_i hk
        cases e3
        obtain ⟨pa, xs, rfl, p1, p2⟩ := r1.sq (K := X.K) hle e1 sa
        obtain ⟨pb, ys, rfl, p3, p4⟩ := r2.sq (K := X.K) hle e2 sb
        obtain ⟨bs, rfl, rfl, hb⟩ := p2.keysT hk
        refine ⟨T1, T2, pa, pb, ys, bs, rfl, p1, p3, fun e he => hle.tup (hb e he), fun p hp => q _ _ H0 ?_⟩
        have z1 : ∀ {bs : List (List Key × Addr)} {ys : List V} {es : List D}, RpL W.K W.cl H0 ys es → (((bs.map fun e => keysD e.1).zip es).map (·.1) : List D) = (((bs.map (·.1)).zip ys).map fun e => keysD e.1) ∧ RpL W.K W.cl H0 (((bs.map (·.1)).zip ys).map (·.2)) (((bs.map fun e => keysD e.1).zip es).map (·.2)) := by
          intro bs
          induction bs with
          | nil => intro ys es h; exact ⟨rfl, .nil⟩
          | cons b bs ih =>
            intro ys es h
            cases ys with
            | nil => cases h; exact ⟨rfl, .nil⟩
            | cons y ys =>
              cases h with
              | cons h1 h2 =>
                obtain ⟨i1, i2⟩ := ih h2
                exact ⟨by simp only [List.map_cons, List.zip_cons_cons]; rw [i1], .cons h1 i2⟩
        obtain ⟨z2, z3⟩ := z1 (bs := bs) p4
        obtain ⟨k1, k2⟩ := putAll_ok (acc := []) (acc' := []) rfl .nil z2 z3
        exact Res.newDT hle hp k1 k2
      · cases e3
    · cases e3
end
end Dl
end
section
namespace Dl
open PySem L2
/-- the same whole, told from another entry -/
abbrev Wc.at (W : Wc) (G : Gm) : Wc := { W with G := G }
section
variable {X : Cx} {W : Wc} {Ew : XK} {js is vl : List Nat} {ts vs us : List V} {tss ss sus : List Slot} {σ σ' : L2.St} {H H' H0 H0' : Hp} {ρ : DEnv} {v v1 v2 : V} {s s1 s2 : Slot} {e e2 : Expr} {k ka kb kc : Kd} {f fa fb fc : EM} {Q Q' : VK} {d d1 d2 : D} {p a : Addr} {tt : Bool} {kvs : List (D × D)}
theorem PE.ex {α : Type} {t : α → TE} (h : ∀ x, PE X e (t x)) : PE X e (fun σ H Q => ∃ x, t x σ H Q) := ⟨fun pins s σ H Q I ⟨x, q⟩ => (h x).run pins s σ H Q I q⟩
theorem PTs.ex {α : Type} {ifs : List Expr} {t : α → TT} (h : ∀ x, PTs X ifs (t x)) : PTs X ifs (fun σ H Q => ∃ x, t x σ H Q) := ⟨fun pins s σ H Q I ⟨x, q⟩ => (h x).run pins s σ H Q I q⟩
theorem World.rebase (w : World W ts tss σ H ρ) : ∃ G : Gm, G.H = H ∧ World (W.at G) ts tss σ H ρ ∧ ∀ {ts' : List V} {tss' : List Slot} {σ' : L2.St} {H' : Hp} {ρ' : DEnv}, World (W.at G) ts' tss' σ' H' ρ' → World W ts' tss' σ' H' ρ' := by
  obtain ⟨H0, fp, hle, hs, nd, hn, fr⟩ := w.ex
  refine ⟨⟨H0, H, fp, W.G.vs⟩, rfl, ⟨w.len, ⟨H0, fp, hle, hs, nd, hn, Fr.refl⟩, w.keep⟩, fun w' => ?_⟩
  obtain ⟨H0', fp', hle', hs', nd', hn', fr'⟩ := w'.ex
  exact ⟨w'.len, ⟨H0', fp', hle', hs', nd', hn', fr.trans fr'⟩, w'.keep⟩
theorem World.locked {o : Obj} {u : HO} (w : World W ts tss σ H ρ) (h : W.G.H a = some (.frz o u)) : H a = some (.frz o u) := by
  obtain ⟨H0, fp, hle, hs, nd, hn, fr⟩ := w.ex
  exact fr.2.2.2.2.2 a o u h
theorem World.unlock {i : Nat} {o : Obj} {u : HO} (w : World W ts tss σ H ρ) (e1 : σ[i]? = some (some (.ref a))) (e2 : ρ[i]? = some (.ow (.lk tt kvs))) (hu : H a = some (.frz o u)) (hG : ∀ o u, W.G.H a ≠ some (.frz o u)) :
    World W ts tss σ (upd H a u) (ρ.set i (.ow (.dct tt kvs))) := by
  obtain ⟨H0, fp, hle, hs, nd, hn, fr⟩ := w.ex
  have hlen := w.len
  have hi := (List.getElem?_eq_some_iff.mp e2).1
  have e2' : (tss ++ ρ)[tss.length + i]? = some (.ow (.lk tt kvs)) := by rw [List.getElem?_append_right (by omega)]; simpa using e2
  obtain ⟨ov, f1, f2, f3, e3, ef, h1, k⟩ := hs.at e2'
  have e3' : ov = some (.ref a) := by
    rw [List.getElem?_append_right (by simp; omega)] at e3
    simp only [List.length_map] at e3
    rw [show tss.length + i - ts.length = i by omega, e1] at e3
    exact (Option.some.inj e3).symm
  subst e3'
  obtain ⟨b, eb, hc, hf2⟩ := h1
  cases eb
  subst hf2
  obtain ⟨u', o', eu, hd⟩ := hc
  rw [hu] at eu
  cases eu
  have ha0 : H0 a = none := hn a (by rw [ef]; simp)
  rw [ef, List.nodup_append] at nd
  obtain ⟨n1, n2, n3⟩ := nd
  have na1 : a ∉ f1 := fun z => n3 a z a (by simp) rfl
  have na3 : a ∉ f3 := fun z => by
    rw [List.nodup_append] at n2
    exact n2.2.2 a (by simp) a z rfl
  have s1 := k (H0' := H0) (H' := upd H a u) (ov' := some (.ref a)) (s' := .ow (.dct tt kvs)) (f2' := [a]) (Le.refl H0) (fun c hc => by
    have : c ≠ a := fun z => by subst z; exact hc.elim na1 na3
    rw [upd_ne this]) ⟨a, rfl, ⟨u, upd_same, hd⟩, rfl⟩
  have e5 : (ts.map some ++ σ).set (tss.length + i) (some (.ref a)) = ts.map some ++ σ := by
    rw [List.set_append_right _ _ (by simp; omega)]
    congr 1
    simp only [List.length_map]
    rw [show tss.length + i - ts.length = i by omega]
    obtain ⟨hi, e⟩ := List.getElem?_eq_some_iff.mp e1
    rw [← e]
    exact List.set_getElem_self hi
  have e6 : (tss ++ ρ).set (tss.length + i) (.ow (.dct tt kvs)) = tss ++ ρ.set i (.ow (.dct tt kvs)) := by
    rw [List.set_append_right _ _ (by omega)]
    congr 2
    omega
  rw [e5, e6] at s1
  refine ⟨hlen, ⟨H0, fp, fun b o e => ?_, by rw [ef]; exact s1, by rw [ef, List.nodup_append]; exact ⟨n1, n2, n3⟩, hn, fr.1, fun b o e nt n hx => ?_, fr.2.2.1, fun b hb => ?_, fun b xs e => ?_, fun b o2 u2 e => ?_⟩, w.keep⟩
  · rw [upd_ne (ne_of_none e ha0)]; exact hle b o e
  · obtain ⟨h1, h2⟩ := fr.2.1 b o e nt n hx
    refine ⟨?_, h2⟩
    have : b ≠ a := fun z => by
      subst z
      rcases fr.2.2.1 b (by rw [ef]; simp) with q | q
      · exact hx q
      · rw [e] at q; cases q
    rw [upd_ne this]; exact h1
  · by_cases z : b = a
    · rw [z, upd_same]; simp
    · rw [upd_ne z]; exact fr.2.2.2.1 b hb
  · have h1 := fr.2.2.2.2.1 b xs e
    have : b ≠ a := fun z => by subst z; rw [hu] at h1; cases h1
    rw [upd_ne this]; exact h1
  · have : b ≠ a := fun z => by subst z; exact hG _ _ e
    rw [upd_ne this]; exact fr.2.2.2.2.2 b o2 u2 e
def ownD (i : Nat) (ρ : DEnv) : Option (Bool × List (D × D)) := match ρ.getD i .no with
  | .ow (.dct t kvs) => some (t, kvs)
  | _ => none
theorem ownD_inv {i : Nat} (h : ownD i ρ = some (tt, kvs)) : ρ[i]? = some (.ow (.dct tt kvs)) := by
  unfold ownD at h
  split at h
  · rename_i e; cases h; exact getD_some e (by simp)
  · cases h
/-- [.. for x in d ..], d a dict of one's own -/
noncomputable def eLcD (vl : List Nat) (j : Nat) (t : TgD) (c : DEnv → Out Bool) (f : EM) : EM := fun ρ => match ownD j ρ with
  | none => .no
  | some (tt, kvs) => (noEr (lcGo (fun ρ' => ρ'.getD j .no = .ow (.lk tt kvs)) vl t c f (kvs.map (·.1)) (wipeD (ρ.set j (.ow (.lk tt kvs))) vl))).bind fun ys ρ2 => .ok (.ow (.lst ys)) (ρ2.set j (.ow (.dct tt kvs)))
theorem lcGo_gd {gd : DEnv → Prop} {t : TgD} {c : DEnv → Out Bool} : ∀ {ds : List D} {ρ ρ' : DEnv} {ys : List D}, gd ρ → lcGo gd vl t c f ds ρ = .ok ys ρ' → gd ρ'
  | [], _, _, _, g, h => by cases h; exact g
  | d :: ds, ρ, ρ', ys, g, h => by
    simp only [lcGo] at h
    cases et : t d (wipeD ρ vl) with
    | none => rw [et] at h; cases h
    | some ρ1 =>
      rw [et] at h
      simp only at h
      cases ec : c ρ1 with
      | no => rw [ec] at h; cases h
      | er c d ρ' => rw [ec] at h; cases h
      | ok b ρ2 =>
        rw [ec] at h
        simp only [Out.bind_ok] at h
        cases b with
        | false =>
          simp only [Bool.false_eq_true, if_false] at h
          split at h
          · rename_i hg; exact lcGo_gd hg h
          · cases h
        | true =>
          simp only [if_true] at h
          cases ef : f ρ2 with
          | no => rw [ef] at h; cases h
          | er c d ρ' => rw [ef] at h; cases h
          | ok sy ρ3 =>
            rw [ef] at h
            simp only [Out.bind_ok] at h
            split at h
            · cases h
            · split at h
              · rename_i hg
                cases el : lcGo gd vl t c f ds (wipeD ρ3 vl) with
                | no => rw [el] at h; cases h
                | er c d ρ' => rw [el] at h; cases h
                | ok zs ρ4 =>
                  rw [el] at h
                  cases h
                  exact lcGo_gd hg el
              · cases h
theorem mut_of {u : HO} (h : LkD u) : Mut (some u) := by
  cases u <;> first | trivial | exact h.elim
def BndD (x : V) (H : Hp) : Prop := ∀ a, x = .ref a → (∀ o kvs, H a = some (.frz o (.dK kvs)) → kvs.length ≤ sizeLine) ∧ ∀ o kvs, H a = some (.frz o (.dT kvs)) → kvs.length ≤ sizeLine
theorem PE.bndD {t : TE} (h : PE X e t) : PE X e (fun σ H Q => t σ H fun x H1 => BndD x H1 → Q x H1) := ⟨fun pins s σ H Q I q => thn (h.run pins s σ H _ I q) fun v s1 ⟨x, H1, I1, r1, q1⟩ => ⟨x, H1, I1, r1, q1 fun a _ => ⟨fun o kvs h => (dk_rd I1.hok (.inr ⟨o, h⟩)).1, fun o kvs h => (dt_rd I1.hok (.inr ⟨o, h⟩)).1⟩⟩⟩
theorem Res.adopt {ks : List Key} (hle : Le H0 H) (h : H a = some (.tup (ks.map kV))) : Res W H0 H (adT H0 H) H (.ref a) (.fz (keysD ks)) :=
  ⟨[], ⟨.tup (adT_tup hle h) (RpL.ofKeys ks), rfl⟩, List.nodup_nil, fun a h => (nomatch h), adT_same, Same.refl _, adT_le hle, fun a o h1 h2 h3 => adT_no h1 h2 h3⟩
theorem lcd_red {j : Nat} {g : TG} {t : TgD} {c : DEnv → Out Bool} (h : ∀ G, TgOk (W.at G) g is t) (his : ∀ i ∈ is, i ∈ vl) (hk : ∀ i ∈ W.kp, i ∉ vl) (hj : j ∉ vl) :
    ∀ σ H Q, tO W Ew .t (eLcD vl j t c f) σ H Q → tLockE (tLc (iKeys (fun σ H Q => tVar j σ H fun x H1 => BndD x H1 → Q x H1)) g (fun σ H Q => ∃ G, tT (W.at G) (fun _ _ _ => False) c σ H Q) (fun σ H Q => ∃ G, tO (W.at G) (fun _ _ _ => False) .t f σ H Q) vl) σ H Q := fun σ H Q ⟨ts, tss, ρ, w, q⟩ => by
  unfold eLcD at q
  cases e0 : ownD j ρ with
  | none => rw [e0] at q; exact q.elim
  | some tk =>
    obtain ⟨tt, kvs⟩ := tk
    rw [e0] at q
    simp only at q
    have ej := ownD_inv e0
    obtain ⟨d, hd⟩ := w.env ej
    obtain ⟨H0, hle, _, hc, kw⟩ := World.envW (vs := []) (ss := []) w rfl hd ej
    obtain ⟨u, hu, hdo⟩ := hc
    refine ⟨d, u, hu, mut_of hdo.lkD, fun od => ?_⟩
    have hG : ∀ o u', W.G.H d ≠ some (.frz o u') := fun o u' z => by
      have := w.locked z
      rw [hu] at this
      cases this
      exact hdo.lkD.elim
    have w1 : World W ts tss σ (upd H d (.frz od u)) (ρ.set j (.ow (.lk tt kvs))) := kw (vs' := []) (ds' := []) ⟨u, od, upd_same, hdo⟩ .nil
    obtain ⟨G, eG, w2, back⟩ := w1.rebase
    have hloc : ∀ {ts' : List V} {tss' : List Slot} {σ' : L2.St} {H' : Hp} {ρ' : DEnv}, World (W.at G) ts' tss' σ' H' ρ' → H' d = some (.frz od u) := fun w => w.locked (by rw [eG]; exact upd_same)
    -- the keys
    have hjl : j < ρ.length := (List.getElem?_eq_some_iff.mp ej).1
    have gd0 : ((ρ.set j (.ow (.lk tt kvs))).getD j .no) = .ow (.lk tt kvs) := by rw [List.getD_eq_getElem?_getD, List.getElem?_set_self hjl]; rfl
    have gw : ∀ ρ' : DEnv, ρ'.getD j .no = .ow (.lk tt kvs) → (wipeD ρ' vl).getD j .no = .ow (.lk tt kvs) := fun ρ' g => by
      rw [List.getD_eq_getElem?_getD, wipeD_out hj, ← List.getD_eq_getElem?_getD]; exact g
    have fin : ∀ Da : Addr, FinL (W.at G) (fun _ _ _ => False) ts tss σ (fun v H' => H' d = some (.frz od u) ∧ Q v (upd H' d u)) [] (lcGo (fun ρ' => ρ'.getD j .no = .ow (.lk tt kvs)) vl t c f (kvs.map (·.1)) (wipeD (ρ.set j (.ow (.lk tt kvs))) vl)) := fun Da => by
      cases el : lcGo (fun ρ' => ρ'.getD j .no = .ow (.lk tt kvs)) vl t c f (kvs.map (·.1)) (wipeD (ρ.set j (.ow (.lk tt kvs))) vl) with
      | no => rw [el] at q; exact q.elim
      | er c d ρ' => rw [el] at q; exact (show False from q).elim
      | ok ys ρ2 =>
        rw [el] at q
        intro v H2 w3
        have hg2 := lcGo_gd (gd := fun ρ' => ρ'.getD j .no = .ow (.lk tt kvs)) (gw _ gd0) el
        have h4 := hloc w3
        exact ⟨h4, q v _ (World.unlock (back w3) hd (getD_some hg2 (by simp)) h4 hG) trivial⟩
    have pushR : ∀ {pre : List V} {preS : List Slot} {ts' : List V} {tss' : List Slot} {σ2 : L2.St} {H2 : Hp} {ρ2 : DEnv}, World (W.at G) (pre ++ ([] ++ ts')) (preS ++ ([] ++ tss')) σ2 H2 ρ2 → ∃ H0, Le H0 H2 ∧ ∀ {x : V} {sl : Slot} {H' H0' : Hp}, Res (W.at G) H0 H2 H0' H' x sl → World (W.at G) (x :: (pre ++ ([] ++ ts'))) (sl :: (preS ++ ([] ++ tss'))) σ2 H' ρ2 := fun w => by
      obtain ⟨H0, hle, _, _, kr⟩ := World.res0 (vs := []) (ss := []) w rfl
      exact ⟨H0, hle, fun r => kr r⟩
    have hs2 : (σ : L2.St)[j]? = some (some (.ref d)) := hd
    have d2 : (upd H d (.frz od u)) d = some (.frz od u) := upd_same
    refine ⟨.ref d, hs2, fun bd => ⟨d, od, rfl, ?_⟩⟩
    cases tt with
    | false =>
      obtain ⟨l, rfl, h3, h4⟩ := hdo
      have hlen : kvs.length = l.length := by have := congrArg List.length h3; simpa using this
      refine .inl ⟨l, d2, fun Da hD => ?_⟩
      refine lc_body (W := W.at G) (js := []) (S := ⟨kvs.map (·.1), fun ρ' => ρ'.getD j .no = .ow (.lk false kvs)⟩) (us := []) (sus := []) (Q := fun v H' => H' d = some (.frz od (.dK l)) ∧ Q v (upd H' d (.dK l))) (J := Itk d od l) (tt := fun σ H Q => ∃ G, tT (W.at G) (fun _ _ _ => False) c σ H Q) (te := fun σ H Q => ∃ G, tO (W.at G) (fun _ _ _ => False) .t f σ H Q) (h G) his hk (fun i hi => nomatch hi) gw (fun _ _ _ q => ⟨G, q⟩) (fun _ _ _ q => ⟨G, q⟩) rfl w2 gd0
        (by have := (bd d rfl).1 od l d2; simp; omega) ⟨fun pre preS ts' tss' σ2 H2 ρ2 i hl w3 g3 _ => ?_⟩ hD (fin Da)
      have hl3 := hloc w3
      refine ⟨fun d' ed => ?_, fun ei => ⟨hl3, by simp only [List.length_map] at ei; omega⟩⟩
      simp only [h3, List.getElem?_map] at ed
      obtain ⟨kv, hkv, rfl⟩ := Option.map_eq_some_iff.mp ed
      obtain ⟨k0, v0⟩ := kv
      refine ⟨⟨hl3, (List.getElem?_eq_some_iff.mp hkv).1⟩, fun x H' y => ?_⟩
      obtain ⟨rfl, k1, v1, hk1, rfl⟩ := y
      rw [hkv] at hk1
      cases hk1
      obtain ⟨H0, hle, kr⟩ := pushR w3
      exact kr (.child hle (by cases k0 <;> constructor))
    | true =>
      obtain ⟨l, rfl, h3, h4⟩ := hdo
      have hlen : kvs.length = l.length := by have := congrArg List.length h3; simpa using this
      refine .inr ⟨l, d2, fun Da hD => ?_⟩
      refine lc_body (W := W.at G) (js := []) (S := ⟨kvs.map (·.1), fun ρ' => ρ'.getD j .no = .ow (.lk true kvs)⟩) (us := []) (sus := []) (Q := fun v H' => H' d = some (.frz od (.dT l)) ∧ Q v (upd H' d (.dT l))) (J := Itkt d od l) (tt := fun σ H Q => ∃ G, tT (W.at G) (fun _ _ _ => False) c σ H Q) (te := fun σ H Q => ∃ G, tO (W.at G) (fun _ _ _ => False) .t f σ H Q) (h G) his hk (fun i hi => nomatch hi) gw (fun _ _ _ q => ⟨G, q⟩) (fun _ _ _ q => ⟨G, q⟩) rfl w2 gd0
        (by have := (bd d rfl).2 od l d2; simp; omega) ⟨fun pre preS ts' tss' σ2 H2 ρ2 i hl w3 g3 _ => ?_⟩ hD (fin Da)
      have hl3 := hloc w3
      refine ⟨fun d' ed => ?_, fun ei => ⟨hl3, by simp only [List.length_map] at ei; omega⟩⟩
      simp only [h3, List.getElem?_map] at ed
      obtain ⟨kv, hkv, rfl⟩ := Option.map_eq_some_iff.mp ed
      obtain ⟨k0, v0⟩ := kv
      refine ⟨⟨hl3, (List.getElem?_eq_some_iff.mp hkv).1⟩, fun x H' y => ?_⟩
      obtain ⟨rfl, k1, v1, qa, hk1, rfl, hqa⟩ := y
      rw [hkv] at hk1
      cases hk1
      obtain ⟨H0, hle, kr⟩ := pushR w3
      exact kr (.adopt hle hqa)
theorem pd_lcD {i : Nat} {j : Nat} {x : Str} {px : Pos} {elt tg : Expr} {ifs : List Expr} {scope : Scope} {own : List (Str × Nat)} {pos : Pos} {g : TG} {t : TgD} {c : DEnv → Out Bool} (h : ∀ G, TgOk (W.at G) g is t) (his : ∀ i ∈ is, i ∈ own.map (·.2)) (hk : ∀ i ∈ W.kp, i ∉ own.map (·.2)) (hj : j ∉ own.map (·.2))
    (hc : X.calm = true) (hN : X.N.Nodup) (ho : PE X (.Name x px) (tVar j)) (ok : BlkOk X.N X.env.scope scope own)
    (hg : ∀ (s : Shared) (H : Hp) (C : Addr) (cl : List (Str × Addr)) (fp : List Addr), PG (X.blk s H scope (compEnvC scope cl C X.env) fp) tg g)
    (ht : ∀ (G : Gm) (s : Shared) (H : Hp) (C : Addr) (cl : List (Str × Addr)) (fp : List Addr), PTs (X.blk s H scope (compEnvC scope cl C X.env) fp) ifs (tT (W.at G) (fun _ _ _ => False) c))
    (he : ∀ (G : Gm) (s : Shared) (H : Hp) (C : Addr) (cl : List (Str × Addr)) (fp : List Addr), PE (X.blk s H scope (compEnvC scope cl C X.env) fp) elt (tO (W.at G) (fun _ _ _ => False) .t f)) (hs : ∀ y, foldedSetIterable (.Name x px) X.env y = pure y := by intro _; rfl) :
    PE X (.ListComp elt [⟨tg, .Name x px, ifs, 0⟩] scope pos) (tO W Ew .t (eLcD (own.map (·.2)) j t c f)) :=
  PE.imp (pe_lock (pe_lc hc hN (pi_keys (PE.bndD ho)) ok hg (fun s H C cl fp => PTs.ex fun G => ht G s H C cl fp) (fun s H C cl fp => PE.ex fun G => he G s H C cl fp) hs)) (lcd_red h his hk hj)
theorem pd_setLcD {i : Nat} {y : Str} {py : Pos} {j : Nat} {x : Str} {px : Pos} {elt tg : Expr} {ifs : List Expr} {scope : Scope} {own : List (Str × Nat)} {pos spos : Pos} {g : TG} {t : TgD} {c : DEnv → Out Bool} (hki : i ∉ W.kp) (h : ∀ G, TgOk (W.at G) g is t) (his : ∀ i ∈ is, i ∈ own.map (·.2)) (hk : ∀ i ∈ W.kp, i ∉ own.map (·.2)) (hj : j ∉ own.map (·.2))
    (hc : X.calm = true) (hN : X.N.Nodup) (hy : X.N[i]? = some y) (hyl : X.env.scope.names.lookup y = some .local)
    (hsw : swapsWith (.ListComp elt [⟨tg, .Name x px, ifs, 0⟩] scope pos) (some (.Name y py)) spos.line X.env = pure true) (ho : PE X (.Name x px) (tVar j)) (ok : BlkOk X.N X.env.scope scope own)
    (hg : ∀ (s : Shared) (H : Hp) (C : Addr) (cl : List (Str × Addr)) (fp : List Addr), PG (X.blk s H scope (compEnvC scope cl C X.env) fp) tg g)
    (ht : ∀ (G : Gm) (s : Shared) (H : Hp) (C : Addr) (cl : List (Str × Addr)) (fp : List Addr), PTs (X.blk s H scope (compEnvC scope cl C X.env) fp) ifs (tT (W.at G) (fun _ _ _ => False) c))
    (he : ∀ (G : Gm) (s : Shared) (H : Hp) (C : Addr) (cl : List (Str × Addr)) (fp : List Addr), PE (X.blk s H scope (compEnvC scope cl C X.env) fp) elt (tO (W.at G) (fun _ _ _ => False) .t f)) (hs : ∀ y, foldedSetIterable (.Name x px) X.env y = pure y := by intro _; rfl) :
    PS X (.Assign [.Name y py] (.ListComp elt [⟨tg, .Name x px, ifs, 0⟩] scope pos) spos) (tS W Ew (sSet i (eLcD (own.map (·.2)) j t c f))) :=
  PS.imp (ps_lock (ps_setLc hc hN hy hyl hsw (pi_keys (PE.bndD ho)) ok hg (fun s H C cl fp => PTs.ex fun G => ht G s H C cl fp) (fun s H C cl fp => PE.ex fun G => he G s H C cl fp) hs)) fun Dn σ H q => lcd_red h his hk hj σ H _ (set_red hki Dn σ H q)
end
end Dl
end
section
set_option maxHeartbeats 1000000
namespace DlS
open PySem PySem.Spec PyProof.Rows L2 DlZ
def tLenK (K : PySem.W.Frag) (ta : TE) : TE := fun σ H Q => ta σ H fun x H1 => ∃ (T : Bool) (l : Addr) (ks : List Key), x = .ref l ∧ SqB T K H1 l (ks.map kV) ∧ ks.length ≤ 4000 ∧ Q (.int (dn ks ks.length : Nat)) H1
theorem pe_lenK {X : Cx} {a : Expr} {ta : TE} {p p2 q pos : Pos} (hg : Gl X "len") (hm : X.mg "len" = none) (hg2 : Gl X "set") (hm2 : X.mg "set" = none) (ha : PE X a ta) (hc : X.calm = true)
    (na : starEach [a] X.env = (false, eval a X.env) :: starEach [] X.env := by rfl) : PE X (.Call (.Name "len" p) [.Call (.Name "set" p2) [a] [] q] [] pos) (tLenK X.K ta) := by
  refine ⟨fun pins s σ H Q I h => ?_⟩
  refine Call_ (ld_blt I hg hm PySem.boot_len ?_)
  refine PyProof.Rows.callWith_builtin1 (PyProof.Rows.args_cons ?_ rfl) rfl rfl
  refine Call_ (ld_blt I hg2 hm2 PyProof.Rows.boot_set ?_)
  refine PyProof.Rows.callWith_type1 (PyProof.Rows.args_cons (thn (ha.run pins s σ H _ I h) fun v s1 ⟨x, H1, I1, r1, q1⟩ => PyProof.Rows.args_nil ?_) na) na rfl
  obtain ⟨T, l, ks, rfl, hq, hl, q1⟩ := q1
  cases r1
  obtain ⟨its, r, pl, hz⟩ := sqB_inv I1 hq
  refine call_setK T ks (I1.ok.hd hc) (by cases T <;> exact pl) (by simpa using r) (by unfold scanBound; omega) fun h' tk hS hk => ?_
  refine PyProof.Rows.args_nil ?_
  obtain ⟨o, es, ep, t, ho, hex, hd, _, _, _, hf, hn⟩ := hS
  have I2 : Inv X pins σ H1 { s1 with heap := h', toks := tk } := I1.kept hk
  have := dn_le ks ks.length
  have hz2 : es.size < sizeLine := by rw [hn]; have : 4000 < sizeLine := by decide
                                      omega
  refine call_len_set ho hex hd hf (by omega) ⟨.int (dn ks ks.length : Nat), H1, I2.tok _, ⟨_, by rw [hn]⟩, q1⟩
end DlS
namespace Dl
open PySem L2 DlZ DlS
def lsOp (d : D) : Option Slot := match seqOf d with
  | some (_, ds) => match flatsD ds with
    | some ks => if decide (ks.length ≤ 4000) then some (.fz (.int (dn ks ks.length : Nat))) else none
    | none => none
  | none => none
section
variable {X : Cx} {W : Wc} {Ew : XK} {e a : Expr} {k : Kd} {f : EM}
theorem RpL.ofFlats {K : Frag} {cl : ClsT} {H : Hp} : ∀ {ds : List D} {ks : List Key} {xs : List V}, flatsD ds = some ks → RpL K cl H xs ds → xs = ks.map kV := fun h r => by
  have := flatsD_keys h
  subst this
  exact RpL.keyV r
theorem pd_lenset {p p2 q pos : Pos} (ax : Ax X) (hg : Gl X "len") (hm : X.mg "len" = none) (hg2 : Gl X "set") (hm2 : X.mg "set" = none) (ha : PE X a (tO W Ew k f))
    (na : starEach [a] X.env = (false, eval a X.env) :: starEach [] X.env := by rfl) : PE X (.Call (.Name "len" p) [.Call (.Name "set" p2) [a] [] q] [] pos) (tO W Ew .t (e1 k f (g1 lsOp))) :=
  PE.imp (pe_lenK hg hm hg2 hm2 ha ax.calm na) fun σ H Q q => by
    refine ro1 (r := fun x H1 Q => ∃ (T : Bool) (l : Addr) (ks : List Key), x = .ref l ∧ SqB T X.K H1 l (ks.map kV) ∧ ks.length ≤ 4000 ∧ Q (.int (dn ks ks.length : Nat)) H1) (fun H0 H v s s' Q hle rd hg q => ?_) σ H Q q
    obtain ⟨d, ed, e3⟩ := g1_inv hg
    unfold lsOp at e3
    split at e3
    · rename_i T ds sa
      split at e3
      · rename_i ks hks
        split at e3
        · rename_i hl
          cases e3
          obtain ⟨pa, xs, rfl, p1, p2⟩ := rd.sq (K := X.K) hle ed sa
          have := RpL.ofFlats hks p2
          subst this
          exact ⟨T, pa, ks, rfl, p1, by simpa using hl, q _ _ _ (.atom hle (.int _))⟩
        · cases e3
      · cases e3
    · cases e3
end
end Dl
end
section
namespace DlR
open PySem PySem.Spec PyProof.Rows L2 DlZ
section
variable {prog : Program} {w : World} {A : Around} {E : Value → Shared → Prop} {s : Shared}
theorem adjust_rev (n : Nat) : Builtin.Slice.sliceAdjust none none (-1) (n : Int) = ((n : Int) - 1, -1) := by
  unfold Builtin.Slice.sliceAdjust
  simp
theorem places_rev (n : Nat) : Builtin.Slice.slicePlaces ((n : Int) - 1) (-1) (-1) = n := by
  unfold Builtin.Slice.slicePlaces
  have h1 : ¬ ((-1 : Int) > 0) := by omega
  simp only [h1, if_false]
  have e : ((n : Int) - 1 - -1 - 1) / - -1 = n - 1 := by
    rw [show (- -1 : Int) = 1 by decide, Int.ediv_one]
    omega
  split <;> (try rw [e]) <;> omega
theorem pick_rev (xs : List Value) : ((List.range xs.length).filterMap fun (m : Nat) => xs.toArray[(((xs.length : Int) - 1) + (m : Int) * (-1)).toNat]?).toArray = xs.reverse.toArray := by
  congr 1
  have e : ∀ m ∈ List.range xs.length, xs.toArray[(((xs.length : Int) - 1) + (m : Int) * (-1)).toNat]? = xs.reverse[m]? := fun m hm => by
    have := List.mem_range.mp hm
    rw [List.getElem?_reverse this, List.getElem?_toArray]
    congr 1
    omega
  have e' : ∀ l : List Nat, (∀ m ∈ l, xs.toArray[(((xs.length : Int) - 1) + (m : Int) * (-1)).toNat]? = xs.reverse[m]?) → l.filterMap (fun (m : Nat) => xs.toArray[(((xs.length : Int) - 1) + (m : Int) * (-1)).toNat]?) = l.filterMap fun m => xs.reverse[m]? := fun l => by
    induction l with
    | nil => intro _; rfl
    | cons m l ih =>
      intro h
      rw [List.filterMap_cons, List.filterMap_cons, h m List.mem_cons_self, ih fun k hk => h k (List.mem_cons_of_mem _ hk)]
  rw [e' _ e]
  have h2 : ∀ ys : List Value, (List.range ys.length).filterMap (fun m => ys[m]?) = ys := fun ys => by
    induction ys with
    | nil => rfl
    | cons y ys ih =>
      rw [List.length_cons, List.range_succ_eq_map, List.filterMap_cons, List.filterMap_map]
      show y :: List.filterMap (fun m => ys[m]?) (List.range ys.length) = y :: ys
      rw [ih]
  have := h2 xs.reverse
  rw [List.length_reverse] at this
  exact this
theorem applied_rev {sl : Addr} {vl vu vs : Value} {n : Nat} {Q : Int × Int × Nat → Shared → Prop} (hs : s.heap.IsSliceOf sl vl vu vs) (pl : IsPart vl none) (pu : IsPart vu none) (ps : IsPart vs (some (-1)))
    (h : Q ((n : Int) - 1, -1, n) s) : wpAny (model prog w) A (Builtin.Slice.sliceApplied (.ref sl) (pure (n : Int))) Q E s := by
  obtain ⟨os, hos, hcs, hds⟩ := id hs
  unfold Builtin.Slice.sliceApplied Builtin.Slice.sliceFields
  refine wpAny_bind (wpAny_bind (wpAny_field hos hds (x := vl) rfl (wpAny_bind (wpAny_field hos hds (x := vu) rfl (wpAny_bind (wpAny_field hos hds (x := vs) rfl (wpAny_pure ?_)))))))
  refine wpAny_bind (HT.slicePart_ ps ?_)
  show wpAny _ _ (if ((-1 : Int) == 0) = true then _ else _) _ _ s
  rw [if_neg (by decide)]
  refine wpAny_bind (HT.slicePart_ pl (wpAny_bind (HT.slicePart_ pu (wpAny_bind (wpAny_pure ?_)))))
  show wpAny _ _ (match Builtin.Slice.sliceAdjust none none (-1) (n : Int) with | (lo, hi) => pure (lo, (-1 : Int), Builtin.Slice.slicePlaces lo hi (-1))) _ _ s
  rw [adjust_rev n]
  show wpAny _ _ (pure ((n : Int) - 1, (-1 : Int), Builtin.Slice.slicePlaces ((n : Int) - 1) (-1) (-1))) _ _ s
  rw [places_rev]
  exact wpAny_pure h
theorem getItem_tuple_rev {t sl : Addr} {xs : List Value} {vl vu vs : Value} {Q : Value → Shared → Prop} (ht : IsTup s.heap t xs.toArray) (hs : s.heap.IsSliceOf sl vl vu vs) (pl : IsPart vl none) (pu : IsPart vu none) (ps : IsPart vs (some (-1)))
    (h : Q (.ref s.heap.objs.size) { s with heap := s.heap.push { cls := .type "tuple", data := .seq xs.reverse.toArray } })
    (hsz : xs.length ≤ sizeLine) : wpAny (model prog w) A (getItem (.ref t) (.ref sl)) Q E s := by
  have htake : sizeOk (.seq xs.reverse.toArray) := by
    show xs.reverse.toArray.size ≤ sizeLine
    rw [List.size_toArray, List.length_reverse]
    exact hsz
  obtain ⟨os, hos, hcs, hds⟩ := id hs
  have hTs : s.TypeIs (.ref sl) "slice" := ⟨os, hos, hcs⟩
  unfold getItem
  try with_reducible refine wpAny_holding ?_
  first | refine wpAny_bind (wpAny_pure ?_) | skip
  refine wpAny_bind (wpAny_sequenceKey ht.typeIs (by decide) ?_)
  refine wpAny_bind (wpAny_callSpecial?_slot (name := Str.ofString "__getitem__") ht.typeIs PyProof.Rows.slot_tuple_getitem
    (wpAny_call_entry PyProof.Rows.slot_tuple_getitem ht.typeIs entry_tuple_getitem ?_ (args_tuple_getitem _ _)))
  show wpAny _ _ (Builtin.Tuple.tupleItemsOf (.ref t) >>= _) _ _ s
  refine wpAny_bind (PyProof.Rows.tupleItemsOf_ ht ?_)
  refine wpAny_bind (wpAny_typeOf hTs ?_)
  rw [if_pos (by decide)]
  have hsa : (xs.toArray.size : Int) = (xs.length : Int) := by simp
  refine wpAny_bind (applied_rev (n := xs.toArray.size) hs pl pu ps ?_)
  have hno : ¬ ((((xs.toArray.size : Int) - 1) == 0 && (-1 : Int) == 1 && xs.toArray.size == xs.toArray.size) = true) := by simp
  show wpAny _ _ (if ((((xs.toArray.size : Int) - 1)) == 0 && (-1 : Int) == 1 && xs.toArray.size == xs.toArray.size) = true then _ else _) _ _ s
  rw [if_neg hno]
  have pk := pick_rev xs
  rw [← List.size_toArray] at pk
  rw [pk]
  first
    | exact wpAny_bind (m := Builtin.Tuple.tupleExact _) (wpAny_newObj_type (wpAny_pure ⟨_, rfl, wpAny_pure h⟩) htake)
    | exact wpAny_bind (m := Builtin.Tuple.tupleExact _) (wpAny_newObj_type (wpAny_bind (wpAny_pure (wpAny_pure ⟨_, rfl, wpAny_pure h⟩))) htake)
    | exact wpAny_bind (wpAny_bind (m := Builtin.Tuple.tupleExact _) (wpAny_newObj_type (wpAny_pure (wpAny_pure ⟨_, rfl, wpAny_pure h⟩)) htake))
    | exact wpAny_bind (wpAny_bind (m := Builtin.Tuple.tupleExact _) (wpAny_newObj_type (wpAny_pure ⟨_, rfl, wpAny_pure h⟩) htake))
end
def tRevB (K : PySem.W.Frag) (te : TE) : TE := fun σ H Q => te σ H fun x H1 => (∃ a xs, x = .ref a ∧ SqL K H1 a xs ∧ ∀ p, H1 p = none → Q (.ref p) (upd H1 p (.lst xs.reverse))) ∨ ∃ a xs, x = .ref a ∧ SqT K H1 a xs ∧ ∀ p, H1 p = none → Q (.ref p) (upd H1 p (.tup xs.reverse))
theorem pe_revB {X : Cx} {e : Expr} {te : TE} {k : Nat} {p1 p2 p3 pos : Pos} (he : PE X e te) : PE X (.Subscript e (.Slice none none (some (.UnaryOp .USub (.Constant (.int 1) k p1) p2)) p3) pos) (tRevB X.K te) := by
  refine ⟨fun pins s σ H Q I h => ?_⟩
  refine Subscript_ (thn (he.run pins s σ H _ I h) fun v s1 ⟨x, H1, I1, r1, q1⟩ => ?_)
  have hst : PO X (some (.UnaryOp .USub (.Constant (.int 1) k p1) p2)) (tPart (tUn (rU fun i => .int (-i)) (tC (.int 1)))) := po_some (pe_un un_neg pe_int)
  refine wpAny_Slice (thn (po_none.run pins s1 σ H1 (fun o H2 => o = none ∧ H2 = H1) I1 ⟨rfl, rfl⟩) fun vl s2 ⟨l, H2, I2, pl, el, e2⟩ => ?_)
  subst el e2
  refine thn (po_none.run pins s2 σ H2 (fun o H3 => o = none ∧ H3 = H2) I2 ⟨rfl, rfl⟩) fun vu s3 ⟨u, H3, I3, pu, eu, e3⟩ => ?_
  subst eu e3
  refine thn (hst.run pins s3 σ H3 (fun o H4 => o = some (-1) ∧ H4 = H3) I3 ⟨1, rfl, -1, rfl, rfl, rfl⟩) fun vs s4 ⟨o, H4, I4, ps, eo, e4⟩ => ?_
  subst eo e4
  have I5 : Inv X pins σ H4 { s4 with heap := s4.heap.push { cls := .type "slice", data := .fields #[vl, vu, vs] } } := I4.kept (t' := s4.toks) fun b ob q => Heap.get?_push_of_some _ q
  show wpAny (model X.prog X.w) X.A (subscriptTail e (.Slice none none (some (.UnaryOp .USub (.Constant (.int 1) k p1) p2)) p3) v (.ref s4.heap.objs.size)) (EP X pins σ Q) X.xe { s4 with heap := s4.heap.push { cls := .type "slice", data := .fields #[vl, vu, vs] } }
  rcases q1 with ⟨a, xs, rfl, hx, q⟩ | ⟨a, xs, rfl, hx, q⟩
  · cases r1
    obtain ⟨its, r, ht, hz⟩ := I5.list hx
    have hlen := r.length
    refine tail_any (ops := [.ref a, .ref s4.heap.objs.size]) ht.isList.typeIs (PySem.slot_list_getitem.lookup) ?_ (by with_unfolding_all rfl)
    refine wpAny_getItem_list_slice ht.isList (Heap.IsSliceOf.new _ vl vu vs) pl pu ps (by decide) ?_ (by rw [List.size_toArray]; omega)
    rw [PySem.W.krv_pick]
    refine ⟨.ref _, _, I5.laid (t' := s4.toks) (o := .lst xs.reverse) (fun b ob q => Heap.get?_push_of_some _ q) (Nat.le_refl _) ?_, rfl, q _ (I5.hok.fresh (Nat.le_refl _))⟩
    exact ⟨by rw [List.length_reverse]; exact hz, _, 0, r.reverse, Heap.get?_push_size _ rfl⟩
  · cases r1
    obtain ⟨its, r, ht, hz⟩ := I5.tuple hx
    have hlen := r.length
    refine tail_any (ops := [.ref a, .ref s4.heap.objs.size]) ht.typeIs (PyProof.Rows.slot_tuple_getitem.lookup) ?_ (by with_unfolding_all rfl)
    refine getItem_tuple_rev ht (Heap.IsSliceOf.new _ vl vu vs) pl pu ps ?_ (by omega)
    refine ⟨.ref _, _, I5.laid (t' := s4.toks) (o := .tup xs.reverse) (fun b ob q => Heap.get?_push_of_some _ q) (Nat.le_refl _) ?_, rfl, q _ (I5.hok.fresh (Nat.le_refl _))⟩
    exact ⟨by rw [List.length_reverse]; exact hz, _, r.reverse, IsTup.new _ _⟩
end DlR
namespace Dl
open PySem L2 DlZ DlR
theorem Ax.blk {X : Cx} (ax : Ax X) {s : Shared} {H : Hp} {scope : Scope} {cenv : Env} {fp : List Addr} : Ax (X.blk s H scope cenv fp) := ⟨ax.un, ax.hd, ax.gd, ax.calm⟩
theorem ax_of {X : Cx} {k : Nat} (hr : Room k X.A) (hg : X.A.guards = some []) (hc : X.calm = true) : Ax X := ⟨by have := hr.un; omega, hr.hd, hg, hc⟩
section
variable {X : Cx} {W : Wc} {Ew : XK} {js is vl : List Nat} {ts vs us : List V} {tss ss sus : List Slot} {σ σ' : L2.St} {H H' H0 H0' : Hp} {ρ : DEnv} {v v1 v2 : V} {s s1 s2 : Slot} {e a b : Expr} {k ka kb kc : Kd} {f fa fb fc : EM} {Q Q' : VK} {d d1 d2 : D} {p : Addr} {pos : Pos}
/-! operations -/
theorem pd_op {op : Operator} {g : Slot → Slot → Option Slot} (ho : OpR X (binaryOp op) (rG2 W g)) (ha : PE X a (tO W Ew ka fa)) (hb : PE X b (tO W Ew kb fb)) : PE X (.BinOp a op b pos) (tO W Ew .t (e2 ka kb fa fb g)) := PE.imp (pe_op ho ha hb) (ro2 roG2)
theorem pd_un {op : UnaryOp} {g : Slot → Option Slot} (ho : UnR X (unaryOp op) (rG1 W g)) (ha : PE X a (tO W Ew ka fa)) : PE X (.UnaryOp op a pos) (tO W Ew .t (e1 ka fa g)) := PE.imp (pe_un ho ha) (ro1 roG1)
theorem pd_cmp {op : CmpOp} {g : Slot → Slot → Option Slot} (ho : OpR X (compareOp op) (rG2 W g)) (ha : PE X a (tO W Ew ka fa)) (hb : PE X b (tO W Ew kb fb)) (hm : behindInMarks op b = false := by rfl) : PE X (.Compare a [op] [b] pos) (tO W Ew .t (e2 ka kb fa fb g)) := PE.imp (pe_cmpR ho ha hb hm) (ro2 roG2)
theorem pt_cmp2 {op : CmpOp} {g : Slot → Slot → Option Slot} (ho : OpR X (compareOp op) (rG2 W g)) (ha : PE X a (tO W Ew ka fa)) (hb : PE X b (tO W Ew kb fb)) (hm : behindInMarks op b = false := by rfl) : PT X (.Compare a [op] [b] pos) (tT W Ew (bV .t (e2 ka kb fa fb g))) := pt_bc ho roG2 ha hb hm
theorem pd_chain {c : Expr} {op op' : CmpOp} {g g' : Slot → Slot → Option Slot} (ho : OpR X (compareOp op) (rG2 W g)) (ho' : OpR X (compareOp op') (rG2 W g')) (ha : PE X a (tO W Ew ka fa)) (hb : PE X b (tO W Ew kb fb)) (hc : PE X c (tO W Ew kc fc)) (hm : lastMarks [op, op'] [b, c] = false := by with_unfolding_all rfl) :
    PE X (.Compare a [op, op'] [b, c] pos) (tO W Ew .t (eCh ka kb kc fa fb fc g g')) := pd_ch ho roG2 ho' roG2 ha hb hc hm
theorem pt_chain2 {c : Expr} {op op' : CmpOp} {g g' : Slot → Slot → Option Slot} (ho : OpR X (compareOp op) (rG2 W g)) (ho' : OpR X (compareOp op') (rG2 W g')) (ha : PE X a (tO W Ew ka fa)) (hb : PE X b (tO W Ew kb fb)) (hc : PE X c (tO W Ew kc fc)) (hm : lastMarks [op, op'] [b, c] = false := by with_unfolding_all rfl) :
    PT X (.Compare a [op, op'] [b, c] pos) (tT W Ew (bV .t (eCh ka kb kc fa fb fc g g'))) := pt_ch ho roG2 ho' roG2 ha hb hc hm
theorem pd_ix (ax : Ax X) (hK : X.K = W.K) (ha : PE X a (tO W Ew ka fa)) (hb : PE X b (tO W Ew kb fb)) (hs : PlainIx b := by intro _ _; rfl) : PE X (.Subscript a b pos) (tO W Ew .t (e2 ka kb fa fb (g2 ixOp))) := PE.imp (pe_ix (og_ix ax hK) ha hb hs) (ro2 roG2)
theorem pd_bi {x : Str} {id : String} {pn : Pos} {es : List Expr} {r : List (Kd × EM)} {g : List Slot → Option Slot} (hc : CallR X (.builtin id) (rGN W g)) (hg : Gl X x) (hm : X.mg x = none) (hv : bootBuiltins x = some (.builtin id)) (ha : PA X (e :: es) (tAr W Ew (r.map (·.1)) (eArgs r))) (hn : x ≠ "__name__" := by decide) (hdb : (x == ("__debug__" : Str)) = false := by decide)
    (he : starEach (e :: es) X.env = (false, eval e X.env) :: starEach es X.env := by rfl) (hpl : (backTo pos (starEach es X.env)).any (·.1) = false := by rfl) : PE X (.Call (.Name x pn) (e :: es) [] pos) (tO W Ew .t (eB r g)) := PE.imp (pe_callB hc hg hm hv ha hn hdb he hpl) (roN rfl roGN)
theorem pd_bt {x : Str} {T : String} {pn : Pos} {es : List Expr} {r : List (Kd × EM)} {g : List Slot → Option Slot} (hc : CallR X (.type T) (rGN W g)) (hg : Gl X x) (hm : X.mg x = none) (hv : bootBuiltins x = some (.type T)) (ha : PA X (e :: es) (tAr W Ew (r.map (·.1)) (eArgs r))) (hn : x ≠ "__name__" := by decide) (hdb : (x == ("__debug__" : Str)) = false := by decide)
    (he : starEach (e :: es) X.env = (false, eval e X.env) :: starEach es X.env := by rfl) (hpl : (backTo pos (starEach es X.env)).any (·.1) = false := by rfl) : PE X (.Call (.Name x pn) (e :: es) [] pos) (tO W Ew .t (eB r g)) := PE.imp (pe_callTy hc hg hm hv ha hn hdb he hpl) (roN rfl roGN)
/-! slices -/
def FinP (W : Wc) (Ew : XK) (ts : List V) (tss : List Slot) (σ : L2.St) (Q : Option Int → Hp → Prop) : Out (Option Int) → Prop
  | .ok o ρ => ∀ H, World W ts tss σ H ρ → Q o H
  | .er c d ρ => ErrTo W Ew c d ρ
  | .no => False
def tP (W : Wc) (Ew : XK) (f : DEnv → Out (Option Int)) : TO := fun σ H Q => ∃ ts tss ρ, World W ts tss σ H ρ ∧ FinP W Ew ts tss σ Q (f ρ)
theorem PO.imp {e : Option Expr} {t t' : TO} (h : PO X e t) (i : ∀ σ H Q, t' σ H Q → t σ H Q) : PO X e t' := ⟨fun pins s σ H Q I q => h.run pins s σ H Q I (i σ H Q q)⟩
def pN : DEnv → Out (Option Int) := fun ρ => .ok none ρ
@[simp] theorem pN_eq (ρ : DEnv) : pN ρ = .ok none ρ := rfl
def pS (k : Kd) (f : EM) : DEnv → Out (Option Int) := fun ρ => (f ρ).bind fun s ρ1 => match (sl k s ρ1).d? with
  | some (.int i) => .ok (some i) ρ1
  | _ => .no
theorem pp_none : PO X none (tP W Ew pN) := PO.imp po_none fun σ H Q ⟨ts, tss, ρ, w, q⟩ => q H w
theorem pp_some (h : PE X e (tO W Ew k f)) : PO X (some e) (tP W Ew (pS k f)) := PO.imp (po_some h) fun σ H Q ⟨ts, tss, ρ, w, q⟩ => by
  refine ⟨ts, tss, ρ, w, ?_⟩
  unfold pS at q
  cases ea : f ρ with
  | no => rw [ea] at q; exact q
  | er c d ρ' => rw [ea] at q; exact q
  | ok s ρ1 =>
    rw [ea] at q
    simp only [Out.bind_ok] at q
    intro v H1 w1 k1
    split at q
    · rename_i i ed
      obtain ⟨H0, hle, rd⟩ := World.top w1 k1
      exact ⟨i, rd.int ed, q H1 w1.pop⟩
    · exact q.elim
def eSl (k : Kd) (f : EM) (p1 p2 : DEnv → Out (Option Int)) : EM := fun ρ => (f ρ).bind fun s ρ1 => (p1 ρ1).bind fun lo ρ2 => (p2 ρ2).bind fun hi ρ3 => ofO (g1 (slOp lo hi) (sl k s ρ3)) ρ3
theorem pd_sl {lo hi : Option Expr} {p1 p2 : DEnv → Out (Option Int)} {ps : Pos} (hK : X.K = W.K) (h : PE X e (tO W Ew k f)) (h1 : PO X lo (tP W Ew p1)) (h2 : PO X hi (tP W Ew p2)) : PE X (.Subscript e (.Slice lo hi none ps) pos) (tO W Ew .t (eSl k f p1 p2)) :=
  PE.imp (pe_slice (og_sl hK) h h1 h2) fun σ H Q ⟨ts, tss, ρ, w, q⟩ => by
    refine ⟨ts, tss, ρ, w, ?_⟩
    unfold eSl at q
    cases ea : f ρ with
    | no => rw [ea] at q; exact q
    | er c d ρ' => rw [ea] at q; exact q
    | ok s ρ1 =>
      rw [ea] at q
      simp only [Out.bind_ok] at q
      intro v H1 w1 k1
      refine ⟨v :: ts, s :: tss, ρ1, w1, ?_⟩
      cases eb : p1 ρ1 with
      | no => rw [eb] at q; exact q
      | er c d ρ' => rw [eb] at q; exact q
      | ok lo ρ2 =>
        rw [eb] at q
        simp only [Out.bind_ok] at q
        intro H2 w2
        refine ⟨v :: ts, s :: tss, ρ2, w2, ?_⟩
        cases ec : p2 ρ2 with
        | no => rw [ec] at q; exact q
        | er c d ρ' => rw [ec] at q; exact q
        | ok hi ρ3 =>
          rw [ec] at q
          simp only [Out.bind_ok] at q
          intro H3 w3
          cases eg : g1 (slOp lo hi) (sl k s ρ3) with
          | none => rw [eg] at q; exact q.elim
          | some s' =>
            rw [eg] at q
            obtain ⟨H0, hle, rd, en, kr⟩ := World.res (vs := [v]) (ss := [s]) w3 rfl
            cases rd with
            | cons rd _ => exact ⟨H0, _, s', hle, rdy_sl en rd k1, eg, fun v' H' H0' r => q v' H' (kr r) trivial⟩
/-! e[::-1] -/
def revOp : D → Option Slot
  | .list ds => some (.ow (.lst ds.reverse))
  | .tuple ds => some (.fz (.tuple ds.reverse))
  | _ => none
theorem pd_rev {kk : Nat} {p1 p2 p3 : Pos} (h : PE X e (tO W Ew k f)) : PE X (.Subscript e (.Slice none none (some (.UnaryOp .USub (.Constant (.int 1) kk p1) p2)) p3) pos) (tO W Ew .t (e1 k f (g1 revOp))) :=
  PE.imp (pe_revB h) fun σ H Q q => by
    refine ro1 (r := fun x H1 Q => (∃ a xs, x = .ref a ∧ SqL X.K H1 a xs ∧ ∀ p, H1 p = none → Q (.ref p) (upd H1 p (.lst xs.reverse))) ∨ ∃ a xs, x = .ref a ∧ SqT X.K H1 a xs ∧ ∀ p, H1 p = none → Q (.ref p) (upd H1 p (.tup xs.reverse))) (fun H0 H v s s' Q hle rd hg q => ?_) σ H Q q
    obtain ⟨d, ed, e3⟩ := g1_inv hg
    cases d <;> simp only [revOp] at e3 <;> cases e3
    · obtain ⟨a, xs, rfl, h1, h2⟩ := rd.lst hle ed
      exact .inl ⟨a, xs, rfl, .inl h1, fun p hp => q _ _ _ (.newL hle hp h2.reverse)⟩
    · obtain ⟨a, xs, rfl, h1, h2⟩ := rd.tup hle ed
      exact .inr ⟨a, xs, rfl, SqT.of h1, fun p hp => q _ _ _ (.newT hle hp h2.reverse)⟩
/-! the name in a slot, handed on -/
def eM (i : Nat) : EM := fun ρ => match ρ.getD i .no with
  | .no => .no
  | s => .ok s (ρ.set i .no)
theorem pd_m {i : Nat} (h : PE X e (tVar i)) : PE X e (tO W Ew .t (eM i)) := PE.imp h fun σ H Q ⟨ts, tss, ρ, w, q⟩ => by
  unfold eM at q
  have key : ∀ s, ρ.getD i .no = s → s ≠ .no → FinO W Ew ts tss σ .t Q (.ok s (ρ.set i .no)) → tVar i σ H Q := fun s es hs q => by
    have hi := getD_some es hs
    obtain ⟨v, hv⟩ := w.val hi hs
    exact ⟨v, hv, q v H ((w.pushNo v).xch hv hi) trivial⟩
  cases es : ρ.getD i .no with
  | no => rw [es] at q; exact q.elim
  | fz d => rw [es] at q; exact key _ es (by simp) q
  | ow c => rw [es] at q; exact key _ es (by simp) q
  | oi c fs => rw [es] at q; exact key _ es (by simp) q
/-! a, b, c = x, y, z with names that blocks read -/
theorem World.junk {o : HO} (w : World W ts tss σ H ρ) (hp : H p = none) : World W ts tss σ (upd H p o) ρ := by
  obtain ⟨H0, hle, _, _, kf⟩ := World.fstep (vs := []) (ss := []) (ts := ts) (tss := tss) w rfl
  obtain ⟨H0', fp, h1, h2, h3, h4, h5⟩ := w.ex
  have ne : ∀ a, H a ≠ none → a ≠ p := fun a h z => h (by rw [z]; exact hp)
  refine ⟨w.len, ⟨H0', fp, fun a u e => ?_, h2.frame (Le.refl _) fun a ha => upd_ne (ne a (h2.has a ha)), h3, h4, h5.1, fun a o e nt n hx => ?_, h5.2.2.1, fun a ha => ?_, fun a xs e => ?_, fun a o u e => ?_⟩, w.keep⟩
  · have := h1.free hp
    rw [upd_ne (ne_of_none e this)]; exact h1 a u e
  · obtain ⟨e1, n1⟩ := h5.2.1 a o e nt n hx
    exact ⟨by rw [upd_ne (ne a (by rw [e1]; simp))]; exact e1, n1⟩
  · have := h5.2.2.2.1 a ha
    rw [upd_ne (ne a this)]; exact this
  · have := h5.2.2.2.2.1 a xs e
    rw [upd_ne (ne a (by rw [this]; simp))]; exact this
  · have := h5.2.2.2.2.2 a o u e
    rw [upd_ne (ne a (by rw [this]; simp))]; exact this
def gNames : List Nat → TGs
  | [] => gNil
  | i :: is => gCons (gName i) (gNames is)
theorem gNames_ok : ∀ {is : List Nat} {vs : List V} {σ : L2.St} {H : Hp} {Q : L2.St → Hp → Prop}, vs.length = is.length → Q (setAllV is vs σ) H → gNames is vs σ H Q
  | [], [], _, _, _, _, q => ⟨rfl, q⟩
  | i :: is, v :: vs, σ, H, Q, hl, q => ⟨v, vs, rfl, gNames_ok (is := is) (vs := vs) (by simpa using hl) q⟩
  | [], _ :: _, _, _, _, hl, _ => by simp at hl
  | _ :: _, [], _, _, _, hl, _ => by simp at hl
theorem pd_parT {tg : Expr} {es : List Expr} {kk : Nat} {tp : Pos} {r : List (Kd × EM)} {n : Nat} {is : List Nat} (hk : ∀ i ∈ is, i ∉ W.kp) (hl : is.length = r.length) (hn : is.length = n) (hn2 : n ≤ 1000) (ha : PA X es (tAr W Ew (r.map (·.1)) (eArgs r))) (hg : PG X tg (gTup X.K n (gNames is)))
    (hs : swapsWithSole [tg] (.Tuple es kk tp) pos.line X.env = pure false := by rfl) (hw : swappedStores [tg] (.Tuple es kk tp) X.env = pure none := by rfl) (h1 : (assignEach [tg] X.env).map (·.2) = [assign tg X.env] := by rfl) :
    PS X (.Assign [tg] (.Tuple es kk tp) pos) (tS W Ew (sPar is r)) := PS.imp (ps_asg (pe_tup ha) hg hs hw h1) fun D σ H ⟨ts, tss, ρ, w, q⟩ => by
  refine ⟨ts, tss, ρ, w, ?_⟩
  unfold sPar at q
  cases ea : eArgs r ρ with
  | no => rw [ea] at q; exact q
  | er c d ρ' => rw [ea] at q; exact q
  | ok ss ρ1 =>
    rw [ea] at q
    intro vs H1 h1 w1 _
    have h2 := eArgs_length ea
    have := thousand
    exact ⟨by omega, fun p hp => ⟨p, vs, rfl, SqT.of upd_same, by omega, gNames_ok (by omega) (q _ _ (World.setAll (by omega) h1 hk (w1.junk hp)))⟩⟩
end
end Dl
end
section
namespace Dl
open PySem L2 DlZ DlR
section
variable {X : Cx} {W : Wc} {Ew : XK} {e a b : Expr} {k : Kd} {f : EM} {pos : Pos} {H : Hp}
def lrOp : D → Option Slot
  | .int j => if j ≤ 1000000 ∧ -1000000 ≤ j then some (.ow (.lst ((List.range j.toNat).map fun (n : Nat) => .int n))) else none
  | _ => none
theorem RpL.ofInts {K : Frag} {cl : ClsT} : ∀ (ns : List Int), RpL K cl H (ns.map .int) (ns.map .int)
  | [] => .nil
  | n :: ns => .cons (.int n) (RpL.ofInts ns)
theorem pd_listRg {p p2 pos2 : Pos} (hc : X.calm = true) (hg : Gl X "list") (hm : X.mg "list" = none) (hg2 : Gl X "range") (hm2 : X.mg "range" = none) (h : PE X a (tO W Ew k f)) (na : starEach [.Call (.Name "range" p2) [a] [] pos2] X.env = (false, eval (.Call (.Name "range" p2) [a] [] pos2) X.env) :: starEach [] X.env := by rfl) (nb : starEach [a] X.env = (false, eval a X.env) :: starEach [] X.env := by rfl) :
    PE X (.Call (.Name "list" p) [.Call (.Name "range" p2) [a] [] pos2] [] pos) (tO W Ew .t (e1 k f (g1 lrOp))) :=
  PE.imp (pe_listRg hc hg hm (prg_1 hg2 hm2 h nb) na) fun σ H Q q => by
    refine ro1 (r := fun x H1 Q => ∃ n, x = .int n ∧ RgOk 0 n ∧ ∀ q, H1 q = none → Q (.ref q) (upd H1 q (.lst (rgV 0 n)))) (fun H0 H v s s' Q hle rd hg q => ?_) σ H Q q
    obtain ⟨d, ed, e3⟩ := g1_inv hg
    cases d <;> simp only [lrOp] at e3 <;> first | cases e3 | skip
    rename_i j
    split at e3
    · rename_i hj
      cases e3
      refine ⟨j, rd.int ed, ⟨by omega, by omega, by omega, by omega, by omega⟩, fun p hp => q _ _ _ (.newL hle hp ?_)⟩
      have := RpL.ofInts (K := W.K) (cl := W.cl) (H := H0) ((List.range j.toNat).map fun (n : Nat) => (n : Int))
      unfold rgV
      simpa [Function.comp_def] using this
    · cases e3
theorem gd_zp {ka kb : Kd} {fa fb : EM} {vl : List Nat} (hk : ∀ i ∈ ka.ix ++ kb.ix, i ∉ vl) : ∀ ρ S ρ1, iZp ka kb fa fb ρ = .ok S ρ1 → ∀ ρ', S.gd ρ' → S.gd (wipeD ρ' vl) := fun ρ S ρ1 h ρ' g => by
  unfold iZp at h
  cases ea : eArgs [(ka, fa), (kb, fb)] ρ with
  | no => rw [ea] at h; cases h
  | er c d ρ' => rw [ea] at h; cases h
  | ok ss ρ2 =>
    rw [ea] at h
    simp only [Out.bind_ok] at h
    split at h
    · split at h
      · split at h
        · cases h; exact ⟨gdOf_wipe (fun i hi => hk i (List.mem_append_left _ hi)) g.1, gdOf_wipe (fun i hi => hk i (List.mem_append_right _ hi)) g.2⟩
        · cases h
      · cases h
    · cases h
end
/-! what the names of the built-ins mean -/
theorem bt_len : bootBuiltins "len" = some (.builtin "len") := by decide +kernel
theorem bt_abs : bootBuiltins "abs" = some (.builtin "abs") := by decide +kernel
theorem bt_max : bootBuiltins "max" = some (.builtin "max") := by decide +kernel
theorem bt_min : bootBuiltins "min" = some (.builtin "min") := by decide +kernel
theorem bt_sum : bootBuiltins "sum" = some (.builtin "sum") := by decide +kernel
theorem bt_all : bootBuiltins "all" = some (.builtin "all") := by decide +kernel
theorem bt_any : bootBuiltins "any" = some (.builtin "any") := by decide +kernel
theorem bt_sorted : bootBuiltins "sorted" = some (.builtin "sorted") := by decide +kernel
theorem bt_repr : bootBuiltins "repr" = some (.builtin "repr") := by decide +kernel
theorem bt_int : bootBuiltins "int" = some (.type "int") := by decide +kernel
theorem bt_str : bootBuiltins "str" = some (.type "str") := by decide +kernel
theorem bt_bool : bootBuiltins "bool" = some (.type "bool") := by decide +kernel
theorem bt_list : bootBuiltins "list" = some (.type "list") := by decide +kernel
theorem bt_tuple : bootBuiltins "tuple" = some (.type "tuple") := by decide +kernel
theorem bt_dict : bootBuiltins "dict" = some (.type "dict") := by decide +kernel
end Dl
end
section
set_option maxHeartbeats 1000000
/-! enumerate of lists and tuples -/
namespace DlZ
open PySem
open PySem.Sem (wp)
theorem meets_enumB {v : Value} {o : Obj} {H : Heap → Prop} (B : Begins v o H) :
    Meets (Builtin.«enumerate.__new__» ⟨[.type "enumerate", v], []⟩) (fun _ R s => H s.heap ∧
      R (.ok (.ret (.ref (s.heap.push o).objs.size))) { s with heap := (s.heap.push o).push { cls := .type "enumerate", data := .fields #[.none, .bool false, .ref s.heap.objs.size, rawInt 0, .none, .none] } }) :=
  .of_wp fun prog w A R s h => by
    obtain ⟨hp, g, d, tk, os⟩ := s; obtain ⟨h1, h⟩ := h
    have hsub := sub_enumerate
    have q1 : ∀ {A' : Around} {E : Value → Shared → Prop} {Q : Value → Shared → Prop}, Q (.ref hp.objs.size) ⟨hp.push o, g, d, tk, os⟩ → wpAny (model prog w) A' (pyIter v) Q E ⟨hp, g, d, tk, os⟩ :=
      fun q => B.iter prog w _ _ ⟨hp, g, d, tk, os⟩ _ h1 q
    wp_walk using q1
    refine wpAny_stack_any fun st => wpAny_pure ?_
    split
    · rename_i c _ _ _ _ _
      cases (c == Value.type "enumerate")
      · wp_walk using q1
        exact ⟨_, rfl, h⟩
      · wp_walk using q1
        exact ⟨_, rfl, h⟩
    · wp_walk using q1
      exact ⟨_, rfl, h⟩
theorem beginsB (T : Bool) (l : Addr) (items : Array Value) : Begins (.ref l) (zO T l) fun h => IsSq T h l items := by
  cases T
  · exact begins_list l items
  · exact begins_tuple l items
section
variable {prog : Program} {w : World} {A : Around} {E : Value → Shared → Prop} {s : Shared}
theorem call_enumB {T : Bool} {l : Addr} {items : Array Value} {Q : Value → Shared → Prop} (hL : IsSq T s.heap l items)
    (h : ∀ h', IsEnum h' (s.heap.objs.size + 1) s.heap.objs.size 0 .none → IsIt T h' s.heap.objs.size l 0 → h'.objs.size = s.heap.objs.size + 2 →
      (∀ b o, s.heap.get? b = some o → h'.get? b = some o) → Q (.ref (s.heap.objs.size + 1)) { s with heap := h' }) :
    wpAny (model prog w) A (call (.type "enumerate") [.ref l]) Q E s := by
  refine callType_new F.called_enumerate (by decide) (F.typeCall_enumerate_1 _) (F.newCall_enumerate_1 _) (fun obj => F.args_object_init_2 obj _) F.entry_enumerate_new
    (meets_enumB (beginsB T l items)) ⟨hL, ?_⟩
  have hz : (s.heap.push (zO T l)).objs.size = s.heap.objs.size + 1 := Heap.size_push ..
  show _ ∧ _
  rw [hz]
  have he : IsEnum ((s.heap.push (zO T l)).push { cls := .type "enumerate", data := .fields #[.none, .bool false, .ref s.heap.objs.size, rawInt 0, .none, .none] }) (s.heap.objs.size + 1) s.heap.objs.size 0 .none := by
    have := Heap.get?_push_size (s.heap.push (zO T l)) (o := { cls := .type "enumerate", data := .fields #[.none, .bool false, .ref s.heap.objs.size, rawInt 0, .none, .none] }) rfl
    rw [hz] at this; exact this
  have hI : ∀ (T : Bool) (h' : Heap) (it l : Addr), h'.get? it = some (zO T l) → IsIt T h' it l 0 := fun T h' it l e => by
    cases T <;> exact ⟨_, e, rfl, rfl⟩
  refine ⟨⟨_, he, rfl⟩, h _ he (hI T _ _ _ (Heap.get?_push_of_some _ (Heap.get?_push_size _ rfl))) (by rw [Heap.size_push, hz]) fun b o x => Heap.get?_push_of_some _ (Heap.get?_push_of_some _ x)⟩
end
end DlZ
namespace DlZ
open PySem PySem.Spec PyProof.Rows L2
def IteB (T : Bool) (K : PySem.W.Frag) (a : Addr) : It :=
  ⟨fun i H => ∃ (xs : List V) (x : V), SqB T K H a xs ∧ xs[i]? = some x,
    fun i H v H' => ∃ Tn x, v = .ref Tn ∧ H Tn = none ∧ H' = upd H Tn (.tup [.int (i : Nat), x]) ∧ ∀ xs, SqB T K H a xs → xs[i]? = some x,
    fun i H => ∃ xs : List V, SqB T K H a xs ∧ i = xs.length⟩
theorem turn_enumB {P : Program} {w : World} {K : PySem.W.Frag} {elts : List Expr} {kk : Nat} {tpos : Pos} {T : Bool} (a e it : Addr) (hai : a ≠ it) (hea : e ≠ a) :
    Turn P w K (.Tuple elts kk tpos) (IteB T K a) [e, it] e (fun i h => (∃ old, IsEnum h e it ((i : Nat) : Int) old) ∧ IsIt T h it a i ∧ e ≠ it) where
  mem := by simp
  obj := fun i h st b hb => by
    obtain ⟨⟨old, he⟩, hi, _⟩ := st
    have e' : b = e ∨ b = it := by simpa using hb
    rcases e' with z | z
    · rw [z]; exact ⟨_, he, fun v q => nomatch q⟩
    · rw [z]; exact isIt_obj hi
  keep := fun i h h' st k => let ⟨⟨old, he⟩, hi, hne⟩ := st; ⟨⟨old, k e (by simp) _ he⟩, isIt_at hi fun o q => k it (by simp) o q, hne⟩
  item := by
    intro X hP hw hK hc i pins s σ H E I hf st hg
    subst hP hw hK
    obtain ⟨⟨old, he⟩, hit, hne⟩ := st
    obtain ⟨xs, x, hq, hx⟩ := hg
    obtain ⟨its, rv, p, hz⟩ := sqB_inv I hq
    obtain ⟨u, hu, ru⟩ := rv.get hx
    have hel : e < s.heap.objs.size := Heap.lt_size he
    have hil : it < s.heap.objs.size := by obtain ⟨_, q, _⟩ := isIt_obj hit; exact Heap.lt_size q
    have hh : X.A.in1.handled = none := I.ok.hd hc
    have l1 : i < its.toArray.size := by have := (List.getElem?_eq_some_iff.mp hu).1; simpa using this
    refine wpAny_pyNext_enum_itemC (drawsB T hh it a hai its.toArray) he ⟨hit, p⟩ l1 hne (by simp only [List.mem_cons, List.not_mem_nil, or_false, not_or]; exact ⟨hne, hea⟩) fun x1 h' tk e1 ho hst hT hsz hk => ?_
    obtain rfl : x1 = u := by
      have e1' : its.toArray[i]? = some x1 := e1
      rw [List.getElem?_toArray, hu] at e1'; exact (Option.some.inj e1').symm
    refine ⟨_, rfl, wpAny_letOwnedTupleGo_enum (s := { s with heap := h', toks := tk + 1 }) ho fun h'' he' sb => ?_⟩
    have hT2 : h''.get? s.heap.objs.size = some { cls := .type "tuple", data := .seq #[.int i tk, x1] } := (sb.2 _ (Nat.ne_of_gt hel)).trans hT
    have new : ObjOk X.prog X.w (upd H s.heap.objs.size (.tup [.int (i : Nat), x])) h'' s.heap.objs.size (.tup [.int (i : Nat), x]) :=
      ⟨by show 2 ≤ sizeLine; decide, [.int i tk, x1], .cons ⟨_, rfl⟩ (.cons ru .nil), ⟨_, hT2, rfl, _, rfl⟩⟩
    have I1 : Inv X pins σ (upd H s.heap.objs.size (.tup [.int (i : Nat), x])) { s with heap := h'', toks := tk + 1 } :=
      I.turnedNew (ch := [e, it]) (fun b ob hb q => (sb.2 b (fun z => hb (by simp [z]))).trans (hk b ob (fun z => hb (by simp [z])) (fun z => hb (by simp [z])) q)) hf (Nat.le_refl _) new
    refine ⟨.ref s.heap.objs.size, _, I1, rfl, ⟨_, x, rfl, I.hok.fresh (Nat.le_refl _), rfl, fun ys hy => by rw [sqB_inj I hy hq]; exact hx⟩, ⟨⟨x1, ?_⟩, isIt_at hst.1 fun o q => (sb.2 it (Ne.symm hne)).trans q, hne⟩, fun b hb => ?_⟩
    · have e1 : ((i + 1 : Nat) : Int) = (i : Int) + 1 := by omega
      rw [e1]; exact he'
    · have hb' : b < s.heap.objs.size := by
        have e' : b = e ∨ b = it := by simpa using hb
        rcases e' with z | z
        · rw [z]; exact hel
        · rw [z]; exact hil
      rw [upd_ne (Nat.ne_of_lt hb')]
      exact (hf b hb).1
  done := by
    intro X hP hw hK hc i pins s σ H E I hf st hg
    subst hP hw hK
    obtain ⟨⟨old, he⟩, hit, hne⟩ := st
    obtain ⟨xs, hq, hx⟩ := hg
    obtain ⟨its, rv, p, hz⟩ := sqB_inv I hq
    obtain ⟨f0, f1, f2, f3, f4, f5⟩ := hf it (by simp)
    have hl := rv.length
    have hh : X.A.in1.handled = none := I.ok.hd hc
    have hi : i = its.toArray.size := by simp; omega
    subst hi
    exact wpAny_pyNext_enum_endD (drawsB T hh it a hai its.toArray) he ⟨hit, p⟩ fun h' eb => ⟨rfl, I.turned (t' := s.toks) (fun b o hb q => eb b o hb q) f0 f1 f3 f4 f5⟩
  self := fun A i s Q E st h => let ⟨⟨_, he⟩, _⟩ := st; wpAny_pyIter_enum he h
def iEnumB (K : PySem.W.Frag) (ta : TA) : TI := fun σ H R => ta σ H fun vs H1 => ∃ T a xs, vs = [.ref a] ∧ SqB T K H1 a xs ∧ (xs.length ≤ sizeLine → R (IteB T K a) H1)
theorem pi_enumB {X : Cx} {e : Expr} {ta : TA} {p pos tpos : Pos} {elts : List Expr} {kk : Nat} (hg : Gl X "enumerate") (hm : X.mg "enumerate" = none) (ha : PA X [e] ta) (hs : starEach [e] X.env = [(false, eval e X.env)] := by rfl) :
    PI X (.Tuple elts kk tpos) (.Call (.Name "enumerate" p) [e] [] pos) (iEnumB X.K ta) := by
  refine ⟨fun pins s σ H R I h => ?_⟩
  refine Call_ (ld_blt I hg hm boot_enumerate (PyProof.Rows.callWith_type1 (thn (ha.run pos pins s σ H _ I h) fun us s1 ⟨vs, H1, I1, r1, q1⟩ => ?_) hs rfl))
  obtain ⟨T, a, xs, ex, hq, q⟩ := q1
  subst ex
  cases r1 with
  | cons r rr =>
    cases rr
    cases r
    obtain ⟨its, rv, p', hz⟩ := sqB_inv I1 hq
    have hla : a < s1.heap.objs.size := by
      cases T <;> (obtain ⟨o, e, _⟩ := p'; exact Heap.lt_size e)
    refine call_enumB p' fun h' he hit hsz hk => wpAny_pyIter_enum he ?_
    have I2 : Inv X pins σ H1 { s1 with heap := h' } := I1.kept (t' := s1.toks) hk
    refine ⟨s1.heap.objs.size + 1, [s1.heap.objs.size + 1, s1.heap.objs.size], _, _, H1, rfl, I2, turn_enumB a (s1.heap.objs.size + 1) s1.heap.objs.size (Nat.ne_of_lt hla) (Nat.ne_of_gt (Nat.lt_succ_of_lt hla)), ⟨⟨.none, he⟩, hit, Nat.succ_ne_self _⟩, fun b hb => ?_, q hz⟩
    have e' : b = s1.heap.objs.size + 1 ∨ b = s1.heap.objs.size := by simpa using hb
    have hle : s1.heap.objs.size ≤ b := by
      rcases e' with z | z
      · rw [z]; exact Nat.le_add_right _ _
      · rw [z]; exact Nat.le_refl _
    exact I1.fpOk hle (I1.hok.fresh hle)
end DlZ
namespace Dl
open PySem L2 DlZ
/-- the items with their numbers -/
def enumD (ds : List D) : List D := ds.zipIdx.map fun p => .tuple [.int (p.2 : Nat), p.1]
def iEn (k : Kd) (f : EM) : DEnv → Out IS := fun ρ => (eArgs [(k, f)] ρ).bind fun ss ρ1 => match slL [k] ss ρ1 with
  | [s] => match s.d? with
    | some a => match seqOf a with
      | some (_, ds) => .ok ⟨enumD ds, gdOf k a⟩ ρ1
      | _ => .no
    | _ => .no
  | _ => .no
section
variable {X : Cx} {W : Wc} {Ew : XK} {js is vl : List Nat} {ts vs us : List V} {tss ss sus : List Slot} {σ σ' : L2.St} {H H' H0 H0' : Hp} {ρ : DEnv} {v v1 v2 : V} {s s1 s2 : Slot} {e e2 : Expr} {k ka kb kc : Kd} {f fa fb fc : EM}
theorem pi_en {p pos tpos : Pos} {elts : List Expr} {kk : Nat} (hg : Gl X "enumerate") (hm : X.mg "enumerate" = none) (h1 : PE X e (tO W Ew k f))
    (hs : starEach [e] X.env = (false, eval e X.env) :: starEach [] X.env := by rfl) (hs2 : starEach [e] X.env = [(false, eval e X.env)] := by rfl) :
    PI X (.Tuple elts kk tpos) (.Call (.Name "enumerate" p) [e] [] pos) (tI W Ew k.ix (iEn k f)) :=
  PI.imp (pi_enumB hg hm (pd_acons (r := []) h1 pd_anil hs) hs2) fun σ H R ⟨ts, tss, ρ, w, q⟩ => by
    refine ⟨ts, tss, ρ, w, ?_⟩
    unfold iEn at q
    simp only [List.map_cons, List.map_nil]
    cases ea : eArgs [(k, f)] ρ with
    | no => rw [ea] at q; exact q.elim
    | er c d ρ' => rw [ea] at q; exact q
    | ok ss ρ1 =>
      rw [ea] at q
      simp only [Out.bind_ok] at q ⊢
      intro vs H1 hl w1 k1
      have l2 := eArgs_length ea
      match vs, ss, hl, l2 with
      | [x], [sx], _, _ =>
        simp only [slL_cons, slL_nil] at q
        cases e1 : (sl k sx ρ1).d? with
        | none => rw [e1] at q; exact q.elim
        | some a =>
          rw [e1] at q
          simp only at q
          cases s1 : seqOf a with
          | none => rw [s1] at q; exact q.elim
          | some Td =>
            obtain ⟨T1, ds⟩ := Td
            rw [s1] at q
            simp only at q
            obtain ⟨H0, hle, rd, _⟩ := World.atN (pre := []) (preS := []) (us := [x]) (ss := [sx]) w1 rfl rfl k1
            cases rd with
            | cons r1 rd =>
              obtain ⟨pa, xs, rfl, p1, p2⟩ := r1.sq (K := X.K) hle e1 s1
              refine ⟨T1, pa, xs, rfl, p1, fun hz => q (IteB T1 X.K pa) H1 [.ref pa] [sx] rfl w1 (gd_of e1) (by have := p2.length; simp only [enumD, List.length_map, List.length_zipIdx]; omega) ⟨fun pre preS ts tss σ2 H2 ρ2 i hl2 w2 g2 hj => ?_⟩⟩
              have k2 : KdsOk σ2 [k] [V.ref pa] := kds_keep k1 fun j hm => hj j (by simpa using hm)
              obtain ⟨H0, hle, rd, kr⟩ := World.atN (ks := [k]) w2 hl2 rfl k2
              simp only [slL_cons, slL_nil] at rd
              cases rd with
              | cons r1 rd =>
                obtain ⟨pa', xs', ea', p1', p2'⟩ := r1.sq (K := X.K) hle (gd_sl e1 g2) s1
                cases ea'
                have hl1 := p2'.length
                refine ⟨fun d ed => ?_, fun ei => ?_⟩
                · simp only [enumD, List.getElem?_map, List.getElem?_zipIdx, Nat.zero_add, Option.map_map] at ed
                  obtain ⟨dx, g1, rfl⟩ := Option.map_eq_some_iff.mp ed
                  have hi1 := (List.getElem?_eq_some_iff.mp g1).1
                  refine ⟨⟨xs', xs'[i]'(by omega), p1', by simp⟩, fun v H' hy => ?_⟩
                  obtain ⟨T, vx, rfl, hT, rfl, n1⟩ := hy
                  obtain ⟨_, f1, f2⟩ := p2'.get (n1 xs' p1')
                  rw [g1] at f1
                  cases f1
                  exact kr (.newT hle hT (.cons (.int _) (.cons f2 .nil)))
                · refine ⟨xs', p1', ?_⟩
                  simp only [enumD, List.length_map, List.length_zipIdx] at ei
                  omega
theorem gd_en {vl : List Nat} (hk : ∀ i ∈ k.ix, i ∉ vl) : ∀ ρ S ρ1, iEn k f ρ = .ok S ρ1 → ∀ ρ', S.gd ρ' → S.gd (wipeD ρ' vl) := fun ρ S ρ1 h ρ' g => by
  unfold iEn at h
  cases ea : eArgs [(k, f)] ρ with
  | no => rw [ea] at h; cases h
  | er c d ρ' => rw [ea] at h; cases h
  | ok ss ρ2 =>
    rw [ea] at h
    simp only [Out.bind_ok] at h
    split at h
    · split at h
      · split at h
        · cases h; exact gdOf_wipe hk g
        · cases h
      · cases h
    · cases h
end
end Dl
end
section
set_option maxHeartbeats 2000000
/-! zip of three lists or tuples -/
namespace DlZ
open PySem
open PySem.Sem (wp)
/-- apart from one another: the zip, its two tuples, three iterators, three sequences -/
structure Apart3 (z TI TO i1 i2 i3 a b c : Nat) : Prop where
  lo : a < i1 ∧ b < i1 ∧ c < i1
  n2 : i2 = i1 + 1
  n3 : i3 = i1 + 2
  nT : TI = i1 + 3
  nO : TO = i1 + 4
  nz : z = i1 + 5
theorem sep3_of {z TI TO i1 i2 i3 a b c : Nat} (D : Apart3 z TI TO i1 i2 i3 a b c) : ZipSep3 z TI TO i1 i2 i3 [i1, a] [i2, b] [i3, c] := by
  obtain ⟨⟨l1, l2, l3⟩, rfl, rfl, rfl, rfl, rfl⟩ := D
  have n : ∀ {x y : Nat}, (x < y ∨ y < x) → x ≠ y := fun h e => by omega
  refine ⟨n ?_, n ?_, n ?_, n ?_, by simp, ?_, ?_, n ?_, by simp, ?_, ?_, n ?_, by simp, ?_, ?_, ?_, ?_, ?_, ?_, ?_, ?_⟩ <;>
    first
    | (simp only [List.mem_cons, List.not_mem_nil, or_false, not_or]; constructor <;> (refine n ?_; omega))
    | omega
end DlZ
namespace DlZ
open PySem PySem.Spec PyProof.Rows L2
def Itz3 (T1 T2 T3 : Bool) (K : PySem.W.Frag) (a b c : Addr) : It :=
  ⟨fun i H => ∃ (xs ys us : List V) (x y u : V), SqB T1 K H a xs ∧ SqB T2 K H b ys ∧ SqB T3 K H c us ∧ xs[i]? = some x ∧ ys[i]? = some y ∧ us[i]? = some u,
    fun i H v H' => ∃ T x y u, v = .ref T ∧ H T = none ∧ H' = upd H T (.tup [x, y, u]) ∧ (∀ xs, SqB T1 K H a xs → xs[i]? = some x) ∧ (∀ ys, SqB T2 K H b ys → ys[i]? = some y) ∧ ∀ us, SqB T3 K H c us → us[i]? = some u,
    fun i H => ∃ xs ys us : List V, SqB T1 K H a xs ∧ SqB T2 K H b ys ∧ SqB T3 K H c us ∧ i ≤ xs.length ∧ i ≤ ys.length ∧ i ≤ us.length ∧ (i = xs.length ∨ i = ys.length ∨ i = us.length)⟩
theorem turn_zip3 {P : Program} {w : World} {K : PySem.W.Frag} {elts : List Expr} {kk : Nat} {tpos : Pos} {T1 T2 T3 : Bool} {a b c z TI TO i1 i2 i3 : Addr} (D : Apart3 z TI TO i1 i2 i3 a b c) :
    Turn P w K (.Tuple elts kk tpos) (Itz3 T1 T2 T3 K a b c) [z, TI, TO, i1, i2, i3] z (fun i h => IsZip h z TI TO .none ∧ IsTupOf3 h TI (.ref i1) (.ref i2) (.ref i3) ∧ (∃ x y u, IsTupOf3 h TO x y u) ∧ IsIt T1 h i1 a i ∧ IsIt T2 h i2 b i ∧ IsIt T3 h i3 c i) where
  mem := by simp
  obj := fun i h st d hd => by
    obtain ⟨hz, hTI, ⟨x, y, u, hTO⟩, h1, h2, h3⟩ := st
    have e' : d = z ∨ d = TI ∨ d = TO ∨ d = i1 ∨ d = i2 ∨ d = i3 := by simpa using hd
    rcases e' with q | q | q | q | q | q
    · rw [q]; exact ⟨_, hz, fun v q => nomatch q⟩
    · rw [q]; exact ⟨_, hTI, fun v q => nomatch q⟩
    · rw [q]; exact ⟨_, hTO, fun v q => nomatch q⟩
    · rw [q]; exact isIt_obj h1
    · rw [q]; exact isIt_obj h2
    · rw [q]; exact isIt_obj h3
  keep := fun i h h' st k => by
    obtain ⟨hz, hTI, ⟨x, y, u, hTO⟩, h1, h2, h3⟩ := st
    exact ⟨k z (by simp) _ hz, k TI (by simp) _ hTI, ⟨x, y, u, k TO (by simp) _ hTO⟩, isIt_at h1 fun o q => k i1 (by simp) o q, isIt_at h2 fun o q => k i2 (by simp) o q, isIt_at h3 fun o q => k i3 (by simp) o q⟩
  item := by
    intro X hP hw hK hc i pins s σ H E I hf st hg
    subst hP hw hK
    obtain ⟨hz, hTI, ⟨x0, y0, u0, hTO⟩, h1, h2, h3⟩ := st
    obtain ⟨xs, ys, us, x, y, u, hqx, hqy, hqu, hx, hy, hu0⟩ := hg
    obtain ⟨its, rv, p, _⟩ := sqB_inv I hqx
    obtain ⟨its2, rv2, p2, _⟩ := sqB_inv I hqy
    obtain ⟨its3, rv3, p3, _⟩ := sqB_inv I hqu
    obtain ⟨w1, hw1, rw1⟩ := rv.get hx
    obtain ⟨w2, hw2, rw2⟩ := rv2.get hy
    obtain ⟨w3, hw3, rw3⟩ := rv3.get hu0
    have hzl : z < s.heap.objs.size := Heap.lt_size hz
    have hh : X.A.in1.handled = none := I.ok.hd hc
    have l1 : i < its.toArray.size := by have := (List.getElem?_eq_some_iff.mp hw1).1; simpa using this
    have l2 : i < its2.toArray.size := by have := (List.getElem?_eq_some_iff.mp hw2).1; simpa using this
    have l3 : i < its3.toArray.size := by have := (List.getElem?_eq_some_iff.mp hw3).1; simpa using this
    have S := sep3_of D
    have ne : ∀ {x y : Nat}, (x < y ∨ y < x) → x ≠ y := fun h e => by omega
    obtain ⟨⟨d1, d2, d3⟩, e2, e3, eT, eO, ez⟩ := D
    refine wpAny_pyNext_zipD3_item S (drawsB T1 hh i1 a (ne (.inl d1)) its.toArray) (drawsB T2 hh i2 b (ne (by omega)) its2.toArray) (drawsB T3 hh i3 c (ne (by omega)) its3.toArray) hz hTI hTO ⟨h1, p⟩ ⟨h2, p2⟩ ⟨h3, p3⟩ l1 l2 l3 fun x1 x2 x3 h' tk f1 f2 f3 z' TO' st1' st2' st3' hT hsz hk => ?_
    obtain rfl : x1 = w1 := by
      have e1' : its.toArray[i]? = some x1 := f1
      rw [List.getElem?_toArray, hw1] at e1'; exact (Option.some.inj e1').symm
    obtain rfl : x2 = w2 := by
      have e2' : its2.toArray[i]? = some x2 := f2
      rw [List.getElem?_toArray, hw2] at e2'; exact (Option.some.inj e2').symm
    obtain rfl : x3 = w3 := by
      have e3' : its3.toArray[i]? = some x3 := f3
      rw [List.getElem?_toArray, hw3] at e3'; exact (Option.some.inj e3').symm
    refine ⟨_, rfl, wpAny_letOwnedTupleGo_zip (s := { s with heap := h', toks := tk }) z' fun h'' z'' sb => ?_⟩
    have hT2 : h''.get? s.heap.objs.size = some { cls := .type "tuple", data := .seq #[x1, x2, x3] } := (sb.2 _ (Nat.ne_of_gt hzl)).trans hT
    have new : ObjOk X.prog X.w (upd H s.heap.objs.size (.tup [x, y, u])) h'' s.heap.objs.size (.tup [x, y, u]) :=
      ⟨by show 3 ≤ sizeLine; decide, [x1, x2, x3], .cons rw1 (.cons rw2 (.cons rw3 .nil)), ⟨_, hT2, rfl, _, rfl⟩⟩
    have I1 : Inv X pins σ (upd H s.heap.objs.size (.tup [x, y, u])) { s with heap := h'', toks := tk } :=
      I.turnedNew (t' := tk) (ch := [z, TI, TO, i1, i2, i3]) (fun c o hb q => (sb.2 c (fun q' => hb (by simp [q']))).trans (hk c o (fun q' => hb (by simp [q'])) (fun q' => hb (by simp [q'])) (fun q' => hb (by simp [q'])) (fun q' => hb (by simp [q'])) (fun q' => hb (by simp [q'])) q)) hf (Nat.le_refl _) new
    refine ⟨.ref s.heap.objs.size, _, I1, rfl, ⟨_, x, y, u, rfl, I.hok.fresh (Nat.le_refl _), rfl, fun l hl => by rw [sqB_inj I hl hqx]; exact hx, fun l hl => by rw [sqB_inj I hl hqy]; exact hy, fun l hl => by rw [sqB_inj I hl hqu]; exact hu0⟩, ⟨z'', ?_, ⟨x1, x2, x3, ?_⟩, ?_, ?_, ?_⟩, fun d hcm => ?_⟩
    · exact (sb.2 _ (ne (by omega))).trans (hk _ _ (ne (by omega)) (ne (by omega)) (ne (by omega)) (ne (by omega)) (ne (by omega)) hTI)
    · exact (sb.2 _ (ne (by omega))).trans TO'
    · exact isIt_at st1'.1 fun o q => (sb.2 _ (ne (by omega))).trans q
    · exact isIt_at st2'.1 fun o q => (sb.2 _ (ne (by omega))).trans q
    · exact isIt_at st3'.1 fun o q => (sb.2 _ (ne (by omega))).trans q
    · have hlt : d < s.heap.objs.size := by
        have e' : d = z ∨ d = TI ∨ d = TO ∨ d = i1 ∨ d = i2 ∨ d = i3 := by simpa using hcm
        have ez' : z = i1 + 5 := ez
        rcases e' with q | q | q | q | q | q <;> (rw [q]; first | exact hzl | (refine Nat.lt_of_le_of_lt ?_ hzl; omega))
      rw [upd_ne (Nat.ne_of_lt hlt)]
      exact (hf d hcm).1
  done := by
    intro X hP hw hK hc i pins s σ H E I hf st hg
    subst hP hw hK
    obtain ⟨hz, hTI, ⟨x0, y0, u0, hTO⟩, h1, h2, h3⟩ := st
    obtain ⟨xs, ys, us, hqx, hqy, hqu, le1, le2, le3, hend⟩ := hg
    obtain ⟨its, rv, p, _⟩ := sqB_inv I hqx
    obtain ⟨its2, rv2, p2, _⟩ := sqB_inv I hqy
    obtain ⟨its3, rv3, p3, _⟩ := sqB_inv I hqu
    have l1 := rv.length
    have l2 := rv2.length
    have l3 := rv3.length
    have hh : X.A.in1.handled = none := I.ok.hd hc
    have S := sep3_of D
    have ne : ∀ {x y : Nat}, (x < y ∨ y < x) → x ≠ y := fun h e => by omega
    obtain ⟨⟨d1, d2, d3⟩, e2, e3, eT, eO, ez⟩ := D
    refine wpAny_pyNext_zipD3_end (i := i) S (drawsB T1 hh i1 a (ne (.inl d1)) its.toArray) (drawsB T2 hh i2 b (ne (by omega)) its2.toArray) (drawsB T3 hh i3 c (ne (by omega)) its3.toArray) hz hTI hTO ⟨h1, p⟩ ⟨h2, p2⟩ ⟨h3, p3⟩ (by simp; omega) (by simp; omega) (by simp; omega) (by simp; omega) fun h' tk hk => ⟨rfl, ?_⟩
    exact I.turnedL (t' := tk) (ch := [z, TI, TO, i1, i2, i3]) (fun c o hb q =>
      hk c o (fun q' => hb (by simp [q'])) (fun q' => hb (by simp [q'])) (fun q' => hb (by simp [q'])) (fun q' => hb (by simp [q'])) (fun q' => hb (by simp [q'])) q) hf
  self := fun A i s Q E st h => wpAny_pyIter_zip st.1 h
def iZip3 (K : PySem.W.Frag) (ta : TA) : TI := fun σ H R => ta σ H fun vs H1 => ∃ T1 T2 T3 a b c xs ys us, vs = [.ref a, .ref b, .ref c] ∧ SqB T1 K H1 a xs ∧ SqB T2 K H1 b ys ∧ SqB T3 K H1 c us ∧ (xs.length ≤ sizeLine → R (Itz3 T1 T2 T3 K a b c) H1)
theorem pi_zip3 {X : Cx} {e e2 e3 : Expr} {ta : TA} {p pos tpos : Pos} {elts : List Expr} {kk : Nat} (hg : Gl X "zip") (hm : X.mg "zip" = none) (ha : PA X [e, e2, e3] ta)
    (hs : starEach [e, e2, e3] X.env = (false, eval e X.env) :: starEach [e2, e3] X.env := by rfl) (hpl : (backTo pos (starEach [e2, e3] X.env)).any (·.1) = false := by rfl) :
    PI X (.Tuple elts kk tpos) (.Call (.Name "zip" p) [e, e2, e3] [] pos) (iZip3 X.K ta) := by
  refine ⟨fun pins s σ H R I h => ?_⟩
  refine Call_ (ld_blt I hg hm PyProof.Rows.boot_zip (PyProof.Rows.callWith_type1 (thn (ha.run pos pins s σ H _ I h) fun us0 s1 ⟨vs, H1, I1, r1, q1⟩ => ?_) hs hpl))
  obtain ⟨T1, T2, T3, a, b, c, xs, ys, us, ex, hqx, hqy, hqu, q⟩ := q1
  subst ex
  cases r1 with
  | cons r rr =>
    cases rr with
    | cons r' rr =>
      cases rr with
      | cons r'' rr =>
        cases rr
        cases r
        cases r'
        cases r''
        have fresh6 : ∀ c, c ∈ [s1.heap.objs.size + 5, s1.heap.objs.size + 3, s1.heap.objs.size + 4, s1.heap.objs.size, s1.heap.objs.size + 1, s1.heap.objs.size + 2] → FpOk X pins H1 c := fun c hcm => by
          have hle : s1.heap.objs.size ≤ c := by
            simp only [List.mem_cons, List.not_mem_nil, or_false] at hcm
            omega
          exact I1.fpOk hle (I1.hok.fresh hle)
        obtain ⟨its, rv, p1, hz1⟩ := sqB_inv I1 hqx
        obtain ⟨its2, rv2, p2, _⟩ := sqB_inv I1 hqy
        obtain ⟨its3, rv3, p3, _⟩ := sqB_inv I1 hqu
        have lt : ∀ {T : Bool} {a : Addr} {is : Array Value}, IsSq T s1.heap a is → a < s1.heap.objs.size := fun {T a is} h => by
          cases T <;> (obtain ⟨o, e, _⟩ := h; exact Heap.lt_size e)
        have hI : ∀ (T : Bool) (h' : Heap) (it l : Addr), h'.get? it = some (zO T l) → IsIt T h' it l 0 := fun T h' it l e => by
          cases T <;> exact ⟨_, e, rfl, rfl⟩
        refine zip_begins3 (beginsB T1 a its.toArray) (beginsB T2 b its2.toArray) (beginsB T3 c its3.toArray) p1 p2 p3 fun h' hz hTI hTO h1 h2 h3 hsz hk => wpAny_pyIter_zip hz ?_
        have I2 : Inv X pins σ H1 { s1 with heap := h' } := I1.kept (t' := s1.toks) hk
        exact ⟨s1.heap.objs.size + 5, [s1.heap.objs.size + 5, s1.heap.objs.size + 3, s1.heap.objs.size + 4, s1.heap.objs.size, s1.heap.objs.size + 1, s1.heap.objs.size + 2], _, _, H1, rfl, I2, turn_zip3 (T1 := T1) (T2 := T2) (T3 := T3) ⟨⟨lt p1, lt p2, lt p3⟩, rfl, rfl, rfl, rfl, rfl⟩, ⟨hz, hTI, ⟨_, _, _, hTO⟩, hI _ _ _ _ h1, hI _ _ _ _ h2, hI _ _ _ _ h3⟩, fresh6, q hz1⟩
end DlZ
namespace Dl
open PySem L2 DlZ
def zip3D : List D → List D → List D → List D
  | a :: as, b :: bs, c :: cs => .tuple [a, b, c] :: zip3D as bs cs
  | _, _, _ => []
theorem zip3D_get : ∀ (as bs cs : List D) (i : Nat) (d : D), (zip3D as bs cs)[i]? = some d → ∃ a b c, as[i]? = some a ∧ bs[i]? = some b ∧ cs[i]? = some c ∧ d = .tuple [a, b, c]
  | a :: as, b :: bs, c :: cs, 0, d, h => by simp [zip3D] at h; exact ⟨a, b, c, rfl, rfl, rfl, h.symm⟩
  | a :: as, b :: bs, c :: cs, i + 1, d, h => by simp [zip3D] at h; simpa using zip3D_get as bs cs i d h
  | [], _, _, _, _, h => by simp [zip3D] at h
  | _ :: _, [], _, _, _, h => by simp [zip3D] at h
  | _ :: _, _ :: _, [], _, _, h => by simp [zip3D] at h
theorem zip3D_len : ∀ (as bs cs : List D), (zip3D as bs cs).length ≤ as.length ∧ (zip3D as bs cs).length ≤ bs.length ∧ (zip3D as bs cs).length ≤ cs.length ∧ ((zip3D as bs cs).length = as.length ∨ (zip3D as bs cs).length = bs.length ∨ (zip3D as bs cs).length = cs.length)
  | a :: as, b :: bs, c :: cs => by
    have := zip3D_len as bs cs
    simp only [zip3D, List.length_cons]
    omega
  | [], _, _ => by simp [zip3D]
  | _ :: _, [], _ => by simp [zip3D]
  | _ :: _, _ :: _, [] => by simp [zip3D]
def iZ3 (ka kb kc : Kd) (fa fb fc : EM) : DEnv → Out IS := fun ρ => (eArgs [(ka, fa), (kb, fb), (kc, fc)] ρ).bind fun ss ρ1 => match slL [ka, kb, kc] ss ρ1 with
  | [s, t, u] => match s.d?, t.d?, u.d? with
    | some a, some b, some c => match seqOf a, seqOf b, seqOf c with
      | some (_, ds), some (_, es), some (_, gs) => .ok ⟨zip3D ds es gs, fun ρ' => gdOf ka a ρ' ∧ gdOf kb b ρ' ∧ gdOf kc c ρ'⟩ ρ1
      | _, _, _ => .no
    | _, _, _ => .no
  | _ => .no
section
variable {X : Cx} {W : Wc} {Ew : XK} {js is vl : List Nat} {ts vs us : List V} {tss ss sus : List Slot} {σ σ' : L2.St} {H H' H0 H0' : Hp} {ρ : DEnv} {v v1 v2 : V} {s s1 s2 : Slot} {e e2 e3 : Expr} {k ka kb kc : Kd} {f fa fb fc : EM}
theorem pi_z3 {p pos tpos : Pos} {elts : List Expr} {kk : Nat} (hg : Gl X "zip") (hm : X.mg "zip" = none) (h1 : PE X e (tO W Ew ka fa)) (h2 : PE X e2 (tO W Ew kb fb)) (h3 : PE X e3 (tO W Ew kc fc))
    (hs : starEach [e, e2, e3] X.env = (false, eval e X.env) :: starEach [e2, e3] X.env := by rfl) (hs2 : starEach [e2, e3] X.env = (false, eval e2 X.env) :: starEach [e3] X.env := by rfl) (hs3 : starEach [e3] X.env = (false, eval e3 X.env) :: starEach [] X.env := by rfl) (hpl : (backTo pos (starEach [e2, e3] X.env)).any (·.1) = false := by rfl) :
    PI X (.Tuple elts kk tpos) (.Call (.Name "zip" p) [e, e2, e3] [] pos) (tI W Ew (ka.ix ++ (kb.ix ++ kc.ix)) (iZ3 ka kb kc fa fb fc)) :=
  PI.imp (pi_zip3 hg hm (pd_acons (r := [(kb, fb), (kc, fc)]) h1 (pd_acons (r := [(kc, fc)]) h2 (pd_acons (r := []) h3 pd_anil hs3) hs2) hs) hs hpl) fun σ H R ⟨ts, tss, ρ, w, q⟩ => by
    refine ⟨ts, tss, ρ, w, ?_⟩
    unfold iZ3 at q
    simp only [List.map_cons, List.map_nil]
    cases ea : eArgs [(ka, fa), (kb, fb), (kc, fc)] ρ with
    | no => rw [ea] at q; exact q.elim
    | er c d ρ' => rw [ea] at q; exact q
    | ok ss ρ1 =>
      rw [ea] at q
      simp only [Out.bind_ok] at q ⊢
      intro vs H1 hl w1 k1
      have l2 := eArgs_length ea
      match vs, ss, hl, l2 with
      | [x, y, z], [sx, sy, sz], _, _ =>
        simp only [slL_cons, slL_nil] at q
        split at q
        · rename_i a b c e1 e2 e3
          split at q
          · rename_i T1 ds T2 es T3 gs s1 s2 s3
            obtain ⟨H0, hle, rd, _⟩ := World.atN (pre := []) (preS := []) (us := [x, y, z]) (ss := [sx, sy, sz]) w1 rfl rfl k1
            cases rd with
            | cons r1 rd =>
              cases rd with
              | cons r2 rd =>
                cases rd with
                | cons r3 _ =>
                  obtain ⟨pa, xs, rfl, p1, p2⟩ := r1.sq (K := X.K) hle e1 s1
                  obtain ⟨pb, ys, rfl, p3, p4⟩ := r2.sq (K := X.K) hle e2 s2
                  obtain ⟨pc, us, rfl, p5, p6⟩ := r3.sq (K := X.K) hle e3 s3
                  refine ⟨T1, T2, T3, pa, pb, pc, xs, ys, us, rfl, p1, p3, p5, fun hz => q (Itz3 T1 T2 T3 X.K pa pb pc) H1 [.ref pa, .ref pb, .ref pc] [sx, sy, sz] rfl w1 ⟨gd_of e1, gd_of e2, gd_of e3⟩ (by have := p2.length; have := zip3D_len ds es gs; simp only; omega) ⟨fun pre preS ts tss σ2 H2 ρ2 i hl2 w2 g2 hj => ?_⟩⟩
                  have k2 : KdsOk σ2 [ka, kb, kc] [V.ref pa, V.ref pb, V.ref pc] := kds_keep k1 fun j hm => hj j (by simpa using hm)
                  obtain ⟨H0, hle, rd, kr⟩ := World.atN (ks := [ka, kb, kc]) w2 hl2 rfl k2
                  simp only [slL_cons, slL_nil] at rd
                  cases rd with
                  | cons r1 rd =>
                    cases rd with
                    | cons r2 rd =>
                      cases rd with
                      | cons r3 _ =>
                        obtain ⟨pa', xs', ea', p1', p2'⟩ := r1.sq (K := X.K) hle (gd_sl e1 g2.1) s1
                        cases ea'
                        obtain ⟨pb', ys', eb', p3', p4'⟩ := r2.sq (K := X.K) hle (gd_sl e2 g2.2.1) s2
                        cases eb'
                        obtain ⟨pc', us', ec', p5', p6'⟩ := r3.sq (K := X.K) hle (gd_sl e3 g2.2.2) s3
                        cases ec'
                        have hl1 := p2'.length
                        have hl3 := p4'.length
                        have hl5 := p6'.length
                        refine ⟨fun d ed => ?_, fun ei => ?_⟩
                        · obtain ⟨dx, dy, du, g1, g3, g5, rfl⟩ := zip3D_get _ _ _ _ _ ed
                          have hi1 := (List.getElem?_eq_some_iff.mp g1).1
                          have hi2 := (List.getElem?_eq_some_iff.mp g3).1
                          have hi3 := (List.getElem?_eq_some_iff.mp g5).1
                          refine ⟨⟨xs', ys', us', xs'[i]'(by omega), ys'[i]'(by omega), us'[i]'(by omega), p1', p3', p5', by simp, by simp, by simp⟩, fun v H' hy => ?_⟩
                          obtain ⟨T, vx, vy, vu, rfl, hT, rfl, n1, n2, n3⟩ := hy
                          obtain ⟨_, f1, f2⟩ := p2'.get (n1 xs' p1')
                          rw [g1] at f1
                          cases f1
                          obtain ⟨_, f3, f4⟩ := p4'.get (n2 ys' p3')
                          rw [g3] at f3
                          cases f3
                          obtain ⟨_, f5, f6⟩ := p6'.get (n3 us' p5')
                          rw [g5] at f5
                          cases f5
                          exact kr (.newT hle hT (.cons f2 (.cons f4 (.cons f6 .nil))))
                        · have := zip3D_len ds es gs
                          simp only at ei
                          exact ⟨xs', ys', us', p1', p3', p5', by omega, by omega, by omega, by omega⟩
          · exact q.elim
        · exact q.elim
theorem gd_z3 {vl : List Nat} (hk : ∀ i ∈ ka.ix ++ (kb.ix ++ kc.ix), i ∉ vl) : ∀ ρ S ρ1, iZ3 ka kb kc fa fb fc ρ = .ok S ρ1 → ∀ ρ', S.gd ρ' → S.gd (wipeD ρ' vl) := fun ρ S ρ1 h ρ' g => by
  unfold iZ3 at h
  cases ea : eArgs [(ka, fa), (kb, fb), (kc, fc)] ρ with
  | no => rw [ea] at h; cases h
  | er c d ρ' => rw [ea] at h; cases h
  | ok ss ρ2 =>
    rw [ea] at h
    simp only [Out.bind_ok] at h
    split at h
    · split at h
      · split at h
        · cases h; exact ⟨gdOf_wipe (fun i hi => hk i (by simp [hi])) g.1, gdOf_wipe (fun i hi => hk i (by simp [hi])) g.2.1, gdOf_wipe (fun i hi => hk i (by simp [hi])) g.2.2⟩
        · cases h
      · cases h
    · cases h
end
end Dl
end
section
set_option maxHeartbeats 1000000
/-! sorted(tuple) -/
namespace Dl
open PySem L2 DlZ DlR DlS
open PySem.W (EachIs)
section
variable {X : Cx} {W : Wc} {Ew : XK} {pins : List (Addr × Obj)} {σ : L2.St} {H H0 : Hp} {s : Shared} {v : V} {u : Value} {sl sl' : Slot} {d : D} {a : Addr} {xs : List V} {ds : List D}
theorem og_sortedTup (ax : Ax X) (hK : X.K = W.K) (hcalm : X.calm = true) {x : V} {us : List Value} {Q : VK} {s1 s' : Slot} {ds : List D} (I : Inv X pins σ H s) (r : Vals [x] us) (hle : Le H0 H) (r1 : Rdy W H0 H x s1) (e1 : s1.d? = some (.tuple ds)) (e3 : (sortK ds).map (fun es => Slot.ow (.lst es)) = some s')
    (q : ∀ v' H' H0', Res W H0 H H0' H' v' s' → Q v' H') : wpAny (model X.prog X.w) X.A (call (.builtin "sorted") us) (EP X pins σ Q) X.xe s := by
  obtain ⟨es', e4, rfl⟩ := Option.map_eq_some_iff.mp e3
  obtain ⟨rfl, k1, k2, k3⟩ := sortK_inv e4
  obtain ⟨l, xs, rfl, h1, p1⟩ := r1.tup hle e1
  obtain ⟨u, rfl, rx⟩ := vals1 r
  cases rx
  obtain ⟨its, rv, p, hz⟩ := I.tuple (SqT.of h1)
  obtain ⟨o, ho, hoc, n, hod⟩ := (show s.heap.IsTuple l its.toArray from p)
  have l2 := rv.length
  have l3 := p1.length
  refine Calls.call_function_entry PyProof.Rows.kind_sorted PyProof.Rows.plain_sorted PyProof.Rows.entry_sorted (PyProof.Rows.args_sorted1 _) ?_
  unfold Builtin.«sorted»
  refine wpAny_bind (m := checkCount "sorted" 1 1 _) (wpAny_pure ?_)
  refine wpAny_bind (wpAny_collect_seq (A := X.A.in1) l (T := "tuple") (.inr rfl) ho hoc hod (hsz := by simp; omega) fun h' hk => ?_)
  have I1 : Inv X pins σ H { s with heap := h' } := I.kept (t' := s.toks) hk
  have el : its.toArray.toList = its := by simp
  rw [el]
  have hzi : its.length ≤ sizeLine := by omega
  refine wpAny_bind (wpAny_newList ?_ hzi)
  have hoL : (h'.push (PyProof.Rows.seqObj "list" its.toArray 0)).get? h'.objs.size = some (PyProof.Rows.seqObj "list" its.toArray 0) := Heap.get?_push_size _ rfl
  show wpAny _ _ _ _ _ { s with heap := h'.push (PyProof.Rows.seqObj "list" its.toArray 0) }
  have pl := layL_plain 60 _ k1
  obtain ⟨as, ra⟩ := Dp.readsAll I1 ds xs its (by rw [hK]; exact (p1.mono hle).dp pl) rv
  have lk : ds.length ≤ sizeLine := by omega
  have ku : ∀ b, b ∈ ds → X.A.in1.units + 1 + (id b : D).depth < cLine := fun b hb => units2 ax k1 b hb
  refine wpAny_bind (wpAny_holding (PySem.W.list_sort_data (A := X.A.in1) (R := Rr W H0) (enc := id) (bs := ds) (s := { s with heap := h'.push (PyProof.Rows.seqObj "list" its.toArray 0) }) hoL (each_rr p1 rv) (each_reads_lt (fun b o e => Heap.get?_push_of_some _ e) pl ra) (by simpa using k2) (by simpa using k3) lk ku fun out hlo ee => ?_))
  obtain ⟨ys, r2, p2⟩ := rr_each ee
  obtain ⟨e', he'⟩ := PyProof.Rows.sortedHeap_at (vs := its) (out := out.toArray) hoL
  refine wpAny_pure ⟨_, rfl, .ref h'.objs.size, upd H h'.objs.size (.lst ys), I1.laid (t' := s.toks) (fun b u e => ?_) (Nat.le_refl _) (show ObjOk X.prog X.w _ _ _ (.lst ys) from ⟨by rw [p2.length, List.length_mergeSort]; exact lk, out, e', r2, he'⟩), rfl, q _ _ _ (.newL hle (I1.hok.fresh (Nat.le_refl _)) p2)⟩
  have hb : b < h'.objs.size := Heap.lt_size e
  rw [PyProof.Rows.sortedHeap_old (Nat.ne_of_lt hb) (by rw [PyProof.Rows.size_push']; exact Nat.lt_succ_of_lt hb)]
  exact Heap.get?_push_of_some _ e
def sortedOp2 : D → Option Slot
  | .tuple ds => (sortK ds).map fun es => .ow (.lst es)
  | d => sortedOp d
theorem og_sorted2 (ax : Ax X) (hK : X.K = W.K) (hcalm : X.calm = true) : CallR X (.builtin "sorted") (rGN W (gN1 sortedOp2)) := ogN1 fun pins s σ H H0 x us Q s1 s' a I r hle r1 e1 e3 q => by
  unfold sortedOp2 at e3
  split at e3
  · exact og_sortedTup ax hK hcalm I r hle r1 e1 e3 q
  · unfold sortedOp at e3
    split at e3
    · exact og_sortedL ax hK I r hle r1 e1 e3 q
    · split at e3
      · rename_i kvs ea
        obtain ⟨ed, hn⟩ := asDct_inv ea
        rw [ed] at e1
        exact og_sortedT ax hK hcalm I r hle r1 e1 e3 q
      · cases e3
end
end Dl
end
section
set_option maxHeartbeats 4000000
/-! sorted(set(xs)) of ints -/
namespace DlS
open PySem PySem.Spec PyProof.Rows L2 DlZ
open PySem.Sem (wp)
section
variable {P : Program} {w : World} {A : Around} {E : Value → Shared → Prop} {s : Shared}
theorem set_hint {r : Addr} {Q : Bool → Shared → Prop} (hT : s.TypeIs (.ref r) "set") (h : Q false s) : wpAny (model P w) A (Builtin.List.listLengthHint (.ref r)) Q E s := by
  unfold Builtin.List.listLengthHint
  refine wpAny_bind (wpAny_specialOf hT PySem.F.slot_set_len.lookup ?_)
  generalize hid : ("set.__len__" : String) = id0
  wp_delta
  rw [show splitId id0 = some ("set", "__len__") from by subst hid; decide +kernel]
  subst hid
  refine wpAny_bind (wpAny_isInstance (T := "set") (b := true) hT (by rw [isSubtype_type]; kernel_rfl) ?_)
  refine wpAny_ite_split (fun hab => absurd hab (by decide)) (fun _ => ?_)
  refine wpAny_ite_split (fun _ => ?_) (fun hab => absurd (by decide +kernel) hab)
  refine wpAny_bind (wpAny_typeOf hT ?_)
  exact wpAny_pure h
/-- list.extend of a set onto an empty list -/
theorem set_extend {R : Result → Shared → Prop} {a : Addr} {es : Array (Int × Value)} {ep : Nat} {t : SetTable} (hh : A.handled = none) (ha : SetAt s.heap a es ep t) (hf : t.fits es.size = true) (hsz : es.size < scanBound) (r : Ris t.place.toList)
    (hl : w.params.followText "set-order" = true ∨ t.led = true) (S : Addr) (hSa : S ≠ a) (res : Value) (c₀ : Nat) (hS : s.heap.get? S = some { cls := .type "list", data := .seq #[] c₀ })
    (hR : ∀ s' acc' c' out, (∀ b o, b ≠ S → s.heap.get? b = some o → s'.heap.get? b = some o) → s'.gens = s.gens → s'.os = s.os → s'.heap.get? S = some { cls := .type "list", dict := none, data := .seq acc' c', slots := #[] } → acc'.toList = out → out.Perm (es.toList.map (·.2)) → R (.ok (.ret res)) s') :
    wpAny (model P w) A.in1 (Builtin.List.listExtendWith (.ref S) (.ref a) res)
      (fun fin s' => match fin with | .done f => R (.ok f) s' | .again c' => c'.quiet = true ∧ codeAny (model P w) A c' R s') (fun e s' => R (.error e) s') s := by
  have hT : s.TypeIs (.ref a) "set" := by obtain ⟨o, ho, hc, _⟩ := id ha; exact ⟨o, ho, hc⟩
  unfold Builtin.List.listExtendWith
  refine wpAny_bind (wpAny_typeOf hT ?_)
  have h1 : Builtin.List.listSameRef (.ref S) (.ref a) = false := by simp [Builtin.List.listSameRef, hSa]
  have h2 : (Value.type "set" == Value.type "list") = false := by decide
  have h3 : (Value.type "set" == Value.type "tuple") = false := by decide
  simp only [h1, h2, h3, Bool.or_false, Bool.false_eq_true, if_false]
  refine wpAny_bind (iter_set2 ha hf hsz r hl fun s₂ I hit => ?_)
  obtain ⟨fp, St, out, Pv, k2, g2, o2, tk2, hI, hfp, hperm, W, hP, si, ob, mem, st0⟩ := hit
  have hSlt : S < s.heap.objs.size := Heap.lt_size hS
  have hSf : S ∉ fp := fun hm => by
    rcases hfp S hm with z | z
    · exact hSa z
    · exact absurd hSlt (Nat.not_lt.mpr z)
  have hlo : out.length ≤ sizeLine := by
    have := hperm.length_eq
    simp only [List.length_map, Array.length_toList] at this
    rw [this]
    exact fits_of_scanBound hsz
  have key : ∀ (s₃ : Shared) (c₁ : Nat), St 0 s₃.heap → s₃.gens = s.gens → s₃.os = s.os → (∀ b o, b ≠ S → s.heap.get? b = some o → s₃.heap.get? b = some o) →
      s₃.heap.get? S = some { cls := .type "list", data := .seq #[] c₁ } → codeAny (model P w) A (.builtin "list.extend.loop" ⟨[.ref S, .ref I, res], []⟩) R s₃ := by
    intro s₃ c₁ hst g3 o3 hk hS₁
    refine codeAny_extend_loopS ((W A.in1 (by simp [hh])).toS) hlo S hSf res out.length 0 _ #[] c₁ rfl (Nat.zero_le _) hst hS₁ (ItemsOf.nil _) fun s' acc' c' hm hS' hacc => ?_
    refine hR s' acc' c' out (fun b o hb e => hm.heap b o (fun hmem => ?_) (hk b o hb e)) ((show s'.gens = s₃.gens from hm.gens).trans g3) ((show s'.os = s₃.os from hm.os).trans o3) hS' ?_ hperm
    · rcases List.mem_cons.mp hmem with e' | hmem
      · exact hb e'
      · exact absurd (Heap.lt_size e) (by rw [List.mem_singleton.mp hmem]; exact Nat.not_lt.mpr hI)
    · refine List.ext_getElem? fun j => ?_
      rw [Array.getElem?_toList]
      cases hj : acc'[j]? with
      | some v => exact (hP j v (hacc.2 j v hj)).symm
      | none =>
        have h1 := Array.getElem?_eq_none_iff.mp hj
        have h2 : acc'.size = out.length := hacc.1
        rw [List.getElem?_eq_none (by omega)]
  have hS₁ := k2 _ _ hS
  have hT2 : s₂.TypeIs (.ref a) "set" := by obtain ⟨o, ho, hc, _⟩ := id ha; exact ⟨o, k2 _ _ ho, hc⟩
  refine wpAny_bind (wpAny_holding (set_hint hT2 ?_))
  refine wpAny_ite_split (fun _ => ?_) (fun _ => wpAny_pure ⟨plainId_quiet PySem.F.plain_extend_loop _, key s₂ c₀ st0 g2 o2 (fun b o _ e => k2 b o e) hS₁⟩)
  refine wpAny_bind (wpAny_rule ?_)
  refine wpAny_bind ?_
  show wpAny _ _ (updateSeq S (·.push .none) >>= fun _ => updateSeq S (·.pop)) _ _ _
  refine wpAny_bind (wpAny_updateSeq hS₁ rfl ?_)
  have hS₂ := Heap.get?_update_self (Obj.mapSeq (·.push Value.none)) hS₁ rfl
  refine wpAny_updateSeq (hz := by seq_fits) hS₂ rfl ?_
  have hS₃ := Heap.get?_update_self (Obj.mapSeq (·.pop)) hS₂ rfl
  refine wpAny_pure ⟨plainId_quiet PySem.F.plain_extend_loop _, key _ _ ?_ g2 o2 (fun b o hb e => ?_) hS₃⟩
  · refine (W A.in1 (by simp [hh])).frame 0 _ _ st0 fun b hb o e => ?_
    have hbS : b ≠ S := fun h => hSf (h ▸ hb)
    exact (Heap.get?_update_other _ _ (Ne.symm hbS)).trans ((Heap.get?_update_other _ _ (Ne.symm hbS)).trans e)
  · exact (Heap.get?_update_other _ _ (Ne.symm hb)).trans ((Heap.get?_update_other _ _ (Ne.symm hb)).trans (k2 _ _ e))
theorem set_collect {Q : List Value → Shared → Prop} {a : Addr} {es : Array (Int × Value)} {ep : Nat} {t : SetTable} (hh : A.handled = none) (ha : SetAt s.heap a es ep t) (hf : t.fits es.size = true) (hsz : es.size < scanBound) (r : Ris t.place.toList)
    (hl : w.params.followText "set-order" = true ∨ t.led = true)
    (h : ∀ s' out, (∀ b o, s.heap.get? b = some o → s'.heap.get? b = some o) → s'.gens = s.gens → s'.os = s.os → out.Perm (es.toList.map (·.2)) → Q out s') :
    wpAny (model P w) A (collect (.ref a)) Q E s := by
  have hlt : a < s.heap.objs.size := by obtain ⟨o, ho, _⟩ := id ha; exact Heap.lt_size ho
  unfold collect
  refine wpAny_bind (wpAny_runValue (codeAny_builtin entry_proto_collect' ?_))
  rw [Around.under_plainId PySem.F.plain_proto_collect _]
  show wpAny _ A.in1 (newList [] >>= fun l => again (.builtin "list.__iadd__" ⟨[l, .ref a], []⟩)) _ _ s
  refine wpAny_bind (wpAny_newObj_type ?_)
  refine wpAny_pure ⟨plainId_quiet PySem.F.plain_list_iadd _, codeAny_builtin entry_list_iadd' ?_⟩
  rw [Around.under_plainId PySem.F.plain_list_iadd _]
  have hS₁ : (s.heap.push { cls := .type "list", data := .seq ([] : List Value).toArray }).get? s.heap.objs.size = some { cls := .type "list", data := .seq #[] } := Heap.get?_push_size _ rfl
  show wpAny _ A.in1 (Builtin.List.listExtendWith (.ref s.heap.objs.size) (.ref a) (.ref s.heap.objs.size)) _ _ _
  have key := set_extend (A := A) (P := P) (w := w) (s := { s with heap := s.heap.push { cls := .type "list", data := .seq ([] : List Value).toArray } })
    (R := fun (q : Result) (s' : Shared) => ∃ (acc' : Array Value) (c' : Nat) (out : List Value), q = .ok (.ret (.ref s.heap.objs.size)) ∧ s'.gens = s.gens ∧ s'.os = s.os ∧
      (∀ b o, s.heap.get? b = some o → s'.heap.get? b = some o) ∧ s'.heap.get? s.heap.objs.size = some { cls := .type "list", dict := none, data := .seq acc' c', slots := #[] } ∧ acc'.toList = out ∧ out.Perm (es.toList.map (·.2)))
    hh (ha.at fun o e => Heap.get?_push_of_some _ e) hf hsz r hl s.heap.objs.size (Nat.ne_of_gt hlt) (.ref s.heap.objs.size) 0 hS₁
    (fun s' acc' c' out hk hg ho hS' hacc hp => ⟨acc', c', out, rfl, hg, ho, fun b o e => hk b o (Nat.ne_of_lt (Heap.lt_size e)) (Heap.get?_push_of_some _ e), hS', hacc, hp⟩)
  refine wpAny_mono key (fun fin s' x => ?_) fun e s' x => ?_
  · cases fin with
    | done f =>
      obtain ⟨acc', c', out, e, hg, ho, hk, hS', hacc, hp⟩ := x
      cases e
      show wpAny _ A (load s.heap.objs.size >>= _) _ _ _
      refine wpAny_bind (wpAny_load hS' ?_)
      exact wpAny_pure (by show Q acc'.toList s'; rw [hacc]; exact h s' out hk hg ho hp)
    | again c₁ =>
      refine ⟨x.1, codeAny_mono x.2 fun q s₂ y => ?_⟩
      obtain ⟨acc', c', out, rfl, hg, ho, hk, hS', hacc, hp⟩ := y
      show wpAny _ A (load s.heap.objs.size >>= _) _ _ _
      refine wpAny_bind (wpAny_load hS' ?_)
      exact wpAny_pure (by show Q acc'.toList s₂; rw [hacc]; exact h s₂ out hk hg ho hp)
  · obtain ⟨_, _, _, e', _⟩ := x
    cases e'
/-- set(xs): T tells whether xs is a list or a tuple -/
theorem call_setI {l : Addr} {items : Array Value} (T : Bool) (ns : List Int) {Q : Value → Shared → Prop} (hh : A.handled = none) (hl : if T then s.heap.IsTuple l items else s.heap.IsList l items) (hit : IntsAre items.toList ns) (hb : ns.length + 1 < scanBound)
    (h : ∀ (h' : Heap) (tk : Nat), (∃ c, SetR w h' s.heap.objs.size (fun j => decide (j ∈ ns)) c) → (∀ b o, s.heap.get? b = some o → h'.get? b = some o) → Q (.ref s.heap.objs.size) { s with heap := h', toks := tk }) :
    wpAny (model P w) A (call (.type "set") [.ref l]) Q E s := by
  have hisz : items.size = ns.length := by
    have q := IntsAre.length hit
    rw [Array.length_toList] at q
    exact q
  have hval : ∀ (i : Nat) (v : Value), items[i]? = some v → ∃ k t, ns[i]? = some k ∧ v = .int k t := fun i v hv => by
    have hi : i < ns.length := by rw [← hisz]; exact (Array.getElem?_eq_some_iff.mp hv).1
    obtain ⟨t, e⟩ := PyProof.Rows.IntsAre.int_at hit i v (by rw [Array.getElem?_toList]; exact hv)
    refine ⟨ns[i], t, List.getElem?_eq_getElem hi, ?_⟩
    rw [e, List.getD_eq_getElem?_getD, List.getElem?_eq_getElem hi] <;> rfl
  obtain ⟨c, tl, hmro⟩ := F.called_set.mro
  have hmade := F.called_set.made
  have hsub := F.called_set.sub
  refine wpAny_call (codeAny_of_tree ?_)
  show wpAny _ _ (callAny (.type "set") _) _ _ _
  refine wpAny_pure ⟨Code.quiet_builtin _ (by decide +kernel), codeAny_builtin F.entry_type_call ?_⟩
  rw [Around.under_plain (weight_type_call_type "set" [.ref l] []) rfl]
  have h1 := F.called_set.notType
  have h2 := F.called_set.canCreate
  have hct := F.typeCall_set_1 (.ref l)
  repeat (any_goals (first | assumption | wp_step))
  refine codeAny_mono (code_set_led1 (.ref l) (E := E) (Q₁ := fun obj s₁ => obj = .ref s.heap.objs.size ∧ s₁ = { s with heap := s.heap.push { cls := .type "set", dict := none, data := .set #[] 0 (.fresh 0 0 (!w.params.followText "set-order")) } }) ⟨rfl, rfl⟩) fun r s₁ hr => ?_
  cases r with
  | error e => exact hr
  | ok fl =>
    cases fl with
    | ret obj =>
      obtain ⟨rfl, rfl⟩ := hr
      have hS : (s.heap.push { cls := .type "set", dict := none, data := .set #[] 0 (.fresh 0 0 (!w.params.followText "set-order")) }).get? s.heap.objs.size = some { cls := .type "set", dict := none, data := .set #[] 0 (.fresh 0 0 (!w.params.followText "set-order")) } := Heap.get?_push_size _ rfl
      have hT : Shared.TypeIs { s with heap := s.heap.push { cls := .type "set", dict := none, data := .set #[] 0 (.fresh 0 0 (!w.params.followText "set-order")) } } (.ref s.heap.objs.size) "set" := ⟨_, hS, rfl⟩
      have hli := F.called_set.init.lookup
      have hbi := F.called_set.init.bind (.ref s.heap.objs.size)
      repeat (any_goals (first | assumption | wp_step))
      refine codeAny_mono (codeAny_call_builtin (R := wants (fun r s₂ => r = .none ∧ ∃ h' tk, s₂ = { s with heap := h', toks := tk } ∧ (∃ c, SetR w h' s.heap.objs.size (fun j => decide (j ∈ ns)) c) ∧
          (∀ b o, s.heap.get? b = some o → h'.get? b = some o)) E) F.called_set.init.plain F.entry_set_init (check_set_init_1 hT ?_)) fun r₂ s₂ hr₂ => ?_
      · have hlS : l < s.heap.objs.size := by
          cases T with
          | true => obtain ⟨o, ho, _⟩ := (show s.heap.IsTuple l items from hl); exact Heap.lt_size ho
          | false => obtain ⟨o, ho, _⟩ := (show s.heap.IsList l items from hl); exact Heap.lt_size ho
        generalize hk : (s.heap.push { cls := .type "set", dict := none, data := .set #[] 0 (.fresh 0 0 (!w.params.followText "set-order")) }) = hp at hS hT
        have kp : ∀ b o, s.heap.get? b = some o → hp.get? b = some o := fun b o e => by rw [← hk]; exact Heap.get?_push_of_some _ e
        have hsz : hp.objs.size = s.heap.objs.size + 1 := by rw [← hk]; exact Heap.size_push ..
        have hh3 : A.in1.in1.in1.handled = none := by simp [hh]
        have hneI : l ≠ hp.objs.size := by rw [hsz]; exact Nat.ne_of_lt (Nat.lt_succ_of_lt hlS)
        have hSf : s.heap.objs.size ∉ [hp.objs.size, l] := by
          rw [hsz]; simp only [List.mem_cons, List.mem_singleton, List.not_mem_nil, or_false, not_or]
          exact ⟨Nat.ne_of_lt (Nat.lt_succ_self _), Nat.ne_of_gt hlS⟩
        have new : ∀ oi : Obj, ∃ c, c ≤ 0 ∧ SetR w (hp.push oi) s.heap.objs.size (fun j => decide (j ∈ ns.take 0)) c := fun oi => ⟨0, Nat.le_refl 0, setR_new_at (Heap.get?_push_of_some _ hS)⟩
        have fin : ∀ (oi : Obj) (s' : Shared), Moved (s.heap.objs.size :: [hp.objs.size]) (fun g g' => g' = g) { s with heap := hp.push oi } s' → (∃ c, SetR w s'.heap s.heap.objs.size (fun j => decide (j ∈ ns)) c) →
            ∃ h' tk, s' = { s with heap := h', toks := tk } ∧ (∃ c, SetR w h' s.heap.objs.size (fun j => decide (j ∈ ns)) c) ∧ (∀ b o, s.heap.get? b = some o → h'.get? b = some o) := fun oi s' hm hS' => by
          obtain ⟨h', g2, d', tk', os'⟩ := s'
          have eg : g2 = s.gens := hm.gens
          have ed : d' = s.drawn := hm.drawn
          have eo : os' = s.os := hm.os
          subst eg; subst ed; subst eo
          refine ⟨h', tk', rfl, hS', fun b o e => ?_⟩
          have hb0 : b < s.heap.objs.size := Heap.lt_size e
          exact hm.heap b o (by simp only [List.mem_cons, List.mem_singleton, List.not_mem_nil, or_false, not_or]; exact ⟨Nat.ne_of_lt hb0, by rw [hsz]; exact Nat.ne_of_lt (Nat.lt_succ_of_lt hb0)⟩) (Heap.get?_push_of_some _ (kp _ _ e))
        cases T with
        | true =>
          obtain ⟨ol, hol, hcl, nl, hdl⟩ := (show s.heap.IsTuple l items from hl)
          obtain ⟨ocls, odict, odata, oslots⟩ := ol
          simp only at hcl hdl
          subst hcl; subst hdl
          have hol' := kp _ _ hol
          have hsls := F.sub_tuple_set
          have hslf := F.sub_tuple_frozenset
          have hne : (Value.type "tuple" == Value.type "dict") = false := by decide
          have hl1 : hp.IsTuple l items := ⟨_, hol', rfl, nl, rfl⟩
          unfold Builtin.«set.__init__» noKeywords Builtin.Frozenset.updateFrom
          generalize hPI : pyIter = PI
          wp_walk
          subst hPI
          refine wpAny_pyIter_tuple hl1 ?_
          refine wpAny_bind (wpAny_runValue ?_)
          refine set_update_ints ((Walks.tuple hh3 _ l hneI items).toS) s.heap.objs.size hSf ns hisz hb hval (items.size - 0) 0 _ (by omega) (Nat.zero_le _) ⟨⟨_, Heap.get?_push_size _ rfl, rfl, rfl⟩, (hl1.push _)⟩ (new _) ?hR
          case hR =>
            intro s' c' hm hc' hS'
            obtain ⟨h', tk', rfl, k1, k2⟩ := fin _ s' hm ⟨c', hS'⟩
            show wpAny _ _ _ _ _ _
            refine wpAny_pure ?_
            show wpAny _ _ (ret Value.none) _ _ _
            exact wpAny_pure ⟨rfl, h', tk', rfl, k1, k2⟩
        | false =>
          obtain ⟨ol, hol, hcl, nl, hdl⟩ := (show s.heap.IsList l items from hl)
          obtain ⟨ocls, odict, odata, oslots⟩ := ol
          simp only at hcl hdl
          subst hcl; subst hdl
          have hol' := kp _ _ hol
          have hsls := F.sub_list_set
          have hslf := F.sub_list_frozenset
          have hne : (Value.type "list" == Value.type "dict") = false := by decide
          have hl1 : hp.IsList l items := ⟨_, hol', rfl, nl, rfl⟩
          unfold Builtin.«set.__init__» noKeywords Builtin.Frozenset.updateFrom
          generalize hPI : pyIter = PI
          wp_walk
          subst hPI
          refine wpAny_pyIter_list hl1 ?_
          refine wpAny_bind (wpAny_runValue ?_)
          refine set_update_ints ((Walks.list hh3 _ l hneI items).toS) s.heap.objs.size hSf ns hisz hb hval (items.size - 0) 0 _ (by omega) (Nat.zero_le _) ⟨⟨_, Heap.get?_push_size _ rfl, rfl, rfl⟩, (hl1.push _)⟩ (new _) ?hR
          case hR =>
            intro s' c' hm hc' hS'
            obtain ⟨h', tk', rfl, k1, k2⟩ := fin _ s' hm ⟨c', hS'⟩
            show wpAny _ _ _ _ _ _
            refine wpAny_pure ?_
            show wpAny _ _ (ret Value.none) _ _ _
            exact wpAny_pure ⟨rfl, h', tk', rfl, k1, k2⟩
      · cases r₂ with
        | error e => exact hr₂
        | ok fl₂ =>
          cases fl₂ with
          | ret r =>
            obtain ⟨rfl, h', tk, rfl, hS', hk'⟩ := hr₂
            repeat (any_goals (first | assumption | wp_step))
            exact h _ _ hS' hk'
          | _ => exact hr₂.elim
    | _ => exact hr.elim
end
end DlS
namespace DlS
open PySem PySem.Spec PyProof.Rows L2 DlZ
open PySem.W (EachIs)
/-- the ints, each once, sorted -/
def dd : List Int → List Int
  | [] => []
  | a :: l => if a ∈ dd l then dd l else a :: dd l
theorem mem_dd (x : Int) : ∀ ns : List Int, x ∈ dd ns ↔ x ∈ ns
  | [] => Iff.rfl
  | a :: l => by
    unfold dd
    split
    · rename_i h
      rw [List.mem_cons, mem_dd x l]
      exact ⟨.inr, fun z => z.elim (fun e => by subst e; exact (mem_dd x l).mp h) id⟩
    · rw [List.mem_cons, List.mem_cons, mem_dd x l]
theorem dd_nodup : ∀ ns : List Int, (dd ns).Nodup
  | [] => List.nodup_nil
  | a :: l => by
    unfold dd
    split
    · exact dd_nodup l
    · rename_i h
      exact List.nodup_cons.mpr ⟨h, dd_nodup l⟩
def sdI (ns : List Int) : List Int := (dd ns).mergeSort fun a b => decide (a ≤ b)
theorem sorted_uniq : ∀ {l m : List Int}, l.Pairwise (· < ·) → m.Pairwise (· < ·) → (∀ x, x ∈ l ↔ x ∈ m) → l = m
  | [], [], _, _, _ => rfl
  | [], b :: m, _, _, h => by have := (h b).mpr (by simp); cases this
  | a :: l, [], _, _, h => by have := (h a).mp (by simp); cases this
  | a :: l, b :: m, h1, h2, h => by
    obtain ⟨p1, p2⟩ := List.pairwise_cons.mp h1
    obtain ⟨q1, q2⟩ := List.pairwise_cons.mp h2
    have hab : a = b := by
      rcases List.mem_cons.mp ((h a).mp (by simp)) with e | e
      · exact e
      · rcases List.mem_cons.mp ((h b).mpr (by simp)) with e2 | e2
        · exact e2.symm
        · have := q1 a e; have := p1 b e2; omega
    subst hab
    rw [sorted_uniq p2 q2 fun x => ?_]
    constructor
    · intro hx
      rcases List.mem_cons.mp ((h x).mp (List.mem_cons_of_mem _ hx)) with e | e
      · subst e; have := p1 x hx; omega
      · exact e
    · intro hx
      rcases List.mem_cons.mp ((h x).mpr (List.mem_cons_of_mem _ hx)) with e | e
      · subst e; have := q1 x hx; omega
      · exact e
theorem sort_lt {l : List Int} (h : l.Nodup) : (l.mergeSort fun a b => decide (a ≤ b)).Pairwise (· < ·) := by
  have h1 := List.pairwise_mergeSort (le := fun a b : Int => decide (a ≤ b)) (fun a b c x y => by simp at *; omega) (fun a b => by simp; omega) l
  have h2 : (l.mergeSort fun a b => decide (a ≤ b)).Nodup := (List.mergeSort_perm _ _).nodup_iff.mpr h
  refine (h1.and h2).imp fun {a b} ⟨x, y⟩ => ?_
  simp at x
  omega
theorem sdI_lt (ns : List Int) : (sdI ns).Pairwise (· < ·) := sort_lt (dd_nodup ns)
theorem mem_sdI (ns : List Int) (x : Int) : x ∈ sdI ns ↔ x ∈ ns := by rw [sdI, List.mem_mergeSort, mem_dd]
theorem sdI_eq {ns l : List Int} (hn : l.Nodup) (h : ∀ x, x ∈ l ↔ x ∈ ns) : (l.mergeSort fun a b => decide (a ≤ b)) = sdI ns :=
  sorted_uniq (sort_lt hn) (sdI_lt ns) fun x => by rw [List.mem_mergeSort, h, mem_sdI]
end DlS
namespace DlS
open PySem PySem.Spec PyProof.Rows L2 DlZ
open PySem.W (EachIs)
def tSortI (K : PySem.W.Frag) (ta : TE) : TE := fun σ H Q => ta σ H fun x H1 => ∃ (T : Bool) (l : Addr) (ns : List Int), x = .ref l ∧ SqB T K H1 l (ns.map V.int) ∧ ns.length ≤ 4000 ∧ ∀ p, H1 p = none → Q (.ref p) (upd H1 p (.lst ((sdI ns).map V.int)))
theorem ints_each : ∀ {vs : List Value}, (∀ v ∈ vs, ∃ k t, v = Value.int k t) → EachIs (fun v b => ∃ t, v = Value.int b t) vs (vs.map L2.vInt)
  | [], _ => .nil
  | v :: vs, h => by
    obtain ⟨k, t, rfl⟩ := h v (by simp)
    exact .cons ⟨t, rfl⟩ (ints_each fun v hv => h v (by simp [hv]))
theorem each_vals : ∀ {vs : List Value} {bs : List Int}, EachIs (fun v b => ∃ t, v = Value.int b t) vs bs → Vals (bs.map V.int) vs
  | _, _, .nil => .nil
  | _, _, .cons h t => by
    obtain ⟨u, rfl⟩ := h
    exact .cons ⟨u, rfl⟩ (each_vals t)
theorem pe_sortI {X : Cx} {a : Expr} {ta : TE} {p p2 q pos : Pos} (hg : Gl X "sorted") (hm : X.mg "sorted" = none) (hb : bootBuiltins "sorted" = some (.builtin "sorted")) (hg2 : Gl X "set") (hm2 : X.mg "set" = none) (ha : PE X a ta) (hc : X.calm = true) (hu : X.A.units + 10 < cLine)
    (na : starEach [a] X.env = (false, eval a X.env) :: starEach [] X.env := by rfl) : PE X (.Call (.Name "sorted" p) [.Call (.Name "set" p2) [a] [] q] [] pos) (tSortI X.K ta) := by
  refine ⟨fun pins s σ H Q I h => ?_⟩
  refine Call_ (ld_blt I hg hm hb ?_)
  refine PyProof.Rows.callWith_builtin1 (PyProof.Rows.args_cons ?_ rfl) rfl rfl
  refine Call_ (ld_blt I hg2 hm2 PyProof.Rows.boot_set ?_)
  refine PyProof.Rows.callWith_type1 (PyProof.Rows.args_cons (thn (ha.run pins s σ H _ I h) fun v s1 ⟨x, H1, I1, r1, q1⟩ => PyProof.Rows.args_nil ?_) na) na rfl
  obtain ⟨T, l, ns, rfl, hq, hl, q1⟩ := q1
  cases r1
  obtain ⟨its, rv, pl, hz⟩ := sqB_inv I1 hq
  have hi : IntsAre its.toArray.toList ns := ints_of_vals (by simpa using rv)
  refine call_setI T ns (I1.ok.hd hc) (by cases T <;> exact pl) hi (by unfold scanBound; omega) fun h' tk hS hk => ?_
  refine PyProof.Rows.args_nil ?_
  obtain ⟨c, o, es, ep, t, ho, hex, hdt, g, nd, hm2', hbb, hf, hn, hr, hl2⟩ := hS
  have I2 : Inv X pins σ H1 { s1 with heap := h', toks := tk } := I1.kept hk
  refine Calls.call_function_entry PyProof.Rows.kind_sorted PyProof.Rows.plain_sorted PyProof.Rows.entry_sorted (PyProof.Rows.args_sorted1 _) ?_
  unfold Builtin.«sorted»
  refine wpAny_bind (m := checkCount "sorted" 1 1 _) (wpAny_pure ?_)
  refine wpAny_bind (set_collect (A := X.A.in1) (I2.ok.hd hc) ⟨o, ho, hex.1, hdt⟩ hf hbb hr hl2 fun s3 out k3 g3 o3 hp => ?_)
  have hlo : out.length ≤ sizeLine := by
    have := hp.length_eq
    simp only [List.length_map, Array.length_toList] at this
    rw [this]
    exact fits_of_scanBound hbb
  have kall : ∀ b u, s1.heap.get? b = some u → s3.heap.get? b = some u := fun b u e => k3 b u (hk b u e)
  have I3 : Inv X pins σ H1 s3 := I1.call' (ch := []) o3 (Un.kept kall) (I1.hok.kept kall) (by rw [g3]; exact I1.bare) (fun _ z => nomatch z)
  have hv : ∀ v ∈ out, ∃ k t, v = Value.int k t := fun v hv => by
    obtain ⟨e, he, ev⟩ := List.mem_map.mp (hp.mem_iff.mp hv)
    obtain ⟨kk, tt, e2, _⟩ := g e he
    exact ⟨kk, tt, ev.symm.trans e2⟩
  have hpk : (out.map L2.vInt).Perm (es.toList.map keyOf) := by
    have z := hp.map L2.vInt
    rw [List.map_map] at z
    have ee : es.toList.map (L2.vInt ∘ fun x => x.2) = es.toList.map keyOf := List.map_congr_left fun e _ => (key_vInt e).symm
    rw [ee] at z
    exact z
  have hnd : (out.map L2.vInt).Nodup := hpk.nodup_iff.mpr nd
  have hmem : ∀ j, j ∈ out.map L2.vInt ↔ j ∈ ns := fun j => by rw [hpk.mem_iff, ← hm2' j, decide_eq_true_eq]
  refine wpAny_bind (wpAny_newList ?_ hlo)
  have hoL : (s3.heap.push (PyProof.Rows.seqObj "list" out.toArray 0)).get? s3.heap.objs.size = some (PyProof.Rows.seqObj "list" out.toArray 0) := Heap.get?_push_size _ rfl
  show wpAny _ _ _ _ _ { s3 with heap := s3.heap.push (PyProof.Rows.seqObj "list" out.toArray 0) }
  have he := ints_each hv
  have lk : (out.map L2.vInt).length ≤ sizeLine := by rw [List.length_map]; exact hlo
  have al1 : PySem.W.AllAlike ((out.map L2.vInt).map PyData.int) := fun a ha b hb => by
    obtain ⟨x, _, rfl⟩ := List.mem_map.mp ha
    obtain ⟨y, _, rfl⟩ := List.mem_map.mp hb
    rfl
  have al2 : PySem.W.Sortable ((out.map L2.vInt).map PyData.int) := .inr fun d hd => by
    obtain ⟨x, _, rfl⟩ := List.mem_map.mp hd
    exact ⟨(fun z => nomatch z), fun _ z => nomatch z⟩
  refine wpAny_bind (wpAny_holding (PySem.W.list_sort_data (A := X.A.in1) (R := fun v b => ∃ t, v = Value.int b t) (enc := PyData.int) (bs := out.map L2.vInt) (s := { s3 with heap := s3.heap.push (PyProof.Rows.seqObj "list" out.toArray 0) }) hoL he (he.mono fun v b ⟨t, e⟩ => by subst e; exact ⟨[], .int _ _, fun z => nomatch z⟩) al1 al2 lk (fun b _ => by show X.A.in1.units + 1 + 0 < cLine; have : X.A.in1.units = X.A.units + 1 := rfl; omega) fun out2 hlo2 ee => ?_))
  have ems : (out.map L2.vInt).mergeSort (PySem.W.dataLe false PyData.int) = sdI ns := by
    rw [show PySem.W.dataLe false PyData.int = fun a b => decide (a ≤ b) from PySem.W.dataLe_int id]
    exact sdI_eq hnd hmem
  rw [ems] at ee
  obtain ⟨e', he'⟩ := PyProof.Rows.sortedHeap_at (vs := out) (out := out2.toArray) hoL
  have hzs : ((sdI ns).map V.int).length ≤ sizeLine := by rw [List.length_map, ← ems, List.length_mergeSort]; exact lk
  refine wpAny_pure ⟨_, rfl, .ref s3.heap.objs.size, upd H1 s3.heap.objs.size (.lst ((sdI ns).map V.int)), I3.laid (t' := s3.toks) (fun b u e => ?_) (Nat.le_refl _) (show ObjOk X.prog X.w _ _ _ (.lst _) from ⟨hzs, out2, e', each_vals ee, he'⟩), rfl, q1 _ (I3.hok.fresh (Nat.le_refl _))⟩
  have hb : b < s3.heap.objs.size := Heap.lt_size e
  rw [PyProof.Rows.sortedHeap_old (Nat.ne_of_lt hb) (by rw [PyProof.Rows.size_push']; exact Nat.lt_succ_of_lt hb)]
  exact Heap.get?_push_of_some _ e
end DlS
namespace Dl
open PySem L2 DlZ DlS
def ssOp (d : D) : Option Slot := match seqOf d with
  | some (_, ds) => match asInts ds with
    | some ns => if decide (ns.length ≤ 4000) then some (.ow (.lst ((sdI ns).map .int))) else none
    | none => none
  | none => none
section
variable {X : Cx} {W : Wc} {Ew : XK} {e a : Expr} {k : Kd} {f : EM}
theorem RpL.asInts {K : Frag} {cl : ClsT} {H : Hp} : ∀ {ds : List D} {ns : List Int} {xs : List V}, asInts ds = some ns → RpL K cl H xs ds → xs = ns.map V.int
  | [], ns, _, h, r => by cases r; cases h; rfl
  | d :: ds, ns, _, h, r => by
    cases d <;> simp only [Dl.asInts] at h <;> first | cases h | skip
    rename_i i
    obtain ⟨ms, hm, rfl⟩ := Option.map_eq_some_iff.mp h
    cases r with
    | cons r1 r2 =>
      cases r1
      rw [RpL.asInts hm r2]
      rfl
theorem pd_sortset {p p2 q pos : Pos} (ax : Ax X) (hg : Gl X "sorted") (hm : X.mg "sorted" = none) (hb : bootBuiltins "sorted" = some (.builtin "sorted")) (hg2 : Gl X "set") (hm2 : X.mg "set" = none) (ha : PE X a (tO W Ew k f))
    (na : starEach [a] X.env = (false, eval a X.env) :: starEach [] X.env := by rfl) : PE X (.Call (.Name "sorted" p) [.Call (.Name "set" p2) [a] [] q] [] pos) (tO W Ew .t (e1 k f (g1 ssOp))) :=
  PE.imp (pe_sortI hg hm hb hg2 hm2 ha ax.calm (by have := ax.un; omega) na) fun σ H Q q => by
    refine ro1 (r := fun x H1 Q => ∃ (T : Bool) (l : Addr) (ns : List Int), x = .ref l ∧ SqB T X.K H1 l (ns.map V.int) ∧ ns.length ≤ 4000 ∧ ∀ p, H1 p = none → Q (.ref p) (upd H1 p (.lst ((sdI ns).map V.int)))) (fun H0 H v s s' Q hle rd hg q => ?_) σ H Q q
    obtain ⟨d, ed, e3⟩ := g1_inv hg
    unfold ssOp at e3
    split at e3
    · rename_i T ds sa
      split at e3
      · rename_i ns hks
        split at e3
        · rename_i hl
          cases e3
          obtain ⟨pa, xs, rfl, p1, p2⟩ := rd.sq (K := X.K) hle ed sa
          have := RpL.asInts hks p2
          subst this
          refine ⟨T, pa, ns, rfl, p1, by simpa using hl, fun p hp => q _ _ _ (.newL hle hp ?_)⟩
          exact RpL.ofInts (sdI ns)
        · cases e3
      · cases e3
    · cases e3
end
end Dl
end
section
set_option maxHeartbeats 4000000
/-! list(d.values()), d a dict with tuples as keys -/
namespace DlV
open PySem PySem.Spec PyProof.Rows L2
section
variable {prog : Program} {w : World}
theorem kdl_rawV {r d : Addr} {es : Array DictEntry} {ep : Nat} : PySem.W.KdlSrc prog w "dict_values" r d es.size (fun i v => ∃ hi : i < es.size, v = es[i].val) (fun h => h.IsValuesView r d ∧ h.DictRaw d es ep) where
  type := fun _ hm => hm.1.typeIs
  there := fun _ hm => ⟨let ⟨_, ho, _⟩ := hm.1; Heap.lt_size ho, let ⟨_, ho, _⟩ := hm.2; Heap.lt_size ho⟩
  keep := fun _ _ hm hk => ⟨let ⟨o, ho, x⟩ := hm.1; ⟨o, hk r (.inl rfl) o ho, x⟩, hm.2.at fun o e => hk d (.inr rfl) o e⟩
  notList := by decide
  notTuple := by decide
  hint := fun _ _ _ _ hm hq => PySem.W.kdl_hint_values hm.1.typeIs hq
  iter := fun _ s hh hm => ⟨_, _, (fun _ _ hq => wpAny_pyIter_values_raw hm.1 hm.2 hq), Walks.rawValues hh _ d (by obtain ⟨o, ho, _⟩ := hm.2; exact Nat.ne_of_lt (Heap.lt_size ho)) es ep, ⟨⟨_, Heap.get?_push_size _ rfl, rfl, rfl⟩, hm.2.at fun o e => Heap.get?_push_of_some _ e⟩⟩
end
def tListVals (td : TE) : TE := fun σ H Q => td σ H fun x H1 => ∃ d kvs, x = V.ref d ∧ Rd H1 d (.dT kvs) ∧ ∀ p, H1 p = none → Q (.ref p) (upd H1 p (.lst (kvs.map (·.2))))
variable {X : Cx} {o : Expr} {p pos apos mpos : Pos} {td : TE}
theorem kt_vals {H : Hp} : ∀ {kvs : List (List Key × V)} {ks : List (List Key × Addr × Value)}, KT H kvs ks → Vals (kvs.map (·.2)) (ks.map fun x => x.2.2)
  | _, _, .nil => .nil
  | _, _, .cons h t => .cons h.2.2 (kt_vals t)
theorem pe_listVals (hc : X.calm = true) (hg : Gl X "list") (hm : X.mg "list" = none) (hd : PE X o td) (hbase : attributeBase o "values" X.env (eval o X.env) = eval o X.env := by rfl) (hline : (apos.endLine == mpos.line) = true := by rfl)
    (hse : starEach [Expr.Call (.Attribute o "values" apos) [] [] mpos] X.env = [(false, eval (Expr.Call (.Attribute o "values" apos) [] [] mpos) X.env)] := by rfl) :
    PE X (.Call (.Name "list" p) [.Call (.Attribute o "values" apos) [] [] mpos] [] pos) (tListVals td) := by
  refine ⟨fun pins s σ H Q I h => ?_⟩
  refine Call_ (ld_blt I hg hm PyProof.Rows.boot_list ?_)
  refine PyProof.Rows.callWith_type1 (PyProof.Rows.args_cons ?_ hse) hse rfl
  refine wpAny_Call_method0_late hbase hline (thn (hd.run pins s σ H _ I h) fun v s1 ⟨x, H1, I1, r1, d, kvs, ex, ha, q⟩ => ?_)
  subst ex
  obtain rfl : v = Value.ref d := r1
  obtain ⟨z, hs, ks, pr, ob, es, ep, ho, hx, hdt, he, hn⟩ := (show ObjOk X.prog X.w H1 s1.heap d (.dT kvs) from ha.ok I1.hok)
  have l1 : es.size = ks.length := size_of_entries he
  have l2 : kvs.length = ks.length := Paired.length pr
  refine ⟨"dict", "dict.values", F.plainAttrs_dict, F.slot_dict_values, F.type_dict_values, ⟨ob, ho, hx.1⟩, fun b e => ?_, Calls.callWith_builtin rfl (PySem.evalArgs_none ?_)⟩
  · cases e
    exact ⟨ob, ho, hx.2.1⟩
  refine call_meetsIn F.slot_dict_values ⟨ob, ho, hx.1⟩ F.entry_dict_values (F.args_dict_values_1 _) (meets_dict_values_raw d hs) ⟨⟨es, ep, ob, ho, hx, hdt⟩, ?_⟩
  refine PyProof.Rows.args_nil ?_
  have k1 : ∀ b u, s1.heap.get? b = some u → (s1.heap.push { cls := .type "dict_values", data := .fields #[.ref d] }).get? b = some u := fun b u e => Heap.get?_push_of_some _ e
  refine PySem.W.kdl_call (kdl_rawV (r := s1.heap.objs.size) (d := d) (es := es) (ep := ep)) (I1.ok.hd hc) ⟨⟨_, Heap.get?_push_size _ rfl, rfl, rfl⟩, ⟨ob, k1 _ _ ho, hx, hdt⟩⟩ (by omega) fun h' tk acc' c' kp e it => ?_
  have ea : acc'.toList = ks.map fun x => x.2.2 := by
    have hl : acc'.toList.length = ks.length := by rw [Array.length_toList, it.1]; exact l1
    apply List.ext_getElem?
    intro j
    rw [List.getElem?_map]
    cases hj : acc'.toList[j]? with
    | none =>
      have h1 := List.getElem?_eq_none_iff.mp hj
      rw [List.getElem?_eq_none (by omega)]
      all_goals rfl
    | some v =>
      obtain ⟨hi, hv⟩ := it.2 j v (by rw [← Array.getElem?_toList]; exact hj)
      have qe := entry_at he j
      rw [Array.getElem?_eq_getElem hi] at qe
      cases hb : ks[j]? with
      | none =>
        rw [hb] at qe
        exact nomatch (show some es[j] = none from qe)
      | some b =>
        rw [hb] at qe
        have e2 : es[j] = entryOfKey (tupleKind (mixKind X.prog X.w)) b := Option.some.inj qe
        rw [hv, e2]
        all_goals rfl
  have rv : Vals (kvs.map (·.2)) acc'.toList := by rw [ea]; exact kt_vals pr
  have hz : (kvs.map (·.2)).length ≤ sizeLine := by rw [List.length_map]; omega
  have hsz : (s1.heap.push { cls := .type "dict_values", data := .fields #[.ref d] }).objs.size = s1.heap.objs.size + 1 := Heap.size_push _ _
  have e' : h'.get? (s1.heap.objs.size + 1) = some { cls := .type "list", dict := none, data := .seq acc' c', slots := #[] } := by rw [← hsz]; exact e
  refine ⟨.ref (s1.heap.objs.size + 1), _, I1.laid (t' := tk) (o := .lst (kvs.map (·.2))) (fun b u e => kp b u (k1 b u e)) (Nat.le_succ _) ?_, ?_, q _ (I1.hok.fresh (Nat.le_succ _))⟩
  · refine ⟨hz, acc'.toList, c', rv, ?_⟩
    rw [Array.toArray_toList]
    exact e'
  · show Value.ref _ = Value.ref _
    rw [← hsz]
end DlV
namespace Dl
open PySem L2 DlZ DlS DlV
def lvOp (d : D) : Option Slot := match asDct d with
  | some (true, kvs) => some (.ow (.lst (kvs.map (·.2))))
  | _ => none
section
variable {X : Cx} {W : Wc} {Ew : XK} {o : Expr} {k : Kd} {f : EM} {p pos apos mpos : Pos}
theorem pd_listVals (ax : Ax X) (hg : Gl X "list") (hm : X.mg "list" = none) (h : PE X o (tO W Ew k f)) (hbase : attributeBase o "values" X.env (eval o X.env) = eval o X.env := by rfl) (hline : (apos.endLine == mpos.line) = true := by rfl)
    (hse : starEach [Expr.Call (.Attribute o "values" apos) [] [] mpos] X.env = [(false, eval (Expr.Call (.Attribute o "values" apos) [] [] mpos) X.env)] := by rfl) :
    PE X (.Call (.Name "list" p) [.Call (.Attribute o "values" apos) [] [] mpos] [] pos) (tO W Ew .t (e1 k f (g1 lvOp))) :=
  PE.imp (pe_listVals ax.calm hg hm h hbase hline hse) fun σ H Q q => by
    refine ro1 (r := fun x H1 Q => ∃ d kvs, x = V.ref d ∧ Rd H1 d (.dT kvs) ∧ ∀ p, H1 p = none → Q (.ref p) (upd H1 p (.lst (kvs.map (·.2))))) (fun H0 H v s s' Q hle rd hg q => ?_) σ H Q q
    obtain ⟨d, ed, e3⟩ := g1_inv hg
    unfold lvOp at e3
    split at e3
    · rename_i kvs ea
      cases e3
      obtain ⟨ed', hn⟩ := asDct_inv ea
      rw [ed'] at ed
      obtain ⟨l, uo, rfl, h1, ⟨l', rfl, h3, h4⟩⟩ := rd.dct hle ed hn
      exact ⟨l, l', rfl, h1, fun p hp => q _ _ _ (.newL hle hp h4)⟩
    · cases e3
end
end Dl
end
section
/-! x is True, x is None -/
namespace Dl
open PySem L2
section
variable {X : Cx} {W : Wc} {Ew : XK}
def isOp (neg : Bool) : D → D → Option Slot
  | .bool a, .bool b => some (.fz (.bool (neg != decide (a = b))))
  | _, _ => none
theorem og_is (ax : Ax X) (hK : X.K = W.K) : OpR X (compareOp .Is) (rG2 W (g2 (isOp false))) := og2_data hK fun pins s σ H H0 x y v u Q s1 s2 s' a b I rx ry hle r1 r2 e1 e2 e3 q => by
  cases a <;> cases b <;> simp only [isOp] at e3 <;> first | cases e3 | skip
  have h1 := (r1.rp hle e1)
  have h2 := (r2.rp hle e2)
  cases h1
  cases h2
  refine op_isBl pins s σ H _ _ v u Q I rx ry ⟨_, _, rfl, rfl, q _ _ _ (.atom hle ?_)⟩
  simp only [Bool.false_bne]
  exact .bl _
theorem og_isnot (ax : Ax X) (hK : X.K = W.K) : OpR X (compareOp .IsNot) (rG2 W (g2 (isOp true))) := og2_data hK fun pins s σ H H0 x y v u Q s1 s2 s' a b I rx ry hle r1 r2 e1 e2 e3 q => by
  cases a <;> cases b <;> simp only [isOp] at e3 <;> first | cases e3 | skip
  have h1 := (r1.rp hle e1)
  have h2 := (r2.rp hle e2)
  cases h1
  cases h2
  refine op_notBl pins s σ H _ _ v u Q I rx ry ⟨_, _, rfl, rfl, q _ _ _ (.atom hle ?_)⟩
  simp only [Bool.true_bne]
  exact .bl _
end
end Dl
end
section
set_option maxHeartbeats 4000000
/-! dict(pairs) with tuples as keys, list(d) of such a dict -/
namespace DlZ
open PySem PySem.Spec PyProof.Rows L2
section
variable {X : Cx}
/-- a pair of the list: its own place, the key, the key's place, the value -/
abbrev PrT := Addr × List Key × Addr × V
theorem tup2_obj {pins : List (Addr × Obj)} {σ : L2.St} {H : Hp} {s : Shared} {a b : Addr} {v : V} (I : Inv X pins σ H s) (h : H a = some (.tup [V.ref b, v])) : ∃ u, RelV v u ∧ s.heap.IsTuple a #[.ref b, u] := by
  obtain ⟨_, its, r, p⟩ := (show ObjOk X.prog X.w H s.heap a (.tup [V.ref b, v]) from I.hok a _ h)
  cases r with
  | cons r1 r =>
    cases r with
    | cons r2 r =>
      cases r
      cases r1
      exact ⟨_, r2, p⟩
theorem pairs_obj {pins : List (Addr × Obj)} {σ : L2.St} {H : Hp} {s : Shared} (I : Inv X pins σ H s) : ∀ {bs : List PrT}, (∀ e ∈ bs, H e.1 = some (.tup [V.ref e.2.2.1, e.2.2.2])) →
    ∃ us : List Value, Vals (bs.map fun e => e.2.2.2) us ∧ ∀ (j : Nat) (e : PrT) (u : Value), bs[j]? = some e → us[j]? = some u → s.heap.IsTuple e.1 #[.ref e.2.2.1, u]
  | [], _ => ⟨[], .nil, fun j e u h => by simp at h⟩
  | e :: bs, h => by
    obtain ⟨us, h1, h2⟩ := pairs_obj I (bs := bs) fun x hx => h x (List.mem_cons_of_mem _ hx)
    obtain ⟨u, h3, h4⟩ := tup2_obj I (h e List.mem_cons_self)
    refine ⟨u :: us, .cons h3 h1, fun j e' u' hj hu => ?_⟩
    cases j with
    | zero => simp at hj hu; subst hj hu; exact h4
    | succ j => simp at hj hu; exact h2 j e' u' hj hu
theorem kt_prs {H : Hp} : ∀ {bs : List PrT} {ws : List Value}, Vals (bs.map fun e => e.2.2.2) ws → (∀ e ∈ bs, H e.2.2.1 = some (.tup (e.2.1.map kV))) → KT H (bs.map fun e => (e.2.1, e.2.2.2)) (List.zipWith (fun (e : PrT) u => (e.2.1, e.2.2.1, u)) bs ws)
  | [], _, .nil, _ => .nil
  | e :: bs, _, .cons r1 r2, h => .cons ⟨rfl, h e List.mem_cons_self, r1⟩ (kt_prs r2 fun x hx => h x (List.mem_cons_of_mem _ hx))
theorem call_dict_prs (hc : X.calm = true) (hu : X.A.units + 200 < cLine) : CallR X (.type "dict") (fun xs H Q => ∃ (l : Addr) (bs : List PrT), xs = [V.ref l] ∧ SqL X.K H l (bs.map fun e => V.ref e.1) ∧ (∀ e ∈ bs, H e.1 = some (.tup [V.ref e.2.2.1, e.2.2.2])) ∧
    (∀ e ∈ bs, H e.2.2.1 = some (.tup (e.2.1.map kV))) ∧ ∀ p, H p = none → Q (.ref p) (upd H p (.dT (putAll (bs.map fun e => (e.2.1, e.2.2.2)))))) := by
  intro pins s σ H xs us Q I r h
  obtain ⟨l, bs, rfl, hl, hp, hk, q⟩ := h
  obtain ⟨u, rfl, rx⟩ := r.one
  cases rx
  obtain ⟨its, rv, pl, hz⟩ := I.list hl
  obtain ⟨ws, rw', hw⟩ := pairs_obj I hp
  have l1 : its.length = bs.length := by have := rv.length; simpa using this.symm
  have l2 : ws.length = bs.length := by have := rw'.length; simpa using this.symm
  have keys : ∀ e ∈ bs, (tupleKind (mixKind X.prog X.w)).is s.heap e.2.1 e.2.2.1 := fun e he => key_of I.hok (hk e he)
  have hps : ∀ (j : Nat) (k v : Value), (List.zipWith (fun (e : PrT) u => (Value.ref e.2.2.1, u)) bs ws)[j]? = some (k, v) → ∃ e, bs[j]? = some e ∧ k = .ref e.2.2.1 ∧ ws[j]? = some v := fun j k v hj => by
    rw [List.getElem?_zipWith] at hj
    cases h1 : bs[j]? with
    | none => rw [h1] at hj; cases hj
    | some e =>
      cases h2 : ws[j]? with
      | none => rw [h1, h2] at hj; cases hj
      | some u =>
        rw [h1, h2] at hj
        cases hj
        exact ⟨e, rfl, rfl, rfl⟩
  obtain ⟨o, n, e1, e2, e3, e4⟩ := pl
  refine call_dict_pairsH (knd := tupleKind (mixKind X.prog X.w)) (ps := List.zipWith (fun (e : PrT) u => (e.2.1, e.2.2.1, u)) bs ws)
    (PairArg.list l its.toArray (fun j => (bs.map (·.1)).getD j 0) (List.zipWith (fun (e : PrT) u => (Value.ref e.2.2.1, u)) bs ws))
    (I.ok.hd hc) (tupleKind_room_in1 (A := X.A.in1) (by show X.A.units + 1 + 1 < cLine; omega)) ⟨⟨o, n, e1, e2, e3, e4⟩, ?_, ?_⟩ ?_ ?_ ?_ fun h2' tk hd' hk' => ?_
  · simp [l1, l2]
  · intro j k v hj
    obtain ⟨e, h1, rfl, h3⟩ := hps j k v hj
    have h4 : (bs.map (·.1))[j]? = some e.1 := by rw [List.getElem?_map, h1]; rfl
    have h5 : (bs.map (·.1)).getD j 0 = e.1 := by rw [List.getD_eq_getElem?_getD, h4]; rfl
    simp only [h5]
    refine ⟨?_, .inl (hw j e v h1 h3)⟩
    have h6 : (bs.map fun e => V.ref e.1)[j]? = some (V.ref e.1) := by rw [List.getElem?_map, h1]; rfl
    obtain ⟨u', hu', r'⟩ := rv.get h6
    cases r'
    simpa using hu'
  · refine ⟨by simp [l2], fun i key v hr => ?_⟩
    obtain ⟨e, h1, rfl, h3⟩ := hps i key v hr
    refine ⟨e.2.1, e.2.2.1, ?_, rfl⟩
    rw [List.getElem?_zipWith, h1, h3]
  · intro h3 hk3 x hx
    obtain ⟨i, hi, rfl⟩ := List.getElem_of_mem hx
    have hi' : i < min bs.length ws.length := by simpa using hi
    simp only [List.getElem_zipWith]
    obtain ⟨o, is, n, k1, k2, k3, k4⟩ := keys (bs[i]'(by omega)) (List.getElem_mem _)
    exact ⟨o, is, n, hk3 _ _ (Nat.ne_of_lt (Heap.lt_size k1)) (fun z => nomatch z) k1, k2, k3, k4⟩
  · simp only [List.length_zipWith, List.length_map] at hz ⊢
    omega
  · obtain ⟨o, es, ep, ho, hx, hdt, he, his, hn⟩ := hd'
    have hf : H s.heap.objs.size = none := I.hok.fresh (Nat.le_refl _)
    have kz := kt_prs rw' hk
    have kt : KT H (putAll (bs.map fun e => (e.2.1, e.2.2.2))) (storedAllH [] (List.zipWith (fun (e : PrT) u => (e.2.1, e.2.2.1, u)) bs ws)) := kt_all (acc := []) (acc' := []) .nil kz
    refine ⟨.ref s.heap.objs.size, upd H s.heap.objs.size (.dT (putAll (bs.map fun e => (e.2.1, e.2.2.2)))), I.laid (t' := tk) (fun b o e => hk' b o (fun z => nomatch z) e) (Nat.le_refl _) ⟨?_, ?_, _, kt.keeps fun c zs ec => ?_, o, es, ep, ho, hx, hdt, he, hn⟩, rfl, q _ hf⟩
    · refine Nat.le_trans (putAll_len _ []) ?_
      simp only [List.length_nil, List.length_map] at hz ⊢
      omega
    · exact beq_eq_false_iff_ne.mpr (by show s.heap.objs.size ≠ sysModules; exact Nat.ne_of_gt I.big)
    · rw [upd_ne (ne_of_none ec hf)]
      exact ec
end
end DlZ
namespace Dl
open PySem L2 DlZ DlS DlV
def pairsOf : List D → Option (List (D × D))
  | [] => some []
  | .tuple [k, v] :: r => (pairsOf r).map ((k, v) :: ·)
  | _ => none
def dpOp : D → Option Slot
  | .list ds => match pairsOf ds with
    | some ps => if isKeys (ps.map (·.1)) then some (.ow (.dct true (dPutAll ps))) else none
    | none => none
  | _ => none
def lkOp (d : D) : Option Slot := match asDct d with
  | some (true, kvs) => some (.ow (.lst (kvs.map (·.1))))
  | _ => none
section
variable {X : Cx} {W : Wc} {Ew : XK} {H0 H : Hp}
theorem RpL.prs : ∀ {ds : List D} {xs : List V} {ps : List (D × D)}, RpL W.K W.cl H0 xs ds → pairsOf ds = some ps → isKeys (ps.map (·.1)) = true →
    ∃ bs : List PrT, xs = bs.map (fun e => V.ref e.1) ∧ ps.map (·.1) = bs.map (fun e => keysD e.2.1) ∧ RpL W.K W.cl H0 (bs.map fun e => e.2.2.2) (ps.map (·.2)) ∧ (∀ e ∈ bs, H0 e.1 = some (.tup [V.ref e.2.2.1, e.2.2.2])) ∧ ∀ e ∈ bs, H0 e.2.2.1 = some (.tup (e.2.1.map kV))
  | [], _, ps, h, hp, _ => by
    cases h; cases hp
    exact ⟨[], rfl, rfl, .nil, (by simp), (by simp)⟩
  | d :: ds, _, ps, h, hp, hk => by
    unfold pairsOf at hp
    split at hp
    · rename_i heq; cases heq
    · rename_i k v r heq
      cases heq
      cases hq : pairsOf ds with
      | none => rw [hq] at hp; cases hp
      | some qs =>
        rw [hq] at hp
        cases hp
        cases h with
        | cons h1 h2 =>
          simp only [List.map_cons, isKeys, Bool.and_eq_true] at hk
          obtain ⟨bs, rfl, p1, p2, p3, p4⟩ := RpL.prs h2 hq hk.2
          cases h1 with
          | @tup c ys _ e r =>
            cases r with
            | cons r1 r =>
              cases r with
              | cons r2 r =>
                cases r
                obtain ⟨b1, f1, f2, f3⟩ := RpL.keysT (W := W) (ds := [k]) (.cons r1 .nil) (by simp [isKeys, hk.1])
                match b1, f1, f2, f3 with
                | [(key, a)], f1, f2, f3 =>
                  simp only [List.map_cons, List.map_nil, List.cons.injEq, and_true] at f1 f2
                  subst f1 f2
                  refine ⟨(c, key, a, _) :: bs, rfl, by simp [p1], .cons r2 p2, fun x hx => ?_, fun x hx => ?_⟩
                  · rcases List.mem_cons.mp hx with rfl | hx
                    · exact e
                    · exact p3 x hx
                  · rcases List.mem_cons.mp hx with rfl | hx
                    · exact f3 _ List.mem_cons_self
                    · exact p4 x hx
    · cases hp
theorem og_dictP (ax : Ax X) (hK : X.K = W.K) : CallR X (.type "dict") (rGN W (gN1 dpOp)) := ogN1 fun pins s σ H H0 x us Q s1 s' a I r hle r1 e1 e3 q => by
  cases a <;> simp only [dpOp] at e3 <;> first | cases e3 | skip
  rename_i ds
  cases hp : pairsOf ds with
  | none => rw [hp] at e3; cases e3
  | some ps =>
    rw [hp] at e3
    simp only at e3
    split at e3
    · rename_i hk
      cases e3
      obtain ⟨l, xs, rfl, h1, p1⟩ := r1.lst hle e1
      obtain ⟨bs, rfl, f1, f2, f3, f4⟩ := RpL.prs p1 hp hk
      have g3 : ∀ e ∈ bs, H e.1 = some (.tup [V.ref e.2.2.1, e.2.2.2]) := fun e he => hle.tup (f3 e he)
      have g4 : ∀ e ∈ bs, H e.2.2.1 = some (.tup (e.2.1.map kV)) := fun e he => hle.tup (f4 e he)
      refine call_dict_prs ax.calm ax.un pins s σ H _ us Q I r ⟨l, bs, rfl, .inl h1, g3, g4, fun p hp' => q _ _ H0 ?_⟩
      obtain ⟨k1, k2⟩ := putAll_ok (W := W) (H0 := H0) (acc := []) (acc' := []) (l := bs.map fun e => (e.2.1, e.2.2.2)) (m := ps) rfl .nil (by rw [f1, List.map_map]; rfl) (by rw [List.map_map]; exact f2)
      exact Res.newDT hle hp' k1 k2
    · cases e3
theorem og_listD (ax : Ax X) (hK : X.K = W.K) : CallR X (.type "list") (rGN W (gN1 lkOp)) := ogN1 fun pins s σ H H0 x us Q s1 s' a I r hle r1 e1 e3 q => by
  unfold lkOp at e3
  split at e3
  · rename_i kvs ea
    cases e3
    obtain ⟨ed, hn⟩ := asDct_inv ea
    rw [ed] at e1
    obtain ⟨l, uo, rfl, h1, ⟨l', rfl, h3, h4⟩⟩ := r1.dct hle e1 hn
    refine call_list_dT ax.calm pins s σ H _ us Q I r ⟨l, l', rfl, h1, fun p bs hp hb => ?_⟩
    have := isKeys_rp (W := W) hle hb
    rw [← h3] at this
    exact q _ _ _ (Res.newA hle hp this)
  · cases e3
/-- a block that is never walked -/
theorem pd_neverS {sts : List Stmt} : PSs X sts (tS W Ew sNo) := PSs.imp pss_never fun D σ H ⟨ts, tss, ρ, w, q⟩ => q
end
end Dl
end
section
set_option maxHeartbeats 4000000
namespace K66
open PySem L2 Dl DlZ DlS DlV
/-! the evaluators of the defs (printed by walk.py) -/
noncomputable def b_is_integer : SM :=
  (sRt (eAnd (.t) (eIsi (.n 0) (eN 0) "int") (eNot (.t) (eIsi (.n 0) (eN 0) "bool"))))
noncomputable def F_is_integer : List Slot → FOut := runF 1 [true] b_is_integer
noncomputable def b_is_name : SM :=
  (sSeq (sIf (bOr (bNot (bV (.t) (eIsi (.n 0) (eN 0) "str"))) (bOr (bNot (bV .t (eCh (.t) (.t) (.t) (eC (.int 0)) (eB [(.n 0, (eN 0))] (gN1 lenOp)) (eC (.int 8)) (g2 ltOp) (g2 leOp)))) (bV .t (e2 (.t) (.t) (e2 (.n 0) (.t) (eN 0) (eC (.int 0)) (g2 ixOp)) (eC (.str "abcdefghijklmnopqrstuvwxyz")) (g2 (inOpD true)))))) (sRt (eC (.bool false))) sNx)
  (sRt (eB [(.t, (eLc [1] (iSeq (.n 0) (eN 0)) (tgN 1) tYesD (eOr (.t) (e2 (.n 1) (.t) (eN 1) (eC (.str "abcdefghijklmnopqrstuvwxyz")) (g2 (inOpD false))) (e2 (.n 1) (.t) (eN 1) (eC (.str "0123456789")) (g2 (inOpD false))))))] (gN1 allOp))))
noncomputable def F_is_name : List Slot → FOut := runF 2 [true] b_is_name
noncomputable def b_is_ascending : SM :=
  (sRt (eB [(.t, (eLc [1, 2] (iZp (.n 0) (.t) (eN 0) (eSl (.n 0) (eN 0) (pS (.t) (eC (.int 1))) pN)) (tgT 2 (tgCons (tgN 1) (tgCons (tgN 2) tgNil))) tYesD (e2 (.n 1) (.n 2) (eN 1) (eN 2) (g2 ltOp))))] (gN1 allOp)))
noncomputable def F_is_ascending : List Slot → FOut := runF 3 [true] b_is_ascending
noncomputable def b_is_behind : SM :=
  (sRt (eAnd (.t) (e2 (.t) (.t) (e2 (.n 0) (.t) (eN 0) (eC (.int 0)) (g2 ixOp)) (e2 (.n 1) (.t) (eN 1) (eC (.int 0)) (g2 ixOp)) (g2 ltOp)) (e2 (.t) (.t) (e2 (.n 0) (.t) (eN 0) (eC (.int 1)) (g2 ixOp)) (e2 (.n 1) (.t) (eN 1) (eC (.int 1)) (g2 ixOp)) (g2 ltOp))))
noncomputable def F_is_behind : List Slot → FOut := runF 2 [true, true] b_is_behind
noncomputable def b__law_pot : SM :=
  (sSeq (sSet 2 (eIf (bV .t (e2 (.n 1) (.t) (eN 1) (eB [(.n 0, (eN 0))] (gN1 lenOp)) (g2 ltOp))) (e2 (.n 0) (.n 1) (eN 0) (eN 1) (g2 ixOp)) (e2 (.t) (.t) (e2 (.t) (.t) (e2 (.t) (.t) (eB [(.t, (eSl (.n 0) (eN 0) pN (pS (.t) (eC (.int 1)))))] (gN1 sumOp)) (eC (.int 1000003)) (g2 modOp)) (e2 (.t) (.n 1) (eC (.int 5283)) (eN 1) (g2 mulOp)) (g2 addOp)) (eC (.int 2249)) (g2 addOp))))
  (sSeq (sSet 3 (e2 (.t) (.t) (e2 (.t) (.t) (eB [(.t, (eB [(.n 2, (eN 2))] (gN1 absOp)))] (gN1 intOf)) (e2 (.t) (.t) (e2 (.t) (.t) (eC (.int 10)) (eC (.int 60)) (g2 powOp)) (eC (.int 5)) (g2 powOp)) (g2 modOp)) (eB [(.t, (e2 (.t) (.t) (eB [(.n 2, (eN 2))] (gN1 absOp)) (e2 (.t) (.t) (eC (.int 10)) (eC (.int 18)) (g2 powOp)) (g2 geOp)))] (gN1 intOf)) (g2 mulOp)))
  (sSeq (sSet 4 (e2 (.t) (.t) (eB [(.n 2, (eN 2))] (gN1 intOf)) (eC (.int 2305843009213693951)) (g2 modOp)))
  (sRt (eB [(.t, (eX 3)), (.t, (e2 (.t) (.t) (eB [(.t, (e2 (.t) (.t) (e2 (.t) (.t) (e2 (.n 4) (.t) (eN 4) (eC (.int 77769)) (g2 mulOp)) (e2 (.t) (.n 1) (e2 (.t) (.n 1) (eC (.int 10499)) (eN 1) (g2 mulOp)) (eN 1) (g2 mulOp)) (g2 addOp)) (eC (.int 2027)) (g2 addOp)))] (gN1 intOf)) (eC (.int 2305843009213693921)) (g2 modOp))), (.t, (eC (.int 0)))] lstG)))))
noncomputable def F__law_pot : List Slot → FOut := runF 5 [true, true] b__law_pot
noncomputable def b__law_take : SM :=
  (sSeq (sIf (bV .t (e2 (.t) (.t) (e2 (.n 0) (.t) (eN 0) (eC (.int 0)) (g2 ixOp)) (eC (.int 0)) (g2 gtOp))) (sSeq (sSet 4 (e2 (.t) (.n 1) (eB [(.t, (e2 (.n 0) (.t) (eN 0) (eC (.int 0)) (g2 ixOp)))] (gN1 intOf)) (eN 1) (g2 modOp)))
  (sSeq (sSto 0 (e2 (.t) (.n 1) (e2 (.n 0) (.t) (eN 0) (eC (.int 0)) (g2 ixOp)) (eN 1) (g2 fdivOp)) (eC (.int 0)))
  (sRt (eM 4)))) sNx)
  (sSeq (sSto 0 (e2 (.t) (.t) (e2 (.n 0) (.t) (eN 0) (eC (.int 2)) (g2 ixOp)) (eC (.int 1)) (g2 addOp)) (eC (.int 2)))
  (sSeq (sSet 2 (e2 (.t) (.t) (eB [(.t, (eC (.int 2147483647))), (.t, (eC (.int 2147483629))), (.t, (eC (.int 2147483587))), (.t, (eC (.int 2147483579))), (.t, (eC (.int 2147483563)))] lstG) (e2 (.t) (.t) (eB [(.t, (e2 (.n 0) (.t) (eN 0) (eC (.int 2)) (g2 ixOp)))] (gN1 intOf)) (eC (.int 5)) (g2 modOp)) (g2 ixOp)))
  (sSeq (sSet 3 (e2 (.t) (.n 2) (eB [(.t, (e2 (.t) (.t) (eB [(.t, (e2 (.t) (.t) (e2 (.t) (.t) (e2 (.n 0) (.t) (eN 0) (eC (.int 1)) (g2 ixOp)) (e2 (.t) (.t) (e2 (.t) (.t) (eC (.int 99521)) (e2 (.n 0) (.t) (eN 0) (eC (.int 2)) (g2 ixOp)) (g2 mulOp)) (e2 (.n 0) (.t) (eN 0) (eC (.int 2)) (g2 ixOp)) (g2 mulOp)) (g2 addOp)) (eC (.int 1261)) (g2 addOp)))] (gN1 intOf)) (eC (.int 3)) (g2 powOp)))] (gN1 intOf)) (eN 2) (g2 modOp)))
  (sSeq (sSet 3 (e2 (.t) (.t) (eB [(.t, (e2 (.n 3) (.t) (eN 3) (e2 (.t) (.t) (e2 (.t) (.t) (eB [(.n 3, (eN 3))] (gN1 intOf)) (eC (.int 12963)) (g2 modOp)) (e2 (.t) (.t) (eC (.int 1091)) (e2 (.n 0) (.t) (eN 0) (eC (.int 2)) (g2 ixOp)) (g2 mulOp)) (g2 addOp)) (g2 mulOp)))] (gN1 intOf)) (eC (.int 2305843009213693907)) (g2 modOp)))
  (sRt (e2 (.t) (.n 1) (eB [(.t, (e2 (.n 3) (.t) (eN 3) (eC (.int 1849)) (g2 fdivOp)))] (gN1 intOf)) (eN 1) (g2 modOp))))))))
noncomputable def F__law_take : List Slot → FOut := runF 5 [true, true] b__law_take
noncomputable def b__law_cells : SM :=
  (sRt (e1 (.t) (eB [(.t, (eC (.int 1))), (.t, (eB [(.n 1, (eN 1)), (.t, (eB [(.n 0, (eN 0))] (gN1 lenOp)))] (gN2 min2Op)))] (gN2 max2Op)) (g1 lrOp)))
noncomputable def F__law_cells : List Slot → FOut := runF 2 [true, true] b__law_cells
noncomputable def b__law_agree : SM :=
  (sRt (eOr (.t) (eAnd (.t) (e2 (.t) (.t) (e2 (.n 0) (.t) (eN 0) (eC (.int 0)) (g2 ixOp)) (e2 (.n 1) (.t) (eN 1) (eC (.int 0)) (g2 ixOp)) (g2 ltOp)) (e2 (.t) (.t) (e2 (.n 0) (.t) (eN 0) (eC (.int 1)) (g2 ixOp)) (e2 (.n 1) (.t) (eN 1) (eC (.int 1)) (g2 ixOp)) (g2 ltOp))) (eAnd (.t) (e2 (.t) (.t) (e2 (.n 0) (.t) (eN 0) (eC (.int 0)) (g2 ixOp)) (e2 (.n 1) (.t) (eN 1) (eC (.int 0)) (g2 ixOp)) (g2 gtOp)) (e2 (.t) (.t) (e2 (.n 0) (.t) (eN 0) (eC (.int 1)) (g2 ixOp)) (e2 (.n 1) (.t) (eN 1) (eC (.int 1)) (g2 ixOp)) (g2 gtOp)))))
noncomputable def F__law_agree : List Slot → FOut := runF 2 [true, true] b__law_agree
noncomputable def b__law_weight : SM :=
  (sRt (eB [(.t, (eLc [1] (iSeq (.n 0) (eN 0)) (tgN 1) tYesD (e2 (.n 1) (.t) (eN 1) (eC (.int 2)) (g2 ixOp))))] (gN1 sumOp)))
noncomputable def F__law_weight : List Slot → FOut := runF 2 [true] b__law_weight
noncomputable def b__law_is_like : SM :=
  (sSeq (sIf (bNot (bV (.t) (eIsi (.n 1) (eN 1) "tuple"))) (sRt (eC (.bool false))) sNx)
  (sSeq (sIf (bNot (bV (.t) (eB [(.t, (eLc [2] (iSeq (.n 1) (eN 1)) (tgN 2) tYesD (eAnd (.t) (eIsi (.n 2) (eN 2) "int") (eNot (.t) (eIsi (.n 2) (eN 2) "bool")))))] (gN1 allOp)))) (sRt (eC (.bool false))) sNx)
  (sRt (e2 (.n 1) (.n 0) (eN 1) (eN 0) (g2 (inOpD false))))))
noncomputable def F__law_is_like : List Slot → FOut := runF 3 [true, true] b__law_is_like
noncomputable def b_is_between : SM :=
  (sRt (eAnd (.t) (eCall [(.t, (eX 0))] F_is_integer) (eCh (.n 1) (.n 0) (.n 2) (eN 1) (eN 0) (eN 2) (g2 leOp) (g2 leOp))))
noncomputable def F_is_between : List Slot → FOut := runF 3 [true, true, true] b_is_between
noncomputable def b_is_core : SM :=
  (sSeq (sIf (bOr (bNot (bV (.t) (eIsi (.n 0) (eN 0) "tuple"))) (bOr (bNot (bV .t (eCh (.t) (.t) (.t) (eC (.int 1)) (eB [(.n 0, (eN 0))] (gN1 lenOp)) (eC (.int 24)) (g2 leOp) (g2 leOp)))) (bNot (bV (.t) (eB [(.t, (eLc [1] (iSeq (.n 0) (eN 0)) (tgN 1) tYesD (eCall [(.t, (eX 1))] F_is_name)))] (gN1 allOp)))))) (sRt (eC (.bool false))) sNx)
  (sRt (e2 (.t) (.t) (e1 (.n 0) (eN 0) (g1 lsOp)) (eB [(.n 0, (eN 0))] (gN1 lenOp)) (g2 eqOp))))
noncomputable def F_is_core : List Slot → FOut := runF 2 [true] b_is_core
noncomputable def b_do_agree : SM :=
  (sRt (eOr (.t) (eCall [(.t, (eX 0)), (.t, (eX 1))] F_is_behind) (eFz (eCall [(.t, (eX 1)), (.t, (eX 0))] F_is_behind))))
noncomputable def F_do_agree : List Slot → FOut := runF 2 [true, true] b_do_agree
noncomputable def b_heights : SM :=
  (sSeq (sSet 1 (eB [] lstG))
  (sSeq (sFor (iSeq (.t) (eX 0)) (tgN 2) (sSeq (sSet 3 (eLc [4, 5] (iZp (.n 0) (.n 1) (eN 0) (eN 1)) (tgT 2 (tgCons (tgN 4) (tgCons (tgN 5) tgNil))) (bV (.t) (eCall [(.t, (eX 4)), (.t, (eX 2))] F_is_behind)) (eX 5)))
  (sDrop (eApp 1 (e2 (.t) (.t) (e2 (.n 2) (.t) (eN 2) (eC (.int 2)) (g2 ixOp)) (eB [(.t, (e2 (.t) (.n 3) (eB [(.t, (eC (.int 0)))] lstG) (eN 3) (g2 addOp)))] (gN1 max1Op)) (g2 addOp))))))
  (sRt (eM 1))))
noncomputable def F_heights : List Slot → FOut := runF 6 [true] b_heights
noncomputable def b_depths : SM :=
  (sSeq (sSet 1 (eDct true))
  (sSeq (sFor (iSeq (.t) (eFz (e1 (.n 0) (eN 0) (g1 revOp)))) (tgN 2) (sSeq (sSet 3 (eLcD [4] 1 (tgN 4) (bV (.t) (eCall [(.t, (eX 2)), (.t, (eX 4))] F_is_behind)) (e2 (.n 1) (.n 4) (eN 1) (eN 4) (g2 ixOp))))
  (sSto 1 (e2 (.t) (.t) (e2 (.n 2) (.t) (eN 2) (eC (.int 2)) (g2 ixOp)) (eB [(.t, (e2 (.t) (.n 3) (eB [(.t, (eC (.int 0)))] lstG) (eN 3) (g2 addOp)))] (gN1 max1Op)) (g2 addOp)) (eX 2))))
  (sRt (eLc [2] (iSeq (.n 0) (eN 0)) (tgN 2) tYesD (e2 (.n 1) (.n 2) (eN 1) (eN 2) (g2 ixOp))))))
noncomputable def F_depths : List Slot → FOut := runF 5 [true] b_depths
noncomputable def b_is_one_of : SM :=
  (sSeq (sIf (bOr (bNot (bV (.t) (eIsi (.n 1) (eN 1) "tuple"))) (bNot (bV (.t) (eB [(.t, (eLc [2] (iSeq (.n 1) (eN 1)) (tgN 2) tYesD (eCall [(.t, (eX 2))] F_is_integer)))] (gN1 allOp))))) (sRt (eC (.bool false))) sNx)
  (sRt (e2 (.n 1) (.n 0) (eN 1) (eN 0) (g2 (inOpD false)))))
noncomputable def F_is_one_of : List Slot → FOut := runF 3 [true, true] b_is_one_of
noncomputable def b__law_of : SM :=
  (sRt (e2 (.n 1) (.t) (eN 1) (eCall [(.n 0, (eN 0)), (.t, (eB [(.n 1, (eN 1))] (gN1 lenOp)))] F__law_take) (g2 ixOp)))
noncomputable def F__law_of : List Slot → FOut := runF 2 [true, true] b__law_of
noncomputable def b__law_some : SM :=
  (sSeq (sPar [4, 5] [(.t, (eB [(.n 1, (eN 1))] (gN1 listOp))), (.t, (eB [] lstG))])
  (sSeq (sFor (iRg (eX 2)) (tgN 3) (sDrop (eApp 5 (ePop 4 (eCall [(.n 0, (eN 0)), (.t, (eB [(.n 4, (eN 4))] (gN1 lenOp)))] F__law_take)))))
  (sRt (eM 5))))
noncomputable def F__law_some : List Slot → FOut := runF 6 [true, true, true] b__law_some
noncomputable def b__law_likes : SM :=
  (sSeq (sSet 4 (eDct true))
  (sSeq (sFor (iRg (eX 2)) (tgN 5) (sSeq (sSet 6 (eB [(.t, (eB [(.t, (eCall [(.n 0, (eN 0)), (.t, (eB [(.t, (e2 (.n 1) (.t) (eN 1) (eC (.int 0)) (g2 ixOp)))] (gN1 lenOp)))] F__law_take))] (gN1 intOf))), (.t, (eB [(.t, (eCall [(.n 0, (eN 0)), (.t, (eB [(.t, (e2 (.n 1) (.t) (eN 1) (eC (.int 1)) (g2 ixOp)))] (gN1 lenOp)))] F__law_take))] (gN1 intOf)))] tupG))
  (sSto 4 (eB [(.t, (e2 (.t) (.t) (eC (.int 1)) (eCall [(.n 0, (eN 0)), (.t, (eX 3))] F__law_take) (g2 addOp)))] (gN1 intOf)) (eX 6))))
  (sRt (eB [(.t, (eLc [6] (iSeq (.t) (eB [(.n 4, (eN 4))] (gN1 sortedOp2))) (tgN 6) tYesD (e2 (.n 6) (.t) (eN 6) (eB [(.t, (e2 (.n 4) (.n 6) (eN 4) (eN 6) (g2 ixOp)))] tupG) (g2 addOp))))] (gN1 tupleOp)))))
noncomputable def F__law_likes : List Slot → FOut := runF 7 [true, true, true, true] b__law_likes
noncomputable def b__law_matches : SM :=
  (sSeq (sSet 1 (eB [(.t, (eB [] tupG))] lstG))
  (sSeq (sFor (iSeq (.t) (eX 0)) (tgN 2) (sSet 1 (e2 (.n 1) (.t) (eN 1) (eLc [3] (iSeq (.n 1) (eN 1)) (tgN 3) (bV (.t) (eB [(.t, (eLc [4] (iSeq (.n 3) (eN 3)) (tgN 4) tYesD (eCall [(.t, (eX 4)), (.t, (eX 2))] F__law_agree)))] (gN1 allOp))) (e2 (.n 3) (.t) (eN 3) (eB [(.t, (eX 2))] tupG) (g2 addOp))) (g2 addOp))))
  (sRt (eM 1))))
noncomputable def F__law_matches : List Slot → FOut := runF 5 [true] b__law_matches
noncomputable def b__law_is_match : SM :=
  (sSeq (sIf (bOr (bNot (bV (.t) (eIsi (.n 1) (eN 1) "tuple"))) (bNot (bV (.t) (eB [(.t, (eLc [2] (iSeq (.n 1) (eN 1)) (tgN 2) tYesD (eCall [(.t, (eX 0)), (.t, (eX 2))] F__law_is_like)))] (gN1 allOp))))) (sRt (eC (.bool false))) sNx)
  (sRt (eB [(.t, (eLc [2, 3] (iZp (.n 1) (.t) (eN 1) (eSl (.n 1) (eN 1) (pS (.t) (eC (.int 1))) pN)) (tgT 2 (tgCons (tgN 2) (tgCons (tgN 3) tgNil))) tYesD (eAnd (.t) (e2 (.t) (.t) (e2 (.n 2) (.t) (eN 2) (eC (.int 0)) (g2 ixOp)) (e2 (.n 3) (.t) (eN 3) (eC (.int 0)) (g2 ixOp)) (g2 ltOp)) (e2 (.t) (.t) (e2 (.n 2) (.t) (eN 2) (eC (.int 1)) (g2 ixOp)) (e2 (.n 3) (.t) (eN 3) (eC (.int 1)) (g2 ixOp)) (g2 ltOp)))))] (gN1 allOp))))
noncomputable def F__law_is_match : List Slot → FOut := runF 4 [true, true] b__law_is_match
noncomputable def b__law_is_count : SM :=
  (sSeq (sIf (bOr (bNot (bV (.t) (eIsi (.n 1) (eN 1) "tuple"))) (bOr (bV .t (e2 (.t) (.t) (eB [(.n 1, (eN 1))] (gN1 lenOp)) (eC (.int 2)) (g2 neOp))) (bOr (bNot (bV (.t) (eIsi (.t) (e2 (.n 1) (.t) (eN 1) (eC (.int 0)) (g2 ixOp)) "tuple"))) (bV .t (e2 (.t) (.t) (e2 (.n 1) (.t) (eN 1) (eC (.int 0)) (g2 ixOp)) (eB [] tupG) (g2 eqOp)))))) (sRt (eC (.bool false))) sNx)
  (sSeq (sAsg (tgT 2 (tgCons (tgN 2) (tgCons (tgN 3) tgNil))) (eX 1))
  (sSeq (sIf (bOr (bNot (bV (.t) (eIsi (.n 3) (eN 3) "int"))) (bOr (bV (.t) (eIsi (.n 3) (eN 3) "bool")) (bV .t (e2 (.n 3) (.t) (eN 3) (eC (.int 1)) (g2 ltOp))))) (sRt (eC (.bool false))) sNx)
  (sSeq (sIf (bOr (bNot (bV (.t) (eB [(.t, (eLc [4] (iSeq (.n 2) (eN 2)) (tgN 4) tYesD (eCall [(.t, (eX 0)), (.t, (eX 4))] F__law_is_like)))] (gN1 allOp)))) (bNot (bV (.t) (eB [(.t, (eLc [4, 5] (iZp (.n 2) (.t) (eN 2) (eSl (.n 2) (eN 2) (pS (.t) (eC (.int 1))) pN)) (tgT 2 (tgCons (tgN 4) (tgCons (tgN 5) tgNil))) tYesD (e2 (.n 4) (.n 5) (eN 4) (eN 5) (g2 ltOp))))] (gN1 allOp))))) (sRt (eC (.bool false))) sNx)
  (sRt (eNot (.t) (eB [(.t, (eLc [4] (iSeq (.n 2) (eN 2)) (tgN 4) tYesD (eB [(.t, (eLc [6] (iSeq (.n 2) (eN 2)) (tgN 6) tYesD (eCall [(.t, (eX 4)), (.t, (eX 6))] F__law_agree)))] (gN1 anyOp))))] (gN1 anyOp))))))))
noncomputable def F__law_is_count : List Slot → FOut := runF 7 [true, true] b__law_is_count
noncomputable def b_is_weight : SM :=
  (sRt (eCall [(.t, (eX 0)), (.t, (eC (.int 1))), (.t, (eC (.int 99)))] F_is_between))
noncomputable def F_is_weight : List Slot → FOut := runF 1 [true] b_is_weight
noncomputable def b_is_cores : SM :=
  (sRt (eAnd (.t) (eIsi (.n 0) (eN 0) "tuple") (eAnd (.t) (e2 (.t) (.t) (eB [(.n 0, (eN 0))] (gN1 lenOp)) (eC (.int 2)) (g2 eqOp)) (eAnd (.t) (eCall [(.t, (e2 (.n 0) (.t) (eN 0) (eC (.int 0)) (g2 ixOp)))] F_is_core) (eFz (eCall [(.t, (e2 (.n 0) (.t) (eN 0) (eC (.int 1)) (g2 ixOp)))] F_is_core))))))
noncomputable def F_is_cores : List Slot → FOut := runF 1 [true] b_is_cores
noncomputable def b_worth_of : SM :=
  (sRt (eB [(.t, (e2 (.t) (.t) (eB [(.t, (eC (.int 0)))] lstG) (eCall [(.t, (eX 0))] F_heights) (g2 addOp)))] (gN1 max1Op)))
noncomputable def F_worth_of : List Slot → FOut := runF 1 [true] b_worth_of
noncomputable def b_counts_of : SM :=
  (sSeq (sSet 1 (eLc [6, 7] (iZp (.n 0) (.t) (eN 0) (eCall [(.t, (eX 0))] F_heights)) (tgT 2 (tgCons (tgN 6) (tgCons (tgN 7) tgNil))) tYesD (eB [(.t, (e2 (.n 7) (.t) (eN 7) (e2 (.n 6) (.t) (eN 6) (eC (.int 2)) (g2 ixOp)) (g2 subOp))), (.t, (eX 7)), (.t, (eX 6))] tupG)))
  (sSeq (sSet 2 (e1 (.t) (e2 (.t) (.t) (eLc [8] (iSeq (.n 1) (eN 1)) (tgN 8) tYesD (e2 (.n 8) (.t) (eN 8) (eC (.int 0)) (g2 ixOp))) (eLc [8] (iSeq (.n 1) (eN 1)) (tgN 8) tYesD (e2 (.n 8) (.t) (eN 8) (eC (.int 1)) (g2 ixOp))) (g2 addOp)) (g1 ssOp)))
  (sSeq (sSet 3 (eB [] lstG))
  (sSeq (sFor (iZp (.t) (.t) (eX 2) (eFz (eSl (.n 2) (eN 2) (pS (.t) (eC (.int 1))) pN))) (tgT 2 (tgCons (tgN 4) (tgCons (tgN 5) tgNil))) (sDrop (eApp 3 (eB [(.t, (eB [(.t, (eLc [9, 10, 6] (iSeq (.n 1) (eN 1)) (tgT 3 (tgCons (tgN 9) (tgCons (tgN 10) (tgCons (tgN 6) tgNil)))) (bAnd (bV .t (e2 (.n 9) (.n 4) (eN 9) (eN 4) (g2 leOp))) (bV .t (e2 (.n 5) (.n 10) (eN 5) (eN 10) (g2 leOp)))) (eX 6)))] (gN1 tupleOp))), (.t, (e2 (.n 5) (.n 4) (eN 5) (eN 4) (g2 subOp)))] tupG))))
  (sRt (eB [(.n 3, (eN 3))] (gN1 tupleOp)))))))
noncomputable def F_counts_of : List Slot → FOut := runF 11 [true] b_counts_of
noncomputable def b_is_match : SM :=
  (sSeq (sIf (bOr (bNot (bV (.t) (eIsi (.n 1) (eN 1) "tuple"))) (bNot (bV (.t) (eB [(.t, (eLc [4] (iSeq (.n 1) (eN 1)) (tgN 4) tYesD (eCall [(.t, (eX 0)), (.t, (eX 4))] F_is_one_of)))] (gN1 allOp))))) (sRt (eC (.bool false))) sNx)
  (sRt (eB [(.t, (eLc [2, 3] (iZp (.n 1) (.t) (eN 1) (eSl (.n 1) (eN 1) (pS (.t) (eC (.int 1))) pN)) (tgT 2 (tgCons (tgN 2) (tgCons (tgN 3) tgNil))) tYesD (eCall [(.t, (eX 2)), (.t, (eX 3))] F_is_behind)))] (gN1 allOp))))
noncomputable def F_is_match : List Slot → FOut := runF 5 [true, true] b_is_match
noncomputable def b_is_count : SM :=
  (sSeq (sIf (bOr (bNot (bV (.t) (eIsi (.n 1) (eN 1) "tuple"))) (bOr (bV .t (e2 (.t) (.t) (eB [(.n 1, (eN 1))] (gN1 lenOp)) (eC (.int 2)) (g2 neOp))) (bOr (bNot (bV (.t) (eCall [(.t, (e2 (.n 1) (.t) (eN 1) (eC (.int 1)) (g2 ixOp)))] F_is_integer))) (bV .t (e2 (.t) (.t) (e2 (.n 1) (.t) (eN 1) (eC (.int 1)) (g2 ixOp)) (eC (.int 1)) (g2 ltOp)))))) (sRt (eC (.bool false))) sNx)
  (sSeq (sSet 2 (e2 (.n 1) (.t) (eN 1) (eC (.int 0)) (g2 ixOp)))
  (sSeq (sIf (bOr (bNot (bV (.t) (eIsi (.n 2) (eN 2) "tuple"))) (bOr (bV .t (e2 (.n 2) (.t) (eN 2) (eB [] tupG) (g2 eqOp))) (bNot (bV (.t) (eB [(.t, (eLc [3] (iSeq (.n 2) (eN 2)) (tgN 3) tYesD (eCall [(.t, (eX 0)), (.t, (eX 3))] F_is_one_of)))] (gN1 allOp)))))) (sRt (eC (.bool false))) sNx)
  (sRt (eAnd (.t) (eCall [(.t, (eX 2))] F_is_ascending) (eNot (.t) (eB [(.t, (eLc [4] (iSeq (.n 2) (eN 2)) (tgN 4) tYesD (eB [(.t, (eLc [5] (iSeq (.n 2) (eN 2)) (tgN 5) tYesD (eCall [(.t, (eX 4)), (.t, (eX 5))] F_do_agree)))] (gN1 anyOp))))] (gN1 anyOp))))))))
noncomputable def F_is_count : List Slot → FOut := runF 6 [true, true] b_is_count
noncomputable def b__law_cores : SM :=
  (sSeq (sSet 2 (e2 (.t) (.t) (eB [(.t, (eC (.str "a"))), (.t, (eC (.str "b"))), (.t, (eC (.str "c1"))), (.t, (eC (.str "pit"))), (.t, (eC (.str "wall"))), (.t, (eC (.str "floor"))), (.t, (eC (.str "hearth9"))), (.t, (eC (.str "x")))] lstG) (eLc [4] (iRg (eC (.int 24))) (tgN 4) tYesD (e2 (.t) (.t) (eC (.str "n")) (eB [(.n 4, (eN 4))] (gN1 strOp)) (g2 addOp))) (g2 addOp)))
  (sSeq (sSet 3 (eB [(.t, (eCall [(.n 0, (eN 0)), (.t, (eX 2)), (.t, (e2 (.t) (.t) (eC (.int 1)) (eCall [(.n 0, (eN 0)), (.t, (eX 1))] F__law_take) (g2 addOp)))] F__law_some))] (gN1 tupleOp)))
  (sRt (eB [(.t, (eX 3)), (.t, (eB [(.t, (eCall [(.n 0, (eN 0)), (.t, (eX 2)), (.t, (e2 (.t) (.t) (eC (.int 1)) (eCall [(.n 0, (eN 0)), (.t, (eX 1))] F__law_take) (g2 addOp)))] F__law_some))] (gN1 tupleOp)))] tupG))))
noncomputable def F__law_cores : List Slot → FOut := runF 5 [true, true] b__law_cores
noncomputable def b__law_due : SM :=
  (sSeq (sIf (bOr (bNot (bV (.t) (eIsi (.n 1) (eN 1) "tuple"))) (bOr (bV .t (e2 (.t) (.t) (eB [(.n 1, (eN 1))] (gN1 lenOp)) (eC (.int 2)) (g2 neOp))) (bNot (bV (.t) (eCall [(.t, (eX 0)), (.t, (e2 (.n 1) (.t) (eN 1) (eC (.int 0)) (g2 ixOp)))] F__law_is_match))))) (sRt (eC (.bool false))) sNx)
  (sSeq (sAsg (tgT 2 (tgCons (tgN 3) (tgCons (tgN 4) tgNil))) (eX 1))
  (sSeq (sIf (bOr (bNot (bV (.t) (eIsi (.n 4) (eN 4) "tuple"))) (bNot (bV (.t) (eB [(.t, (eLc [5] (iSeq (.n 4) (eN 4)) (tgN 5) tYesD (eCall [(.t, (eX 0)), (.t, (eX 5))] F__law_is_count)))] (gN1 allOp))))) (sRt (eC (.bool false))) sNx)
  (sSeq (sFor (iSeq (.t) (eX 0)) (tgN 2) (sIf (bV .t (e2 (.t) (.t) (eB [(.t, (eLc [6, 7] (iSeq (.n 4) (eN 4)) (tgT 2 (tgCons (tgN 6) (tgCons (tgN 7) tgNil))) (bV .t (e2 (.n 2) (.n 6) (eN 2) (eN 6) (g2 (inOpD false)))) (eX 7)))] (gN1 sumOp)) (e2 (.n 2) (.t) (eN 2) (eC (.int 2)) (g2 ixOp)) (g2 ltOp))) (sRt (eC (.bool false))) sNx))
  (sRt (e2 (.t) (.t) (eCall [(.t, (eX 3))] F__law_weight) (eB [(.t, (eLc [6, 7] (iSeq (.n 4) (eN 4)) (tgT 2 (tgCons (tgN 6) (tgCons (tgN 7) tgNil))) tYesD (eX 7)))] (gN1 sumOp)) (g2 eqOp)))))))
noncomputable def F__law_due : List Slot → FOut := runF 8 [true, true] b__law_due
noncomputable def b_is_like : SM :=
  (sSeq (sIf (bOr (bNot (bV (.t) (eIsi (.n 1) (eN 1) "tuple"))) (bOr (bV .t (e2 (.t) (.t) (eB [(.n 1, (eN 1))] (gN1 lenOp)) (eC (.int 3)) (g2 neOp))) (bNot (bV (.t) (eCall [(.t, (e2 (.n 1) (.t) (eN 1) (eC (.int 2)) (g2 ixOp)))] F_is_weight))))) (sRt (eC (.bool false))) sNx)
  (sRt (eAnd (.t) (eCall [(.t, (e2 (.n 1) (.t) (eN 1) (eC (.int 0)) (g2 ixOp))), (.t, (eC (.int 0))), (.t, (e2 (.t) (.t) (eB [(.t, (e2 (.n 0) (.t) (eN 0) (eC (.int 0)) (g2 ixOp)))] (gN1 lenOp)) (eC (.int 1)) (g2 subOp)))] F_is_between) (eFz (eCall [(.t, (e2 (.n 1) (.t) (eN 1) (eC (.int 1)) (g2 ixOp))), (.t, (eC (.int 0))), (.t, (e2 (.t) (.t) (eB [(.t, (e2 (.n 0) (.t) (eN 0) (eC (.int 1)) (g2 ixOp)))] (gN1 lenOp)) (eC (.int 1)) (g2 subOp)))] F_is_between)))))
noncomputable def F_is_like : List Slot → FOut := runF 2 [true, true] b_is_like
noncomputable def b_check_cores : SM :=
  (sIf (bNot (bV (.t) (eCall [(.t, (eX 0))] F_is_cores))) sNo sNx)
noncomputable def F_check_cores : List Slot → FOut := runF 1 [true] b_check_cores
noncomputable def b_match_by : SM :=
  (sSeq (sPar [2, 3, 4] [(.t, (eB [(.n 0, (eN 0)), (.t, (eCall [(.t, (eX 0))] F_depths))] (gN2 dzOp))), (.t, (eCall [(.t, (eX 0))] F_worth_of)), (.t, (eB [] lstG))])
  (sSeq (sWhile (bV .t (e2 (.n 3) (.t) (eN 3) (eC (.int 0)) (g2 gtOp))) (sSeq (sSet 5 (eLc [6] (iSeq (.n 0) (eN 0)) (tgN 6) (bAnd (bV .t (e2 (.t) (.n 3) (e2 (.n 2) (.n 6) (eN 2) (eN 6) (g2 ixOp)) (eN 3) (g2 eqOp))) (bOr (bV .t (e2 (.n 4) (.t) (eN 4) (eB [] lstG) (g2 eqOp))) (bV (.t) (eCall [(.t, (e2 (.n 4) (.t) (eN 4) (e1 (.t) (eC (.int 1)) (g1 negOp)) (g2 ixOp))), (.t, (eX 6))] F_is_behind)))) (eX 6)))
  (sSeq (sDrop (eApp 4 (eIf (bV (.n 1) (eN 1)) (eB [(.n 5, (eN 5))] (gN1 min1Op)) (eB [(.n 5, (eN 5))] (gN1 max1Op)))))
  (sSet 3 (e2 (.n 3) (.t) (eN 3) (e2 (.t) (.t) (e2 (.n 4) (.t) (eN 4) (e1 (.t) (eC (.int 1)) (g1 negOp)) (g2 ixOp)) (eC (.int 2)) (g2 ixOp)) (g2 subOp))))))
  (sRt (eB [(.n 4, (eN 4))] (gN1 tupleOp)))))
noncomputable def F_match_by : List Slot → FOut := runF 7 [true, true] b_match_by
noncomputable def b_have_likes_form : SM :=
  (sSeq (sIf (bOr (bNot (bV (.t) (eIsi (.n 1) (eN 1) "tuple"))) (bOr (bV .t (e2 (.t) (.t) (eB [(.n 1, (eN 1))] (gN1 lenOp)) (eC (.int 60)) (g2 gtOp))) (bNot (bV (.t) (eB [(.t, (eLc [2] (iSeq (.n 1) (eN 1)) (tgN 2) tYesD (eCall [(.t, (eX 0)), (.t, (eX 2))] F_is_like)))] (gN1 allOp)))))) (sRt (eC (.bool false))) sNx)
  (sRt (eCall [(.t, (eLc [2] (iSeq (.n 1) (eN 1)) (tgN 2) tYesD (eSl (.n 2) (eN 2) pN (pS (.t) (eC (.int 2))))))] F_is_ascending)))
noncomputable def F_have_likes_form : List Slot → FOut := runF 3 [true, true] b_have_likes_form
noncomputable def b_check_likes : SM :=
  (sSeq (sDrop (eCall [(.t, (eX 0))] F_check_cores))
  (sIf (bNot (bV (.t) (eCall [(.t, (eX 0)), (.t, (eX 1))] F_have_likes_form))) sNo sNx))
noncomputable def F_check_likes : List Slot → FOut := runF 2 [true, true] b_check_likes
noncomputable def b_best : SM :=
  (sSeq (sDrop (eCall [(.t, (eX 0)), (.t, (eX 1))] F_check_likes))
  (sRt (eB [(.t, (eFz (eCall [(.t, (eX 1)), (.t, (eC (.bool true)))] F_match_by))), (.t, (eFz (eCall [(.t, (eX 1))] F_counts_of)))] tupG)))
noncomputable def F_best : List Slot → FOut := runF 2 [true, true] b_best
noncomputable def b_shows_best : SM :=
  (sSeq (sDrop (eCall [(.t, (eX 0)), (.t, (eX 1))] F_check_likes))
  (sSeq (sIf (bOr (bNot (bV (.t) (eIsi (.n 2) (eN 2) "tuple"))) (bOr (bV .t (e2 (.t) (.t) (eB [(.n 2, (eN 2))] (gN1 lenOp)) (eC (.int 2)) (g2 neOp))) (bNot (bV (.t) (eCall [(.t, (eX 1)), (.t, (e2 (.n 2) (.t) (eN 2) (eC (.int 0)) (g2 ixOp)))] F_is_match))))) (sRt (eC (.bool false))) sNx)
  (sSeq (sAsg (tgT 2 (tgCons (tgN 3) (tgCons (tgN 4) tgNil))) (eX 2))
  (sSeq (sIf (bOr (bNot (bV (.t) (eIsi (.n 4) (eN 4) "tuple"))) (bNot (bV (.t) (eB [(.t, (eLc [6] (iSeq (.n 4) (eN 4)) (tgN 6) tYesD (eCall [(.t, (eX 1)), (.t, (eX 6))] F_is_count)))] (gN1 allOp))))) (sRt (eC (.bool false))) sNx)
  (sSeq (sIf (bV .t (e2 (.t) (.t) (eB [(.t, (eLc [5] (iSeq (.n 3) (eN 3)) (tgN 5) tYesD (e2 (.n 5) (.t) (eN 5) (eC (.int 2)) (g2 ixOp))))] (gN1 sumOp)) (eB [(.t, (eLc [7, 8] (iSeq (.n 4) (eN 4)) (tgT 2 (tgCons (tgN 7) (tgCons (tgN 8) tgNil))) tYesD (eX 8)))] (gN1 sumOp)) (g2 neOp))) (sRt (eC (.bool false))) sNx)
  (sRt (eB [(.t, (eLc [5] (iSeq (.n 1) (eN 1)) (tgN 5) tYesD (e2 (.t) (.t) (eB [(.t, (eLc [7, 8] (iSeq (.n 4) (eN 4)) (tgT 2 (tgCons (tgN 7) (tgCons (tgN 8) tgNil))) (bV .t (e2 (.n 5) (.n 7) (eN 5) (eN 7) (g2 (inOpD false)))) (eX 8)))] (gN1 sumOp)) (e2 (.n 5) (.t) (eN 5) (eC (.int 2)) (g2 ixOp)) (g2 geOp))))] (gN1 allOp))))))))
noncomputable def F_shows_best : List Slot → FOut := runF 9 [true, true, true] b_shows_best
noncomputable def b__law_are_great_right : SM :=
  (sSeq (sSet 1 (eCall [(.n 0, (eN 0)), (.t, (eC (.int 24)))] F__law_cores))
  (sSeq (sSet 2 (eCall [(.n 0, (eN 0)), (.t, (eX 1)), (.t, (eC (.int 60))), (.t, (eC (.int 99)))] F__law_likes))
  (sSeq (sAsg (tgT 2 (tgCons (tgN 4) (tgCons (tgN 5) tgNil))) (eCall [(.t, (eX 1)), (.t, (eX 2))] F_best))
  (sSeq (sAsg (tgT 2 (tgCons (tgN 6) (tgCons (tgN 7) tgNil))) (e2 (.n 5) (.t) (eN 5) (e1 (.t) (eC (.int 1)) (g1 negOp)) (g2 ixOp)))
  (sSeq (sSet 3 (eB [(.t, (eB [(.t, (eFz (eSl (.n 4) (eN 4) pN (pS (.t) (e1 (.t) (eC (.int 1)) (g1 negOp)))))), (.t, (eX 5))] tupG)), (.t, (eB [(.t, (eX 4)), (.t, (eFz (eSl (.n 5) (eN 5) pN (pS (.t) (e1 (.t) (eC (.int 1)) (g1 negOp))))))] tupG)), (.t, (eB [(.t, (eX 4)), (.t, (eFz (e2 (.t) (.t) (eSl (.n 5) (eN 5) pN (pS (.t) (e1 (.t) (eC (.int 1)) (g1 negOp)))) (eB [(.t, (eB [(.t, (eX 6)), (.t, (e2 (.n 7) (.t) (eN 7) (eC (.int 1)) (g2 addOp)))] tupG))] tupG) (g2 addOp))))] tupG)), (.t, (eB [(.t, (eX 4)), (.t, (eX 5))] tupG))] lstG))
  (sSeq (sDrop (eExt 3 (eB [(.t, (eB [(.t, (eX 4)), (.t, (eFz (e2 (.t) (.t) (eSl (.n 5) (eN 5) pN (pS (.t) (e1 (.t) (eC (.int 1)) (g1 negOp)))) (eB [(.t, (eB [(.t, (eX 6)), (.t, (e2 (.n 7) (.t) (eN 7) (eC (.int 1)) (g2 subOp)))] tupG))] tupG) (g2 addOp))))] tupG)), (.t, (eB [(.t, (eX 4)), (.t, (eFz (e2 (.t) (.t) (eSl (.n 5) (eN 5) (pS (.t) (eC (.int 1))) pN) (eSl (.n 5) (eN 5) pN (pS (.t) (eC (.int 1)))) (g2 addOp))))] tupG))] lstG)))
  (sRt (eB [(.t, (eLc [8] (iSeq (.n 3) (eN 3)) (tgN 8) tYesD (e2 (.t) (.t) (eB [(.t, (eCall [(.t, (eX 1)), (.t, (eX 2)), (.t, (eX 8))] F_shows_best))] (gN1 reprOp)) (eB [(.t, (eCall [(.t, (eX 2)), (.t, (eX 8))] F__law_due))] (gN1 reprOp)) (g2 eqOp))))] (gN1 allOp)))))))))
noncomputable def F__law_are_great_right : List Slot → FOut := runF 9 [true] b__law_are_great_right
noncomputable def b__law_bent (R : List Slot → FOut) : SM :=
  (sSeq (sIf (bAnd (bV (.t) (eIsi (.n 1) (eN 1) "tuple")) (bAnd (bV .t (e2 (.n 1) (.t) (eN 1) (eB [] tupG) (g2 neOp))) (bV .t (e2 (.t) (.t) (eCall [(.n 0, (eN 0)), (.t, (eC (.int 5)))] F__law_take) (eC (.int 0)) (g2 gtOp))))) (sSeq (sSet 2 (eCall [(.n 0, (eN 0)), (.t, (eB [(.n 1, (eN 1))] (gN1 lenOp)))] F__law_take))
  (sRt (e2 (.t) (.t) (e2 (.t) (.t) (eSl (.n 1) (eN 1) pN (pS (.n 2) (eN 2))) (eB [(.t, (eFz (eCall [(.n 0, (eN 0)), (.t, (e2 (.n 1) (.n 2) (eN 1) (eN 2) (g2 ixOp)))] R)))] tupG) (g2 addOp)) (eSl (.n 1) (eN 1) (pS (.t) (e2 (.n 2) (.t) (eN 2) (eC (.int 1)) (g2 addOp))) pN) (g2 addOp)))) sNx)
  (sSeq (sIf (bV (.t) (eIsi (.n 1) (eN 1) "tuple")) (sRt (eCall [(.n 0, (eN 0)), (.t, (eB [(.t, (eFz (eB [(.n 1, (eN 1))] (gN1 listOp)))), (.t, (eFz (eSl (.n 1) (eN 1) (pS (.t) (eC (.int 1))) pN))), (.t, (eFz (e2 (.n 1) (.t) (eN 1) (eSl (.n 1) (eN 1) (pS (.t) (e1 (.t) (eC (.int 1)) (g1 negOp))) pN) (g2 addOp)))), (.t, (eFz (e1 (.n 1) (eN 1) (g1 revOp)))), (.t, (eB [] tupG)), (.t, (eC .none)), (.t, (eFz (e2 (.n 1) (.t) (eN 1) (eB [(.t, (eC (.str "a")))] tupG) (g2 addOp))))] lstG))] F__law_of)) sNx)
  (sSeq (sIf (bV (.t) (eIsi (.n 1) (eN 1) "int")) (sRt (eCall [(.n 0, (eN 0)), (.t, (eB [(.t, (eB [(.t, (e2 (.n 1) (.t) (eN 1) (eC (.int 1)) (g2 addOp)))] (gN1 intOf))), (.t, (eB [(.t, (e2 (.n 1) (.t) (eN 1) (eC (.int 1)) (g2 subOp)))] (gN1 intOf))), (.t, (e2 (.n 1) (.t) (eN 1) (eC (.int 1)) (g2 eqOp))), (.t, (eB [(.n 1, (eN 1))] (gN1 strOp))), (.t, (eC .none)), (.t, (eC (.int 0))), (.t, (eC (.int 99)))] lstG))] F__law_of)) sNx)
  (sRt (eCall [(.n 0, (eN 0)), (.t, (eB [(.t, (eC .none)), (.t, (eC (.int 0))), (.t, (eC (.str "a"))), (.t, (eC (.str "pit"))), (.t, (eC (.str "wall"))), (.t, (eC (.str "b"))), (.t, (eC (.str ""))), (.t, (eC (.str "open"))), (.t, (eC (.str "may")))] lstG))] F__law_of)))))
noncomputable def FR__law_bent : Nat → List Slot → FOut
  | 0 => runF 3 [true, true] sNo
  | k + 1 => runF 3 [true, true] (b__law_bent (FR__law_bent k))
noncomputable def F__law_bent : List Slot → FOut := FR__law_bent 12
noncomputable def b__law_values : SM :=
  (sSeq (sAsg (tgT 2 (tgCons (tgN 4) (tgCons (tgN 5) tgNil))) (eX 2))
  (sSeq (sSet 3 (eB [(.t, (eX 2)), (.t, (eB [(.t, (eFz (e1 (.n 4) (eN 4) (g1 revOp)))), (.t, (eX 5))] tupG)), (.t, (eB [(.t, (eX 4)), (.t, (eFz (e1 (.n 5) (eN 5) (g1 revOp))))] tupG)), (.t, (eB [(.t, (eFz (eSl (.n 4) (eN 4) (pS (.t) (eC (.int 1))) pN))), (.t, (eX 5))] tupG)), (.t, (eB [(.t, (eX 4)), (.t, (eFz (eSl (.n 5) (eN 5) (pS (.t) (eC (.int 1))) pN)))] tupG)), (.t, (eC .none))] lstG))
  (sSeq (sDrop (eExt 3 (eB [(.t, (eB [] tupG)), (.t, (eX 4)), (.t, (eFz (eB [(.n 2, (eN 2))] (gN1 listOp)))), (.t, (eFz (e2 (.n 2) (.t) (eN 2) (eB [(.t, (eB [] tupG))] tupG) (g2 addOp)))), (.t, (eB [(.t, (eX 5)), (.t, (eX 4))] tupG)), (.t, (eB [(.t, (eB [] tupG)), (.t, (eB [] tupG))] tupG)), (.t, (eB [(.t, (eX 4)), (.t, (eFz (e2 (.n 5) (.t) (eN 5) (eSl (.n 5) (eN 5) pN (pS (.t) (eC (.int 1)))) (g2 addOp))))] tupG))] lstG)))
  (sSeq (sDrop (eApp 3 (eB [(.t, (eB [] tupG)), (.t, (eX 5))] tupG)))
  (sSeq (sDrop (eApp 3 (eB [(.t, (eX 4)), (.t, (eB [(.t, (eLc [13] (iSeq (.n 1) (eN 1)) (tgN 13) tYesD (eB [(.t, (eB [(.t, (eX 13))] tupG)), (.t, (e2 (.n 13) (.t) (eN 13) (eC (.int 2)) (g2 ixOp)))] tupG)))] (gN1 tupleOp)))] tupG)))
  (sSeq (sFor (iEn (.t) (eX 5)) (tgT 2 (tgCons (tgN 6) (tgCons (tgT 2 (tgCons (tgN 9) (tgCons (tgN 10) tgNil))) tgNil))) (sSeq (sSet 7 (eIf (bV .t (e2 (.n 10) (.t) (eN 10) (eC (.int 1)) (g2 gtOp))) (eB [(.t, (eB [(.t, (eX 9)), (.t, (eC (.int 1)))] tupG)), (.t, (eB [(.t, (eX 9)), (.t, (e2 (.n 10) (.t) (eN 10) (eC (.int 1)) (g2 subOp)))] tupG))] tupG) (eB [(.t, (eB [(.t, (eX 9)), (.t, (eX 10))] tupG))] tupG)))
  (sSeq (sDrop (eApp 3 (eB [(.t, (eX 4)), (.t, (eFz (e2 (.t) (.t) (e2 (.t) (.n 7) (eSl (.n 5) (eN 5) pN (pS (.n 6) (eN 6))) (eN 7) (g2 addOp)) (eSl (.n 5) (eN 5) (pS (.t) (e2 (.n 6) (.t) (eN 6) (eC (.int 1)) (g2 addOp))) pN) (g2 addOp))))] tupG)))
  (sSeq (sDrop (eApp 3 (eB [(.t, (eX 4)), (.t, (eFz (e2 (.t) (.t) (e2 (.t) (.t) (eSl (.n 5) (eN 5) pN (pS (.n 6) (eN 6))) (eB [(.t, (eB [(.t, (eX 9)), (.t, (e2 (.n 10) (.t) (eN 10) (eC (.int 1)) (g2 addOp)))] tupG))] tupG) (g2 addOp)) (eSl (.n 5) (eN 5) (pS (.t) (e2 (.n 6) (.t) (eN 6) (eC (.int 1)) (g2 addOp))) pN) (g2 addOp))))] tupG)))
  (sSeq (sDrop (eApp 3 (eB [(.t, (eX 4)), (.t, (eFz (e2 (.t) (.t) (e2 (.t) (.t) (eSl (.n 5) (eN 5) pN (pS (.n 6) (eN 6))) (eB [(.t, (eB [(.t, (eFz (eSl (.n 9) (eN 9) (pS (.t) (eC (.int 1))) pN))), (.t, (eX 10))] tupG))] tupG) (g2 addOp)) (eSl (.n 5) (eN 5) (pS (.t) (e2 (.n 6) (.t) (eN 6) (eC (.int 1)) (g2 addOp))) pN) (g2 addOp))))] tupG)))
  (sSeq (sDrop (eApp 3 (eB [(.t, (eX 4)), (.t, (eFz (e2 (.t) (.t) (e2 (.t) (.t) (eSl (.n 5) (eN 5) pN (pS (.n 6) (eN 6))) (eB [(.t, (eB [(.t, (eFz (e1 (.n 9) (eN 9) (g1 revOp)))), (.t, (eX 10))] tupG))] tupG) (g2 addOp)) (eSl (.n 5) (eN 5) (pS (.t) (e2 (.n 6) (.t) (eN 6) (eC (.int 1)) (g2 addOp))) pN) (g2 addOp))))] tupG)))
  (sSeq (sSet 8 (eB [(.t, (eB [(.t, (eB [(.t, (eB [(.t, (eLc [13] (iSeq (.t) (e2 (.n 9) (.t) (eN 9) (eB [(.t, (eFz (eCall [(.n 0, (eN 0)), (.t, (eX 1))] F__law_of)))] tupG) (g2 addOp))) (tgN 13) tYesD (eB [(.t, (eX 13)), (.t, (eC (.bool true)))] tupG)))] (gN1 dpOp)))] (gN1 lkOp)))] (gN1 sortedOp2)))] (gN1 tupleOp)))
  (sDrop (eApp 3 (eB [(.t, (eX 4)), (.t, (eFz (e2 (.t) (.t) (e2 (.t) (.t) (eSl (.n 5) (eN 5) pN (pS (.n 6) (eN 6))) (eB [(.t, (eB [(.t, (eX 8)), (.t, (eX 10))] tupG))] tupG) (g2 addOp)) (eSl (.n 5) (eN 5) (pS (.t) (e2 (.n 6) (.t) (eN 6) (eC (.int 1)) (g2 addOp))) pN) (g2 addOp))))] tupG))))))))))
  (sSeq (sDrop (eExt 3 (eLc [11] (iSeq (.t) (eCall [(.n 0, (eN 0)), (.t, (eCall [(.t, (eX 1))] F__law_matches)), (.t, (eB [(.t, (eC (.int 4))), (.t, (eB [(.t, (eCall [(.t, (eX 1))] F__law_matches))] (gN1 lenOp)))] (gN2 min2Op)))] F__law_some)) (tgN 11) tYesD (eB [(.t, (eX 11)), (.t, (eX 5))] tupG))))
  (sRt (e2 (.n 3) (.t) (eN 3) (eLc [12] (iRg (eC (.int 9))) (tgN 12) tYesD (eCall [(.n 0, (eN 0)), (.t, (eX 2))] F__law_bent)) (g2 addOp))))))))))
noncomputable def F__law_values : List Slot → FOut := runF 14 [true, true, true] b__law_values
noncomputable def b__law_right : SM :=
  (sSeq (sFor (iRg (eC (.int 3))) (tgN 1) (sSeq (sSet 2 (eCall [(.n 0, (eN 0)), (.t, (eC (.int 6)))] F__law_cores))
  (sSeq (sSet 3 (eCall [(.n 0, (eN 0)), (.t, (eX 2)), (.t, (eCall [(.n 0, (eN 0)), (.t, (eC (.int 10)))] F__law_take)), (.t, (eCall [(.n 0, (eN 0)), (.t, (eB [(.t, (eC (.int 1))), (.t, (eC (.int 3))), (.t, (eC (.int 99)))] lstG))] F__law_of))] F__law_likes))
  (sFor (iSeq (.t) (eFz (eCall [(.n 0, (eN 0)), (.t, (eX 3)), (.t, (eCall [(.t, (eX 2)), (.t, (eX 3))] F_best))] F__law_values))) (tgN 4) (sSeq (sSet 5 (eB [(.n 4, (eN 4))] (gN1 reprOp)))
  (sIf (bOr (bV .t (e2 (.t) (.t) (eB [(.t, (eCall [(.t, (eX 2)), (.t, (eX 3)), (.t, (eX 4))] F_shows_best))] (gN1 reprOp)) (eB [(.t, (eCall [(.t, (eX 3)), (.t, (eX 4))] F__law_due))] (gN1 reprOp)) (g2 neOp))) (bV .t (e2 (.t) (.n 5) (eB [(.n 4, (eN 4))] (gN1 reprOp)) (eN 5) (g2 neOp)))) (sRt (eC (.bool false))) sNx))))))
  (sRt (eCall [(.n 0, (eN 0))] F__law_are_great_right)))
noncomputable def F__law_right : List Slot → FOut := runF 6 [true] b__law_right
noncomputable def b_law : SM :=
  (sRt (eB [(.t, (eLc [1] (iSeq (.t) (eCall [(.t, (eX 0)), (.t, (eC (.int 2)))] F__law_cells)) (tgN 1) tYesD (eCall [(.t, (eCall [(.t, (eX 0)), (.t, (eX 1))] F__law_pot))] F__law_right)))] (gN1 allOp)))
noncomputable def F_law : List Slot → FOut := runF 2 [true] b_law
/-! the text and what the top leaves -/
def topS (i : Nat) : Stmt := PySem.Challenge.pw_laidthen_k66_what_shows_the_greatest_mat.main.body.getD i (.Pass ⟨0, 0, 0, 0⟩)
abbrev s_is_integer : Stmt := topS 9
abbrev N_is_integer : List Str := ["value"]
theorem sc_is_integer : FnScope N_is_integer ["value"] (defScope s_is_integer) := ⟨rfl, rfl, rfl, by decide +kernel, rfl, by decide +kernel, by decide +kernel⟩
abbrev s_is_name : Stmt := topS 11
abbrev N_is_name : List Str := ["value", "sign"]
theorem sc_is_name : FnScope N_is_name ["value"] (defScope s_is_name) := ⟨rfl, rfl, rfl, by decide +kernel, rfl, by decide +kernel, by decide +kernel⟩
abbrev s_is_ascending : Stmt := topS 13
abbrev N_is_ascending : List Str := ["values", "one", "other"]
theorem sc_is_ascending : FnScope N_is_ascending ["values"] (defScope s_is_ascending) := ⟨rfl, rfl, rfl, by decide +kernel, rfl, by decide +kernel, by decide +kernel⟩
abbrev s_is_behind : Stmt := topS 23
abbrev N_is_behind : List Str := ["one", "other"]
theorem sc_is_behind : FnScope N_is_behind ["one", "other"] (defScope s_is_behind) := ⟨rfl, rfl, rfl, by decide +kernel, rfl, by decide +kernel, by decide +kernel⟩
abbrev s__law_pot : Stmt := topS 36
abbrev N__law_pot : List Str := ["script", "place", "cell", "own", "small"]
theorem sc__law_pot : FnScope N__law_pot ["script", "place"] (defScope s__law_pot) := ⟨rfl, rfl, rfl, by decide +kernel, rfl, by decide +kernel, by decide +kernel⟩
abbrev s__law_take : Stmt := topS 37
abbrev N__law_take : List Str := ["pot", "upto", "prime", "blend", "digit"]
theorem sc__law_take : FnScope N__law_take ["pot", "upto"] (defScope s__law_take) := ⟨rfl, rfl, rfl, by decide +kernel, rfl, by decide +kernel, by decide +kernel⟩
abbrev s__law_cells : Stmt := topS 39
abbrev N__law_cells : List Str := ["script", "most"]
theorem sc__law_cells : FnScope N__law_cells ["script", "most"] (defScope s__law_cells) := ⟨rfl, rfl, rfl, by decide +kernel, rfl, by decide +kernel, by decide +kernel⟩
abbrev s__law_agree : Stmt := topS 43
abbrev N__law_agree : List Str := ["one", "other"]
theorem sc__law_agree : FnScope N__law_agree ["one", "other"] (defScope s__law_agree) := ⟨rfl, rfl, rfl, by decide +kernel, rfl, by decide +kernel, by decide +kernel⟩
abbrev s__law_weight : Stmt := topS 45
abbrev N__law_weight : List Str := ["likes", "like"]
theorem sc__law_weight : FnScope N__law_weight ["likes"] (defScope s__law_weight) := ⟨rfl, rfl, rfl, by decide +kernel, rfl, by decide +kernel, by decide +kernel⟩
abbrev s__law_is_like : Stmt := topS 46
abbrev N__law_is_like : List Str := ["likes", "value", "part"]
theorem sc__law_is_like : FnScope N__law_is_like ["likes", "value"] (defScope s__law_is_like) := ⟨rfl, rfl, rfl, by decide +kernel, rfl, by decide +kernel, by decide +kernel⟩
abbrev s_is_between : Stmt := topS 10
abbrev N_is_between : List Str := ["value", "least", "most"]
theorem sc_is_between : FnScope N_is_between ["value", "least", "most"] (defScope s_is_between) := ⟨rfl, rfl, rfl, by decide +kernel, rfl, by decide +kernel, by decide +kernel⟩
abbrev s_is_core : Stmt := topS 17
abbrev N_is_core : List Str := ["value", "one"]
theorem sc_is_core : FnScope N_is_core ["value"] (defScope s_is_core) := ⟨rfl, rfl, rfl, by decide +kernel, rfl, by decide +kernel, by decide +kernel⟩
abbrev s_do_agree : Stmt := topS 24
abbrev N_do_agree : List Str := ["one", "other"]
theorem sc_do_agree : FnScope N_do_agree ["one", "other"] (defScope s_do_agree) := ⟨rfl, rfl, rfl, by decide +kernel, rfl, by decide +kernel, by decide +kernel⟩
abbrev s_heights : Stmt := topS 25
abbrev N_heights : List Str := ["likes", "found", "like", "below", "one", "height"]
theorem sc_heights : FnScope N_heights ["likes"] (defScope s_heights) := ⟨rfl, rfl, rfl, by decide +kernel, rfl, by decide +kernel, by decide +kernel⟩
abbrev s_depths : Stmt := topS 26
abbrev N_depths : List Str := ["likes", "found", "like", "above", "one"]
theorem sc_depths : FnScope N_depths ["likes"] (defScope s_depths) := ⟨rfl, rfl, rfl, by decide +kernel, rfl, by decide +kernel, by decide +kernel⟩
abbrev s_is_one_of : Stmt := topS 32
abbrev N_is_one_of : List Str := ["likes", "value", "part"]
theorem sc_is_one_of : FnScope N_is_one_of ["likes", "value"] (defScope s_is_one_of) := ⟨rfl, rfl, rfl, by decide +kernel, rfl, by decide +kernel, by decide +kernel⟩
abbrev s__law_of : Stmt := topS 38
abbrev N__law_of : List Str := ["pot", "some"]
theorem sc__law_of : FnScope N__law_of ["pot", "some"] (defScope s__law_of) := ⟨rfl, rfl, rfl, by decide +kernel, rfl, by decide +kernel, by decide +kernel⟩
abbrev s__law_some : Stmt := topS 40
abbrev N__law_some : List Str := ["pot", "pool", "many", "lap", "left", "found"]
theorem sc__law_some : FnScope N__law_some ["pot", "pool", "many"] (defScope s__law_some) := ⟨rfl, rfl, rfl, by decide +kernel, rfl, by decide +kernel, by decide +kernel⟩
abbrev s__law_likes : Stmt := topS 42
abbrev N__law_likes : List Str := ["pot", "cores", "many", "heavy", "found", "lap", "pair"]
theorem sc__law_likes : FnScope N__law_likes ["pot", "cores", "many", "heavy"] (defScope s__law_likes) := ⟨rfl, rfl, rfl, by decide +kernel, rfl, by decide +kernel, by decide +kernel⟩
abbrev s__law_matches : Stmt := topS 44
abbrev N__law_matches : List Str := ["likes", "rows", "like", "row", "one"]
theorem sc__law_matches : FnScope N__law_matches ["likes"] (defScope s__law_matches) := ⟨rfl, rfl, rfl, by decide +kernel, rfl, by decide +kernel, by decide +kernel⟩
abbrev s__law_is_match : Stmt := topS 47
abbrev N__law_is_match : List Str := ["likes", "value", "one", "other"]
theorem sc__law_is_match : FnScope N__law_is_match ["likes", "value"] (defScope s__law_is_match) := ⟨rfl, rfl, rfl, by decide +kernel, rfl, by decide +kernel, by decide +kernel⟩
abbrev s__law_is_count : Stmt := topS 48
abbrev N__law_is_count : List Str := ["likes", "value", "some", "many", "one", "two", "other"]
theorem sc__law_is_count : FnScope N__law_is_count ["likes", "value"] (defScope s__law_is_count) := ⟨rfl, rfl, rfl, by decide +kernel, rfl, by decide +kernel, by decide +kernel⟩
abbrev s_is_weight : Stmt := topS 12
abbrev N_is_weight : List Str := ["value"]
theorem sc_is_weight : FnScope N_is_weight ["value"] (defScope s_is_weight) := ⟨rfl, rfl, rfl, by decide +kernel, rfl, by decide +kernel, by decide +kernel⟩
abbrev s_is_cores : Stmt := topS 18
abbrev N_is_cores : List Str := ["value"]
theorem sc_is_cores : FnScope N_is_cores ["value"] (defScope s_is_cores) := ⟨rfl, rfl, rfl, by decide +kernel, rfl, by decide +kernel, by decide +kernel⟩
abbrev s_worth_of : Stmt := topS 27
abbrev N_worth_of : List Str := ["likes"]
theorem sc_worth_of : FnScope N_worth_of ["likes"] (defScope s_worth_of) := ⟨rfl, rfl, rfl, by decide +kernel, rfl, by decide +kernel, by decide +kernel⟩
abbrev s_counts_of : Stmt := topS 29
abbrev N_counts_of : List Str := ["likes", "rows", "marks", "found", "low", "high", "like", "height", "row", "begin", "end"]
theorem sc_counts_of : FnScope N_counts_of ["likes"] (defScope s_counts_of) := ⟨rfl, rfl, rfl, by decide +kernel, rfl, by decide +kernel, by decide +kernel⟩
abbrev s_is_match : Stmt := topS 31
abbrev N_is_match : List Str := ["likes", "value", "one", "other", "like"]
theorem sc_is_match : FnScope N_is_match ["likes", "value"] (defScope s_is_match) := ⟨rfl, rfl, rfl, by decide +kernel, rfl, by decide +kernel, by decide +kernel⟩
abbrev s_is_count : Stmt := topS 33
abbrev N_is_count : List Str := ["likes", "value", "some", "like", "one", "other"]
theorem sc_is_count : FnScope N_is_count ["likes", "value"] (defScope s_is_count) := ⟨rfl, rfl, rfl, by decide +kernel, rfl, by decide +kernel, by decide +kernel⟩
abbrev s__law_cores : Stmt := topS 41
abbrev N__law_cores : List Str := ["pot", "most", "pool", "one", "at"]
theorem sc__law_cores : FnScope N__law_cores ["pot", "most"] (defScope s__law_cores) := ⟨rfl, rfl, rfl, by decide +kernel, rfl, by decide +kernel, by decide +kernel⟩
abbrev s__law_due : Stmt := topS 49
abbrev N__law_due : List Str := ["likes", "value", "like", "match", "counts", "one", "some", "many"]
theorem sc__law_due : FnScope N__law_due ["likes", "value"] (defScope s__law_due) := ⟨rfl, rfl, rfl, by decide +kernel, rfl, by decide +kernel, by decide +kernel⟩
abbrev s_is_like : Stmt := topS 19
abbrev N_is_like : List Str := ["cores", "value"]
theorem sc_is_like : FnScope N_is_like ["cores", "value"] (defScope s_is_like) := ⟨rfl, rfl, rfl, by decide +kernel, rfl, by decide +kernel, by decide +kernel⟩
abbrev s_check_cores : Stmt := topS 21
abbrev N_check_cores : List Str := ["cores"]
theorem sc_check_cores : FnScope N_check_cores ["cores"] (defScope s_check_cores) := ⟨rfl, rfl, rfl, by decide +kernel, rfl, by decide +kernel, by decide +kernel⟩
abbrev s_match_by : Stmt := topS 28
abbrev N_match_by : List Str := ["likes", "is_first", "left", "most", "found", "some", "like"]
theorem sc_match_by : FnScope N_match_by ["likes", "is_first"] (defScope s_match_by) := ⟨rfl, rfl, rfl, by decide +kernel, rfl, by decide +kernel, by decide +kernel⟩
abbrev s_have_likes_form : Stmt := topS 20
abbrev N_have_likes_form : List Str := ["cores", "value", "one"]
theorem sc_have_likes_form : FnScope N_have_likes_form ["cores", "value"] (defScope s_have_likes_form) := ⟨rfl, rfl, rfl, by decide +kernel, rfl, by decide +kernel, by decide +kernel⟩
abbrev s_check_likes : Stmt := topS 22
abbrev N_check_likes : List Str := ["cores", "likes"]
theorem sc_check_likes : FnScope N_check_likes ["cores", "likes"] (defScope s_check_likes) := ⟨rfl, rfl, rfl, by decide +kernel, rfl, by decide +kernel, by decide +kernel⟩
abbrev s_best : Stmt := topS 30
abbrev N_best : List Str := ["cores", "likes"]
theorem sc_best : FnScope N_best ["cores", "likes"] (defScope s_best) := ⟨rfl, rfl, rfl, by decide +kernel, rfl, by decide +kernel, by decide +kernel⟩
abbrev s_shows_best : Stmt := topS 34
abbrev N_shows_best : List Str := ["cores", "likes", "value", "match", "counts", "like", "one", "some", "many"]
theorem sc_shows_best : FnScope N_shows_best ["cores", "likes", "value"] (defScope s_shows_best) := ⟨rfl, rfl, rfl, by decide +kernel, rfl, by decide +kernel, by decide +kernel⟩
abbrev s__law_are_great_right : Stmt := topS 53
abbrev N__law_are_great_right : List Str := ["pot", "cores", "likes", "bents", "match", "counts", "lot", "many", "bent"]
theorem sc__law_are_great_right : FnScope N__law_are_great_right ["pot"] (defScope s__law_are_great_right) := ⟨rfl, rfl, rfl, by decide +kernel, rfl, by decide +kernel, by decide +kernel⟩
abbrev s__law_bent : Stmt := topS 50
abbrev N__law_bent : List Str := ["pot", "value", "at"]
theorem sc__law_bent : FnScope N__law_bent ["pot", "value"] (defScope s__law_bent) := ⟨rfl, rfl, rfl, by decide +kernel, rfl, by decide +kernel, by decide +kernel⟩
abbrev s__law_values : Stmt := topS 51
abbrev N__law_values : List Str := ["pot", "likes", "told", "some", "match", "counts", "at", "parted", "more", "lot", "many", "row", "lap", "like"]
theorem sc__law_values : FnScope N__law_values ["pot", "likes", "told"] (defScope s__law_values) := ⟨rfl, rfl, rfl, by decide +kernel, rfl, by decide +kernel, by decide +kernel⟩
abbrev s__law_right : Stmt := topS 52
abbrev N__law_right : List Str := ["pot", "lap", "cores", "likes", "value", "kept"]
theorem sc__law_right : FnScope N__law_right ["pot"] (defScope s__law_right) := ⟨rfl, rfl, rfl, by decide +kernel, rfl, by decide +kernel, by decide +kernel⟩
abbrev s_law : Stmt := topS 54
abbrev N_law : List Str := ["script", "place"]
theorem sc_law : FnScope N_law ["script"] (defScope s_law) := ⟨rfl, rfl, rfl, by decide +kernel, rfl, by decide +kernel, by decide +kernel⟩
structure Ground (K : PySem.W.Frag) (mg : Str → Option Value) : Prop where
  b_abs : mg "abs" = none
  b_all : mg "all" = none
  b_any : mg "any" = none
  b_bool : mg "bool" = none
  b_dict : mg "dict" = none
  b_enumerate : mg "enumerate" = none
  b_int : mg "int" = none
  b_isinstance : mg "isinstance" = none
  b_len : mg "len" = none
  b_list : mg "list" = none
  b_max : mg "max" = none
  b_min : mg "min" = none
  b_range : mg "range" = none
  b_repr : mg "repr" = none
  b_set : mg "set" = none
  b_sorted : mg "sorted" = none
  b_str : mg "str" = none
  b_sum : mg "sum" = none
  b_tuple : mg "tuple" = none
  b_zip : mg "zip" = none
  g_FIGURES : ∃ u, mg "FIGURES" = some u ∧ RelV (.str "0123456789") u
  g_LETTERS : ∃ u, mg "LETTERS" = some u ∧ RelV (.str "abcdefghijklmnopqrstuvwxyz") u
  g_MOST_LAYERS : ∃ u, mg "MOST_LAYERS" = some u ∧ RelV (.int 24) u
  g_MOST_LIKES : ∃ u, mg "MOST_LIKES" = some u ∧ RelV (.int 60) u
  g_MOST_SIGNS : ∃ u, mg "MOST_SIGNS" = some u ∧ RelV (.int 8) u
  g_MOST_WEIGHT : ∃ u, mg "MOST_WEIGHT" = some u ∧ RelV (.int 99) u
  f_is_integer : ∃ f fd, Fun K "is_integer" "is_integer" s_is_integer f fd ∧ mg "is_integer" = some (.ref f)
  f_is_name : ∃ f fd, Fun K "is_name" "is_name" s_is_name f fd ∧ mg "is_name" = some (.ref f)
  f_is_ascending : ∃ f fd, Fun K "is_ascending" "is_ascending" s_is_ascending f fd ∧ mg "is_ascending" = some (.ref f)
  f_is_behind : ∃ f fd, Fun K "is_behind" "is_behind" s_is_behind f fd ∧ mg "is_behind" = some (.ref f)
  f__law_pot : ∃ f fd, Fun K "_law_pot" "_law_pot" s__law_pot f fd ∧ mg "_law_pot" = some (.ref f)
  f__law_take : ∃ f fd, Fun K "_law_take" "_law_take" s__law_take f fd ∧ mg "_law_take" = some (.ref f)
  f__law_cells : ∃ f fd, Fun K "_law_cells" "_law_cells" s__law_cells f fd ∧ mg "_law_cells" = some (.ref f)
  f__law_agree : ∃ f fd, Fun K "_law_agree" "_law_agree" s__law_agree f fd ∧ mg "_law_agree" = some (.ref f)
  f__law_weight : ∃ f fd, Fun K "_law_weight" "_law_weight" s__law_weight f fd ∧ mg "_law_weight" = some (.ref f)
  f__law_is_like : ∃ f fd, Fun K "_law_is_like" "_law_is_like" s__law_is_like f fd ∧ mg "_law_is_like" = some (.ref f)
  f_is_between : ∃ f fd, Fun K "is_between" "is_between" s_is_between f fd ∧ mg "is_between" = some (.ref f)
  f_is_core : ∃ f fd, Fun K "is_core" "is_core" s_is_core f fd ∧ mg "is_core" = some (.ref f)
  f_do_agree : ∃ f fd, Fun K "do_agree" "do_agree" s_do_agree f fd ∧ mg "do_agree" = some (.ref f)
  f_heights : ∃ f fd, Fun K "heights" "heights" s_heights f fd ∧ mg "heights" = some (.ref f)
  f_depths : ∃ f fd, Fun K "depths" "depths" s_depths f fd ∧ mg "depths" = some (.ref f)
  f_is_one_of : ∃ f fd, Fun K "is_one_of" "is_one_of" s_is_one_of f fd ∧ mg "is_one_of" = some (.ref f)
  f__law_of : ∃ f fd, Fun K "_law_of" "_law_of" s__law_of f fd ∧ mg "_law_of" = some (.ref f)
  f__law_some : ∃ f fd, Fun K "_law_some" "_law_some" s__law_some f fd ∧ mg "_law_some" = some (.ref f)
  f__law_likes : ∃ f fd, Fun K "_law_likes" "_law_likes" s__law_likes f fd ∧ mg "_law_likes" = some (.ref f)
  f__law_matches : ∃ f fd, Fun K "_law_matches" "_law_matches" s__law_matches f fd ∧ mg "_law_matches" = some (.ref f)
  f__law_is_match : ∃ f fd, Fun K "_law_is_match" "_law_is_match" s__law_is_match f fd ∧ mg "_law_is_match" = some (.ref f)
  f__law_is_count : ∃ f fd, Fun K "_law_is_count" "_law_is_count" s__law_is_count f fd ∧ mg "_law_is_count" = some (.ref f)
  f_is_weight : ∃ f fd, Fun K "is_weight" "is_weight" s_is_weight f fd ∧ mg "is_weight" = some (.ref f)
  f_is_cores : ∃ f fd, Fun K "is_cores" "is_cores" s_is_cores f fd ∧ mg "is_cores" = some (.ref f)
  f_worth_of : ∃ f fd, Fun K "worth_of" "worth_of" s_worth_of f fd ∧ mg "worth_of" = some (.ref f)
  f_counts_of : ∃ f fd, Fun K "counts_of" "counts_of" s_counts_of f fd ∧ mg "counts_of" = some (.ref f)
  f_is_match : ∃ f fd, Fun K "is_match" "is_match" s_is_match f fd ∧ mg "is_match" = some (.ref f)
  f_is_count : ∃ f fd, Fun K "is_count" "is_count" s_is_count f fd ∧ mg "is_count" = some (.ref f)
  f__law_cores : ∃ f fd, Fun K "_law_cores" "_law_cores" s__law_cores f fd ∧ mg "_law_cores" = some (.ref f)
  f__law_due : ∃ f fd, Fun K "_law_due" "_law_due" s__law_due f fd ∧ mg "_law_due" = some (.ref f)
  f_is_like : ∃ f fd, Fun K "is_like" "is_like" s_is_like f fd ∧ mg "is_like" = some (.ref f)
  f_check_cores : ∃ f fd, Fun K "check_cores" "check_cores" s_check_cores f fd ∧ mg "check_cores" = some (.ref f)
  f_match_by : ∃ f fd, Fun K "match_by" "match_by" s_match_by f fd ∧ mg "match_by" = some (.ref f)
  f_have_likes_form : ∃ f fd, Fun K "have_likes_form" "have_likes_form" s_have_likes_form f fd ∧ mg "have_likes_form" = some (.ref f)
  f_check_likes : ∃ f fd, Fun K "check_likes" "check_likes" s_check_likes f fd ∧ mg "check_likes" = some (.ref f)
  f_best : ∃ f fd, Fun K "best" "best" s_best f fd ∧ mg "best" = some (.ref f)
  f_shows_best : ∃ f fd, Fun K "shows_best" "shows_best" s_shows_best f fd ∧ mg "shows_best" = some (.ref f)
  f__law_are_great_right : ∃ f fd, Fun K "_law_are_great_right" "_law_are_great_right" s__law_are_great_right f fd ∧ mg "_law_are_great_right" = some (.ref f)
  f__law_bent : ∃ f fd, Fun K "_law_bent" "_law_bent" s__law_bent f fd ∧ mg "_law_bent" = some (.ref f)
  f__law_values : ∃ f fd, Fun K "_law_values" "_law_values" s__law_values f fd ∧ mg "_law_values" = some (.ref f)
  f__law_right : ∃ f fd, Fun K "_law_right" "_law_right" s__law_right f fd ∧ mg "_law_right" = some (.ref f)
  f_law : ∃ f fd, Fun K "law" "law" s_law f fd ∧ mg "law" = some (.ref f)
section
variable {P : Program} {w : PySem.World} {K : PySem.W.Frag} {mg : Str → Option Value} {base : Heap} {cl : ClsT}
theorem ok_is_integer (G : Ground K mg) : Cld P w K mg base cl 1 "is_integer" ["value"] F_is_integer := by
  obtain ⟨f, fd, Ff, hm⟩ := G.f_is_integer
  refine cld_mk Ff hm sc_is_integer rfl (by decide) (fun kV doc pm an cdv ct us ws ks hl hk => ?_) (fun cdv A outer s H E G' hr hg => ?_)
  · subst hk
    match us, hl with
    | [], hl => match ws, (by simp only [List.length_cons, List.length_nil] at hl; omega : ws.length = 1) with
      | [_], _ => rfl
    | [_], hl => match ws, (by simp only [List.length_cons, List.length_nil] at hl; omega : ws.length = 0) with
      | [], _ => rfl
    | _ :: _ :: _, hl => exact absurd hl (by simp only [List.length_cons, List.length_nil]; omega)
  have ax : Ax (cxOf (L2.CX P w) P w K mg base N_is_integer "is_integer" (defScope s_is_integer) f cdv A outer s H E) := ax_of hr hg rfl
  have hx : Passes (L2.CX P w) (cxOf (L2.CX P w) P w K mg base N_is_integer "is_integer" (defScope s_is_integer) f cdv A outer s H E) E := passes_call (takes_of rfl rfl rfl rfl) (fun _ _ _ _ h => h)
  exact (pd_one (pd_ret (pd_and (pd_isi rfl (by rfl) G.b_isinstance (by rfl) G.b_int bt_int (pd_n (pv 0))) (pe_one (pd_not (pd_isi rfl (by rfl) G.b_isinstance (by rfl) G.b_bool bt_bool (pd_n (pv 0))))))))
theorem ok_is_name (G : Ground K mg) : Cld P w K mg base cl 1 "is_name" ["value"] F_is_name := by
  obtain ⟨f, fd, Ff, hm⟩ := G.f_is_name
  obtain ⟨u_LETTERS, m_LETTERS, r_LETTERS⟩ := G.g_LETTERS
  obtain ⟨u_MOST_SIGNS, m_MOST_SIGNS, r_MOST_SIGNS⟩ := G.g_MOST_SIGNS
  obtain ⟨u_FIGURES, m_FIGURES, r_FIGURES⟩ := G.g_FIGURES
  refine cld_mk Ff hm sc_is_name rfl (by decide) (fun kV doc pm an cdv ct us ws ks hl hk => ?_) (fun cdv A outer s H E G' hr hg => ?_)
  · subst hk
    match us, hl with
    | [], hl => match ws, (by simp only [List.length_cons, List.length_nil] at hl; omega : ws.length = 1) with
      | [_], _ => rfl
    | [_], hl => match ws, (by simp only [List.length_cons, List.length_nil] at hl; omega : ws.length = 0) with
      | [], _ => rfl
    | _ :: _ :: _, hl => exact absurd hl (by simp only [List.length_cons, List.length_nil]; omega)
  have ax : Ax (cxOf (L2.CX P w) P w K mg base N_is_name "is_name" (defScope s_is_name) f cdv A outer s H E) := ax_of hr hg rfl
  have hx : Passes (L2.CX P w) (cxOf (L2.CX P w) P w K mg base N_is_name "is_name" (defScope s_is_name) f cdv A outer s H E) E := passes_call (takes_of rfl rfl rfl rfl) (fun _ _ _ _ h => h)
  exact (pd_cons (pd_if (PW.pt (pw_bor (pt_bnot (pt_bv (pd_isi rfl (by rfl) G.b_isinstance (by rfl) G.b_str bt_str (pd_n (pv 0))))) (pw_bor (pt_bnot (pt_chain2 (og_lt ax rfl) (og_le ax rfl) (pd_c pe_int (.int _)) (pd_bi (og_len rfl) (by rfl) G.b_len bt_len (pd_acons (pd_n (pv 0)) pd_anil)) (pd_c (pe_glob (by rfl) m_MOST_SIGNS r_MOST_SIGNS) (.int _)))) (pw_or1 (pt_cmp2 (og_notInD ax rfl) (pd_ix ax rfl (pd_n (pv 0)) (pd_c pe_int (.int _))) (pd_c (pe_glob (by rfl) m_LETTERS r_LETTERS) (.str _))))))) (pd_one (pd_ret (pd_c pe_bl (.bl _)))) pd_nil)
  (pd_one (pd_ret (pd_bi (og_all ax rfl) (by rfl) G.b_all bt_all (pd_acons (pd_lc (own := [("sign", 1)]) (tg_name (show (1 : Nat) ∉ kpFrom 0 [true] from by decide)) (by decide) (show ∀ i ∈ kpFrom 0 [true], i ∉ ([1] : List Nat) from by decide) (by decide) (gd_seq (by decide)) rfl sc_is_name.nd (pi_seq rfl (pd_n (pv 0))) (blkOk_by (N := N_is_name) (sc := defScope s_is_name) (by decide +kernel)) (fun _ _ _ _ _ => (pg_name (i := 1) sc_is_name.nd rfl (by first | exact Or.inl rfl | exact Or.inr rfl))) (fun _ _ _ _ _ => pd_yes) (fun _ _ _ _ _ => (pd_or (pd_cmp (og_inD (ax.blk) rfl) (pd_n (pv 1)) (pd_c (pe_glob (by rfl) m_LETTERS r_LETTERS) (.str _))) (pe_one (pd_cmp (og_inD (ax.blk) rfl) (pd_n (pv 1)) (pd_c (pe_glob (by rfl) m_FIGURES r_FIGURES) (.str _))))))) pd_anil)))))
theorem ok_is_ascending (G : Ground K mg) : Cld P w K mg base cl 1 "is_ascending" ["values"] F_is_ascending := by
  obtain ⟨f, fd, Ff, hm⟩ := G.f_is_ascending
  refine cld_mk Ff hm sc_is_ascending rfl (by decide) (fun kV doc pm an cdv ct us ws ks hl hk => ?_) (fun cdv A outer s H E G' hr hg => ?_)
  · subst hk
    match us, hl with
    | [], hl => match ws, (by simp only [List.length_cons, List.length_nil] at hl; omega : ws.length = 1) with
      | [_], _ => rfl
    | [_], hl => match ws, (by simp only [List.length_cons, List.length_nil] at hl; omega : ws.length = 0) with
      | [], _ => rfl
    | _ :: _ :: _, hl => exact absurd hl (by simp only [List.length_cons, List.length_nil]; omega)
  have ax : Ax (cxOf (L2.CX P w) P w K mg base N_is_ascending "is_ascending" (defScope s_is_ascending) f cdv A outer s H E) := ax_of hr hg rfl
  have hx : Passes (L2.CX P w) (cxOf (L2.CX P w) P w K mg base N_is_ascending "is_ascending" (defScope s_is_ascending) f cdv A outer s H E) E := passes_call (takes_of rfl rfl rfl rfl) (fun _ _ _ _ h => h)
  exact (pd_one (pd_ret (pd_bi (og_all ax rfl) (by rfl) G.b_all bt_all (pd_acons (pd_lc (own := [("one", 1), ("other", 2)]) (tg_tup (tg_cons (tg_name (show (1 : Nat) ∉ kpFrom 0 [true] from by decide)) (tg_cons (tg_name (show (2 : Nat) ∉ kpFrom 0 [true] from by decide)) tg_nil))) (by decide) (show ∀ i ∈ kpFrom 0 [true], i ∉ ([1, 2] : List Nat) from by decide) (by decide) (gd_zp (by decide)) rfl sc_is_ascending.nd (pi_zp (by rfl) G.b_zip (pd_n (pv 0)) (pd_sl rfl (pd_n (pv 0)) (pp_some (pd_c pe_int (.int _))) pp_none)) (blkOk_by (N := N_is_ascending) (sc := defScope s_is_ascending) (by decide +kernel)) (fun _ _ _ _ _ => (pg_tup rfl (pgs_cons (pg_name (i := 1) sc_is_ascending.nd rfl (by first | exact Or.inl rfl | exact Or.inr rfl)) (pgs_cons (pg_name (i := 2) sc_is_ascending.nd rfl (by first | exact Or.inl rfl | exact Or.inr rfl)) pgs_nil)))) (fun _ _ _ _ _ => pd_yes) (fun _ _ _ _ _ => (pd_cmp (og_lt (ax.blk) rfl) (pd_n (pv 1)) (pd_n (pv 2))))) pd_anil))))
theorem ok_is_behind (G : Ground K mg) : Cld P w K mg base cl 1 "is_behind" ["one", "other"] F_is_behind := by
  obtain ⟨f, fd, Ff, hm⟩ := G.f_is_behind
  refine cld_mk Ff hm sc_is_behind rfl (by decide) (fun kV doc pm an cdv ct us ws ks hl hk => ?_) (fun cdv A outer s H E G' hr hg => ?_)
  · subst hk
    match us, hl with
    | [], hl => match ws, (by simp only [List.length_cons, List.length_nil] at hl; omega : ws.length = 2) with
      | [_, _], _ => rfl
    | [_], hl => match ws, (by simp only [List.length_cons, List.length_nil] at hl; omega : ws.length = 1) with
      | [_], _ => rfl
    | [_, _], hl => match ws, (by simp only [List.length_cons, List.length_nil] at hl; omega : ws.length = 0) with
      | [], _ => rfl
    | _ :: _ :: _ :: _, hl => exact absurd hl (by simp only [List.length_cons, List.length_nil]; omega)
  have ax : Ax (cxOf (L2.CX P w) P w K mg base N_is_behind "is_behind" (defScope s_is_behind) f cdv A outer s H E) := ax_of hr hg rfl
  have hx : Passes (L2.CX P w) (cxOf (L2.CX P w) P w K mg base N_is_behind "is_behind" (defScope s_is_behind) f cdv A outer s H E) E := passes_call (takes_of rfl rfl rfl rfl) (fun _ _ _ _ h => h)
  exact (pd_one (pd_ret (pd_and (pd_cmp (og_lt ax rfl) (pd_ix ax rfl (pd_n (pv 0)) (pd_c pe_int (.int _))) (pd_ix ax rfl (pd_n (pv 1)) (pd_c pe_int (.int _)))) (pe_one (pd_cmp (og_lt ax rfl) (pd_ix ax rfl (pd_n (pv 0)) (pd_c pe_int (.int _))) (pd_ix ax rfl (pd_n (pv 1)) (pd_c pe_int (.int _))))))))
theorem ok__law_pot (G : Ground K mg) : Cld P w K mg base cl 1 "_law_pot" ["script", "place"] F__law_pot := by
  obtain ⟨f, fd, Ff, hm⟩ := G.f__law_pot
  refine cld_mk Ff hm sc__law_pot rfl (by decide) (fun kV doc pm an cdv ct us ws ks hl hk => ?_) (fun cdv A outer s H E G' hr hg => ?_)
  · subst hk
    match us, hl with
    | [], hl => match ws, (by simp only [List.length_cons, List.length_nil] at hl; omega : ws.length = 2) with
      | [_, _], _ => rfl
    | [_], hl => match ws, (by simp only [List.length_cons, List.length_nil] at hl; omega : ws.length = 1) with
      | [_], _ => rfl
    | [_, _], hl => match ws, (by simp only [List.length_cons, List.length_nil] at hl; omega : ws.length = 0) with
      | [], _ => rfl
    | _ :: _ :: _ :: _, hl => exact absurd hl (by simp only [List.length_cons, List.length_nil]; omega)
  have ax : Ax (cxOf (L2.CX P w) P w K mg base N__law_pot "_law_pot" (defScope s__law_pot) f cdv A outer s H E) := ax_of hr hg rfl
  have hx : Passes (L2.CX P w) (cxOf (L2.CX P w) P w K mg base N__law_pot "_law_pot" (defScope s__law_pot) f cdv A outer s H E) E := passes_call (takes_of rfl rfl rfl rfl) (fun _ _ _ _ h => h)
  exact (pd_cons (pd_set (i := 2) (show (2 : Nat) ∉ kpFrom 0 [true, true] from by decide) sc__law_pot.nd rfl (by first | exact Or.inl rfl | exact Or.inr rfl) (pd_ifx (pt_cmp2 (og_lt ax rfl) (pd_n (pv 1)) (pd_bi (og_len rfl) (by rfl) G.b_len bt_len (pd_acons (pd_n (pv 0)) pd_anil))) (pd_ix ax rfl (pd_n (pv 0)) (pd_n (pv 1))) (pd_op (og_add rfl) (pd_op (og_add rfl) (pd_op (og_mod rfl) (pd_bi (og_sum ax) (by rfl) G.b_sum bt_sum (pd_acons (pd_sl rfl (pd_n (pv 0)) pp_none (pp_some (pd_c pe_int (.int _)))) pd_anil)) (pd_c pe_int (.int _))) (pd_op (og_mul rfl) (pd_c pe_int (.int _)) (pd_n (pv 1)))) (pd_c pe_int (.int _)))))
  (pd_cons (pd_set (i := 3) (show (3 : Nat) ∉ kpFrom 0 [true, true] from by decide) sc__law_pot.nd rfl (by first | exact Or.inl rfl | exact Or.inr rfl) (pd_op (og_mul rfl) (pd_op (og_mod rfl) (pd_bt (og_int) (by rfl) G.b_int bt_int (pd_acons (pd_bi (og_abs) (by rfl) G.b_abs bt_abs (pd_acons (pd_n (pv 2)) pd_anil)) pd_anil)) (pd_op (og_pow rfl) (pd_op (og_pow rfl) (pd_c pe_int (.int _)) (pd_c pe_int (.int _))) (pd_c pe_int (.int _)))) (pd_bt (og_int) (by rfl) G.b_int bt_int (pd_acons (pd_cmp (og_ge ax rfl) (pd_bi (og_abs) (by rfl) G.b_abs bt_abs (pd_acons (pd_n (pv 2)) pd_anil)) (pd_op (og_pow rfl) (pd_c pe_int (.int _)) (pd_c pe_int (.int _)))) pd_anil))))
  (pd_cons (pd_set (i := 4) (show (4 : Nat) ∉ kpFrom 0 [true, true] from by decide) sc__law_pot.nd rfl (by first | exact Or.inl rfl | exact Or.inr rfl) (pd_op (og_mod rfl) (pd_bt (og_int) (by rfl) G.b_int bt_int (pd_acons (pd_n (pv 2)) pd_anil)) (pd_c pe_int (.int _))))
  (pd_one (pd_ret (pd_lst (pd_acons (pd_x (pv 3)) (pd_acons (pd_op (og_mod rfl) (pd_bt (og_int) (by rfl) G.b_int bt_int (pd_acons (pd_op (og_add rfl) (pd_op (og_add rfl) (pd_op (og_mul rfl) (pd_n (pv 4)) (pd_c pe_int (.int _))) (pd_op (og_mul rfl) (pd_op (og_mul rfl) (pd_c pe_int (.int _)) (pd_n (pv 1))) (pd_n (pv 1)))) (pd_c pe_int (.int _))) pd_anil)) (pd_c pe_int (.int _))) (pd_acons (pd_c pe_int (.int _)) pd_anil)))))))))
theorem ok__law_take (G : Ground K mg) : Cld P w K mg base cl 1 "_law_take" ["pot", "upto"] F__law_take := by
  obtain ⟨f, fd, Ff, hm⟩ := G.f__law_take
  refine cld_mk Ff hm sc__law_take rfl (by decide) (fun kV doc pm an cdv ct us ws ks hl hk => ?_) (fun cdv A outer s H E G' hr hg => ?_)
  · subst hk
    match us, hl with
    | [], hl => match ws, (by simp only [List.length_cons, List.length_nil] at hl; omega : ws.length = 2) with
      | [_, _], _ => rfl
    | [_], hl => match ws, (by simp only [List.length_cons, List.length_nil] at hl; omega : ws.length = 1) with
      | [_], _ => rfl
    | [_, _], hl => match ws, (by simp only [List.length_cons, List.length_nil] at hl; omega : ws.length = 0) with
      | [], _ => rfl
    | _ :: _ :: _ :: _, hl => exact absurd hl (by simp only [List.length_cons, List.length_nil]; omega)
  have ax : Ax (cxOf (L2.CX P w) P w K mg base N__law_take "_law_take" (defScope s__law_take) f cdv A outer s H E) := ax_of hr hg rfl
  have hx : Passes (L2.CX P w) (cxOf (L2.CX P w) P w K mg base N__law_take "_law_take" (defScope s__law_take) f cdv A outer s H E) E := passes_call (takes_of rfl rfl rfl rfl) (fun _ _ _ _ h => h)
  exact (pd_cons (pd_if (pt_cmp2 (og_gt ax rfl) (pd_ix ax rfl (pd_n (pv 0)) (pd_c pe_int (.int _))) (pd_c pe_int (.int _))) (pd_cons (pd_set (i := 4) (show (4 : Nat) ∉ kpFrom 0 [true, true] from by decide) sc__law_take.nd rfl (by first | exact Or.inl rfl | exact Or.inr rfl) (pd_op (og_mod rfl) (pd_bt (og_int) (by rfl) G.b_int bt_int (pd_acons (pd_ix ax rfl (pd_n (pv 0)) (pd_c pe_int (.int _))) pd_anil)) (pd_n (pv 1))))
  (pd_cons (pd_sto (by have := ax.un; omega) (pv 0) (pd_c pe_int (.int _)) (pd_op (og_fdiv rfl) (pd_ix ax rfl (pd_n (pv 0)) (pd_c pe_int (.int _))) (pd_n (pv 1))))
  (pd_one (pd_ret (pd_m (pv 4)))))) pd_nil)
  (pd_cons (pd_sto (by have := ax.un; omega) (pv 0) (pd_c pe_int (.int _)) (pd_op (og_add rfl) (pd_ix ax rfl (pd_n (pv 0)) (pd_c pe_int (.int _))) (pd_c pe_int (.int _))))
  (pd_cons (pd_set (i := 2) (show (2 : Nat) ∉ kpFrom 0 [true, true] from by decide) sc__law_take.nd rfl (by first | exact Or.inl rfl | exact Or.inr rfl) (pd_ix ax rfl (pd_lst (pd_acons (pd_c pe_int (.int _)) (pd_acons (pd_c pe_int (.int _)) (pd_acons (pd_c pe_int (.int _)) (pd_acons (pd_c pe_int (.int _)) (pd_acons (pd_c pe_int (.int _)) pd_anil)))))) (pd_op (og_mod rfl) (pd_bt (og_int) (by rfl) G.b_int bt_int (pd_acons (pd_ix ax rfl (pd_n (pv 0)) (pd_c pe_int (.int _))) pd_anil)) (pd_c pe_int (.int _)))))
  (pd_cons (pd_set (i := 3) (show (3 : Nat) ∉ kpFrom 0 [true, true] from by decide) sc__law_take.nd rfl (by first | exact Or.inl rfl | exact Or.inr rfl) (pd_op (og_mod rfl) (pd_bt (og_int) (by rfl) G.b_int bt_int (pd_acons (pd_op (og_pow rfl) (pd_bt (og_int) (by rfl) G.b_int bt_int (pd_acons (pd_op (og_add rfl) (pd_op (og_add rfl) (pd_ix ax rfl (pd_n (pv 0)) (pd_c pe_int (.int _))) (pd_op (og_mul rfl) (pd_op (og_mul rfl) (pd_c pe_int (.int _)) (pd_ix ax rfl (pd_n (pv 0)) (pd_c pe_int (.int _)))) (pd_ix ax rfl (pd_n (pv 0)) (pd_c pe_int (.int _))))) (pd_c pe_int (.int _))) pd_anil)) (pd_c pe_int (.int _))) pd_anil)) (pd_n (pv 2))))
  (pd_cons (pd_set (i := 3) (show (3 : Nat) ∉ kpFrom 0 [true, true] from by decide) sc__law_take.nd rfl (by first | exact Or.inl rfl | exact Or.inr rfl) (pd_op (og_mod rfl) (pd_bt (og_int) (by rfl) G.b_int bt_int (pd_acons (pd_op (og_mul rfl) (pd_n (pv 3)) (pd_op (og_add rfl) (pd_op (og_mod rfl) (pd_bt (og_int) (by rfl) G.b_int bt_int (pd_acons (pd_n (pv 3)) pd_anil)) (pd_c pe_int (.int _))) (pd_op (og_mul rfl) (pd_c pe_int (.int _)) (pd_ix ax rfl (pd_n (pv 0)) (pd_c pe_int (.int _)))))) pd_anil)) (pd_c pe_int (.int _))))
  (pd_one (pd_ret (pd_op (og_mod rfl) (pd_bt (og_int) (by rfl) G.b_int bt_int (pd_acons (pd_op (og_fdiv rfl) (pd_n (pv 3)) (pd_c pe_int (.int _))) pd_anil)) (pd_n (pv 1))))))))))
theorem ok__law_cells (G : Ground K mg) : Cld P w K mg base cl 1 "_law_cells" ["script", "most"] F__law_cells := by
  obtain ⟨f, fd, Ff, hm⟩ := G.f__law_cells
  refine cld_mk Ff hm sc__law_cells rfl (by decide) (fun kV doc pm an cdv ct us ws ks hl hk => ?_) (fun cdv A outer s H E G' hr hg => ?_)
  · subst hk
    match us, hl with
    | [], hl => match ws, (by simp only [List.length_cons, List.length_nil] at hl; omega : ws.length = 2) with
      | [_, _], _ => rfl
    | [_], hl => match ws, (by simp only [List.length_cons, List.length_nil] at hl; omega : ws.length = 1) with
      | [_], _ => rfl
    | [_, _], hl => match ws, (by simp only [List.length_cons, List.length_nil] at hl; omega : ws.length = 0) with
      | [], _ => rfl
    | _ :: _ :: _ :: _, hl => exact absurd hl (by simp only [List.length_cons, List.length_nil]; omega)
  have ax : Ax (cxOf (L2.CX P w) P w K mg base N__law_cells "_law_cells" (defScope s__law_cells) f cdv A outer s H E) := ax_of hr hg rfl
  have hx : Passes (L2.CX P w) (cxOf (L2.CX P w) P w K mg base N__law_cells "_law_cells" (defScope s__law_cells) f cdv A outer s H E) E := passes_call (takes_of rfl rfl rfl rfl) (fun _ _ _ _ h => h)
  exact (pd_one (pd_ret (pd_listRg rfl (by rfl) G.b_list (by rfl) G.b_range (pd_bi (og_max2 ax) (by rfl) G.b_max bt_max (pd_acons (pd_c pe_int (.int _)) (pd_acons (pd_bi (og_min2 ax) (by rfl) G.b_min bt_min (pd_acons (pd_n (pv 1)) (pd_acons (pd_bi (og_len rfl) (by rfl) G.b_len bt_len (pd_acons (pd_n (pv 0)) pd_anil)) pd_anil))) pd_anil))))))
theorem ok__law_agree (G : Ground K mg) : Cld P w K mg base cl 1 "_law_agree" ["one", "other"] F__law_agree := by
  obtain ⟨f, fd, Ff, hm⟩ := G.f__law_agree
  refine cld_mk Ff hm sc__law_agree rfl (by decide) (fun kV doc pm an cdv ct us ws ks hl hk => ?_) (fun cdv A outer s H E G' hr hg => ?_)
  · subst hk
    match us, hl with
    | [], hl => match ws, (by simp only [List.length_cons, List.length_nil] at hl; omega : ws.length = 2) with
      | [_, _], _ => rfl
    | [_], hl => match ws, (by simp only [List.length_cons, List.length_nil] at hl; omega : ws.length = 1) with
      | [_], _ => rfl
    | [_, _], hl => match ws, (by simp only [List.length_cons, List.length_nil] at hl; omega : ws.length = 0) with
      | [], _ => rfl
    | _ :: _ :: _ :: _, hl => exact absurd hl (by simp only [List.length_cons, List.length_nil]; omega)
  have ax : Ax (cxOf (L2.CX P w) P w K mg base N__law_agree "_law_agree" (defScope s__law_agree) f cdv A outer s H E) := ax_of hr hg rfl
  have hx : Passes (L2.CX P w) (cxOf (L2.CX P w) P w K mg base N__law_agree "_law_agree" (defScope s__law_agree) f cdv A outer s H E) E := passes_call (takes_of rfl rfl rfl rfl) (fun _ _ _ _ h => h)
  exact (pd_one (pd_ret (pd_or (pd_and (pd_cmp (og_lt ax rfl) (pd_ix ax rfl (pd_n (pv 0)) (pd_c pe_int (.int _))) (pd_ix ax rfl (pd_n (pv 1)) (pd_c pe_int (.int _)))) (pe_one (pd_cmp (og_lt ax rfl) (pd_ix ax rfl (pd_n (pv 0)) (pd_c pe_int (.int _))) (pd_ix ax rfl (pd_n (pv 1)) (pd_c pe_int (.int _)))))) (pe_one (pd_and (pd_cmp (og_gt ax rfl) (pd_ix ax rfl (pd_n (pv 0)) (pd_c pe_int (.int _))) (pd_ix ax rfl (pd_n (pv 1)) (pd_c pe_int (.int _)))) (pe_one (pd_cmp (og_gt ax rfl) (pd_ix ax rfl (pd_n (pv 0)) (pd_c pe_int (.int _))) (pd_ix ax rfl (pd_n (pv 1)) (pd_c pe_int (.int _))))))))))
theorem ok__law_weight (G : Ground K mg) : Cld P w K mg base cl 1 "_law_weight" ["likes"] F__law_weight := by
  obtain ⟨f, fd, Ff, hm⟩ := G.f__law_weight
  refine cld_mk Ff hm sc__law_weight rfl (by decide) (fun kV doc pm an cdv ct us ws ks hl hk => ?_) (fun cdv A outer s H E G' hr hg => ?_)
  · subst hk
    match us, hl with
    | [], hl => match ws, (by simp only [List.length_cons, List.length_nil] at hl; omega : ws.length = 1) with
      | [_], _ => rfl
    | [_], hl => match ws, (by simp only [List.length_cons, List.length_nil] at hl; omega : ws.length = 0) with
      | [], _ => rfl
    | _ :: _ :: _, hl => exact absurd hl (by simp only [List.length_cons, List.length_nil]; omega)
  have ax : Ax (cxOf (L2.CX P w) P w K mg base N__law_weight "_law_weight" (defScope s__law_weight) f cdv A outer s H E) := ax_of hr hg rfl
  have hx : Passes (L2.CX P w) (cxOf (L2.CX P w) P w K mg base N__law_weight "_law_weight" (defScope s__law_weight) f cdv A outer s H E) E := passes_call (takes_of rfl rfl rfl rfl) (fun _ _ _ _ h => h)
  exact (pd_one (pd_ret (pd_bi (og_sum ax) (by rfl) G.b_sum bt_sum (pd_acons (pd_lc (own := [("like", 1)]) (tg_name (show (1 : Nat) ∉ kpFrom 0 [true] from by decide)) (by decide) (show ∀ i ∈ kpFrom 0 [true], i ∉ ([1] : List Nat) from by decide) (by decide) (gd_seq (by decide)) rfl sc__law_weight.nd (pi_seq rfl (pd_n (pv 0))) (blkOk_by (N := N__law_weight) (sc := defScope s__law_weight) (by decide +kernel)) (fun _ _ _ _ _ => (pg_name (i := 1) sc__law_weight.nd rfl (by first | exact Or.inl rfl | exact Or.inr rfl))) (fun _ _ _ _ _ => pd_yes) (fun _ _ _ _ _ => (pd_ix (ax.blk) rfl (pd_n (pv 1)) (pd_c pe_int (.int _))))) pd_anil))))
theorem ok__law_is_like (G : Ground K mg) : Cld P w K mg base cl 1 "_law_is_like" ["likes", "value"] F__law_is_like := by
  obtain ⟨f, fd, Ff, hm⟩ := G.f__law_is_like
  refine cld_mk Ff hm sc__law_is_like rfl (by decide) (fun kV doc pm an cdv ct us ws ks hl hk => ?_) (fun cdv A outer s H E G' hr hg => ?_)
  · subst hk
    match us, hl with
    | [], hl => match ws, (by simp only [List.length_cons, List.length_nil] at hl; omega : ws.length = 2) with
      | [_, _], _ => rfl
    | [_], hl => match ws, (by simp only [List.length_cons, List.length_nil] at hl; omega : ws.length = 1) with
      | [_], _ => rfl
    | [_, _], hl => match ws, (by simp only [List.length_cons, List.length_nil] at hl; omega : ws.length = 0) with
      | [], _ => rfl
    | _ :: _ :: _ :: _, hl => exact absurd hl (by simp only [List.length_cons, List.length_nil]; omega)
  have ax : Ax (cxOf (L2.CX P w) P w K mg base N__law_is_like "_law_is_like" (defScope s__law_is_like) f cdv A outer s H E) := ax_of hr hg rfl
  have hx : Passes (L2.CX P w) (cxOf (L2.CX P w) P w K mg base N__law_is_like "_law_is_like" (defScope s__law_is_like) f cdv A outer s H E) E := passes_call (takes_of rfl rfl rfl rfl) (fun _ _ _ _ h => h)
  exact (pd_cons (pd_if (pt_bnot (pt_bv (pd_isi rfl (by rfl) G.b_isinstance (by rfl) G.b_tuple bt_tuple (pd_n (pv 1))))) (pd_one (pd_ret (pd_c pe_bl (.bl _)))) pd_nil)
  (pd_cons (pd_if (pt_bnot (pt_bv (pd_bi (og_all ax rfl) (by rfl) G.b_all bt_all (pd_acons (pd_lc (own := [("part", 2)]) (tg_name (show (2 : Nat) ∉ kpFrom 0 [true, true] from by decide)) (by decide) (show ∀ i ∈ kpFrom 0 [true, true], i ∉ ([2] : List Nat) from by decide) (by decide) (gd_seq (by decide)) rfl sc__law_is_like.nd (pi_seq rfl (pd_n (pv 1))) (blkOk_by (N := N__law_is_like) (sc := defScope s__law_is_like) (by decide +kernel)) (fun _ _ _ _ _ => (pg_name (i := 2) sc__law_is_like.nd rfl (by first | exact Or.inl rfl | exact Or.inr rfl))) (fun _ _ _ _ _ => pd_yes) (fun _ _ _ _ _ => (pd_and (pd_isi rfl (by rfl) G.b_isinstance (by rfl) G.b_int bt_int (pd_n (pv 2))) (pe_one (pd_not (pd_isi rfl (by rfl) G.b_isinstance (by rfl) G.b_bool bt_bool (pd_n (pv 2)))))))) pd_anil)))) (pd_one (pd_ret (pd_c pe_bl (.bl _)))) pd_nil)
  (pd_one (pd_ret (pd_cmp (og_inD ax rfl) (pd_n (pv 1)) (pd_n (pv 0)))))))
theorem ok_is_between (G : Ground K mg) : Cld P w K mg base cl 2 "is_between" ["value", "least", "most"] F_is_between := by
  obtain ⟨f, fd, Ff, hm⟩ := G.f_is_between
  refine cld_mk Ff hm sc_is_between rfl (by decide) (fun kV doc pm an cdv ct us ws ks hl hk => ?_) (fun cdv A outer s H E G' hr hg => ?_)
  · subst hk
    match us, hl with
    | [], hl => match ws, (by simp only [List.length_cons, List.length_nil] at hl; omega : ws.length = 3) with
      | [_, _, _], _ => rfl
    | [_], hl => match ws, (by simp only [List.length_cons, List.length_nil] at hl; omega : ws.length = 2) with
      | [_, _], _ => rfl
    | [_, _], hl => match ws, (by simp only [List.length_cons, List.length_nil] at hl; omega : ws.length = 1) with
      | [_], _ => rfl
    | [_, _, _], hl => match ws, (by simp only [List.length_cons, List.length_nil] at hl; omega : ws.length = 0) with
      | [], _ => rfl
    | _ :: _ :: _ :: _ :: _, hl => exact absurd hl (by simp only [List.length_cons, List.length_nil]; omega)
  have ax : Ax (cxOf (L2.CX P w) P w K mg base N_is_between "is_between" (defScope s_is_between) f cdv A outer s H E) := ax_of hr hg rfl
  have hx : Passes (L2.CX P w) (cxOf (L2.CX P w) P w K mg base N_is_between "is_between" (defScope s_is_between) f cdv A outer s H E) E := passes_call (takes_of rfl rfl rfl rfl) (fun _ _ _ _ h => h)
  exact (pd_one (pd_ret (pd_and (pd_call (ok_is_integer G) rfl (hr.mono (by decide)) ax.gd (by rfl) hx rfl (pd_acons (pd_x (pv 0)) pd_anil)) (pe_one (pd_chain (og_le ax rfl) (og_le ax rfl) (pd_n (pv 1)) (pd_n (pv 0)) (pd_n (pv 2)))))))
theorem ok_is_core (G : Ground K mg) : Cld P w K mg base cl 2 "is_core" ["value"] F_is_core := by
  obtain ⟨f, fd, Ff, hm⟩ := G.f_is_core
  obtain ⟨u_MOST_LAYERS, m_MOST_LAYERS, r_MOST_LAYERS⟩ := G.g_MOST_LAYERS
  refine cld_mk Ff hm sc_is_core rfl (by decide) (fun kV doc pm an cdv ct us ws ks hl hk => ?_) (fun cdv A outer s H E G' hr hg => ?_)
  · subst hk
    match us, hl with
    | [], hl => match ws, (by simp only [List.length_cons, List.length_nil] at hl; omega : ws.length = 1) with
      | [_], _ => rfl
    | [_], hl => match ws, (by simp only [List.length_cons, List.length_nil] at hl; omega : ws.length = 0) with
      | [], _ => rfl
    | _ :: _ :: _, hl => exact absurd hl (by simp only [List.length_cons, List.length_nil]; omega)
  have ax : Ax (cxOf (L2.CX P w) P w K mg base N_is_core "is_core" (defScope s_is_core) f cdv A outer s H E) := ax_of hr hg rfl
  have hx : Passes (L2.CX P w) (cxOf (L2.CX P w) P w K mg base N_is_core "is_core" (defScope s_is_core) f cdv A outer s H E) E := passes_call (takes_of rfl rfl rfl rfl) (fun _ _ _ _ h => h)
  exact (pd_cons (pd_if (PW.pt (pw_bor (pt_bnot (pt_bv (pd_isi rfl (by rfl) G.b_isinstance (by rfl) G.b_tuple bt_tuple (pd_n (pv 0))))) (pw_bor (pt_bnot (pt_chain2 (og_le ax rfl) (og_le ax rfl) (pd_c pe_int (.int _)) (pd_bi (og_len rfl) (by rfl) G.b_len bt_len (pd_acons (pd_n (pv 0)) pd_anil)) (pd_c (pe_glob (by rfl) m_MOST_LAYERS r_MOST_LAYERS) (.int _)))) (pw_or1 (pt_bnot (pt_bv (pd_bi (og_all ax rfl) (by rfl) G.b_all bt_all (pd_acons (pd_lc (own := [("one", 1)]) (tg_name (show (1 : Nat) ∉ kpFrom 0 [true] from by decide)) (by decide) (show ∀ i ∈ kpFrom 0 [true], i ∉ ([1] : List Nat) from by decide) (by decide) (gd_seq (by decide)) rfl sc_is_core.nd (pi_seq rfl (pd_n (pv 0))) (blkOk_by (N := N_is_core) (sc := defScope s_is_core) (by decide +kernel)) (fun _ _ _ _ _ => (pg_name (i := 1) sc_is_core.nd rfl (by first | exact Or.inl rfl | exact Or.inr rfl))) (fun _ _ _ _ _ => pd_yes) (fun _ _ _ _ _ => (pd_call (ok_is_name G) rfl (hr.mono (by decide)) (ax.blk).gd (by rfl) passL rfl (pd_acons (pd_x (pv 1)) pd_anil)))) pd_anil)))))))) (pd_one (pd_ret (pd_c pe_bl (.bl _)))) pd_nil)
  (pd_one (pd_ret (pd_cmp (og_eq ax rfl) (pd_lenset ax (by rfl) G.b_len (by rfl) G.b_set (pd_n (pv 0))) (pd_bi (og_len rfl) (by rfl) G.b_len bt_len (pd_acons (pd_n (pv 0)) pd_anil))))))
theorem ok_do_agree (G : Ground K mg) : Cld P w K mg base cl 2 "do_agree" ["one", "other"] F_do_agree := by
  obtain ⟨f, fd, Ff, hm⟩ := G.f_do_agree
  refine cld_mk Ff hm sc_do_agree rfl (by decide) (fun kV doc pm an cdv ct us ws ks hl hk => ?_) (fun cdv A outer s H E G' hr hg => ?_)
  · subst hk
    match us, hl with
    | [], hl => match ws, (by simp only [List.length_cons, List.length_nil] at hl; omega : ws.length = 2) with
      | [_, _], _ => rfl
    | [_], hl => match ws, (by simp only [List.length_cons, List.length_nil] at hl; omega : ws.length = 1) with
      | [_], _ => rfl
    | [_, _], hl => match ws, (by simp only [List.length_cons, List.length_nil] at hl; omega : ws.length = 0) with
      | [], _ => rfl
    | _ :: _ :: _ :: _, hl => exact absurd hl (by simp only [List.length_cons, List.length_nil]; omega)
  have ax : Ax (cxOf (L2.CX P w) P w K mg base N_do_agree "do_agree" (defScope s_do_agree) f cdv A outer s H E) := ax_of hr hg rfl
  have hx : Passes (L2.CX P w) (cxOf (L2.CX P w) P w K mg base N_do_agree "do_agree" (defScope s_do_agree) f cdv A outer s H E) E := passes_call (takes_of rfl rfl rfl rfl) (fun _ _ _ _ h => h)
  exact (pd_one (pd_ret (pd_or (pd_call (ok_is_behind G) rfl (hr.mono (by decide)) ax.gd (by rfl) hx rfl (pd_acons (pd_x (pv 0)) (pd_acons (pd_x (pv 1)) pd_anil))) (pe_one (pd_fz (pd_call (ok_is_behind G) rfl (hr.mono (by decide)) ax.gd (by rfl) hx rfl (pd_acons (pd_x (pv 1)) (pd_acons (pd_x (pv 0)) pd_anil))))))))
theorem ok_heights (G : Ground K mg) : Cld P w K mg base cl 2 "heights" ["likes"] F_heights := by
  obtain ⟨f, fd, Ff, hm⟩ := G.f_heights
  refine cld_mk Ff hm sc_heights rfl (by decide) (fun kV doc pm an cdv ct us ws ks hl hk => ?_) (fun cdv A outer s H E G' hr hg => ?_)
  · subst hk
    match us, hl with
    | [], hl => match ws, (by simp only [List.length_cons, List.length_nil] at hl; omega : ws.length = 1) with
      | [_], _ => rfl
    | [_], hl => match ws, (by simp only [List.length_cons, List.length_nil] at hl; omega : ws.length = 0) with
      | [], _ => rfl
    | _ :: _ :: _, hl => exact absurd hl (by simp only [List.length_cons, List.length_nil]; omega)
  have ax : Ax (cxOf (L2.CX P w) P w K mg base N_heights "heights" (defScope s_heights) f cdv A outer s H E) := ax_of hr hg rfl
  have hx : Passes (L2.CX P w) (cxOf (L2.CX P w) P w K mg base N_heights "heights" (defScope s_heights) f cdv A outer s H E) E := passes_call (takes_of rfl rfl rfl rfl) (fun _ _ _ _ h => h)
  exact (pd_cons (pd_set (i := 1) (show (1 : Nat) ∉ kpFrom 0 [true] from by decide) sc_heights.nd rfl (by first | exact Or.inl rfl | exact Or.inr rfl) (pd_lst pd_anil))
  (pd_cons (pd_for (tg_name (show (2 : Nat) ∉ kpFrom 0 [true] from by decide)) (passes_of rfl) rfl (pi_seq rfl (pd_x (pv 0))) (pg_name (i := 2) sc_heights.nd rfl (by first | exact Or.inl rfl | exact Or.inr rfl)) (pd_cons (pd_setLc (own := [("one", 4), ("height", 5)]) (show (3 : Nat) ∉ kpFrom 0 [true] from by decide) (tg_tup (tg_cons (tg_name (show (4 : Nat) ∉ kpFrom 0 [true] from by decide)) (tg_cons (tg_name (show (5 : Nat) ∉ kpFrom 0 [true] from by decide)) tg_nil))) (by decide) (show ∀ i ∈ kpFrom 0 [true], i ∉ ([4, 5] : List Nat) from by decide) (by decide) (gd_zp (by decide)) rfl sc_heights.nd rfl rfl (sw_true rfl rfl rfl (by decide +kernel)) (pi_zp (by rfl) G.b_zip (pd_n (pv 0)) (pd_n (pv 1))) (blkOk_by (N := N_heights) (sc := defScope s_heights) (by decide +kernel)) (fun _ _ _ _ _ => (pg_tup rfl (pgs_cons (pg_name (i := 4) sc_heights.nd rfl (by first | exact Or.inl rfl | exact Or.inr rfl)) (pgs_cons (pg_name (i := 5) sc_heights.nd rfl (by first | exact Or.inl rfl | exact Or.inr rfl)) pgs_nil)))) (fun _ _ _ _ _ => (pts_one (pt_bv (pd_call (ok_is_behind G) rfl (hr.mono (by decide)) (ax.blk).gd (by rfl) passL rfl (pd_acons (pd_x (pv 4)) (pd_acons (pd_x (pv 2)) pd_anil)))))) (fun _ _ _ _ _ => (pd_x (pv 5))))
  (pd_one (pd_expr (pd_app (pv 1) (pd_acons (r := []) (pd_op (og_add rfl) (pd_ix ax rfl (pd_n (pv 2)) (pd_c pe_int (.int _))) (pd_bi (og_max1 ax rfl) (by rfl) G.b_max bt_max (pd_acons (pd_op (og_add rfl) (pd_lst (pd_acons (pd_c pe_int (.int _)) pd_anil)) (pd_n (pv 3))) pd_anil))) pd_anil))))))
  (pd_one (pd_ret (pd_m (pv 1))))))
theorem ok_depths (G : Ground K mg) : Cld P w K mg base cl 2 "depths" ["likes"] F_depths := by
  obtain ⟨f, fd, Ff, hm⟩ := G.f_depths
  refine cld_mk Ff hm sc_depths rfl (by decide) (fun kV doc pm an cdv ct us ws ks hl hk => ?_) (fun cdv A outer s H E G' hr hg => ?_)
  · subst hk
    match us, hl with
    | [], hl => match ws, (by simp only [List.length_cons, List.length_nil] at hl; omega : ws.length = 1) with
      | [_], _ => rfl
    | [_], hl => match ws, (by simp only [List.length_cons, List.length_nil] at hl; omega : ws.length = 0) with
      | [], _ => rfl
    | _ :: _ :: _, hl => exact absurd hl (by simp only [List.length_cons, List.length_nil]; omega)
  have ax : Ax (cxOf (L2.CX P w) P w K mg base N_depths "depths" (defScope s_depths) f cdv A outer s H E) := ax_of hr hg rfl
  have hx : Passes (L2.CX P w) (cxOf (L2.CX P w) P w K mg base N_depths "depths" (defScope s_depths) f cdv A outer s H E) E := passes_call (takes_of rfl rfl rfl rfl) (fun _ _ _ _ h => h)
  exact (pd_cons (pd_set (i := 1) (show (1 : Nat) ∉ kpFrom 0 [true] from by decide) sc_depths.nd rfl (by first | exact Or.inl rfl | exact Or.inr rfl) pd_dct1)
  (pd_cons (pd_for (tg_name (show (2 : Nat) ∉ kpFrom 0 [true] from by decide)) (passes_of rfl) rfl (pi_seq rfl (pd_fz (pd_rev (pd_n (pv 0))))) (pg_name (i := 2) sc_depths.nd rfl (by first | exact Or.inl rfl | exact Or.inr rfl)) (pd_cons (pd_setLcD (own := [("one", 4)]) (show (3 : Nat) ∉ kpFrom 0 [true] from by decide) (fun _ => (tg_name (show (4 : Nat) ∉ kpFrom 0 [true] from by decide))) (by decide) (show ∀ i ∈ kpFrom 0 [true], i ∉ ([4] : List Nat) from by decide) (by decide) rfl sc_depths.nd rfl rfl (sw_true rfl rfl rfl (by decide +kernel)) (pv 1) (blkOk_by (N := N_depths) (sc := defScope s_depths) (by decide +kernel)) (fun _ _ _ _ _ => (pg_name (i := 4) sc_depths.nd rfl (by first | exact Or.inl rfl | exact Or.inr rfl))) (fun _ _ _ _ _ _ => (pts_one (pt_bv (pd_call (ok_is_behind G) rfl (hr.mono (by decide)) (ax.blk).gd (by rfl) passL rfl (pd_acons (pd_x (pv 2)) (pd_acons (pd_x (pv 4)) pd_anil)))))) (fun _ _ _ _ _ _ => (pd_ix (ax.blk) rfl (pd_n (pv 1)) (pd_n (pv 4)))))
  (pd_one (pd_sto (by have := ax.un; omega) (pv 1) (pd_x (pv 2)) (pd_op (og_add rfl) (pd_ix ax rfl (pd_n (pv 2)) (pd_c pe_int (.int _))) (pd_bi (og_max1 ax rfl) (by rfl) G.b_max bt_max (pd_acons (pd_op (og_add rfl) (pd_lst (pd_acons (pd_c pe_int (.int _)) pd_anil)) (pd_n (pv 3))) pd_anil)))))))
  (pd_one (pd_ret (pd_lc (own := [("like", 2)]) (tg_name (show (2 : Nat) ∉ kpFrom 0 [true] from by decide)) (by decide) (show ∀ i ∈ kpFrom 0 [true], i ∉ ([2] : List Nat) from by decide) (by decide) (gd_seq (by decide)) rfl sc_depths.nd (pi_seq rfl (pd_n (pv 0))) (blkOk_by (N := N_depths) (sc := defScope s_depths) (by decide +kernel)) (fun _ _ _ _ _ => (pg_name (i := 2) sc_depths.nd rfl (by first | exact Or.inl rfl | exact Or.inr rfl))) (fun _ _ _ _ _ => pd_yes) (fun _ _ _ _ _ => (pd_ix (ax.blk) rfl (pd_n (pv 1)) (pd_n (pv 2)))))))))
theorem ok_is_one_of (G : Ground K mg) : Cld P w K mg base cl 2 "is_one_of" ["likes", "value"] F_is_one_of := by
  obtain ⟨f, fd, Ff, hm⟩ := G.f_is_one_of
  refine cld_mk Ff hm sc_is_one_of rfl (by decide) (fun kV doc pm an cdv ct us ws ks hl hk => ?_) (fun cdv A outer s H E G' hr hg => ?_)
  · subst hk
    match us, hl with
    | [], hl => match ws, (by simp only [List.length_cons, List.length_nil] at hl; omega : ws.length = 2) with
      | [_, _], _ => rfl
    | [_], hl => match ws, (by simp only [List.length_cons, List.length_nil] at hl; omega : ws.length = 1) with
      | [_], _ => rfl
    | [_, _], hl => match ws, (by simp only [List.length_cons, List.length_nil] at hl; omega : ws.length = 0) with
      | [], _ => rfl
    | _ :: _ :: _ :: _, hl => exact absurd hl (by simp only [List.length_cons, List.length_nil]; omega)
  have ax : Ax (cxOf (L2.CX P w) P w K mg base N_is_one_of "is_one_of" (defScope s_is_one_of) f cdv A outer s H E) := ax_of hr hg rfl
  have hx : Passes (L2.CX P w) (cxOf (L2.CX P w) P w K mg base N_is_one_of "is_one_of" (defScope s_is_one_of) f cdv A outer s H E) E := passes_call (takes_of rfl rfl rfl rfl) (fun _ _ _ _ h => h)
  exact (pd_cons (pd_if (PW.pt (pw_bor (pt_bnot (pt_bv (pd_isi rfl (by rfl) G.b_isinstance (by rfl) G.b_tuple bt_tuple (pd_n (pv 1))))) (pw_or1 (pt_bnot (pt_bv (pd_bi (og_all ax rfl) (by rfl) G.b_all bt_all (pd_acons (pd_lc (own := [("part", 2)]) (tg_name (show (2 : Nat) ∉ kpFrom 0 [true, true] from by decide)) (by decide) (show ∀ i ∈ kpFrom 0 [true, true], i ∉ ([2] : List Nat) from by decide) (by decide) (gd_seq (by decide)) rfl sc_is_one_of.nd (pi_seq rfl (pd_n (pv 1))) (blkOk_by (N := N_is_one_of) (sc := defScope s_is_one_of) (by decide +kernel)) (fun _ _ _ _ _ => (pg_name (i := 2) sc_is_one_of.nd rfl (by first | exact Or.inl rfl | exact Or.inr rfl))) (fun _ _ _ _ _ => pd_yes) (fun _ _ _ _ _ => (pd_call (ok_is_integer G) rfl (hr.mono (by decide)) (ax.blk).gd (by rfl) passL rfl (pd_acons (pd_x (pv 2)) pd_anil)))) pd_anil))))))) (pd_one (pd_ret (pd_c pe_bl (.bl _)))) pd_nil)
  (pd_one (pd_ret (pd_cmp (og_inD ax rfl) (pd_n (pv 1)) (pd_n (pv 0))))))
theorem ok__law_of (G : Ground K mg) : Cld P w K mg base cl 2 "_law_of" ["pot", "some"] F__law_of := by
  obtain ⟨f, fd, Ff, hm⟩ := G.f__law_of
  refine cld_mk Ff hm sc__law_of rfl (by decide) (fun kV doc pm an cdv ct us ws ks hl hk => ?_) (fun cdv A outer s H E G' hr hg => ?_)
  · subst hk
    match us, hl with
    | [], hl => match ws, (by simp only [List.length_cons, List.length_nil] at hl; omega : ws.length = 2) with
      | [_, _], _ => rfl
    | [_], hl => match ws, (by simp only [List.length_cons, List.length_nil] at hl; omega : ws.length = 1) with
      | [_], _ => rfl
    | [_, _], hl => match ws, (by simp only [List.length_cons, List.length_nil] at hl; omega : ws.length = 0) with
      | [], _ => rfl
    | _ :: _ :: _ :: _, hl => exact absurd hl (by simp only [List.length_cons, List.length_nil]; omega)
  have ax : Ax (cxOf (L2.CX P w) P w K mg base N__law_of "_law_of" (defScope s__law_of) f cdv A outer s H E) := ax_of hr hg rfl
  have hx : Passes (L2.CX P w) (cxOf (L2.CX P w) P w K mg base N__law_of "_law_of" (defScope s__law_of) f cdv A outer s H E) E := passes_call (takes_of rfl rfl rfl rfl) (fun _ _ _ _ h => h)
  exact (pd_one (pd_ret (pd_ix ax rfl (pd_n (pv 1)) (pd_call (ok__law_take G) rfl (hr.mono (by decide)) ax.gd (by rfl) hx rfl (pd_acons (pd_n (pv 0)) (pd_acons (pd_bi (og_len rfl) (by rfl) G.b_len bt_len (pd_acons (pd_n (pv 1)) pd_anil)) pd_anil))))))
theorem ok__law_some (G : Ground K mg) : Cld P w K mg base cl 2 "_law_some" ["pot", "pool", "many"] F__law_some := by
  obtain ⟨f, fd, Ff, hm⟩ := G.f__law_some
  refine cld_mk Ff hm sc__law_some rfl (by decide) (fun kV doc pm an cdv ct us ws ks hl hk => ?_) (fun cdv A outer s H E G' hr hg => ?_)
  · subst hk
    match us, hl with
    | [], hl => match ws, (by simp only [List.length_cons, List.length_nil] at hl; omega : ws.length = 3) with
      | [_, _, _], _ => rfl
    | [_], hl => match ws, (by simp only [List.length_cons, List.length_nil] at hl; omega : ws.length = 2) with
      | [_, _], _ => rfl
    | [_, _], hl => match ws, (by simp only [List.length_cons, List.length_nil] at hl; omega : ws.length = 1) with
      | [_], _ => rfl
    | [_, _, _], hl => match ws, (by simp only [List.length_cons, List.length_nil] at hl; omega : ws.length = 0) with
      | [], _ => rfl
    | _ :: _ :: _ :: _ :: _, hl => exact absurd hl (by simp only [List.length_cons, List.length_nil]; omega)
  have ax : Ax (cxOf (L2.CX P w) P w K mg base N__law_some "_law_some" (defScope s__law_some) f cdv A outer s H E) := ax_of hr hg rfl
  have hx : Passes (L2.CX P w) (cxOf (L2.CX P w) P w K mg base N__law_some "_law_some" (defScope s__law_some) f cdv A outer s H E) E := passes_call (takes_of rfl rfl rfl rfl) (fun _ _ _ _ h => h)
  exact (pd_cons (pd_par ⟨(show (4 : Nat) ∉ kpFrom 0 [true, true, true] from by decide), (show (5 : Nat) ∉ kpFrom 0 [true, true, true] from by decide)⟩ rfl sc__law_some.nd rfl rfl (by decide) rfl rfl (pd_acons (pd_bt (og_list rfl) (by rfl) G.b_list bt_list (pd_acons (pd_n (pv 1)) pd_anil)) (pd_acons (pd_lst pd_anil) pd_anil)) rfl)
  (pd_cons (pd_for (tg_name (show (3 : Nat) ∉ kpFrom 0 [true, true, true] from by decide)) (passes_of rfl) rfl (pi_rg1 (by rfl) G.b_range (pd_x (pv 2))) (pg_name (i := 3) sc__law_some.nd rfl (by first | exact Or.inl rfl | exact Or.inr rfl)) (pd_one (pd_expr (pd_app (pv 5) (pd_acons (r := []) (pd_pop (pv 4) (pd_acons (r := []) (pd_call (ok__law_take G) rfl (hr.mono (by decide)) ax.gd (by rfl) hx rfl (pd_acons (pd_n (pv 0)) (pd_acons (pd_bi (og_len rfl) (by rfl) G.b_len bt_len (pd_acons (pd_n (pv 4)) pd_anil)) pd_anil))) pd_anil)) pd_anil)))))
  (pd_one (pd_ret (pd_m (pv 5))))))
theorem ok__law_likes (G : Ground K mg) : Cld P w K mg base cl 2 "_law_likes" ["pot", "cores", "many", "heavy"] F__law_likes := by
  obtain ⟨f, fd, Ff, hm⟩ := G.f__law_likes
  refine cld_mk Ff hm sc__law_likes rfl (by decide) (fun kV doc pm an cdv ct us ws ks hl hk => ?_) (fun cdv A outer s H E G' hr hg => ?_)
  · subst hk
    match us, hl with
    | [], hl => match ws, (by simp only [List.length_cons, List.length_nil] at hl; omega : ws.length = 4) with
      | [_, _, _, _], _ => rfl
    | [_], hl => match ws, (by simp only [List.length_cons, List.length_nil] at hl; omega : ws.length = 3) with
      | [_, _, _], _ => rfl
    | [_, _], hl => match ws, (by simp only [List.length_cons, List.length_nil] at hl; omega : ws.length = 2) with
      | [_, _], _ => rfl
    | [_, _, _], hl => match ws, (by simp only [List.length_cons, List.length_nil] at hl; omega : ws.length = 1) with
      | [_], _ => rfl
    | [_, _, _, _], hl => match ws, (by simp only [List.length_cons, List.length_nil] at hl; omega : ws.length = 0) with
      | [], _ => rfl
    | _ :: _ :: _ :: _ :: _ :: _, hl => exact absurd hl (by simp only [List.length_cons, List.length_nil]; omega)
  have ax : Ax (cxOf (L2.CX P w) P w K mg base N__law_likes "_law_likes" (defScope s__law_likes) f cdv A outer s H E) := ax_of hr hg rfl
  have hx : Passes (L2.CX P w) (cxOf (L2.CX P w) P w K mg base N__law_likes "_law_likes" (defScope s__law_likes) f cdv A outer s H E) E := passes_call (takes_of rfl rfl rfl rfl) (fun _ _ _ _ h => h)
  exact (pd_cons (pd_set (i := 4) (show (4 : Nat) ∉ kpFrom 0 [true, true, true, true] from by decide) sc__law_likes.nd rfl (by first | exact Or.inl rfl | exact Or.inr rfl) pd_dct1)
  (pd_cons (pd_for (tg_name (show (5 : Nat) ∉ kpFrom 0 [true, true, true, true] from by decide)) (passes_of rfl) rfl (pi_rg1 (by rfl) G.b_range (pd_x (pv 2))) (pg_name (i := 5) sc__law_likes.nd rfl (by first | exact Or.inl rfl | exact Or.inr rfl)) (pd_cons (pd_set (i := 6) (show (6 : Nat) ∉ kpFrom 0 [true, true, true, true] from by decide) sc__law_likes.nd rfl (by first | exact Or.inl rfl | exact Or.inr rfl) (pd_tup (pd_acons (pd_bt (og_int) (by rfl) G.b_int bt_int (pd_acons (pd_call (ok__law_take G) rfl (hr.mono (by decide)) ax.gd (by rfl) hx rfl (pd_acons (pd_n (pv 0)) (pd_acons (pd_bi (og_len rfl) (by rfl) G.b_len bt_len (pd_acons (pd_ix ax rfl (pd_n (pv 1)) (pd_c pe_int (.int _))) pd_anil)) pd_anil))) pd_anil)) (pd_acons (pd_bt (og_int) (by rfl) G.b_int bt_int (pd_acons (pd_call (ok__law_take G) rfl (hr.mono (by decide)) ax.gd (by rfl) hx rfl (pd_acons (pd_n (pv 0)) (pd_acons (pd_bi (og_len rfl) (by rfl) G.b_len bt_len (pd_acons (pd_ix ax rfl (pd_n (pv 1)) (pd_c pe_int (.int _))) pd_anil)) pd_anil))) pd_anil)) pd_anil))))
  (pd_one (pd_sto (by have := ax.un; omega) (pv 4) (pd_x (pv 6)) (pd_bt (og_int) (by rfl) G.b_int bt_int (pd_acons (pd_op (og_add rfl) (pd_c pe_int (.int _)) (pd_call (ok__law_take G) rfl (hr.mono (by decide)) ax.gd (by rfl) hx rfl (pd_acons (pd_n (pv 0)) (pd_acons (pd_x (pv 3)) pd_anil)))) pd_anil))))))
  (pd_one (pd_ret (pd_bt (og_tuple rfl) (by rfl) G.b_tuple bt_tuple (pd_acons (pd_lc (own := [("pair", 6)]) (tg_name (show (6 : Nat) ∉ kpFrom 0 [true, true, true, true] from by decide)) (by decide) (show ∀ i ∈ kpFrom 0 [true, true, true, true], i ∉ ([6] : List Nat) from by decide) (by decide) (gd_seq (by decide)) rfl sc__law_likes.nd (pi_seq rfl (pd_bi (og_sorted2 ax rfl rfl) (by rfl) G.b_sorted bt_sorted (pd_acons (pd_n (pv 4)) pd_anil))) (blkOk_by (N := N__law_likes) (sc := defScope s__law_likes) (by decide +kernel)) (fun _ _ _ _ _ => (pg_name (i := 6) sc__law_likes.nd rfl (by first | exact Or.inl rfl | exact Or.inr rfl))) (fun _ _ _ _ _ => pd_yes) (fun _ _ _ _ _ => (pd_op (og_add rfl) (pd_n (pv 6)) (pd_tup (pd_acons (pd_ix (ax.blk) rfl (pd_n (pv 4)) (pd_n (pv 6))) pd_anil))))) pd_anil))))))
theorem ok__law_matches (G : Ground K mg) : Cld P w K mg base cl 2 "_law_matches" ["likes"] F__law_matches := by
  obtain ⟨f, fd, Ff, hm⟩ := G.f__law_matches
  refine cld_mk Ff hm sc__law_matches rfl (by decide) (fun kV doc pm an cdv ct us ws ks hl hk => ?_) (fun cdv A outer s H E G' hr hg => ?_)
  · subst hk
    match us, hl with
    | [], hl => match ws, (by simp only [List.length_cons, List.length_nil] at hl; omega : ws.length = 1) with
      | [_], _ => rfl
    | [_], hl => match ws, (by simp only [List.length_cons, List.length_nil] at hl; omega : ws.length = 0) with
      | [], _ => rfl
    | _ :: _ :: _, hl => exact absurd hl (by simp only [List.length_cons, List.length_nil]; omega)
  have ax : Ax (cxOf (L2.CX P w) P w K mg base N__law_matches "_law_matches" (defScope s__law_matches) f cdv A outer s H E) := ax_of hr hg rfl
  have hx : Passes (L2.CX P w) (cxOf (L2.CX P w) P w K mg base N__law_matches "_law_matches" (defScope s__law_matches) f cdv A outer s H E) E := passes_call (takes_of rfl rfl rfl rfl) (fun _ _ _ _ h => h)
  exact (pd_cons (pd_set (i := 1) (show (1 : Nat) ∉ kpFrom 0 [true] from by decide) sc__law_matches.nd rfl (by first | exact Or.inl rfl | exact Or.inr rfl) (pd_lst (pd_acons (pd_tup pd_anil) pd_anil)))
  (pd_cons (pd_for (tg_name (show (2 : Nat) ∉ kpFrom 0 [true] from by decide)) (passes_of rfl) rfl (pi_seq rfl (pd_x (pv 0))) (pg_name (i := 2) sc__law_matches.nd rfl (by first | exact Or.inl rfl | exact Or.inr rfl)) (pd_one (pd_set (i := 1) (show (1 : Nat) ∉ kpFrom 0 [true] from by decide) sc__law_matches.nd rfl (by first | exact Or.inl rfl | exact Or.inr rfl) (pd_op (og_add rfl) (pd_n (pv 1)) (pd_lc (own := [("row", 3)]) (tg_name (show (3 : Nat) ∉ kpFrom 0 [true] from by decide)) (by decide) (show ∀ i ∈ kpFrom 0 [true], i ∉ ([3] : List Nat) from by decide) (by decide) (gd_seq (by decide)) rfl sc__law_matches.nd (pi_seq rfl (pd_n (pv 1))) (blkOk_by (N := N__law_matches) (sc := defScope s__law_matches) (by decide +kernel)) (fun _ _ _ _ _ => (pg_name (i := 3) sc__law_matches.nd rfl (by first | exact Or.inl rfl | exact Or.inr rfl))) (fun _ _ _ _ _ => (pts_one (pt_bv (pd_bi (og_all (ax.blk) rfl) (by rfl) G.b_all bt_all (pd_acons (pd_lc (own := [("one", 4)]) (tg_name (show (4 : Nat) ∉ kpFrom 0 [true] from by decide)) (by decide) (show ∀ i ∈ kpFrom 0 [true], i ∉ ([4] : List Nat) from by decide) (by decide) (gd_seq (by decide)) rfl sc__law_matches.nd (pi_seq rfl (pd_n (pv 3))) (blkOk_by (by rfl)) (fun _ _ _ _ _ => (pg_name (i := 4) sc__law_matches.nd rfl (by first | exact Or.inl rfl | exact Or.inr rfl))) (fun _ _ _ _ _ => pd_yes) (fun _ _ _ _ _ => (pd_call (ok__law_agree G) rfl (hr.mono (by decide)) (ax.blk.blk).gd (by rfl) passL rfl (pd_acons (pd_x (pv 4)) (pd_acons (pd_x (pv 2)) pd_anil))))) pd_anil))))) (fun _ _ _ _ _ => (pd_op (og_add rfl) (pd_n (pv 3)) (pd_tup (pd_acons (pd_x (pv 2)) pd_anil)))))))))
  (pd_one (pd_ret (pd_m (pv 1))))))
theorem ok__law_is_match (G : Ground K mg) : Cld P w K mg base cl 2 "_law_is_match" ["likes", "value"] F__law_is_match := by
  obtain ⟨f, fd, Ff, hm⟩ := G.f__law_is_match
  refine cld_mk Ff hm sc__law_is_match rfl (by decide) (fun kV doc pm an cdv ct us ws ks hl hk => ?_) (fun cdv A outer s H E G' hr hg => ?_)
  · subst hk
    match us, hl with
    | [], hl => match ws, (by simp only [List.length_cons, List.length_nil] at hl; omega : ws.length = 2) with
      | [_, _], _ => rfl
    | [_], hl => match ws, (by simp only [List.length_cons, List.length_nil] at hl; omega : ws.length = 1) with
      | [_], _ => rfl
    | [_, _], hl => match ws, (by simp only [List.length_cons, List.length_nil] at hl; omega : ws.length = 0) with
      | [], _ => rfl
    | _ :: _ :: _ :: _, hl => exact absurd hl (by simp only [List.length_cons, List.length_nil]; omega)
  have ax : Ax (cxOf (L2.CX P w) P w K mg base N__law_is_match "_law_is_match" (defScope s__law_is_match) f cdv A outer s H E) := ax_of hr hg rfl
  have hx : Passes (L2.CX P w) (cxOf (L2.CX P w) P w K mg base N__law_is_match "_law_is_match" (defScope s__law_is_match) f cdv A outer s H E) E := passes_call (takes_of rfl rfl rfl rfl) (fun _ _ _ _ h => h)
  exact (pd_cons (pd_if (PW.pt (pw_bor (pt_bnot (pt_bv (pd_isi rfl (by rfl) G.b_isinstance (by rfl) G.b_tuple bt_tuple (pd_n (pv 1))))) (pw_or1 (pt_bnot (pt_bv (pd_bi (og_all ax rfl) (by rfl) G.b_all bt_all (pd_acons (pd_lc (own := [("one", 2)]) (tg_name (show (2 : Nat) ∉ kpFrom 0 [true, true] from by decide)) (by decide) (show ∀ i ∈ kpFrom 0 [true, true], i ∉ ([2] : List Nat) from by decide) (by decide) (gd_seq (by decide)) rfl sc__law_is_match.nd (pi_seq rfl (pd_n (pv 1))) (blkOk_by (N := N__law_is_match) (sc := defScope s__law_is_match) (by decide +kernel)) (fun _ _ _ _ _ => (pg_name (i := 2) sc__law_is_match.nd rfl (by first | exact Or.inl rfl | exact Or.inr rfl))) (fun _ _ _ _ _ => pd_yes) (fun _ _ _ _ _ => (pd_call (ok__law_is_like G) rfl (hr.mono (by decide)) (ax.blk).gd (by rfl) passL rfl (pd_acons (pd_x (pv 0)) (pd_acons (pd_x (pv 2)) pd_anil))))) pd_anil))))))) (pd_one (pd_ret (pd_c pe_bl (.bl _)))) pd_nil)
  (pd_one (pd_ret (pd_bi (og_all ax rfl) (by rfl) G.b_all bt_all (pd_acons (pd_lc (own := [("one", 2), ("other", 3)]) (tg_tup (tg_cons (tg_name (show (2 : Nat) ∉ kpFrom 0 [true, true] from by decide)) (tg_cons (tg_name (show (3 : Nat) ∉ kpFrom 0 [true, true] from by decide)) tg_nil))) (by decide) (show ∀ i ∈ kpFrom 0 [true, true], i ∉ ([2, 3] : List Nat) from by decide) (by decide) (gd_zp (by decide)) rfl sc__law_is_match.nd (pi_zp (by rfl) G.b_zip (pd_n (pv 1)) (pd_sl rfl (pd_n (pv 1)) (pp_some (pd_c pe_int (.int _))) pp_none)) (blkOk_by (N := N__law_is_match) (sc := defScope s__law_is_match) (by decide +kernel)) (fun _ _ _ _ _ => (pg_tup rfl (pgs_cons (pg_name (i := 2) sc__law_is_match.nd rfl (by first | exact Or.inl rfl | exact Or.inr rfl)) (pgs_cons (pg_name (i := 3) sc__law_is_match.nd rfl (by first | exact Or.inl rfl | exact Or.inr rfl)) pgs_nil)))) (fun _ _ _ _ _ => pd_yes) (fun _ _ _ _ _ => (pd_and (pd_cmp (og_lt (ax.blk) rfl) (pd_ix (ax.blk) rfl (pd_n (pv 2)) (pd_c pe_int (.int _))) (pd_ix (ax.blk) rfl (pd_n (pv 3)) (pd_c pe_int (.int _)))) (pe_one (pd_cmp (og_lt (ax.blk) rfl) (pd_ix (ax.blk) rfl (pd_n (pv 2)) (pd_c pe_int (.int _))) (pd_ix (ax.blk) rfl (pd_n (pv 3)) (pd_c pe_int (.int _)))))))) pd_anil)))))
theorem ok__law_is_count (G : Ground K mg) : Cld P w K mg base cl 2 "_law_is_count" ["likes", "value"] F__law_is_count := by
  obtain ⟨f, fd, Ff, hm⟩ := G.f__law_is_count
  refine cld_mk Ff hm sc__law_is_count rfl (by decide) (fun kV doc pm an cdv ct us ws ks hl hk => ?_) (fun cdv A outer s H E G' hr hg => ?_)
  · subst hk
    match us, hl with
    | [], hl => match ws, (by simp only [List.length_cons, List.length_nil] at hl; omega : ws.length = 2) with
      | [_, _], _ => rfl
    | [_], hl => match ws, (by simp only [List.length_cons, List.length_nil] at hl; omega : ws.length = 1) with
      | [_], _ => rfl
    | [_, _], hl => match ws, (by simp only [List.length_cons, List.length_nil] at hl; omega : ws.length = 0) with
      | [], _ => rfl
    | _ :: _ :: _ :: _, hl => exact absurd hl (by simp only [List.length_cons, List.length_nil]; omega)
  have ax : Ax (cxOf (L2.CX P w) P w K mg base N__law_is_count "_law_is_count" (defScope s__law_is_count) f cdv A outer s H E) := ax_of hr hg rfl
  have hx : Passes (L2.CX P w) (cxOf (L2.CX P w) P w K mg base N__law_is_count "_law_is_count" (defScope s__law_is_count) f cdv A outer s H E) E := passes_call (takes_of rfl rfl rfl rfl) (fun _ _ _ _ h => h)
  exact (pd_cons (pd_if (PW.pt (pw_bor (pt_bnot (pt_bv (pd_isi rfl (by rfl) G.b_isinstance (by rfl) G.b_tuple bt_tuple (pd_n (pv 1))))) (pw_bor (pt_cmp2 (og_ne ax rfl) (pd_bi (og_len rfl) (by rfl) G.b_len bt_len (pd_acons (pd_n (pv 1)) pd_anil)) (pd_c pe_int (.int _))) (pw_bor (pt_bnot (pt_bv (pd_isi rfl (by rfl) G.b_isinstance (by rfl) G.b_tuple bt_tuple (pd_ix ax rfl (pd_n (pv 1)) (pd_c pe_int (.int _)))))) (pw_or1 (pt_cmp2 (og_eq ax rfl) (pd_ix ax rfl (pd_n (pv 1)) (pd_c pe_int (.int _))) (pd_tup pd_anil))))))) (pd_one (pd_ret (pd_c pe_bl (.bl _)))) pd_nil)
  (pd_cons (pd_asg (tg_tup (tg_cons (tg_name (show (2 : Nat) ∉ kpFrom 0 [true, true] from by decide)) (tg_cons (tg_name (show (3 : Nat) ∉ kpFrom 0 [true, true] from by decide)) tg_nil))) (pd_x (pv 1)) (pg_tup rfl (pgs_cons (pg_name (i := 2) sc__law_is_count.nd rfl (by first | exact Or.inl rfl | exact Or.inr rfl)) (pgs_cons (pg_name (i := 3) sc__law_is_count.nd rfl (by first | exact Or.inl rfl | exact Or.inr rfl)) pgs_nil))))
  (pd_cons (pd_if (PW.pt (pw_bor (pt_bnot (pt_bv (pd_isi rfl (by rfl) G.b_isinstance (by rfl) G.b_int bt_int (pd_n (pv 3))))) (pw_bor (pt_bv (pd_isi rfl (by rfl) G.b_isinstance (by rfl) G.b_bool bt_bool (pd_n (pv 3)))) (pw_or1 (pt_cmp2 (og_lt ax rfl) (pd_n (pv 3)) (pd_c pe_int (.int _))))))) (pd_one (pd_ret (pd_c pe_bl (.bl _)))) pd_nil)
  (pd_cons (pd_if (PW.pt (pw_bor (pt_bnot (pt_bv (pd_bi (og_all ax rfl) (by rfl) G.b_all bt_all (pd_acons (pd_lc (own := [("one", 4)]) (tg_name (show (4 : Nat) ∉ kpFrom 0 [true, true] from by decide)) (by decide) (show ∀ i ∈ kpFrom 0 [true, true], i ∉ ([4] : List Nat) from by decide) (by decide) (gd_seq (by decide)) rfl sc__law_is_count.nd (pi_seq rfl (pd_n (pv 2))) (blkOk_by (N := N__law_is_count) (sc := defScope s__law_is_count) (by decide +kernel)) (fun _ _ _ _ _ => (pg_name (i := 4) sc__law_is_count.nd rfl (by first | exact Or.inl rfl | exact Or.inr rfl))) (fun _ _ _ _ _ => pd_yes) (fun _ _ _ _ _ => (pd_call (ok__law_is_like G) rfl (hr.mono (by decide)) (ax.blk).gd (by rfl) passL rfl (pd_acons (pd_x (pv 0)) (pd_acons (pd_x (pv 4)) pd_anil))))) pd_anil)))) (pw_or1 (pt_bnot (pt_bv (pd_bi (og_all ax rfl) (by rfl) G.b_all bt_all (pd_acons (pd_lc (own := [("one", 4), ("two", 5)]) (tg_tup (tg_cons (tg_name (show (4 : Nat) ∉ kpFrom 0 [true, true] from by decide)) (tg_cons (tg_name (show (5 : Nat) ∉ kpFrom 0 [true, true] from by decide)) tg_nil))) (by decide) (show ∀ i ∈ kpFrom 0 [true, true], i ∉ ([4, 5] : List Nat) from by decide) (by decide) (gd_zp (by decide)) rfl sc__law_is_count.nd (pi_zp (by rfl) G.b_zip (pd_n (pv 2)) (pd_sl rfl (pd_n (pv 2)) (pp_some (pd_c pe_int (.int _))) pp_none)) (blkOk_by (N := N__law_is_count) (sc := defScope s__law_is_count) (by decide +kernel)) (fun _ _ _ _ _ => (pg_tup rfl (pgs_cons (pg_name (i := 4) sc__law_is_count.nd rfl (by first | exact Or.inl rfl | exact Or.inr rfl)) (pgs_cons (pg_name (i := 5) sc__law_is_count.nd rfl (by first | exact Or.inl rfl | exact Or.inr rfl)) pgs_nil)))) (fun _ _ _ _ _ => pd_yes) (fun _ _ _ _ _ => (pd_cmp (og_lt (ax.blk) rfl) (pd_n (pv 4)) (pd_n (pv 5))))) pd_anil))))))) (pd_one (pd_ret (pd_c pe_bl (.bl _)))) pd_nil)
  (pd_one (pd_ret (pd_not (pd_bi (og_any ax rfl) (by rfl) G.b_any bt_any (pd_acons (pd_lc (own := [("one", 4)]) (tg_name (show (4 : Nat) ∉ kpFrom 0 [true, true] from by decide)) (by decide) (show ∀ i ∈ kpFrom 0 [true, true], i ∉ ([4] : List Nat) from by decide) (by decide) (gd_seq (by decide)) rfl sc__law_is_count.nd (pi_seq rfl (pd_n (pv 2))) (blkOk_by (N := N__law_is_count) (sc := defScope s__law_is_count) (by decide +kernel)) (fun _ _ _ _ _ => (pg_name (i := 4) sc__law_is_count.nd rfl (by first | exact Or.inl rfl | exact Or.inr rfl))) (fun _ _ _ _ _ => pd_yes) (fun _ _ _ _ _ => (pd_bi (og_any (ax.blk) rfl) (by rfl) G.b_any bt_any (pd_acons (pd_lc (own := [("other", 6)]) (tg_name (show (6 : Nat) ∉ kpFrom 0 [true, true] from by decide)) (by decide) (show ∀ i ∈ kpFrom 0 [true, true], i ∉ ([6] : List Nat) from by decide) (by decide) (gd_seq (by decide)) rfl sc__law_is_count.nd (pi_seq rfl (pd_n (pv 2))) (blkOk_by (by rfl)) (fun _ _ _ _ _ => (pg_name (i := 6) sc__law_is_count.nd rfl (by first | exact Or.inl rfl | exact Or.inr rfl))) (fun _ _ _ _ _ => pd_yes) (fun _ _ _ _ _ => (pd_call (ok__law_agree G) rfl (hr.mono (by decide)) (ax.blk.blk).gd (by rfl) passL rfl (pd_acons (pd_x (pv 4)) (pd_acons (pd_x (pv 6)) pd_anil))))) pd_anil)))) pd_anil)))))))))
theorem ok_is_weight (G : Ground K mg) : Cld P w K mg base cl 3 "is_weight" ["value"] F_is_weight := by
  obtain ⟨f, fd, Ff, hm⟩ := G.f_is_weight
  obtain ⟨u_MOST_WEIGHT, m_MOST_WEIGHT, r_MOST_WEIGHT⟩ := G.g_MOST_WEIGHT
  refine cld_mk Ff hm sc_is_weight rfl (by decide) (fun kV doc pm an cdv ct us ws ks hl hk => ?_) (fun cdv A outer s H E G' hr hg => ?_)
  · subst hk
    match us, hl with
    | [], hl => match ws, (by simp only [List.length_cons, List.length_nil] at hl; omega : ws.length = 1) with
      | [_], _ => rfl
    | [_], hl => match ws, (by simp only [List.length_cons, List.length_nil] at hl; omega : ws.length = 0) with
      | [], _ => rfl
    | _ :: _ :: _, hl => exact absurd hl (by simp only [List.length_cons, List.length_nil]; omega)
  have ax : Ax (cxOf (L2.CX P w) P w K mg base N_is_weight "is_weight" (defScope s_is_weight) f cdv A outer s H E) := ax_of hr hg rfl
  have hx : Passes (L2.CX P w) (cxOf (L2.CX P w) P w K mg base N_is_weight "is_weight" (defScope s_is_weight) f cdv A outer s H E) E := passes_call (takes_of rfl rfl rfl rfl) (fun _ _ _ _ h => h)
  exact (pd_one (pd_ret (pd_call (ok_is_between G) rfl (hr.mono (by decide)) ax.gd (by rfl) hx rfl (pd_acons (pd_x (pv 0)) (pd_acons (pd_c pe_int (.int _)) (pd_acons (pd_c (pe_glob (by rfl) m_MOST_WEIGHT r_MOST_WEIGHT) (.int _)) pd_anil))))))
theorem ok_is_cores (G : Ground K mg) : Cld P w K mg base cl 3 "is_cores" ["value"] F_is_cores := by
  obtain ⟨f, fd, Ff, hm⟩ := G.f_is_cores
  refine cld_mk Ff hm sc_is_cores rfl (by decide) (fun kV doc pm an cdv ct us ws ks hl hk => ?_) (fun cdv A outer s H E G' hr hg => ?_)
  · subst hk
    match us, hl with
    | [], hl => match ws, (by simp only [List.length_cons, List.length_nil] at hl; omega : ws.length = 1) with
      | [_], _ => rfl
    | [_], hl => match ws, (by simp only [List.length_cons, List.length_nil] at hl; omega : ws.length = 0) with
      | [], _ => rfl
    | _ :: _ :: _, hl => exact absurd hl (by simp only [List.length_cons, List.length_nil]; omega)
  have ax : Ax (cxOf (L2.CX P w) P w K mg base N_is_cores "is_cores" (defScope s_is_cores) f cdv A outer s H E) := ax_of hr hg rfl
  have hx : Passes (L2.CX P w) (cxOf (L2.CX P w) P w K mg base N_is_cores "is_cores" (defScope s_is_cores) f cdv A outer s H E) E := passes_call (takes_of rfl rfl rfl rfl) (fun _ _ _ _ h => h)
  exact (pd_one (pd_ret (pd_and (pd_isi rfl (by rfl) G.b_isinstance (by rfl) G.b_tuple bt_tuple (pd_n (pv 0))) (pd_and (pd_cmp (og_eq ax rfl) (pd_bi (og_len rfl) (by rfl) G.b_len bt_len (pd_acons (pd_n (pv 0)) pd_anil)) (pd_c pe_int (.int _))) (pd_and (pd_call (ok_is_core G) rfl (hr.mono (by decide)) ax.gd (by rfl) hx rfl (pd_acons (pd_ix ax rfl (pd_n (pv 0)) (pd_c pe_int (.int _))) pd_anil)) (pe_one (pd_fz (pd_call (ok_is_core G) rfl (hr.mono (by decide)) ax.gd (by rfl) hx rfl (pd_acons (pd_ix ax rfl (pd_n (pv 0)) (pd_c pe_int (.int _))) pd_anil)))))))))
theorem ok_worth_of (G : Ground K mg) : Cld P w K mg base cl 3 "worth_of" ["likes"] F_worth_of := by
  obtain ⟨f, fd, Ff, hm⟩ := G.f_worth_of
  refine cld_mk Ff hm sc_worth_of rfl (by decide) (fun kV doc pm an cdv ct us ws ks hl hk => ?_) (fun cdv A outer s H E G' hr hg => ?_)
  · subst hk
    match us, hl with
    | [], hl => match ws, (by simp only [List.length_cons, List.length_nil] at hl; omega : ws.length = 1) with
      | [_], _ => rfl
    | [_], hl => match ws, (by simp only [List.length_cons, List.length_nil] at hl; omega : ws.length = 0) with
      | [], _ => rfl
    | _ :: _ :: _, hl => exact absurd hl (by simp only [List.length_cons, List.length_nil]; omega)
  have ax : Ax (cxOf (L2.CX P w) P w K mg base N_worth_of "worth_of" (defScope s_worth_of) f cdv A outer s H E) := ax_of hr hg rfl
  have hx : Passes (L2.CX P w) (cxOf (L2.CX P w) P w K mg base N_worth_of "worth_of" (defScope s_worth_of) f cdv A outer s H E) E := passes_call (takes_of rfl rfl rfl rfl) (fun _ _ _ _ h => h)
  exact (pd_one (pd_ret (pd_bi (og_max1 ax rfl) (by rfl) G.b_max bt_max (pd_acons (pd_op (og_add rfl) (pd_lst (pd_acons (pd_c pe_int (.int _)) pd_anil)) (pd_call (ok_heights G) rfl (hr.mono (by decide)) ax.gd (by rfl) hx rfl (pd_acons (pd_x (pv 0)) pd_anil))) pd_anil))))
theorem ok_counts_of (G : Ground K mg) : Cld P w K mg base cl 3 "counts_of" ["likes"] F_counts_of := by
  obtain ⟨f, fd, Ff, hm⟩ := G.f_counts_of
  refine cld_mk Ff hm sc_counts_of rfl (by decide) (fun kV doc pm an cdv ct us ws ks hl hk => ?_) (fun cdv A outer s H E G' hr hg => ?_)
  · subst hk
    match us, hl with
    | [], hl => match ws, (by simp only [List.length_cons, List.length_nil] at hl; omega : ws.length = 1) with
      | [_], _ => rfl
    | [_], hl => match ws, (by simp only [List.length_cons, List.length_nil] at hl; omega : ws.length = 0) with
      | [], _ => rfl
    | _ :: _ :: _, hl => exact absurd hl (by simp only [List.length_cons, List.length_nil]; omega)
  have ax : Ax (cxOf (L2.CX P w) P w K mg base N_counts_of "counts_of" (defScope s_counts_of) f cdv A outer s H E) := ax_of hr hg rfl
  have hx : Passes (L2.CX P w) (cxOf (L2.CX P w) P w K mg base N_counts_of "counts_of" (defScope s_counts_of) f cdv A outer s H E) E := passes_call (takes_of rfl rfl rfl rfl) (fun _ _ _ _ h => h)
  exact (pd_cons (pd_setLc (own := [("like", 6), ("height", 7)]) (show (1 : Nat) ∉ kpFrom 0 [true] from by decide) (tg_tup (tg_cons (tg_name (show (6 : Nat) ∉ kpFrom 0 [true] from by decide)) (tg_cons (tg_name (show (7 : Nat) ∉ kpFrom 0 [true] from by decide)) tg_nil))) (by decide) (show ∀ i ∈ kpFrom 0 [true], i ∉ ([6, 7] : List Nat) from by decide) (by decide) (gd_zp (by decide)) rfl sc_counts_of.nd rfl rfl (sw_true rfl rfl rfl (by decide +kernel)) (pi_zp (by rfl) G.b_zip (pd_n (pv 0)) (pd_call (ok_heights G) rfl (hr.mono (by decide)) ax.gd (by rfl) hx rfl (pd_acons (pd_x (pv 0)) pd_anil))) (blkOk_by (N := N_counts_of) (sc := defScope s_counts_of) (by decide +kernel)) (fun _ _ _ _ _ => (pg_tup rfl (pgs_cons (pg_name (i := 6) sc_counts_of.nd rfl (by first | exact Or.inl rfl | exact Or.inr rfl)) (pgs_cons (pg_name (i := 7) sc_counts_of.nd rfl (by first | exact Or.inl rfl | exact Or.inr rfl)) pgs_nil)))) (fun _ _ _ _ _ => pd_yes) (fun _ _ _ _ _ => (pd_tup (pd_acons (pd_op (og_sub rfl) (pd_n (pv 7)) (pd_ix (ax.blk) rfl (pd_n (pv 6)) (pd_c pe_int (.int _)))) (pd_acons (pd_x (pv 7)) (pd_acons (pd_x (pv 6)) pd_anil))))))
  (pd_cons (pd_set (i := 2) (show (2 : Nat) ∉ kpFrom 0 [true] from by decide) sc_counts_of.nd rfl (by first | exact Or.inl rfl | exact Or.inr rfl) (pd_sortset ax (by rfl) G.b_sorted bt_sorted (by rfl) G.b_set (pd_op (og_add rfl) (pd_lc (own := [("row", 8)]) (tg_name (show (8 : Nat) ∉ kpFrom 0 [true] from by decide)) (by decide) (show ∀ i ∈ kpFrom 0 [true], i ∉ ([8] : List Nat) from by decide) (by decide) (gd_seq (by decide)) rfl sc_counts_of.nd (pi_seq rfl (pd_n (pv 1))) (blkOk_by (N := N_counts_of) (sc := defScope s_counts_of) (by decide +kernel)) (fun _ _ _ _ _ => (pg_name (i := 8) sc_counts_of.nd rfl (by first | exact Or.inl rfl | exact Or.inr rfl))) (fun _ _ _ _ _ => pd_yes) (fun _ _ _ _ _ => (pd_ix (ax.blk) rfl (pd_n (pv 8)) (pd_c pe_int (.int _))))) (pd_lc (own := [("row", 8)]) (tg_name (show (8 : Nat) ∉ kpFrom 0 [true] from by decide)) (by decide) (show ∀ i ∈ kpFrom 0 [true], i ∉ ([8] : List Nat) from by decide) (by decide) (gd_seq (by decide)) rfl sc_counts_of.nd (pi_seq rfl (pd_n (pv 1))) (blkOk_by (N := N_counts_of) (sc := defScope s_counts_of) (by decide +kernel)) (fun _ _ _ _ _ => (pg_name (i := 8) sc_counts_of.nd rfl (by first | exact Or.inl rfl | exact Or.inr rfl))) (fun _ _ _ _ _ => pd_yes) (fun _ _ _ _ _ => (pd_ix (ax.blk) rfl (pd_n (pv 8)) (pd_c pe_int (.int _))))))))
  (pd_cons (pd_set (i := 3) (show (3 : Nat) ∉ kpFrom 0 [true] from by decide) sc_counts_of.nd rfl (by first | exact Or.inl rfl | exact Or.inr rfl) (pd_lst pd_anil))
  (pd_cons (pd_for (tg_tup (tg_cons (tg_name (show (4 : Nat) ∉ kpFrom 0 [true] from by decide)) (tg_cons (tg_name (show (5 : Nat) ∉ kpFrom 0 [true] from by decide)) tg_nil))) (passes_of rfl) rfl (pi_zp (by rfl) G.b_zip (pd_x (pv 2)) (pd_fz (pd_sl rfl (pd_n (pv 2)) (pp_some (pd_c pe_int (.int _))) pp_none))) (pg_tup rfl (pgs_cons (pg_name (i := 4) sc_counts_of.nd rfl (by first | exact Or.inl rfl | exact Or.inr rfl)) (pgs_cons (pg_name (i := 5) sc_counts_of.nd rfl (by first | exact Or.inl rfl | exact Or.inr rfl)) pgs_nil))) (pd_one (pd_expr (pd_app (pv 3) (pd_acons (r := []) (pd_tup (pd_acons (pd_bt (og_tuple rfl) (by rfl) G.b_tuple bt_tuple (pd_acons (pd_lc (own := [("begin", 9), ("end", 10), ("like", 6)]) (tg_tup (tg_cons (tg_name (show (9 : Nat) ∉ kpFrom 0 [true] from by decide)) (tg_cons (tg_name (show (10 : Nat) ∉ kpFrom 0 [true] from by decide)) (tg_cons (tg_name (show (6 : Nat) ∉ kpFrom 0 [true] from by decide)) tg_nil)))) (by decide) (show ∀ i ∈ kpFrom 0 [true], i ∉ ([9, 10, 6] : List Nat) from by decide) (by decide) (gd_seq (by decide)) rfl sc_counts_of.nd (pi_seq rfl (pd_n (pv 1))) (blkOk_by (N := N_counts_of) (sc := defScope s_counts_of) (by decide +kernel)) (fun _ _ _ _ _ => (pg_tup rfl (pgs_cons (pg_name (i := 9) sc_counts_of.nd rfl (by first | exact Or.inl rfl | exact Or.inr rfl)) (pgs_cons (pg_name (i := 10) sc_counts_of.nd rfl (by first | exact Or.inl rfl | exact Or.inr rfl)) (pgs_cons (pg_name (i := 6) sc_counts_of.nd rfl (by first | exact Or.inl rfl | exact Or.inr rfl)) pgs_nil))))) (fun _ _ _ _ _ => (pts_one (PW.pt (pw_band (pt_cmp2 (og_le (ax.blk) rfl) (pd_n (pv 9)) (pd_n (pv 4))) (pw_and1 (pt_cmp2 (og_le (ax.blk) rfl) (pd_n (pv 5)) (pd_n (pv 10)))))))) (fun _ _ _ _ _ => (pd_x (pv 6)))) pd_anil)) (pd_acons (pd_op (og_sub rfl) (pd_n (pv 5)) (pd_n (pv 4))) pd_anil))) pd_anil)))))
  (pd_one (pd_ret (pd_bt (og_tuple rfl) (by rfl) G.b_tuple bt_tuple (pd_acons (pd_n (pv 3)) pd_anil))))))))
theorem ok_is_match (G : Ground K mg) : Cld P w K mg base cl 3 "is_match" ["likes", "value"] F_is_match := by
  obtain ⟨f, fd, Ff, hm⟩ := G.f_is_match
  refine cld_mk Ff hm sc_is_match rfl (by decide) (fun kV doc pm an cdv ct us ws ks hl hk => ?_) (fun cdv A outer s H E G' hr hg => ?_)
  · subst hk
    match us, hl with
    | [], hl => match ws, (by simp only [List.length_cons, List.length_nil] at hl; omega : ws.length = 2) with
      | [_, _], _ => rfl
    | [_], hl => match ws, (by simp only [List.length_cons, List.length_nil] at hl; omega : ws.length = 1) with
      | [_], _ => rfl
    | [_, _], hl => match ws, (by simp only [List.length_cons, List.length_nil] at hl; omega : ws.length = 0) with
      | [], _ => rfl
    | _ :: _ :: _ :: _, hl => exact absurd hl (by simp only [List.length_cons, List.length_nil]; omega)
  have ax : Ax (cxOf (L2.CX P w) P w K mg base N_is_match "is_match" (defScope s_is_match) f cdv A outer s H E) := ax_of hr hg rfl
  have hx : Passes (L2.CX P w) (cxOf (L2.CX P w) P w K mg base N_is_match "is_match" (defScope s_is_match) f cdv A outer s H E) E := passes_call (takes_of rfl rfl rfl rfl) (fun _ _ _ _ h => h)
  exact (pd_cons (pd_if (PW.pt (pw_bor (pt_bnot (pt_bv (pd_isi rfl (by rfl) G.b_isinstance (by rfl) G.b_tuple bt_tuple (pd_n (pv 1))))) (pw_or1 (pt_bnot (pt_bv (pd_bi (og_all ax rfl) (by rfl) G.b_all bt_all (pd_acons (pd_lc (own := [("like", 4)]) (tg_name (show (4 : Nat) ∉ kpFrom 0 [true, true] from by decide)) (by decide) (show ∀ i ∈ kpFrom 0 [true, true], i ∉ ([4] : List Nat) from by decide) (by decide) (gd_seq (by decide)) rfl sc_is_match.nd (pi_seq rfl (pd_n (pv 1))) (blkOk_by (N := N_is_match) (sc := defScope s_is_match) (by decide +kernel)) (fun _ _ _ _ _ => (pg_name (i := 4) sc_is_match.nd rfl (by first | exact Or.inl rfl | exact Or.inr rfl))) (fun _ _ _ _ _ => pd_yes) (fun _ _ _ _ _ => (pd_call (ok_is_one_of G) rfl (hr.mono (by decide)) (ax.blk).gd (by rfl) passL rfl (pd_acons (pd_x (pv 0)) (pd_acons (pd_x (pv 4)) pd_anil))))) pd_anil))))))) (pd_one (pd_ret (pd_c pe_bl (.bl _)))) pd_nil)
  (pd_one (pd_ret (pd_bi (og_all ax rfl) (by rfl) G.b_all bt_all (pd_acons (pd_lc (own := [("one", 2), ("other", 3)]) (tg_tup (tg_cons (tg_name (show (2 : Nat) ∉ kpFrom 0 [true, true] from by decide)) (tg_cons (tg_name (show (3 : Nat) ∉ kpFrom 0 [true, true] from by decide)) tg_nil))) (by decide) (show ∀ i ∈ kpFrom 0 [true, true], i ∉ ([2, 3] : List Nat) from by decide) (by decide) (gd_zp (by decide)) rfl sc_is_match.nd (pi_zp (by rfl) G.b_zip (pd_n (pv 1)) (pd_sl rfl (pd_n (pv 1)) (pp_some (pd_c pe_int (.int _))) pp_none)) (blkOk_by (N := N_is_match) (sc := defScope s_is_match) (by decide +kernel)) (fun _ _ _ _ _ => (pg_tup rfl (pgs_cons (pg_name (i := 2) sc_is_match.nd rfl (by first | exact Or.inl rfl | exact Or.inr rfl)) (pgs_cons (pg_name (i := 3) sc_is_match.nd rfl (by first | exact Or.inl rfl | exact Or.inr rfl)) pgs_nil)))) (fun _ _ _ _ _ => pd_yes) (fun _ _ _ _ _ => (pd_call (ok_is_behind G) rfl (hr.mono (by decide)) (ax.blk).gd (by rfl) passL rfl (pd_acons (pd_x (pv 2)) (pd_acons (pd_x (pv 3)) pd_anil))))) pd_anil)))))
theorem ok_is_count (G : Ground K mg) : Cld P w K mg base cl 3 "is_count" ["likes", "value"] F_is_count := by
  obtain ⟨f, fd, Ff, hm⟩ := G.f_is_count
  refine cld_mk Ff hm sc_is_count rfl (by decide) (fun kV doc pm an cdv ct us ws ks hl hk => ?_) (fun cdv A outer s H E G' hr hg => ?_)
  · subst hk
    match us, hl with
    | [], hl => match ws, (by simp only [List.length_cons, List.length_nil] at hl; omega : ws.length = 2) with
      | [_, _], _ => rfl
    | [_], hl => match ws, (by simp only [List.length_cons, List.length_nil] at hl; omega : ws.length = 1) with
      | [_], _ => rfl
    | [_, _], hl => match ws, (by simp only [List.length_cons, List.length_nil] at hl; omega : ws.length = 0) with
      | [], _ => rfl
    | _ :: _ :: _ :: _, hl => exact absurd hl (by simp only [List.length_cons, List.length_nil]; omega)
  have ax : Ax (cxOf (L2.CX P w) P w K mg base N_is_count "is_count" (defScope s_is_count) f cdv A outer s H E) := ax_of hr hg rfl
  have hx : Passes (L2.CX P w) (cxOf (L2.CX P w) P w K mg base N_is_count "is_count" (defScope s_is_count) f cdv A outer s H E) E := passes_call (takes_of rfl rfl rfl rfl) (fun _ _ _ _ h => h)
  exact (pd_cons (pd_if (PW.pt (pw_bor (pt_bnot (pt_bv (pd_isi rfl (by rfl) G.b_isinstance (by rfl) G.b_tuple bt_tuple (pd_n (pv 1))))) (pw_bor (pt_cmp2 (og_ne ax rfl) (pd_bi (og_len rfl) (by rfl) G.b_len bt_len (pd_acons (pd_n (pv 1)) pd_anil)) (pd_c pe_int (.int _))) (pw_bor (pt_bnot (pt_bv (pd_call (ok_is_integer G) rfl (hr.mono (by decide)) ax.gd (by rfl) hx rfl (pd_acons (pd_ix ax rfl (pd_n (pv 1)) (pd_c pe_int (.int _))) pd_anil)))) (pw_or1 (pt_cmp2 (og_lt ax rfl) (pd_ix ax rfl (pd_n (pv 1)) (pd_c pe_int (.int _))) (pd_c pe_int (.int _)))))))) (pd_one (pd_ret (pd_c pe_bl (.bl _)))) pd_nil)
  (pd_cons (pd_set (i := 2) (show (2 : Nat) ∉ kpFrom 0 [true, true] from by decide) sc_is_count.nd rfl (by first | exact Or.inl rfl | exact Or.inr rfl) (pd_ix ax rfl (pd_n (pv 1)) (pd_c pe_int (.int _))))
  (pd_cons (pd_if (PW.pt (pw_bor (pt_bnot (pt_bv (pd_isi rfl (by rfl) G.b_isinstance (by rfl) G.b_tuple bt_tuple (pd_n (pv 2))))) (pw_bor (pt_cmp2 (og_eq ax rfl) (pd_n (pv 2)) (pd_tup pd_anil)) (pw_or1 (pt_bnot (pt_bv (pd_bi (og_all ax rfl) (by rfl) G.b_all bt_all (pd_acons (pd_lc (own := [("like", 3)]) (tg_name (show (3 : Nat) ∉ kpFrom 0 [true, true] from by decide)) (by decide) (show ∀ i ∈ kpFrom 0 [true, true], i ∉ ([3] : List Nat) from by decide) (by decide) (gd_seq (by decide)) rfl sc_is_count.nd (pi_seq rfl (pd_n (pv 2))) (blkOk_by (N := N_is_count) (sc := defScope s_is_count) (by decide +kernel)) (fun _ _ _ _ _ => (pg_name (i := 3) sc_is_count.nd rfl (by first | exact Or.inl rfl | exact Or.inr rfl))) (fun _ _ _ _ _ => pd_yes) (fun _ _ _ _ _ => (pd_call (ok_is_one_of G) rfl (hr.mono (by decide)) (ax.blk).gd (by rfl) passL rfl (pd_acons (pd_x (pv 0)) (pd_acons (pd_x (pv 3)) pd_anil))))) pd_anil)))))))) (pd_one (pd_ret (pd_c pe_bl (.bl _)))) pd_nil)
  (pd_one (pd_ret (pd_and (pd_call (ok_is_ascending G) rfl (hr.mono (by decide)) ax.gd (by rfl) hx rfl (pd_acons (pd_x (pv 2)) pd_anil)) (pe_one (pd_not (pd_bi (og_any ax rfl) (by rfl) G.b_any bt_any (pd_acons (pd_lc (own := [("one", 4)]) (tg_name (show (4 : Nat) ∉ kpFrom 0 [true, true] from by decide)) (by decide) (show ∀ i ∈ kpFrom 0 [true, true], i ∉ ([4] : List Nat) from by decide) (by decide) (gd_seq (by decide)) rfl sc_is_count.nd (pi_seq rfl (pd_n (pv 2))) (blkOk_by (N := N_is_count) (sc := defScope s_is_count) (by decide +kernel)) (fun _ _ _ _ _ => (pg_name (i := 4) sc_is_count.nd rfl (by first | exact Or.inl rfl | exact Or.inr rfl))) (fun _ _ _ _ _ => pd_yes) (fun _ _ _ _ _ => (pd_bi (og_any (ax.blk) rfl) (by rfl) G.b_any bt_any (pd_acons (pd_lc (own := [("other", 5)]) (tg_name (show (5 : Nat) ∉ kpFrom 0 [true, true] from by decide)) (by decide) (show ∀ i ∈ kpFrom 0 [true, true], i ∉ ([5] : List Nat) from by decide) (by decide) (gd_seq (by decide)) rfl sc_is_count.nd (pi_seq rfl (pd_n (pv 2))) (blkOk_by (by rfl)) (fun _ _ _ _ _ => (pg_name (i := 5) sc_is_count.nd rfl (by first | exact Or.inl rfl | exact Or.inr rfl))) (fun _ _ _ _ _ => pd_yes) (fun _ _ _ _ _ => (pd_call (ok_do_agree G) rfl (hr.mono (by decide)) (ax.blk.blk).gd (by rfl) passL rfl (pd_acons (pd_x (pv 4)) (pd_acons (pd_x (pv 5)) pd_anil))))) pd_anil)))) pd_anil))))))))))
theorem ok__law_cores (G : Ground K mg) : Cld P w K mg base cl 3 "_law_cores" ["pot", "most"] F__law_cores := by
  obtain ⟨f, fd, Ff, hm⟩ := G.f__law_cores
  refine cld_mk Ff hm sc__law_cores rfl (by decide) (fun kV doc pm an cdv ct us ws ks hl hk => ?_) (fun cdv A outer s H E G' hr hg => ?_)
  · subst hk
    match us, hl with
    | [], hl => match ws, (by simp only [List.length_cons, List.length_nil] at hl; omega : ws.length = 2) with
      | [_, _], _ => rfl
    | [_], hl => match ws, (by simp only [List.length_cons, List.length_nil] at hl; omega : ws.length = 1) with
      | [_], _ => rfl
    | [_, _], hl => match ws, (by simp only [List.length_cons, List.length_nil] at hl; omega : ws.length = 0) with
      | [], _ => rfl
    | _ :: _ :: _ :: _, hl => exact absurd hl (by simp only [List.length_cons, List.length_nil]; omega)
  have ax : Ax (cxOf (L2.CX P w) P w K mg base N__law_cores "_law_cores" (defScope s__law_cores) f cdv A outer s H E) := ax_of hr hg rfl
  have hx : Passes (L2.CX P w) (cxOf (L2.CX P w) P w K mg base N__law_cores "_law_cores" (defScope s__law_cores) f cdv A outer s H E) E := passes_call (takes_of rfl rfl rfl rfl) (fun _ _ _ _ h => h)
  exact (pd_cons (pd_set (i := 2) (show (2 : Nat) ∉ kpFrom 0 [true, true] from by decide) sc__law_cores.nd rfl (by first | exact Or.inl rfl | exact Or.inr rfl) (pd_op (og_add rfl) (pd_lst (pd_acons (pd_c pe_str (.str _)) (pd_acons (pd_c pe_str (.str _)) (pd_acons (pd_c pe_str (.str _)) (pd_acons (pd_c pe_str (.str _)) (pd_acons (pd_c pe_str (.str _)) (pd_acons (pd_c pe_str (.str _)) (pd_acons (pd_c pe_str (.str _)) (pd_acons (pd_c pe_str (.str _)) pd_anil))))))))) (pd_lc (own := [("at", 4)]) (tg_name (show (4 : Nat) ∉ kpFrom 0 [true, true] from by decide)) (by decide) (show ∀ i ∈ kpFrom 0 [true, true], i ∉ ([4] : List Nat) from by decide) (by decide) gd_rg rfl sc__law_cores.nd (pi_rg1 (by rfl) G.b_range (pd_c pe_int (.int _))) (blkOk_by (N := N__law_cores) (sc := defScope s__law_cores) (by decide +kernel)) (fun _ _ _ _ _ => (pg_name (i := 4) sc__law_cores.nd rfl (by first | exact Or.inl rfl | exact Or.inr rfl))) (fun _ _ _ _ _ => pd_yes) (fun _ _ _ _ _ => (pd_op (og_add rfl) (pd_c pe_str (.str _)) (pd_bt (og_str) (by rfl) G.b_str bt_str (pd_acons (pd_n (pv 4)) pd_anil)))))))
  (pd_cons (pd_set (i := 3) (show (3 : Nat) ∉ kpFrom 0 [true, true] from by decide) sc__law_cores.nd rfl (by first | exact Or.inl rfl | exact Or.inr rfl) (pd_bt (og_tuple rfl) (by rfl) G.b_tuple bt_tuple (pd_acons (pd_call (ok__law_some G) rfl (hr.mono (by decide)) ax.gd (by rfl) hx rfl (pd_acons (pd_n (pv 0)) (pd_acons (pd_x (pv 2)) (pd_acons (pd_op (og_add rfl) (pd_c pe_int (.int _)) (pd_call (ok__law_take G) rfl (hr.mono (by decide)) ax.gd (by rfl) hx rfl (pd_acons (pd_n (pv 0)) (pd_acons (pd_x (pv 1)) pd_anil)))) pd_anil)))) pd_anil)))
  (pd_one (pd_ret (pd_tup (pd_acons (pd_x (pv 3)) (pd_acons (pd_bt (og_tuple rfl) (by rfl) G.b_tuple bt_tuple (pd_acons (pd_call (ok__law_some G) rfl (hr.mono (by decide)) ax.gd (by rfl) hx rfl (pd_acons (pd_n (pv 0)) (pd_acons (pd_x (pv 2)) (pd_acons (pd_op (og_add rfl) (pd_c pe_int (.int _)) (pd_call (ok__law_take G) rfl (hr.mono (by decide)) ax.gd (by rfl) hx rfl (pd_acons (pd_n (pv 0)) (pd_acons (pd_x (pv 1)) pd_anil)))) pd_anil)))) pd_anil)) pd_anil)))))))
theorem ok__law_due (G : Ground K mg) : Cld P w K mg base cl 3 "_law_due" ["likes", "value"] F__law_due := by
  obtain ⟨f, fd, Ff, hm⟩ := G.f__law_due
  refine cld_mk Ff hm sc__law_due rfl (by decide) (fun kV doc pm an cdv ct us ws ks hl hk => ?_) (fun cdv A outer s H E G' hr hg => ?_)
  · subst hk
    match us, hl with
    | [], hl => match ws, (by simp only [List.length_cons, List.length_nil] at hl; omega : ws.length = 2) with
      | [_, _], _ => rfl
    | [_], hl => match ws, (by simp only [List.length_cons, List.length_nil] at hl; omega : ws.length = 1) with
      | [_], _ => rfl
    | [_, _], hl => match ws, (by simp only [List.length_cons, List.length_nil] at hl; omega : ws.length = 0) with
      | [], _ => rfl
    | _ :: _ :: _ :: _, hl => exact absurd hl (by simp only [List.length_cons, List.length_nil]; omega)
  have ax : Ax (cxOf (L2.CX P w) P w K mg base N__law_due "_law_due" (defScope s__law_due) f cdv A outer s H E) := ax_of hr hg rfl
  have hx : Passes (L2.CX P w) (cxOf (L2.CX P w) P w K mg base N__law_due "_law_due" (defScope s__law_due) f cdv A outer s H E) E := passes_call (takes_of rfl rfl rfl rfl) (fun _ _ _ _ h => h)
  exact (pd_cons (pd_if (PW.pt (pw_bor (pt_bnot (pt_bv (pd_isi rfl (by rfl) G.b_isinstance (by rfl) G.b_tuple bt_tuple (pd_n (pv 1))))) (pw_bor (pt_cmp2 (og_ne ax rfl) (pd_bi (og_len rfl) (by rfl) G.b_len bt_len (pd_acons (pd_n (pv 1)) pd_anil)) (pd_c pe_int (.int _))) (pw_or1 (pt_bnot (pt_bv (pd_call (ok__law_is_match G) rfl (hr.mono (by decide)) ax.gd (by rfl) hx rfl (pd_acons (pd_x (pv 0)) (pd_acons (pd_ix ax rfl (pd_n (pv 1)) (pd_c pe_int (.int _))) pd_anil))))))))) (pd_one (pd_ret (pd_c pe_bl (.bl _)))) pd_nil)
  (pd_cons (pd_asg (tg_tup (tg_cons (tg_name (show (3 : Nat) ∉ kpFrom 0 [true, true] from by decide)) (tg_cons (tg_name (show (4 : Nat) ∉ kpFrom 0 [true, true] from by decide)) tg_nil))) (pd_x (pv 1)) (pg_tup rfl (pgs_cons (pg_name (i := 3) sc__law_due.nd rfl (by first | exact Or.inl rfl | exact Or.inr rfl)) (pgs_cons (pg_name (i := 4) sc__law_due.nd rfl (by first | exact Or.inl rfl | exact Or.inr rfl)) pgs_nil))))
  (pd_cons (pd_if (PW.pt (pw_bor (pt_bnot (pt_bv (pd_isi rfl (by rfl) G.b_isinstance (by rfl) G.b_tuple bt_tuple (pd_n (pv 4))))) (pw_or1 (pt_bnot (pt_bv (pd_bi (og_all ax rfl) (by rfl) G.b_all bt_all (pd_acons (pd_lc (own := [("one", 5)]) (tg_name (show (5 : Nat) ∉ kpFrom 0 [true, true] from by decide)) (by decide) (show ∀ i ∈ kpFrom 0 [true, true], i ∉ ([5] : List Nat) from by decide) (by decide) (gd_seq (by decide)) rfl sc__law_due.nd (pi_seq rfl (pd_n (pv 4))) (blkOk_by (N := N__law_due) (sc := defScope s__law_due) (by decide +kernel)) (fun _ _ _ _ _ => (pg_name (i := 5) sc__law_due.nd rfl (by first | exact Or.inl rfl | exact Or.inr rfl))) (fun _ _ _ _ _ => pd_yes) (fun _ _ _ _ _ => (pd_call (ok__law_is_count G) rfl (hr.mono (by decide)) (ax.blk).gd (by rfl) passL rfl (pd_acons (pd_x (pv 0)) (pd_acons (pd_x (pv 5)) pd_anil))))) pd_anil))))))) (pd_one (pd_ret (pd_c pe_bl (.bl _)))) pd_nil)
  (pd_cons (pd_for (tg_name (show (2 : Nat) ∉ kpFrom 0 [true, true] from by decide)) (passes_of rfl) rfl (pi_seq rfl (pd_x (pv 0))) (pg_name (i := 2) sc__law_due.nd rfl (by first | exact Or.inl rfl | exact Or.inr rfl)) (pd_one (pd_if (pt_cmp2 (og_lt ax rfl) (pd_bi (og_sum ax) (by rfl) G.b_sum bt_sum (pd_acons (pd_lc (own := [("some", 6), ("many", 7)]) (tg_tup (tg_cons (tg_name (show (6 : Nat) ∉ kpFrom 0 [true, true] from by decide)) (tg_cons (tg_name (show (7 : Nat) ∉ kpFrom 0 [true, true] from by decide)) tg_nil))) (by decide) (show ∀ i ∈ kpFrom 0 [true, true], i ∉ ([6, 7] : List Nat) from by decide) (by decide) (gd_seq (by decide)) rfl sc__law_due.nd (pi_seq rfl (pd_n (pv 4))) (blkOk_by (N := N__law_due) (sc := defScope s__law_due) (by decide +kernel)) (fun _ _ _ _ _ => (pg_tup rfl (pgs_cons (pg_name (i := 6) sc__law_due.nd rfl (by first | exact Or.inl rfl | exact Or.inr rfl)) (pgs_cons (pg_name (i := 7) sc__law_due.nd rfl (by first | exact Or.inl rfl | exact Or.inr rfl)) pgs_nil)))) (fun _ _ _ _ _ => (pts_one (pt_cmp2 (og_inD (ax.blk) rfl) (pd_n (pv 2)) (pd_n (pv 6))))) (fun _ _ _ _ _ => (pd_x (pv 7)))) pd_anil)) (pd_ix ax rfl (pd_n (pv 2)) (pd_c pe_int (.int _)))) (pd_one (pd_ret (pd_c pe_bl (.bl _)))) pd_nil)))
  (pd_one (pd_ret (pd_cmp (og_eq ax rfl) (pd_call (ok__law_weight G) rfl (hr.mono (by decide)) ax.gd (by rfl) hx rfl (pd_acons (pd_x (pv 3)) pd_anil)) (pd_bi (og_sum ax) (by rfl) G.b_sum bt_sum (pd_acons (pd_lc (own := [("some", 6), ("many", 7)]) (tg_tup (tg_cons (tg_name (show (6 : Nat) ∉ kpFrom 0 [true, true] from by decide)) (tg_cons (tg_name (show (7 : Nat) ∉ kpFrom 0 [true, true] from by decide)) tg_nil))) (by decide) (show ∀ i ∈ kpFrom 0 [true, true], i ∉ ([6, 7] : List Nat) from by decide) (by decide) (gd_seq (by decide)) rfl sc__law_due.nd (pi_seq rfl (pd_n (pv 4))) (blkOk_by (N := N__law_due) (sc := defScope s__law_due) (by decide +kernel)) (fun _ _ _ _ _ => (pg_tup rfl (pgs_cons (pg_name (i := 6) sc__law_due.nd rfl (by first | exact Or.inl rfl | exact Or.inr rfl)) (pgs_cons (pg_name (i := 7) sc__law_due.nd rfl (by first | exact Or.inl rfl | exact Or.inr rfl)) pgs_nil)))) (fun _ _ _ _ _ => pd_yes) (fun _ _ _ _ _ => (pd_x (pv 7)))) pd_anil)))))))))
theorem ok_is_like (G : Ground K mg) : Cld P w K mg base cl 4 "is_like" ["cores", "value"] F_is_like := by
  obtain ⟨f, fd, Ff, hm⟩ := G.f_is_like
  refine cld_mk Ff hm sc_is_like rfl (by decide) (fun kV doc pm an cdv ct us ws ks hl hk => ?_) (fun cdv A outer s H E G' hr hg => ?_)
  · subst hk
    match us, hl with
    | [], hl => match ws, (by simp only [List.length_cons, List.length_nil] at hl; omega : ws.length = 2) with
      | [_, _], _ => rfl
    | [_], hl => match ws, (by simp only [List.length_cons, List.length_nil] at hl; omega : ws.length = 1) with
      | [_], _ => rfl
    | [_, _], hl => match ws, (by simp only [List.length_cons, List.length_nil] at hl; omega : ws.length = 0) with
      | [], _ => rfl
    | _ :: _ :: _ :: _, hl => exact absurd hl (by simp only [List.length_cons, List.length_nil]; omega)
  have ax : Ax (cxOf (L2.CX P w) P w K mg base N_is_like "is_like" (defScope s_is_like) f cdv A outer s H E) := ax_of hr hg rfl
  have hx : Passes (L2.CX P w) (cxOf (L2.CX P w) P w K mg base N_is_like "is_like" (defScope s_is_like) f cdv A outer s H E) E := passes_call (takes_of rfl rfl rfl rfl) (fun _ _ _ _ h => h)
  exact (pd_cons (pd_if (PW.pt (pw_bor (pt_bnot (pt_bv (pd_isi rfl (by rfl) G.b_isinstance (by rfl) G.b_tuple bt_tuple (pd_n (pv 1))))) (pw_bor (pt_cmp2 (og_ne ax rfl) (pd_bi (og_len rfl) (by rfl) G.b_len bt_len (pd_acons (pd_n (pv 1)) pd_anil)) (pd_c pe_int (.int _))) (pw_or1 (pt_bnot (pt_bv (pd_call (ok_is_weight G) rfl (hr.mono (by decide)) ax.gd (by rfl) hx rfl (pd_acons (pd_ix ax rfl (pd_n (pv 1)) (pd_c pe_int (.int _))) pd_anil)))))))) (pd_one (pd_ret (pd_c pe_bl (.bl _)))) pd_nil)
  (pd_one (pd_ret (pd_and (pd_call (ok_is_between G) rfl (hr.mono (by decide)) ax.gd (by rfl) hx rfl (pd_acons (pd_ix ax rfl (pd_n (pv 1)) (pd_c pe_int (.int _))) (pd_acons (pd_c pe_int (.int _)) (pd_acons (pd_op (og_sub rfl) (pd_bi (og_len rfl) (by rfl) G.b_len bt_len (pd_acons (pd_ix ax rfl (pd_n (pv 0)) (pd_c pe_int (.int _))) pd_anil)) (pd_c pe_int (.int _))) pd_anil)))) (pe_one (pd_fz (pd_call (ok_is_between G) rfl (hr.mono (by decide)) ax.gd (by rfl) hx rfl (pd_acons (pd_ix ax rfl (pd_n (pv 1)) (pd_c pe_int (.int _))) (pd_acons (pd_c pe_int (.int _)) (pd_acons (pd_op (og_sub rfl) (pd_bi (og_len rfl) (by rfl) G.b_len bt_len (pd_acons (pd_ix ax rfl (pd_n (pv 0)) (pd_c pe_int (.int _))) pd_anil)) (pd_c pe_int (.int _))) pd_anil))))))))))
theorem ok_check_cores (G : Ground K mg) : Cld P w K mg base cl 4 "check_cores" ["cores"] F_check_cores := by
  obtain ⟨f, fd, Ff, hm⟩ := G.f_check_cores
  refine cld_mk Ff hm sc_check_cores rfl (by decide) (fun kV doc pm an cdv ct us ws ks hl hk => ?_) (fun cdv A outer s H E G' hr hg => ?_)
  · subst hk
    match us, hl with
    | [], hl => match ws, (by simp only [List.length_cons, List.length_nil] at hl; omega : ws.length = 1) with
      | [_], _ => rfl
    | [_], hl => match ws, (by simp only [List.length_cons, List.length_nil] at hl; omega : ws.length = 0) with
      | [], _ => rfl
    | _ :: _ :: _, hl => exact absurd hl (by simp only [List.length_cons, List.length_nil]; omega)
  have ax : Ax (cxOf (L2.CX P w) P w K mg base N_check_cores "check_cores" (defScope s_check_cores) f cdv A outer s H E) := ax_of hr hg rfl
  have hx : Passes (L2.CX P w) (cxOf (L2.CX P w) P w K mg base N_check_cores "check_cores" (defScope s_check_cores) f cdv A outer s H E) E := passes_call (takes_of rfl rfl rfl rfl) (fun _ _ _ _ h => h)
  exact (pd_one (pd_if (pt_bnot (pt_bv (pd_call (ok_is_cores G) rfl (hr.mono (by decide)) ax.gd (by rfl) hx rfl (pd_acons (pd_x (pv 0)) pd_anil)))) (pd_one pd_never) pd_nil))
theorem ok_match_by (G : Ground K mg) : Cld P w K mg base cl 4 "match_by" ["likes", "is_first"] F_match_by := by
  obtain ⟨f, fd, Ff, hm⟩ := G.f_match_by
  refine cld_mk Ff hm sc_match_by rfl (by decide) (fun kV doc pm an cdv ct us ws ks hl hk => ?_) (fun cdv A outer s H E G' hr hg => ?_)
  · subst hk
    match us, hl with
    | [], hl => match ws, (by simp only [List.length_cons, List.length_nil] at hl; omega : ws.length = 2) with
      | [_, _], _ => rfl
    | [_], hl => match ws, (by simp only [List.length_cons, List.length_nil] at hl; omega : ws.length = 1) with
      | [_], _ => rfl
    | [_, _], hl => match ws, (by simp only [List.length_cons, List.length_nil] at hl; omega : ws.length = 0) with
      | [], _ => rfl
    | _ :: _ :: _ :: _, hl => exact absurd hl (by simp only [List.length_cons, List.length_nil]; omega)
  have ax : Ax (cxOf (L2.CX P w) P w K mg base N_match_by "match_by" (defScope s_match_by) f cdv A outer s H E) := ax_of hr hg rfl
  have hx : Passes (L2.CX P w) (cxOf (L2.CX P w) P w K mg base N_match_by "match_by" (defScope s_match_by) f cdv A outer s H E) E := passes_call (takes_of rfl rfl rfl rfl) (fun _ _ _ _ h => h)
  exact (pd_cons (pd_parT (show ∀ i ∈ ([2, 3, 4] : List Nat), i ∉ kpFrom 0 [true, true] from by decide) rfl rfl (by decide) (pd_acons (pd_dz ax (by rfl) G.b_dict (by rfl) G.b_zip (pd_n (pv 0)) (pd_call (ok_depths G) rfl (hr.mono (by decide)) ax.gd (by rfl) hx rfl (pd_acons (pd_x (pv 0)) pd_anil))) (pd_acons (pd_call (ok_worth_of G) rfl (hr.mono (by decide)) ax.gd (by rfl) hx rfl (pd_acons (pd_x (pv 0)) pd_anil)) (pd_acons (pd_lst pd_anil) pd_anil))) (pg_tup rfl (pgs_cons (pg_name (i := 2) sc_match_by.nd rfl (by first | exact Or.inl rfl | exact Or.inr rfl)) (pgs_cons (pg_name (i := 3) sc_match_by.nd rfl (by first | exact Or.inl rfl | exact Or.inr rfl)) (pgs_cons (pg_name (i := 4) sc_match_by.nd rfl (by first | exact Or.inl rfl | exact Or.inr rfl)) pgs_nil)))))
  (pd_cons (pd_while (passes_of rfl) (pt_cmp2 (og_gt ax rfl) (pd_n (pv 3)) (pd_c pe_int (.int _))) (pd_cons (pd_setLc (own := [("like", 6)]) (show (5 : Nat) ∉ kpFrom 0 [true, true] from by decide) (tg_name (show (6 : Nat) ∉ kpFrom 0 [true, true] from by decide)) (by decide) (show ∀ i ∈ kpFrom 0 [true, true], i ∉ ([6] : List Nat) from by decide) (by decide) (gd_seq (by decide)) rfl sc_match_by.nd rfl rfl (sw_true rfl rfl rfl (by decide +kernel)) (pi_seq rfl (pd_n (pv 0))) (blkOk_by (N := N_match_by) (sc := defScope s_match_by) (by decide +kernel)) (fun _ _ _ _ _ => (pg_name (i := 6) sc_match_by.nd rfl (by first | exact Or.inl rfl | exact Or.inr rfl))) (fun _ _ _ _ _ => (pts_one (PW.pt (pw_band (pt_cmp2 (og_eq (ax.blk) rfl) (pd_ix (ax.blk) rfl (pd_n (pv 2)) (pd_n (pv 6))) (pd_n (pv 3))) (pw_and1 (PW.pt (pw_bor (pt_cmp2 (og_eq (ax.blk) rfl) (pd_n (pv 4)) (pd_lst pd_anil)) (pw_or1 (pt_bv (pd_call (ok_is_behind G) rfl (hr.mono (by decide)) (ax.blk).gd (by rfl) passL rfl (pd_acons (pd_ix (ax.blk) rfl (pd_n (pv 4)) (pd_un og_neg (pd_c pe_int (.int _)))) (pd_acons (pd_x (pv 6)) pd_anil)))))))))))) (fun _ _ _ _ _ => (pd_x (pv 6))))
  (pd_cons (pd_expr (pd_app (pv 4) (pd_acons (r := []) (pd_ifx (pt_bv (pd_n (pv 1))) (pd_bi (og_min1 ax rfl) (by rfl) G.b_min bt_min (pd_acons (pd_n (pv 5)) pd_anil)) (pd_bi (og_max1 ax rfl) (by rfl) G.b_max bt_max (pd_acons (pd_n (pv 5)) pd_anil))) pd_anil)))
  (pd_one (pd_set (i := 3) (show (3 : Nat) ∉ kpFrom 0 [true, true] from by decide) sc_match_by.nd rfl (by first | exact Or.inl rfl | exact Or.inr rfl) (pd_op (og_sub rfl) (pd_n (pv 3)) (pd_ix ax rfl (pd_ix ax rfl (pd_n (pv 4)) (pd_un og_neg (pd_c pe_int (.int _)))) (pd_c pe_int (.int _)))))))))
  (pd_one (pd_ret (pd_bt (og_tuple rfl) (by rfl) G.b_tuple bt_tuple (pd_acons (pd_n (pv 4)) pd_anil))))))
theorem ok_have_likes_form (G : Ground K mg) : Cld P w K mg base cl 5 "have_likes_form" ["cores", "value"] F_have_likes_form := by
  obtain ⟨f, fd, Ff, hm⟩ := G.f_have_likes_form
  obtain ⟨u_MOST_LIKES, m_MOST_LIKES, r_MOST_LIKES⟩ := G.g_MOST_LIKES
  refine cld_mk Ff hm sc_have_likes_form rfl (by decide) (fun kV doc pm an cdv ct us ws ks hl hk => ?_) (fun cdv A outer s H E G' hr hg => ?_)
  · subst hk
    match us, hl with
    | [], hl => match ws, (by simp only [List.length_cons, List.length_nil] at hl; omega : ws.length = 2) with
      | [_, _], _ => rfl
    | [_], hl => match ws, (by simp only [List.length_cons, List.length_nil] at hl; omega : ws.length = 1) with
      | [_], _ => rfl
    | [_, _], hl => match ws, (by simp only [List.length_cons, List.length_nil] at hl; omega : ws.length = 0) with
      | [], _ => rfl
    | _ :: _ :: _ :: _, hl => exact absurd hl (by simp only [List.length_cons, List.length_nil]; omega)
  have ax : Ax (cxOf (L2.CX P w) P w K mg base N_have_likes_form "have_likes_form" (defScope s_have_likes_form) f cdv A outer s H E) := ax_of hr hg rfl
  have hx : Passes (L2.CX P w) (cxOf (L2.CX P w) P w K mg base N_have_likes_form "have_likes_form" (defScope s_have_likes_form) f cdv A outer s H E) E := passes_call (takes_of rfl rfl rfl rfl) (fun _ _ _ _ h => h)
  exact (pd_cons (pd_if (PW.pt (pw_bor (pt_bnot (pt_bv (pd_isi rfl (by rfl) G.b_isinstance (by rfl) G.b_tuple bt_tuple (pd_n (pv 1))))) (pw_bor (pt_cmp2 (og_gt ax rfl) (pd_bi (og_len rfl) (by rfl) G.b_len bt_len (pd_acons (pd_n (pv 1)) pd_anil)) (pd_c (pe_glob (by rfl) m_MOST_LIKES r_MOST_LIKES) (.int _))) (pw_or1 (pt_bnot (pt_bv (pd_bi (og_all ax rfl) (by rfl) G.b_all bt_all (pd_acons (pd_lc (own := [("one", 2)]) (tg_name (show (2 : Nat) ∉ kpFrom 0 [true, true] from by decide)) (by decide) (show ∀ i ∈ kpFrom 0 [true, true], i ∉ ([2] : List Nat) from by decide) (by decide) (gd_seq (by decide)) rfl sc_have_likes_form.nd (pi_seq rfl (pd_n (pv 1))) (blkOk_by (N := N_have_likes_form) (sc := defScope s_have_likes_form) (by decide +kernel)) (fun _ _ _ _ _ => (pg_name (i := 2) sc_have_likes_form.nd rfl (by first | exact Or.inl rfl | exact Or.inr rfl))) (fun _ _ _ _ _ => pd_yes) (fun _ _ _ _ _ => (pd_call (ok_is_like G) rfl (hr.mono (by decide)) (ax.blk).gd (by rfl) passL rfl (pd_acons (pd_x (pv 0)) (pd_acons (pd_x (pv 2)) pd_anil))))) pd_anil)))))))) (pd_one (pd_ret (pd_c pe_bl (.bl _)))) pd_nil)
  (pd_one (pd_ret (pd_call (ok_is_ascending G) rfl (hr.mono (by decide)) ax.gd (by rfl) hx rfl (pd_acons (pd_lc (own := [("one", 2)]) (tg_name (show (2 : Nat) ∉ kpFrom 0 [true, true] from by decide)) (by decide) (show ∀ i ∈ kpFrom 0 [true, true], i ∉ ([2] : List Nat) from by decide) (by decide) (gd_seq (by decide)) rfl sc_have_likes_form.nd (pi_seq rfl (pd_n (pv 1))) (blkOk_by (N := N_have_likes_form) (sc := defScope s_have_likes_form) (by decide +kernel)) (fun _ _ _ _ _ => (pg_name (i := 2) sc_have_likes_form.nd rfl (by first | exact Or.inl rfl | exact Or.inr rfl))) (fun _ _ _ _ _ => pd_yes) (fun _ _ _ _ _ => (pd_sl rfl (pd_n (pv 2)) pp_none (pp_some (pd_c pe_int (.int _)))))) pd_anil)))))
theorem ok_check_likes (G : Ground K mg) : Cld P w K mg base cl 6 "check_likes" ["cores", "likes"] F_check_likes := by
  obtain ⟨f, fd, Ff, hm⟩ := G.f_check_likes
  refine cld_mk Ff hm sc_check_likes rfl (by decide) (fun kV doc pm an cdv ct us ws ks hl hk => ?_) (fun cdv A outer s H E G' hr hg => ?_)
  · subst hk
    match us, hl with
    | [], hl => match ws, (by simp only [List.length_cons, List.length_nil] at hl; omega : ws.length = 2) with
      | [_, _], _ => rfl
    | [_], hl => match ws, (by simp only [List.length_cons, List.length_nil] at hl; omega : ws.length = 1) with
      | [_], _ => rfl
    | [_, _], hl => match ws, (by simp only [List.length_cons, List.length_nil] at hl; omega : ws.length = 0) with
      | [], _ => rfl
    | _ :: _ :: _ :: _, hl => exact absurd hl (by simp only [List.length_cons, List.length_nil]; omega)
  have ax : Ax (cxOf (L2.CX P w) P w K mg base N_check_likes "check_likes" (defScope s_check_likes) f cdv A outer s H E) := ax_of hr hg rfl
  have hx : Passes (L2.CX P w) (cxOf (L2.CX P w) P w K mg base N_check_likes "check_likes" (defScope s_check_likes) f cdv A outer s H E) E := passes_call (takes_of rfl rfl rfl rfl) (fun _ _ _ _ h => h)
  exact (pd_cons (pd_expr (pd_call (ok_check_cores G) rfl (hr.mono (by decide)) ax.gd (by rfl) hx rfl (pd_acons (pd_x (pv 0)) pd_anil)))
  (pd_one (pd_if (pt_bnot (pt_bv (pd_call (ok_have_likes_form G) rfl (hr.mono (by decide)) ax.gd (by rfl) hx rfl (pd_acons (pd_x (pv 0)) (pd_acons (pd_x (pv 1)) pd_anil))))) (pd_one pd_never) pd_nil)))
theorem ok_best (G : Ground K mg) : Cld P w K mg base cl 7 "best" ["cores", "likes"] F_best := by
  obtain ⟨f, fd, Ff, hm⟩ := G.f_best
  refine cld_mk Ff hm sc_best rfl (by decide) (fun kV doc pm an cdv ct us ws ks hl hk => ?_) (fun cdv A outer s H E G' hr hg => ?_)
  · subst hk
    match us, hl with
    | [], hl => match ws, (by simp only [List.length_cons, List.length_nil] at hl; omega : ws.length = 2) with
      | [_, _], _ => rfl
    | [_], hl => match ws, (by simp only [List.length_cons, List.length_nil] at hl; omega : ws.length = 1) with
      | [_], _ => rfl
    | [_, _], hl => match ws, (by simp only [List.length_cons, List.length_nil] at hl; omega : ws.length = 0) with
      | [], _ => rfl
    | _ :: _ :: _ :: _, hl => exact absurd hl (by simp only [List.length_cons, List.length_nil]; omega)
  have ax : Ax (cxOf (L2.CX P w) P w K mg base N_best "best" (defScope s_best) f cdv A outer s H E) := ax_of hr hg rfl
  have hx : Passes (L2.CX P w) (cxOf (L2.CX P w) P w K mg base N_best "best" (defScope s_best) f cdv A outer s H E) E := passes_call (takes_of rfl rfl rfl rfl) (fun _ _ _ _ h => h)
  exact (pd_cons (pd_expr (pd_call (ok_check_likes G) rfl (hr.mono (by decide)) ax.gd (by rfl) hx rfl (pd_acons (pd_x (pv 0)) (pd_acons (pd_x (pv 1)) pd_anil))))
  (pd_one (pd_ret (pd_tup (pd_acons (pd_fz (pd_call (ok_match_by G) rfl (hr.mono (by decide)) ax.gd (by rfl) hx rfl (pd_acons (pd_x (pv 1)) (pd_acons (pd_c pe_bl (.bl _)) pd_anil)))) (pd_acons (pd_fz (pd_call (ok_counts_of G) rfl (hr.mono (by decide)) ax.gd (by rfl) hx rfl (pd_acons (pd_x (pv 1)) pd_anil))) pd_anil))))))
theorem ok_shows_best (G : Ground K mg) : Cld P w K mg base cl 7 "shows_best" ["cores", "likes", "value"] F_shows_best := by
  obtain ⟨f, fd, Ff, hm⟩ := G.f_shows_best
  refine cld_mk Ff hm sc_shows_best rfl (by decide) (fun kV doc pm an cdv ct us ws ks hl hk => ?_) (fun cdv A outer s H E G' hr hg => ?_)
  · subst hk
    match us, hl with
    | [], hl => match ws, (by simp only [List.length_cons, List.length_nil] at hl; omega : ws.length = 3) with
      | [_, _, _], _ => rfl
    | [_], hl => match ws, (by simp only [List.length_cons, List.length_nil] at hl; omega : ws.length = 2) with
      | [_, _], _ => rfl
    | [_, _], hl => match ws, (by simp only [List.length_cons, List.length_nil] at hl; omega : ws.length = 1) with
      | [_], _ => rfl
    | [_, _, _], hl => match ws, (by simp only [List.length_cons, List.length_nil] at hl; omega : ws.length = 0) with
      | [], _ => rfl
    | _ :: _ :: _ :: _ :: _, hl => exact absurd hl (by simp only [List.length_cons, List.length_nil]; omega)
  have ax : Ax (cxOf (L2.CX P w) P w K mg base N_shows_best "shows_best" (defScope s_shows_best) f cdv A outer s H E) := ax_of hr hg rfl
  have hx : Passes (L2.CX P w) (cxOf (L2.CX P w) P w K mg base N_shows_best "shows_best" (defScope s_shows_best) f cdv A outer s H E) E := passes_call (takes_of rfl rfl rfl rfl) (fun _ _ _ _ h => h)
  exact (pd_cons (pd_expr (pd_call (ok_check_likes G) rfl (hr.mono (by decide)) ax.gd (by rfl) hx rfl (pd_acons (pd_x (pv 0)) (pd_acons (pd_x (pv 1)) pd_anil))))
  (pd_cons (pd_if (PW.pt (pw_bor (pt_bnot (pt_bv (pd_isi rfl (by rfl) G.b_isinstance (by rfl) G.b_tuple bt_tuple (pd_n (pv 2))))) (pw_bor (pt_cmp2 (og_ne ax rfl) (pd_bi (og_len rfl) (by rfl) G.b_len bt_len (pd_acons (pd_n (pv 2)) pd_anil)) (pd_c pe_int (.int _))) (pw_or1 (pt_bnot (pt_bv (pd_call (ok_is_match G) rfl (hr.mono (by decide)) ax.gd (by rfl) hx rfl (pd_acons (pd_x (pv 1)) (pd_acons (pd_ix ax rfl (pd_n (pv 2)) (pd_c pe_int (.int _))) pd_anil))))))))) (pd_one (pd_ret (pd_c pe_bl (.bl _)))) pd_nil)
  (pd_cons (pd_asg (tg_tup (tg_cons (tg_name (show (3 : Nat) ∉ kpFrom 0 [true, true, true] from by decide)) (tg_cons (tg_name (show (4 : Nat) ∉ kpFrom 0 [true, true, true] from by decide)) tg_nil))) (pd_x (pv 2)) (pg_tup rfl (pgs_cons (pg_name (i := 3) sc_shows_best.nd rfl (by first | exact Or.inl rfl | exact Or.inr rfl)) (pgs_cons (pg_name (i := 4) sc_shows_best.nd rfl (by first | exact Or.inl rfl | exact Or.inr rfl)) pgs_nil))))
  (pd_cons (pd_if (PW.pt (pw_bor (pt_bnot (pt_bv (pd_isi rfl (by rfl) G.b_isinstance (by rfl) G.b_tuple bt_tuple (pd_n (pv 4))))) (pw_or1 (pt_bnot (pt_bv (pd_bi (og_all ax rfl) (by rfl) G.b_all bt_all (pd_acons (pd_lc (own := [("one", 6)]) (tg_name (show (6 : Nat) ∉ kpFrom 0 [true, true, true] from by decide)) (by decide) (show ∀ i ∈ kpFrom 0 [true, true, true], i ∉ ([6] : List Nat) from by decide) (by decide) (gd_seq (by decide)) rfl sc_shows_best.nd (pi_seq rfl (pd_n (pv 4))) (blkOk_by (N := N_shows_best) (sc := defScope s_shows_best) (by decide +kernel)) (fun _ _ _ _ _ => (pg_name (i := 6) sc_shows_best.nd rfl (by first | exact Or.inl rfl | exact Or.inr rfl))) (fun _ _ _ _ _ => pd_yes) (fun _ _ _ _ _ => (pd_call (ok_is_count G) rfl (hr.mono (by decide)) (ax.blk).gd (by rfl) passL rfl (pd_acons (pd_x (pv 1)) (pd_acons (pd_x (pv 6)) pd_anil))))) pd_anil))))))) (pd_one (pd_ret (pd_c pe_bl (.bl _)))) pd_nil)
  (pd_cons (pd_if (pt_cmp2 (og_ne ax rfl) (pd_bi (og_sum ax) (by rfl) G.b_sum bt_sum (pd_acons (pd_lc (own := [("like", 5)]) (tg_name (show (5 : Nat) ∉ kpFrom 0 [true, true, true] from by decide)) (by decide) (show ∀ i ∈ kpFrom 0 [true, true, true], i ∉ ([5] : List Nat) from by decide) (by decide) (gd_seq (by decide)) rfl sc_shows_best.nd (pi_seq rfl (pd_n (pv 3))) (blkOk_by (N := N_shows_best) (sc := defScope s_shows_best) (by decide +kernel)) (fun _ _ _ _ _ => (pg_name (i := 5) sc_shows_best.nd rfl (by first | exact Or.inl rfl | exact Or.inr rfl))) (fun _ _ _ _ _ => pd_yes) (fun _ _ _ _ _ => (pd_ix (ax.blk) rfl (pd_n (pv 5)) (pd_c pe_int (.int _))))) pd_anil)) (pd_bi (og_sum ax) (by rfl) G.b_sum bt_sum (pd_acons (pd_lc (own := [("some", 7), ("many", 8)]) (tg_tup (tg_cons (tg_name (show (7 : Nat) ∉ kpFrom 0 [true, true, true] from by decide)) (tg_cons (tg_name (show (8 : Nat) ∉ kpFrom 0 [true, true, true] from by decide)) tg_nil))) (by decide) (show ∀ i ∈ kpFrom 0 [true, true, true], i ∉ ([7, 8] : List Nat) from by decide) (by decide) (gd_seq (by decide)) rfl sc_shows_best.nd (pi_seq rfl (pd_n (pv 4))) (blkOk_by (N := N_shows_best) (sc := defScope s_shows_best) (by decide +kernel)) (fun _ _ _ _ _ => (pg_tup rfl (pgs_cons (pg_name (i := 7) sc_shows_best.nd rfl (by first | exact Or.inl rfl | exact Or.inr rfl)) (pgs_cons (pg_name (i := 8) sc_shows_best.nd rfl (by first | exact Or.inl rfl | exact Or.inr rfl)) pgs_nil)))) (fun _ _ _ _ _ => pd_yes) (fun _ _ _ _ _ => (pd_x (pv 8)))) pd_anil))) (pd_one (pd_ret (pd_c pe_bl (.bl _)))) pd_nil)
  (pd_one (pd_ret (pd_bi (og_all ax rfl) (by rfl) G.b_all bt_all (pd_acons (pd_lc (own := [("like", 5)]) (tg_name (show (5 : Nat) ∉ kpFrom 0 [true, true, true] from by decide)) (by decide) (show ∀ i ∈ kpFrom 0 [true, true, true], i ∉ ([5] : List Nat) from by decide) (by decide) (gd_seq (by decide)) rfl sc_shows_best.nd (pi_seq rfl (pd_n (pv 1))) (blkOk_by (N := N_shows_best) (sc := defScope s_shows_best) (by decide +kernel)) (fun _ _ _ _ _ => (pg_name (i := 5) sc_shows_best.nd rfl (by first | exact Or.inl rfl | exact Or.inr rfl))) (fun _ _ _ _ _ => pd_yes) (fun _ _ _ _ _ => (pd_cmp (og_ge (ax.blk) rfl) (pd_bi (og_sum (ax.blk)) (by rfl) G.b_sum bt_sum (pd_acons (pd_lc (own := [("some", 7), ("many", 8)]) (tg_tup (tg_cons (tg_name (show (7 : Nat) ∉ kpFrom 0 [true, true, true] from by decide)) (tg_cons (tg_name (show (8 : Nat) ∉ kpFrom 0 [true, true, true] from by decide)) tg_nil))) (by decide) (show ∀ i ∈ kpFrom 0 [true, true, true], i ∉ ([7, 8] : List Nat) from by decide) (by decide) (gd_seq (by decide)) rfl sc_shows_best.nd (pi_seq rfl (pd_n (pv 4))) (blkOk_by (by rfl)) (fun _ _ _ _ _ => (pg_tup rfl (pgs_cons (pg_name (i := 7) sc_shows_best.nd rfl (by first | exact Or.inl rfl | exact Or.inr rfl)) (pgs_cons (pg_name (i := 8) sc_shows_best.nd rfl (by first | exact Or.inl rfl | exact Or.inr rfl)) pgs_nil)))) (fun _ _ _ _ _ => (pts_one (pt_cmp2 (og_inD (ax.blk.blk) rfl) (pd_n (pv 5)) (pd_n (pv 7))))) (fun _ _ _ _ _ => (pd_x (pv 8)))) pd_anil)) (pd_ix (ax.blk) rfl (pd_n (pv 5)) (pd_c pe_int (.int _)))))) pd_anil)))))))))
theorem ok__law_are_great_right (G : Ground K mg) : Cld P w K mg base cl 8 "_law_are_great_right" ["pot"] F__law_are_great_right := by
  obtain ⟨f, fd, Ff, hm⟩ := G.f__law_are_great_right
  refine cld_mk Ff hm sc__law_are_great_right rfl (by decide) (fun kV doc pm an cdv ct us ws ks hl hk => ?_) (fun cdv A outer s H E G' hr hg => ?_)
  · subst hk
    match us, hl with
    | [], hl => match ws, (by simp only [List.length_cons, List.length_nil] at hl; omega : ws.length = 1) with
      | [_], _ => rfl
    | [_], hl => match ws, (by simp only [List.length_cons, List.length_nil] at hl; omega : ws.length = 0) with
      | [], _ => rfl
    | _ :: _ :: _, hl => exact absurd hl (by simp only [List.length_cons, List.length_nil]; omega)
  have ax : Ax (cxOf (L2.CX P w) P w K mg base N__law_are_great_right "_law_are_great_right" (defScope s__law_are_great_right) f cdv A outer s H E) := ax_of hr hg rfl
  have hx : Passes (L2.CX P w) (cxOf (L2.CX P w) P w K mg base N__law_are_great_right "_law_are_great_right" (defScope s__law_are_great_right) f cdv A outer s H E) E := passes_call (takes_of rfl rfl rfl rfl) (fun _ _ _ _ h => h)
  exact (pd_cons (pd_set (i := 1) (show (1 : Nat) ∉ kpFrom 0 [true] from by decide) sc__law_are_great_right.nd rfl (by first | exact Or.inl rfl | exact Or.inr rfl) (pd_call (ok__law_cores G) rfl (hr.mono (by decide)) ax.gd (by rfl) hx rfl (pd_acons (pd_n (pv 0)) (pd_acons (pd_c pe_int (.int _)) pd_anil))))
  (pd_cons (pd_set (i := 2) (show (2 : Nat) ∉ kpFrom 0 [true] from by decide) sc__law_are_great_right.nd rfl (by first | exact Or.inl rfl | exact Or.inr rfl) (pd_call (ok__law_likes G) rfl (hr.mono (by decide)) ax.gd (by rfl) hx rfl (pd_acons (pd_n (pv 0)) (pd_acons (pd_x (pv 1)) (pd_acons (pd_c pe_int (.int _)) (pd_acons (pd_c pe_int (.int _)) pd_anil))))))
  (pd_cons (pd_asg (tg_tup (tg_cons (tg_name (show (4 : Nat) ∉ kpFrom 0 [true] from by decide)) (tg_cons (tg_name (show (5 : Nat) ∉ kpFrom 0 [true] from by decide)) tg_nil))) (pd_call (ok_best G) rfl (hr.mono (by decide)) ax.gd (by rfl) hx rfl (pd_acons (pd_x (pv 1)) (pd_acons (pd_x (pv 2)) pd_anil))) (pg_tup rfl (pgs_cons (pg_name (i := 4) sc__law_are_great_right.nd rfl (by first | exact Or.inl rfl | exact Or.inr rfl)) (pgs_cons (pg_name (i := 5) sc__law_are_great_right.nd rfl (by first | exact Or.inl rfl | exact Or.inr rfl)) pgs_nil))))
  (pd_cons (pd_asg (tg_tup (tg_cons (tg_name (show (6 : Nat) ∉ kpFrom 0 [true] from by decide)) (tg_cons (tg_name (show (7 : Nat) ∉ kpFrom 0 [true] from by decide)) tg_nil))) (pd_ix ax rfl (pd_n (pv 5)) (pd_un og_neg (pd_c pe_int (.int _)))) (pg_tup rfl (pgs_cons (pg_name (i := 6) sc__law_are_great_right.nd rfl (by first | exact Or.inl rfl | exact Or.inr rfl)) (pgs_cons (pg_name (i := 7) sc__law_are_great_right.nd rfl (by first | exact Or.inl rfl | exact Or.inr rfl)) pgs_nil))))
  (pd_cons (pd_set (i := 3) (show (3 : Nat) ∉ kpFrom 0 [true] from by decide) sc__law_are_great_right.nd rfl (by first | exact Or.inl rfl | exact Or.inr rfl) (pd_lst (pd_acons (pd_tup (pd_acons (pd_fz (pd_sl rfl (pd_n (pv 4)) pp_none (pp_some (pd_un og_neg (pd_c pe_int (.int _)))))) (pd_acons (pd_x (pv 5)) pd_anil))) (pd_acons (pd_tup (pd_acons (pd_x (pv 4)) (pd_acons (pd_fz (pd_sl rfl (pd_n (pv 5)) pp_none (pp_some (pd_un og_neg (pd_c pe_int (.int _)))))) pd_anil))) (pd_acons (pd_tup (pd_acons (pd_x (pv 4)) (pd_acons (pd_fz (pd_op (og_add rfl) (pd_sl rfl (pd_n (pv 5)) pp_none (pp_some (pd_un og_neg (pd_c pe_int (.int _))))) (pd_tup (pd_acons (pd_tup (pd_acons (pd_x (pv 6)) (pd_acons (pd_op (og_add rfl) (pd_n (pv 7)) (pd_c pe_int (.int _))) pd_anil))) pd_anil)))) pd_anil))) (pd_acons (pd_tup (pd_acons (pd_x (pv 4)) (pd_acons (pd_x (pv 5)) pd_anil))) pd_anil))))))
  (pd_cons (pd_expr (pd_ext (pv 3) (pd_acons (r := []) (pd_lst (pd_acons (pd_tup (pd_acons (pd_x (pv 4)) (pd_acons (pd_fz (pd_op (og_add rfl) (pd_sl rfl (pd_n (pv 5)) pp_none (pp_some (pd_un og_neg (pd_c pe_int (.int _))))) (pd_tup (pd_acons (pd_tup (pd_acons (pd_x (pv 6)) (pd_acons (pd_op (og_sub rfl) (pd_n (pv 7)) (pd_c pe_int (.int _))) pd_anil))) pd_anil)))) pd_anil))) (pd_acons (pd_tup (pd_acons (pd_x (pv 4)) (pd_acons (pd_fz (pd_op (og_add rfl) (pd_sl rfl (pd_n (pv 5)) (pp_some (pd_c pe_int (.int _))) pp_none) (pd_sl rfl (pd_n (pv 5)) pp_none (pp_some (pd_c pe_int (.int _)))))) pd_anil))) pd_anil))) pd_anil)))
  (pd_one (pd_ret (pd_bi (og_all ax rfl) (by rfl) G.b_all bt_all (pd_acons (pd_lc (own := [("bent", 8)]) (tg_name (show (8 : Nat) ∉ kpFrom 0 [true] from by decide)) (by decide) (show ∀ i ∈ kpFrom 0 [true], i ∉ ([8] : List Nat) from by decide) (by decide) (gd_seq (by decide)) rfl sc__law_are_great_right.nd (pi_seq rfl (pd_n (pv 3))) (blkOk_by (N := N__law_are_great_right) (sc := defScope s__law_are_great_right) (by decide +kernel)) (fun _ _ _ _ _ => (pg_name (i := 8) sc__law_are_great_right.nd rfl (by first | exact Or.inl rfl | exact Or.inr rfl))) (fun _ _ _ _ _ => pd_yes) (fun _ _ _ _ _ => (pd_cmp (og_eq (ax.blk) rfl) (pd_bi (og_repr (ax.blk) rfl) (by rfl) G.b_repr bt_repr (pd_acons (pd_call (ok_shows_best G) rfl (hr.mono (by decide)) (ax.blk).gd (by rfl) passL rfl (pd_acons (pd_x (pv 1)) (pd_acons (pd_x (pv 2)) (pd_acons (pd_x (pv 8)) pd_anil)))) pd_anil)) (pd_bi (og_repr (ax.blk) rfl) (by rfl) G.b_repr bt_repr (pd_acons (pd_call (ok__law_due G) rfl (hr.mono (by decide)) (ax.blk).gd (by rfl) passL rfl (pd_acons (pd_x (pv 2)) (pd_acons (pd_x (pv 8)) pd_anil))) pd_anil))))) pd_anil))))))))))
theorem okR__law_bent (G : Ground K mg) : ∀ j, Cld P w K mg base cl (3 + j) "_law_bent" ["pot", "value"] (FR__law_bent j)
  | 0 => by
    obtain ⟨f, fd, Ff, hm⟩ := G.f__law_bent
    refine cld_mk (k := 2) Ff hm sc__law_bent rfl (by decide) (fun kV doc pm an cdv ct us ws ks hl hk => ?_) (fun cdv A outer s H E G' hr hg => ?_)
    · subst hk
      match us, hl with
      | [], hl => match ws, (by simp only [List.length_cons, List.length_nil] at hl; omega : ws.length = 2) with
        | [_, _], _ => rfl
      | [_], hl => match ws, (by simp only [List.length_cons, List.length_nil] at hl; omega : ws.length = 1) with
        | [_], _ => rfl
      | [_, _], hl => match ws, (by simp only [List.length_cons, List.length_nil] at hl; omega : ws.length = 0) with
        | [], _ => rfl
      | _ :: _ :: _ :: _, hl => exact absurd hl (by simp only [List.length_cons, List.length_nil]; omega)
    have ax : Ax (cxOf (L2.CX P w) P w K mg base N__law_bent "_law_bent" (defScope s__law_bent) f cdv A outer s H E) := ax_of hr hg rfl
    have hx : Passes (L2.CX P w) (cxOf (L2.CX P w) P w K mg base N__law_bent "_law_bent" (defScope s__law_bent) f cdv A outer s H E) E := passes_call (takes_of rfl rfl rfl rfl) (fun _ _ _ _ h => h)
    exact pd_neverS
  | j + 1 => by
    have ih := okR__law_bent G j
    obtain ⟨f, fd, Ff, hm⟩ := G.f__law_bent
    refine cld_mk (k := 3 + j) Ff hm sc__law_bent rfl (by decide) (fun kV doc pm an cdv ct us ws ks hl hk => ?_) (fun cdv A outer s H E G' hr hg => ?_)
    · subst hk
      match us, hl with
      | [], hl => match ws, (by simp only [List.length_cons, List.length_nil] at hl; omega : ws.length = 2) with
        | [_, _], _ => rfl
      | [_], hl => match ws, (by simp only [List.length_cons, List.length_nil] at hl; omega : ws.length = 1) with
        | [_], _ => rfl
      | [_, _], hl => match ws, (by simp only [List.length_cons, List.length_nil] at hl; omega : ws.length = 0) with
        | [], _ => rfl
      | _ :: _ :: _ :: _, hl => exact absurd hl (by simp only [List.length_cons, List.length_nil]; omega)
    have ax : Ax (cxOf (L2.CX P w) P w K mg base N__law_bent "_law_bent" (defScope s__law_bent) f cdv A outer s H E) := ax_of hr hg rfl
    have hx : Passes (L2.CX P w) (cxOf (L2.CX P w) P w K mg base N__law_bent "_law_bent" (defScope s__law_bent) f cdv A outer s H E) E := passes_call (takes_of rfl rfl rfl rfl) (fun _ _ _ _ h => h)
    exact (pd_cons (pd_if (PW.pt (pw_band (pt_bv (pd_isi rfl (by rfl) G.b_isinstance (by rfl) G.b_tuple bt_tuple (pd_n (pv 1)))) (pw_band (pt_cmp2 (og_ne ax rfl) (pd_n (pv 1)) (pd_tup pd_anil)) (pw_and1 (pt_cmp2 (og_gt ax rfl) (pd_call (ok__law_take G) rfl (hr.mono (by omega)) ax.gd (by rfl) hx rfl (pd_acons (pd_n (pv 0)) (pd_acons (pd_c pe_int (.int _)) pd_anil))) (pd_c pe_int (.int _))))))) (pd_cons (pd_set (i := 2) (show (2 : Nat) ∉ kpFrom 0 [true, true] from by decide) sc__law_bent.nd rfl (by first | exact Or.inl rfl | exact Or.inr rfl) (pd_call (ok__law_take G) rfl (hr.mono (by omega)) ax.gd (by rfl) hx rfl (pd_acons (pd_n (pv 0)) (pd_acons (pd_bi (og_len rfl) (by rfl) G.b_len bt_len (pd_acons (pd_n (pv 1)) pd_anil)) pd_anil))))
  (pd_one (pd_ret (pd_op (og_add rfl) (pd_op (og_add rfl) (pd_sl rfl (pd_n (pv 1)) pp_none (pp_some (pd_n (pv 2)))) (pd_tup (pd_acons (pd_fz (pd_call ih rfl (hr.mono (by omega)) ax.gd (by rfl) hx rfl (pd_acons (pd_n (pv 0)) (pd_acons (pd_ix ax rfl (pd_n (pv 1)) (pd_n (pv 2))) pd_anil)))) pd_anil))) (pd_sl rfl (pd_n (pv 1)) (pp_some (pd_op (og_add rfl) (pd_n (pv 2)) (pd_c pe_int (.int _)))) pp_none))))) pd_nil)
  (pd_cons (pd_if (pt_bv (pd_isi rfl (by rfl) G.b_isinstance (by rfl) G.b_tuple bt_tuple (pd_n (pv 1)))) (pd_one (pd_ret (pd_call (ok__law_of G) rfl (hr.mono (by omega)) ax.gd (by rfl) hx rfl (pd_acons (pd_n (pv 0)) (pd_acons (pd_lst (pd_acons (pd_fz (pd_bt (og_list rfl) (by rfl) G.b_list bt_list (pd_acons (pd_n (pv 1)) pd_anil))) (pd_acons (pd_fz (pd_sl rfl (pd_n (pv 1)) (pp_some (pd_c pe_int (.int _))) pp_none)) (pd_acons (pd_fz (pd_op (og_add rfl) (pd_n (pv 1)) (pd_sl rfl (pd_n (pv 1)) (pp_some (pd_un og_neg (pd_c pe_int (.int _)))) pp_none))) (pd_acons (pd_fz (pd_rev (pd_n (pv 1)))) (pd_acons (pd_tup pd_anil) (pd_acons (pd_c pe_non .non) (pd_acons (pd_fz (pd_op (og_add rfl) (pd_n (pv 1)) (pd_tup (pd_acons (pd_c pe_str (.str _)) pd_anil)))) pd_anil)))))))) pd_anil))))) pd_nil)
  (pd_cons (pd_if (pt_bv (pd_isi rfl (by rfl) G.b_isinstance (by rfl) G.b_int bt_int (pd_n (pv 1)))) (pd_one (pd_ret (pd_call (ok__law_of G) rfl (hr.mono (by omega)) ax.gd (by rfl) hx rfl (pd_acons (pd_n (pv 0)) (pd_acons (pd_lst (pd_acons (pd_bt (og_int) (by rfl) G.b_int bt_int (pd_acons (pd_op (og_add rfl) (pd_n (pv 1)) (pd_c pe_int (.int _))) pd_anil)) (pd_acons (pd_bt (og_int) (by rfl) G.b_int bt_int (pd_acons (pd_op (og_sub rfl) (pd_n (pv 1)) (pd_c pe_int (.int _))) pd_anil)) (pd_acons (pd_cmp (og_eq ax rfl) (pd_n (pv 1)) (pd_c pe_int (.int _))) (pd_acons (pd_bt (og_str) (by rfl) G.b_str bt_str (pd_acons (pd_n (pv 1)) pd_anil)) (pd_acons (pd_c pe_non .non) (pd_acons (pd_c pe_int (.int _)) (pd_acons (pd_c pe_int (.int _)) pd_anil)))))))) pd_anil))))) pd_nil)
  (pd_one (pd_ret (pd_call (ok__law_of G) rfl (hr.mono (by omega)) ax.gd (by rfl) hx rfl (pd_acons (pd_n (pv 0)) (pd_acons (pd_lst (pd_acons (pd_c pe_non .non) (pd_acons (pd_c pe_int (.int _)) (pd_acons (pd_c pe_str (.str _)) (pd_acons (pd_c pe_str (.str _)) (pd_acons (pd_c pe_str (.str _)) (pd_acons (pd_c pe_str (.str _)) (pd_acons (pd_c pe_str (.str _)) (pd_acons (pd_c pe_str (.str _)) (pd_acons (pd_c pe_str (.str _)) pd_anil)))))))))) pd_anil))))))))
theorem ok__law_bent (G : Ground K mg) : Cld P w K mg base cl 15 "_law_bent" ["pot", "value"] F__law_bent := okR__law_bent G 12
theorem ok__law_values (G : Ground K mg) : Cld P w K mg base cl 16 "_law_values" ["pot", "likes", "told"] F__law_values := by
  obtain ⟨f, fd, Ff, hm⟩ := G.f__law_values
  refine cld_mk Ff hm sc__law_values rfl (by decide) (fun kV doc pm an cdv ct us ws ks hl hk => ?_) (fun cdv A outer s H E G' hr hg => ?_)
  · subst hk
    match us, hl with
    | [], hl => match ws, (by simp only [List.length_cons, List.length_nil] at hl; omega : ws.length = 3) with
      | [_, _, _], _ => rfl
    | [_], hl => match ws, (by simp only [List.length_cons, List.length_nil] at hl; omega : ws.length = 2) with
      | [_, _], _ => rfl
    | [_, _], hl => match ws, (by simp only [List.length_cons, List.length_nil] at hl; omega : ws.length = 1) with
      | [_], _ => rfl
    | [_, _, _], hl => match ws, (by simp only [List.length_cons, List.length_nil] at hl; omega : ws.length = 0) with
      | [], _ => rfl
    | _ :: _ :: _ :: _ :: _, hl => exact absurd hl (by simp only [List.length_cons, List.length_nil]; omega)
  have ax : Ax (cxOf (L2.CX P w) P w K mg base N__law_values "_law_values" (defScope s__law_values) f cdv A outer s H E) := ax_of hr hg rfl
  have hx : Passes (L2.CX P w) (cxOf (L2.CX P w) P w K mg base N__law_values "_law_values" (defScope s__law_values) f cdv A outer s H E) E := passes_call (takes_of rfl rfl rfl rfl) (fun _ _ _ _ h => h)
  exact (pd_cons (pd_asg (tg_tup (tg_cons (tg_name (show (4 : Nat) ∉ kpFrom 0 [true, true, true] from by decide)) (tg_cons (tg_name (show (5 : Nat) ∉ kpFrom 0 [true, true, true] from by decide)) tg_nil))) (pd_x (pv 2)) (pg_tup rfl (pgs_cons (pg_name (i := 4) sc__law_values.nd rfl (by first | exact Or.inl rfl | exact Or.inr rfl)) (pgs_cons (pg_name (i := 5) sc__law_values.nd rfl (by first | exact Or.inl rfl | exact Or.inr rfl)) pgs_nil))))
  (pd_cons (pd_set (i := 3) (show (3 : Nat) ∉ kpFrom 0 [true, true, true] from by decide) sc__law_values.nd rfl (by first | exact Or.inl rfl | exact Or.inr rfl) (pd_lst (pd_acons (pd_x (pv 2)) (pd_acons (pd_tup (pd_acons (pd_fz (pd_rev (pd_n (pv 4)))) (pd_acons (pd_x (pv 5)) pd_anil))) (pd_acons (pd_tup (pd_acons (pd_x (pv 4)) (pd_acons (pd_fz (pd_rev (pd_n (pv 5)))) pd_anil))) (pd_acons (pd_tup (pd_acons (pd_fz (pd_sl rfl (pd_n (pv 4)) (pp_some (pd_c pe_int (.int _))) pp_none)) (pd_acons (pd_x (pv 5)) pd_anil))) (pd_acons (pd_tup (pd_acons (pd_x (pv 4)) (pd_acons (pd_fz (pd_sl rfl (pd_n (pv 5)) (pp_some (pd_c pe_int (.int _))) pp_none)) pd_anil))) (pd_acons (pd_c pe_non .non) pd_anil))))))))
  (pd_cons (pd_expr (pd_ext (pv 3) (pd_acons (r := []) (pd_lst (pd_acons (pd_tup pd_anil) (pd_acons (pd_x (pv 4)) (pd_acons (pd_fz (pd_bt (og_list rfl) (by rfl) G.b_list bt_list (pd_acons (pd_n (pv 2)) pd_anil))) (pd_acons (pd_fz (pd_op (og_add rfl) (pd_n (pv 2)) (pd_tup (pd_acons (pd_tup pd_anil) pd_anil)))) (pd_acons (pd_tup (pd_acons (pd_x (pv 5)) (pd_acons (pd_x (pv 4)) pd_anil))) (pd_acons (pd_tup (pd_acons (pd_tup pd_anil) (pd_acons (pd_tup pd_anil) pd_anil))) (pd_acons (pd_tup (pd_acons (pd_x (pv 4)) (pd_acons (pd_fz (pd_op (og_add rfl) (pd_n (pv 5)) (pd_sl rfl (pd_n (pv 5)) pp_none (pp_some (pd_c pe_int (.int _)))))) pd_anil))) pd_anil)))))))) pd_anil)))
  (pd_cons (pd_expr (pd_app (pv 3) (pd_acons (r := []) (pd_tup (pd_acons (pd_tup pd_anil) (pd_acons (pd_x (pv 5)) pd_anil))) pd_anil)))
  (pd_cons (pd_expr (pd_app (pv 3) (pd_acons (r := []) (pd_tup (pd_acons (pd_x (pv 4)) (pd_acons (pd_bt (og_tuple rfl) (by rfl) G.b_tuple bt_tuple (pd_acons (pd_lc (own := [("like", 13)]) (tg_name (show (13 : Nat) ∉ kpFrom 0 [true, true, true] from by decide)) (by decide) (show ∀ i ∈ kpFrom 0 [true, true, true], i ∉ ([13] : List Nat) from by decide) (by decide) (gd_seq (by decide)) rfl sc__law_values.nd (pi_seq rfl (pd_n (pv 1))) (blkOk_by (N := N__law_values) (sc := defScope s__law_values) (by decide +kernel)) (fun _ _ _ _ _ => (pg_name (i := 13) sc__law_values.nd rfl (by first | exact Or.inl rfl | exact Or.inr rfl))) (fun _ _ _ _ _ => pd_yes) (fun _ _ _ _ _ => (pd_tup (pd_acons (pd_tup (pd_acons (pd_x (pv 13)) pd_anil)) (pd_acons (pd_ix (ax.blk) rfl (pd_n (pv 13)) (pd_c pe_int (.int _))) pd_anil))))) pd_anil)) pd_anil))) pd_anil)))
  (pd_cons (pd_for (tg_tup (tg_cons (tg_name (show (6 : Nat) ∉ kpFrom 0 [true, true, true] from by decide)) (tg_cons (tg_tup (tg_cons (tg_name (show (9 : Nat) ∉ kpFrom 0 [true, true, true] from by decide)) (tg_cons (tg_name (show (10 : Nat) ∉ kpFrom 0 [true, true, true] from by decide)) tg_nil))) tg_nil))) (passes_of rfl) rfl (pi_en (by rfl) G.b_enumerate (pd_x (pv 5))) (pg_tup rfl (pgs_cons (pg_name (i := 6) sc__law_values.nd rfl (by first | exact Or.inl rfl | exact Or.inr rfl)) (pgs_cons (pg_tup rfl (pgs_cons (pg_name (i := 9) sc__law_values.nd rfl (by first | exact Or.inl rfl | exact Or.inr rfl)) (pgs_cons (pg_name (i := 10) sc__law_values.nd rfl (by first | exact Or.inl rfl | exact Or.inr rfl)) pgs_nil))) pgs_nil))) (pd_cons (pd_set (i := 7) (show (7 : Nat) ∉ kpFrom 0 [true, true, true] from by decide) sc__law_values.nd rfl (by first | exact Or.inl rfl | exact Or.inr rfl) (pd_ifx (pt_cmp2 (og_gt ax rfl) (pd_n (pv 10)) (pd_c pe_int (.int _))) (pd_tup (pd_acons (pd_tup (pd_acons (pd_x (pv 9)) (pd_acons (pd_c pe_int (.int _)) pd_anil))) (pd_acons (pd_tup (pd_acons (pd_x (pv 9)) (pd_acons (pd_op (og_sub rfl) (pd_n (pv 10)) (pd_c pe_int (.int _))) pd_anil))) pd_anil))) (pd_tup (pd_acons (pd_tup (pd_acons (pd_x (pv 9)) (pd_acons (pd_x (pv 10)) pd_anil))) pd_anil))))
  (pd_cons (pd_expr (pd_app (pv 3) (pd_acons (r := []) (pd_tup (pd_acons (pd_x (pv 4)) (pd_acons (pd_fz (pd_op (og_add rfl) (pd_op (og_add rfl) (pd_sl rfl (pd_n (pv 5)) pp_none (pp_some (pd_n (pv 6)))) (pd_n (pv 7))) (pd_sl rfl (pd_n (pv 5)) (pp_some (pd_op (og_add rfl) (pd_n (pv 6)) (pd_c pe_int (.int _)))) pp_none))) pd_anil))) pd_anil)))
  (pd_cons (pd_expr (pd_app (pv 3) (pd_acons (r := []) (pd_tup (pd_acons (pd_x (pv 4)) (pd_acons (pd_fz (pd_op (og_add rfl) (pd_op (og_add rfl) (pd_sl rfl (pd_n (pv 5)) pp_none (pp_some (pd_n (pv 6)))) (pd_tup (pd_acons (pd_tup (pd_acons (pd_x (pv 9)) (pd_acons (pd_op (og_add rfl) (pd_n (pv 10)) (pd_c pe_int (.int _))) pd_anil))) pd_anil))) (pd_sl rfl (pd_n (pv 5)) (pp_some (pd_op (og_add rfl) (pd_n (pv 6)) (pd_c pe_int (.int _)))) pp_none))) pd_anil))) pd_anil)))
  (pd_cons (pd_expr (pd_app (pv 3) (pd_acons (r := []) (pd_tup (pd_acons (pd_x (pv 4)) (pd_acons (pd_fz (pd_op (og_add rfl) (pd_op (og_add rfl) (pd_sl rfl (pd_n (pv 5)) pp_none (pp_some (pd_n (pv 6)))) (pd_tup (pd_acons (pd_tup (pd_acons (pd_fz (pd_sl rfl (pd_n (pv 9)) (pp_some (pd_c pe_int (.int _))) pp_none)) (pd_acons (pd_x (pv 10)) pd_anil))) pd_anil))) (pd_sl rfl (pd_n (pv 5)) (pp_some (pd_op (og_add rfl) (pd_n (pv 6)) (pd_c pe_int (.int _)))) pp_none))) pd_anil))) pd_anil)))
  (pd_cons (pd_expr (pd_app (pv 3) (pd_acons (r := []) (pd_tup (pd_acons (pd_x (pv 4)) (pd_acons (pd_fz (pd_op (og_add rfl) (pd_op (og_add rfl) (pd_sl rfl (pd_n (pv 5)) pp_none (pp_some (pd_n (pv 6)))) (pd_tup (pd_acons (pd_tup (pd_acons (pd_fz (pd_rev (pd_n (pv 9)))) (pd_acons (pd_x (pv 10)) pd_anil))) pd_anil))) (pd_sl rfl (pd_n (pv 5)) (pp_some (pd_op (og_add rfl) (pd_n (pv 6)) (pd_c pe_int (.int _)))) pp_none))) pd_anil))) pd_anil)))
  (pd_cons (pd_set (i := 8) (show (8 : Nat) ∉ kpFrom 0 [true, true, true] from by decide) sc__law_values.nd rfl (by first | exact Or.inl rfl | exact Or.inr rfl) (pd_bt (og_tuple rfl) (by rfl) G.b_tuple bt_tuple (pd_acons (pd_bi (og_sorted2 ax rfl rfl) (by rfl) G.b_sorted bt_sorted (pd_acons (pd_bt (og_listD ax rfl) (by rfl) G.b_list bt_list (pd_acons (pd_bt (og_dictP ax rfl) (by rfl) G.b_dict bt_dict (pd_acons (pd_lc (own := [("like", 13)]) (tg_name (show (13 : Nat) ∉ kpFrom 0 [true, true, true] from by decide)) (by decide) (show ∀ i ∈ kpFrom 0 [true, true, true], i ∉ ([13] : List Nat) from by decide) (by decide) (gd_seq (by decide)) rfl sc__law_values.nd (pi_seq rfl (pd_op (og_add rfl) (pd_n (pv 9)) (pd_tup (pd_acons (pd_fz (pd_call (ok__law_of G) rfl (hr.mono (by decide)) ax.gd (by rfl) hx rfl (pd_acons (pd_n (pv 0)) (pd_acons (pd_x (pv 1)) pd_anil)))) pd_anil)))) (blkOk_by (N := N__law_values) (sc := defScope s__law_values) (by decide +kernel)) (fun _ _ _ _ _ => (pg_name (i := 13) sc__law_values.nd rfl (by first | exact Or.inl rfl | exact Or.inr rfl))) (fun _ _ _ _ _ => pd_yes) (fun _ _ _ _ _ => (pd_tup (pd_acons (pd_x (pv 13)) (pd_acons (pd_c pe_bl (.bl _)) pd_anil))))) pd_anil)) pd_anil)) pd_anil)) pd_anil)))
  (pd_one (pd_expr (pd_app (pv 3) (pd_acons (r := []) (pd_tup (pd_acons (pd_x (pv 4)) (pd_acons (pd_fz (pd_op (og_add rfl) (pd_op (og_add rfl) (pd_sl rfl (pd_n (pv 5)) pp_none (pp_some (pd_n (pv 6)))) (pd_tup (pd_acons (pd_tup (pd_acons (pd_x (pv 8)) (pd_acons (pd_x (pv 10)) pd_anil))) pd_anil))) (pd_sl rfl (pd_n (pv 5)) (pp_some (pd_op (og_add rfl) (pd_n (pv 6)) (pd_c pe_int (.int _)))) pp_none))) pd_anil))) pd_anil)))))))))))
  (pd_cons (pd_expr (pd_ext (pv 3) (pd_acons (r := []) (pd_lc (own := [("row", 11)]) (tg_name (show (11 : Nat) ∉ kpFrom 0 [true, true, true] from by decide)) (by decide) (show ∀ i ∈ kpFrom 0 [true, true, true], i ∉ ([11] : List Nat) from by decide) (by decide) (gd_seq (by decide)) rfl sc__law_values.nd (pi_seq rfl (pd_call (ok__law_some G) rfl (hr.mono (by decide)) ax.gd (by rfl) hx rfl (pd_acons (pd_n (pv 0)) (pd_acons (pd_call (ok__law_matches G) rfl (hr.mono (by decide)) ax.gd (by rfl) hx rfl (pd_acons (pd_x (pv 1)) pd_anil)) (pd_acons (pd_bi (og_min2 ax) (by rfl) G.b_min bt_min (pd_acons (pd_c pe_int (.int _)) (pd_acons (pd_bi (og_len rfl) (by rfl) G.b_len bt_len (pd_acons (pd_call (ok__law_matches G) rfl (hr.mono (by decide)) ax.gd (by rfl) hx rfl (pd_acons (pd_x (pv 1)) pd_anil)) pd_anil)) pd_anil))) pd_anil))))) (blkOk_by (N := N__law_values) (sc := defScope s__law_values) (by decide +kernel)) (fun _ _ _ _ _ => (pg_name (i := 11) sc__law_values.nd rfl (by first | exact Or.inl rfl | exact Or.inr rfl))) (fun _ _ _ _ _ => pd_yes) (fun _ _ _ _ _ => (pd_tup (pd_acons (pd_x (pv 11)) (pd_acons (pd_x (pv 5)) pd_anil))))) pd_anil)))
  (pd_one (pd_ret (pd_op (og_add rfl) (pd_n (pv 3)) (pd_lc (own := [("lap", 12)]) (tg_name (show (12 : Nat) ∉ kpFrom 0 [true, true, true] from by decide)) (by decide) (show ∀ i ∈ kpFrom 0 [true, true, true], i ∉ ([12] : List Nat) from by decide) (by decide) gd_rg rfl sc__law_values.nd (pi_rg1 (by rfl) G.b_range (pd_c pe_int (.int _))) (blkOk_by (N := N__law_values) (sc := defScope s__law_values) (by decide +kernel)) (fun _ _ _ _ _ => (pg_name (i := 12) sc__law_values.nd rfl (by first | exact Or.inl rfl | exact Or.inr rfl))) (fun _ _ _ _ _ => pd_yes) (fun _ _ _ _ _ => (pd_call (ok__law_bent G) rfl (hr.mono (by decide)) (ax.blk).gd (by rfl) passL rfl (pd_acons (pd_n (pv 0)) (pd_acons (pd_x (pv 2)) pd_anil)))))))))))))))
theorem ok__law_right (G : Ground K mg) : Cld P w K mg base cl 17 "_law_right" ["pot"] F__law_right := by
  obtain ⟨f, fd, Ff, hm⟩ := G.f__law_right
  refine cld_mk Ff hm sc__law_right rfl (by decide) (fun kV doc pm an cdv ct us ws ks hl hk => ?_) (fun cdv A outer s H E G' hr hg => ?_)
  · subst hk
    match us, hl with
    | [], hl => match ws, (by simp only [List.length_cons, List.length_nil] at hl; omega : ws.length = 1) with
      | [_], _ => rfl
    | [_], hl => match ws, (by simp only [List.length_cons, List.length_nil] at hl; omega : ws.length = 0) with
      | [], _ => rfl
    | _ :: _ :: _, hl => exact absurd hl (by simp only [List.length_cons, List.length_nil]; omega)
  have ax : Ax (cxOf (L2.CX P w) P w K mg base N__law_right "_law_right" (defScope s__law_right) f cdv A outer s H E) := ax_of hr hg rfl
  have hx : Passes (L2.CX P w) (cxOf (L2.CX P w) P w K mg base N__law_right "_law_right" (defScope s__law_right) f cdv A outer s H E) E := passes_call (takes_of rfl rfl rfl rfl) (fun _ _ _ _ h => h)
  exact (pd_cons (pd_for (tg_name (show (1 : Nat) ∉ kpFrom 0 [true] from by decide)) (passes_of rfl) rfl (pi_rg1 (by rfl) G.b_range (pd_c pe_int (.int _))) (pg_name (i := 1) sc__law_right.nd rfl (by first | exact Or.inl rfl | exact Or.inr rfl)) (pd_cons (pd_set (i := 2) (show (2 : Nat) ∉ kpFrom 0 [true] from by decide) sc__law_right.nd rfl (by first | exact Or.inl rfl | exact Or.inr rfl) (pd_call (ok__law_cores G) rfl (hr.mono (by decide)) ax.gd (by rfl) hx rfl (pd_acons (pd_n (pv 0)) (pd_acons (pd_c pe_int (.int _)) pd_anil))))
  (pd_cons (pd_set (i := 3) (show (3 : Nat) ∉ kpFrom 0 [true] from by decide) sc__law_right.nd rfl (by first | exact Or.inl rfl | exact Or.inr rfl) (pd_call (ok__law_likes G) rfl (hr.mono (by decide)) ax.gd (by rfl) hx rfl (pd_acons (pd_n (pv 0)) (pd_acons (pd_x (pv 2)) (pd_acons (pd_call (ok__law_take G) rfl (hr.mono (by decide)) ax.gd (by rfl) hx rfl (pd_acons (pd_n (pv 0)) (pd_acons (pd_c pe_int (.int _)) pd_anil))) (pd_acons (pd_call (ok__law_of G) rfl (hr.mono (by decide)) ax.gd (by rfl) hx rfl (pd_acons (pd_n (pv 0)) (pd_acons (pd_lst (pd_acons (pd_c pe_int (.int _)) (pd_acons (pd_c pe_int (.int _)) (pd_acons (pd_c pe_int (.int _)) pd_anil)))) pd_anil))) pd_anil))))))
  (pd_one (pd_for (tg_name (show (4 : Nat) ∉ kpFrom 0 [true] from by decide)) (passes_of rfl) rfl (pi_seq rfl (pd_fz (pd_call (ok__law_values G) rfl (hr.mono (by decide)) ax.gd (by rfl) hx rfl (pd_acons (pd_n (pv 0)) (pd_acons (pd_x (pv 3)) (pd_acons (pd_call (ok_best G) rfl (hr.mono (by decide)) ax.gd (by rfl) hx rfl (pd_acons (pd_x (pv 2)) (pd_acons (pd_x (pv 3)) pd_anil))) pd_anil)))))) (pg_name (i := 4) sc__law_right.nd rfl (by first | exact Or.inl rfl | exact Or.inr rfl)) (pd_cons (pd_set (i := 5) (show (5 : Nat) ∉ kpFrom 0 [true] from by decide) sc__law_right.nd rfl (by first | exact Or.inl rfl | exact Or.inr rfl) (pd_bi (og_repr ax rfl) (by rfl) G.b_repr bt_repr (pd_acons (pd_n (pv 4)) pd_anil)))
  (pd_one (pd_if (PW.pt (pw_bor (pt_cmp2 (og_ne ax rfl) (pd_bi (og_repr ax rfl) (by rfl) G.b_repr bt_repr (pd_acons (pd_call (ok_shows_best G) rfl (hr.mono (by decide)) ax.gd (by rfl) hx rfl (pd_acons (pd_x (pv 2)) (pd_acons (pd_x (pv 3)) (pd_acons (pd_x (pv 4)) pd_anil)))) pd_anil)) (pd_bi (og_repr ax rfl) (by rfl) G.b_repr bt_repr (pd_acons (pd_call (ok__law_due G) rfl (hr.mono (by decide)) ax.gd (by rfl) hx rfl (pd_acons (pd_x (pv 3)) (pd_acons (pd_x (pv 4)) pd_anil))) pd_anil))) (pw_or1 (pt_cmp2 (og_ne ax rfl) (pd_bi (og_repr ax rfl) (by rfl) G.b_repr bt_repr (pd_acons (pd_n (pv 4)) pd_anil)) (pd_n (pv 5)))))) (pd_one (pd_ret (pd_c pe_bl (.bl _)))) pd_nil))))))))
  (pd_one (pd_ret (pd_call (ok__law_are_great_right G) rfl (hr.mono (by decide)) ax.gd (by rfl) hx rfl (pd_acons (pd_n (pv 0)) pd_anil)))))
theorem ok_law (G : Ground K mg) : Cld P w K mg base cl 18 "law" ["script"] F_law := by
  obtain ⟨f, fd, Ff, hm⟩ := G.f_law
  refine cld_mk Ff hm sc_law rfl (by decide) (fun kV doc pm an cdv ct us ws ks hl hk => ?_) (fun cdv A outer s H E G' hr hg => ?_)
  · subst hk
    match us, hl with
    | [], hl => match ws, (by simp only [List.length_cons, List.length_nil] at hl; omega : ws.length = 1) with
      | [_], _ => rfl
    | [_], hl => match ws, (by simp only [List.length_cons, List.length_nil] at hl; omega : ws.length = 0) with
      | [], _ => rfl
    | _ :: _ :: _, hl => exact absurd hl (by simp only [List.length_cons, List.length_nil]; omega)
  have ax : Ax (cxOf (L2.CX P w) P w K mg base N_law "law" (defScope s_law) f cdv A outer s H E) := ax_of hr hg rfl
  have hx : Passes (L2.CX P w) (cxOf (L2.CX P w) P w K mg base N_law "law" (defScope s_law) f cdv A outer s H E) E := passes_call (takes_of rfl rfl rfl rfl) (fun _ _ _ _ h => h)
  exact (pd_one (pd_ret (pd_bi (og_all ax rfl) (by rfl) G.b_all bt_all (pd_acons (pd_lc (own := [("place", 1)]) (tg_name (show (1 : Nat) ∉ kpFrom 0 [true] from by decide)) (by decide) (show ∀ i ∈ kpFrom 0 [true], i ∉ ([1] : List Nat) from by decide) (by decide) (gd_seq (by decide)) rfl sc_law.nd (pi_seq rfl (pd_call (ok__law_cells G) rfl (hr.mono (by decide)) ax.gd (by rfl) hx rfl (pd_acons (pd_x (pv 0)) (pd_acons (pd_c pe_int (.int _)) pd_anil)))) (blkOk_by (N := N_law) (sc := defScope s_law) (by decide +kernel)) (fun _ _ _ _ _ => (pg_name (i := 1) sc_law.nd rfl (by first | exact Or.inl rfl | exact Or.inr rfl))) (fun _ _ _ _ _ => pd_yes) (fun _ _ _ _ _ => (pd_call (ok__law_right G) rfl (hr.mono (by decide)) (ax.blk).gd (by rfl) passL rfl (pd_acons (pd_call (ok__law_pot G) rfl (hr.mono (by decide)) (ax.blk).gd (by rfl) passL rfl (pd_acons (pd_x (pv 0)) (pd_acons (pd_x (pv 1)) pd_anil))) pd_anil)))) pd_anil))))
end
end K66
end
section
/-! how the evaluators run: equations for simp -/
namespace Dl
open PySem L2 DlZ DlR DlS
section
variable {α β : Type} {ρ : DEnv} {f g fa fb fc : EM} {k ka kb kc : Kd} {a b : SM} {t u : DEnv → Out Bool} {r : List (Kd × EM)} {i j : Nat} {s : Slot} {d : D}
theorem Out.bind_congr {o o' : Out α} {F : α → DEnv → Out β} (h : o = o') : o.bind F = o'.bind F := by rw [h]
theorem Out.bindS_congr {o o' : Out α} {F : α → DEnv → SOut} (h : o = o') : o.bindS F = o'.bindS F := by rw [h]
/-- go on after a statement -/
def SOut.seq (o : SOut) (b : SM) : SOut := match o with
  | .nx ρ1 => b ρ1
  | .rt s ρ1 => .rt s ρ1
  | .bk ρ1 => .bk ρ1
  | .ct ρ1 => .ct ρ1
  | .er c d ρ1 => .er c d ρ1
  | .no => .no
theorem SOut.seq_congr {o o' : SOut} (h : o = o') : o.seq b = o'.seq b := by rw [h]
@[simp] theorem SOut.seq_nx : (SOut.nx ρ).seq b = b ρ := rfl
@[simp] theorem SOut.seq_rt : (SOut.rt s ρ).seq b = .rt s ρ := rfl
@[simp] theorem SOut.seq_no : SOut.no.seq b = .no := rfl
@[simp] theorem sSeq_eq : sSeq a b ρ = (a ρ).seq b := by unfold sSeq SOut.seq; cases a ρ <;> rfl
@[simp] theorem sIf_eq : sIf t a b ρ = (t ρ).bindS fun c ρ1 => if c then a ρ1 else b ρ1 := rfl
@[simp] theorem sRt_eq : sRt f ρ = (f ρ).bindS fun s ρ1 => .rt s ρ1 := rfl
@[simp] theorem sDrop_eq : sDrop f ρ = (f ρ).bindS fun _ ρ1 => .nx ρ1 := rfl
@[simp] theorem sSet_eq : sSet i f ρ = (f ρ).bindS fun s ρ1 => .nx (ρ1.set i s) := rfl
@[simp] theorem sPar_eq {is : List Nat} : sPar is r ρ = (eArgs r ρ).bindS fun ss ρ1 => .nx (setAll is ss ρ1) := rfl
@[simp] theorem setAll_nil : setAll [] [] ρ = ρ := rfl
@[simp] theorem setAll_cons {is : List Nat} {ss : List Slot} : setAll (i :: is) (s :: ss) ρ = setAll is ss (ρ.set i s) := rfl
@[simp] theorem sNx_eq : sNx ρ = .nx ρ := rfl
@[simp] theorem sRtN_eq : sRtN ρ = .rt (.fz .none) ρ := rfl
@[simp] theorem sFor_eq {fi : DEnv → Out IS} {tg : TgD} : sFor fi tg b ρ = (fi ρ).bindS fun S ρ1 => forGo S.gd tg b S.ds ρ1 := rfl
@[simp] theorem eArgs_nil : eArgs [] ρ = .ok [] ρ := rfl
@[simp] theorem eArgs_cons : eArgs ((k, f) :: r) ρ = (f ρ).bind fun s ρ1 => (eArgs r ρ1).bind fun ss ρ2 => .ok (s :: ss) ρ2 := rfl
@[simp] theorem eB_eq {g : List Slot → Option Slot} : eB r g ρ = (eArgs r ρ).bind fun ss ρ1 => ofO (g (slL (r.map (·.1)) ss ρ1)) ρ1 := rfl
@[simp] theorem e1_eq {g : Slot → Option Slot} : e1 k f g ρ = (f ρ).bind fun s ρ1 => ofO (g (sl k s ρ1)) ρ1 := rfl
@[simp] theorem e2_eq {g : Slot → Slot → Option Slot} : e2 ka kb fa fb g ρ = (fa ρ).bind fun s ρ1 => (fb ρ1).bind fun t ρ2 => ofO (g (sl ka s ρ2) (sl kb t ρ2)) ρ2 := rfl
@[simp] theorem eCh_eq {g g' : Slot → Slot → Option Slot} : eCh ka kb kc fa fb fc g g' ρ = (fa ρ).bind fun s ρ1 => (fb ρ1).bind fun t ρ2 => (ofO ((g (sl ka s ρ2) (sl kb t ρ2)).bind isBl) ρ2).bind fun b _ =>
    if b then (fc ρ2).bind fun u ρ3 => ofO (g' (sl kb t ρ3) (sl kc u ρ3)) ρ3 else .ok (.fz (.bool false)) ρ2 := rfl
@[simp] theorem eIsi_eq {T : String} : eIsi k f T ρ = (f ρ).bind fun s ρ1 => ofO (((sl k s ρ1).d?.bind (isTy T)).map fun b => .fz (.bool b)) ρ1 := rfl
@[simp] theorem bV_eq : bV k f ρ = (f ρ).bind fun s ρ1 => ofO (isBl (sl k s ρ1)) ρ1 := rfl
@[simp] theorem bNot_eq : bNot t ρ = (t ρ).bind fun b ρ1 => .ok (!b) ρ1 := rfl
@[simp] theorem bAnd_eq : bAnd t u ρ = (t ρ).bind fun b ρ1 => if b then u ρ1 else .ok false ρ1 := rfl
@[simp] theorem bOr_eq : bOr t u ρ = (t ρ).bind fun b ρ1 => if b then .ok true ρ1 else u ρ1 := rfl
@[simp] theorem eNot_eq : eNot k f ρ = (bV k f ρ).bind fun b ρ1 => .ok (.fz (.bool (!b))) ρ1 := rfl
@[simp] theorem eAnd_eq : eAnd k f g ρ = (bV k f ρ).bind fun b ρ1 => if b then g ρ1 else .ok (.fz (.bool false)) ρ1 := rfl
@[simp] theorem eOr_eq : eOr k f g ρ = (bV k f ρ).bind fun b ρ1 => if b then .ok (.fz (.bool true)) ρ1 else g ρ1 := rfl
@[simp] theorem eIf_eq : eIf t f g ρ = (t ρ).bind fun b ρ1 => if b then f ρ1 else g ρ1 := rfl
theorem eN_eq : eN i ρ = match ρ.getD i .no with
  | .no => .no
  | _ => .ok .no ρ := rfl
@[simp] theorem eN_fz (h : ρ[i]? = some (.fz d)) : eN i ρ = .ok .no ρ := by unfold eN; rw [List.getD_eq_getElem?_getD, h]; rfl
@[simp] theorem eN_ow {c : Cont} (h : ρ[i]? = some (.ow c)) : eN i ρ = .ok .no ρ := by unfold eN; rw [List.getD_eq_getElem?_getD, h]; rfl
theorem eX_fz (h : ρ[i]? = some (.fz d)) : eX i ρ = .ok (.fz d) (ρ.set i (.fz d)) := by unfold eX; rw [List.getD_eq_getElem?_getD, h]; rfl
theorem eX_ow {c : Cont} (h : ρ[i]? = some (.ow c)) (hc : ∀ t kvs, c ≠ .lk t kvs) : eX i ρ = .ok (.fz c.view) (ρ.set i (.fz c.view)) := by
  unfold eX
  rw [List.getD_eq_getElem?_getD, h]
  cases c <;> first | rfl | exact absurd rfl (hc _ _)
theorem eX_l {ds : List D} (h : ρ[i]? = some (.ow (.lst ds))) : eX i ρ = .ok (.fz (.list ds)) (ρ.set i (.fz (.list ds))) := eX_ow h (fun _ _ z => nomatch z)
theorem eM_fz (h : ρ[i]? = some (.fz d)) : eM i ρ = .ok (.fz d) (ρ.set i .no) := by unfold eM; rw [List.getD_eq_getElem?_getD, h]; rfl
theorem eM_ow {c : Cont} (h : ρ[i]? = some (.ow c)) : eM i ρ = .ok (.ow c) (ρ.set i .no) := by unfold eM; rw [List.getD_eq_getElem?_getD, h]; rfl
@[simp] theorem eFz_eq : eFz f ρ = (f ρ).bind fun s ρ1 => match s.shared with
  | some d => .ok (.fz d) ρ1
  | none => .no := rfl
/-- behind a call -/
def FOut.out (o : FOut) (F : List Slot → DEnv) : Out Slot := match o with
  | .ok s ss => .ok s (F ss)
  | .er c d ss => .er c d (F ss)
  | .no => .no
theorem FOut.out_congr {o o' : FOut} {F : List Slot → DEnv} (h : o = o') : o.out F = o'.out F := by rw [h]
@[simp] theorem FOut.out_ok {ss : List Slot} {F : List Slot → DEnv} : (FOut.ok s ss).out F = .ok s (F ss) := rfl
@[simp] theorem eCall_eq {F : List Slot → FOut} : eCall r F ρ = (eArgs r ρ).bind fun ss ρ1 => (F (lend (r.map (·.1)) ss ρ1).1).out fun ss' => unlend (r.map (·.1)) ss' (lend (r.map (·.1)) ss ρ1).2 := by
  unfold eCall
  congr 1
def SOut.fin (o : SOut) (m : List Bool) : FOut := match o with
  | .nx ρ => .ok (.fz .none) (kept m ρ)
  | .rt s ρ => .ok s (kept m ρ)
  | .er c d ρ => .er c d (kept m ρ)
  | _ => .no
theorem SOut.fin_congr {o o' : SOut} {m : List Bool} (h : o = o') : o.fin m = o'.fin m := by rw [h]
@[simp] theorem SOut.fin_rt {m : List Bool} : (SOut.rt s ρ).fin m = .ok s (kept m ρ) := rfl
@[simp] theorem SOut.fin_nx {m : List Bool} : (SOut.nx ρ).fin m = .ok (.fz .none) (kept m ρ) := rfl
@[simp] theorem runF_eq {n : Nat} {m : List Bool} {ss : List Slot} : runF n m b ss = (b (ss ++ List.replicate (n - m.length) .no)).fin m := by
  unfold runF SOut.fin
  cases b (ss ++ List.replicate (n - m.length) .no) <;> rfl
@[simp] theorem eSl_eq {p1 p2 : DEnv → Out (Option Int)} : eSl k f p1 p2 ρ = (f ρ).bind fun s ρ1 => (p1 ρ1).bind fun lo ρ2 => (p2 ρ2).bind fun hi ρ3 => ofO (g1 (slOp lo hi) (sl k s ρ3)) ρ3 := rfl
@[simp] theorem iSeq_eq : iSeq k f ρ = (f ρ).bind fun s ρ1 => match (sl k s ρ1).d? with
  | some d => match itemsOf d with
    | some ds => .ok ⟨ds, gdOf k d⟩ ρ1
    | none => .no
  | none => .no := rfl
@[simp] theorem eLc_eq {vl : List Nat} {fi : DEnv → Out IS} {tg : TgD} {c : DEnv → Out Bool} : eLc vl fi tg c f ρ = (fi ρ).bind fun S ρ1 => (noEr (lcGo S.gd vl tg c f S.ds (wipeD ρ1 vl))).bind fun ys ρ2 => .ok (.ow (.lst ys)) ρ2 := rfl
/-! data -/
@[simp] theorem ordOk_int (a b : Int) : ordOk (.int a) (.int b) = true := rfl
theorem ordOp_int {f : D → D → Bool} (a b : Int) : ordOp f (.int a) (.int b) = some (.fz (.bool (f (.int a) (.int b)))) := rfl
@[simp] theorem ltOp_int (a b : Int) : ltOp (.int a) (.int b) = some (.fz (.bool (decide (a < b)))) := by rw [ltOp, ordOp_int, PySem.W.dataLt_int]
@[simp] theorem gtOp_int (a b : Int) : gtOp (.int a) (.int b) = some (.fz (.bool (decide (b < a)))) := by rw [gtOp, ordOp_int, PySem.W.dataLt_int]
@[simp] theorem leOp_int (a b : Int) : leOp (.int a) (.int b) = some (.fz (.bool (decide (a ≤ b)))) := by
  rw [leOp, ordOp_int, PySem.W.dataLt_int]
  congr 3
  by_cases h : b < a
  · simp [h, Int.not_le.mpr h]
  · simp [h, Int.not_lt.mp h]
@[simp] theorem geOp_int (a b : Int) : geOp (.int a) (.int b) = some (.fz (.bool (decide (b ≤ a)))) := by
  rw [geOp, ordOp_int, PySem.W.dataLt_int]
  congr 3
  by_cases h : a < b
  · simp [h, Int.not_le.mpr h]
  · simp [h, Int.not_lt.mp h]
@[simp] theorem eqOp_int (a b : Int) : eqOp (.int a) (.int b) = some (.fz (.bool (decide (a = b)))) := by
  unfold eqOp
  rw [if_pos (by rfl)]
  by_cases e : a = b <;> simp [PyData.eqv, e]
@[simp] theorem neOp_int (a b : Int) : neOp (.int a) (.int b) = some (.fz (.bool (decide (a ≠ b)))) := by
  unfold neOp
  rw [if_pos (by rfl)]
  by_cases e : a = b <;> simp [PyData.eqv, e]
@[simp] theorem eqOp_str (a b : Str) : eqOp (.str a) (.str b) = some (.fz (.bool (decide (a = b)))) := by
  unfold eqOp
  rw [if_pos (by rfl)]
  by_cases e : a = b <;> simp [PyData.eqv, e]
@[simp] theorem addOp_int (a b : Int) : addOp (.int a) (.int b) = some (.fz (.int (a + b))) := rfl
@[simp] theorem subOp_int (a b : Int) : subOp (.int a) (.int b) = some (.fz (.int (a - b))) := rfl
theorem mulOp_int {a b : Int} (h : a.natAbs.log2 + b.natAbs.log2 < 1000000) : mulOp (.int a) (.int b) = some (.fz (.int (a * b))) := by
  show (if decide _ = true then _ else _) = _
  rw [if_pos (by simpa using h)]
theorem modOp_int {a b : Int} (h : 0 < b) : modOp (.int a) (.int b) = some (.fz (.int (a % b))) := by
  show (if decide _ = true then _ else _) = _
  rw [if_pos (by simpa using h)]
theorem fdivOp_int {a b : Int} (h : 0 < b) (h2 : b.natAbs.log2 < 9000) : fdivOp (.int a) (.int b) = some (.fz (.int (a / b))) := by
  show (if decide _ = true then _ else _) = _
  rw [if_pos (by simpa using ⟨h, h2⟩)]
@[simp] theorem negOp_int (a : Int) : negOp (.int a) = some (.fz (.int (-a))) := rfl
@[simp] theorem lenOp_list (ds : List D) : lenOp (.list ds) = some (.fz (.int ds.length)) := rfl
@[simp] theorem lenOp_tuple (ds : List D) : lenOp (.tuple ds) = some (.fz (.int ds.length)) := rfl
@[simp] theorem lenOp_scr (ds : List D) : lenOp (scrD ds) = some (.fz (.int ds.length)) := rfl
@[simp] theorem ixOp_list (ds : List D) (i : Int) : ixOp (.list ds) (.int i) = (L2.atI ds i).map .fz := rfl
@[simp] theorem ixOp_tuple (ds : List D) (i : Int) : ixOp (.tuple ds) (.int i) = (L2.atI ds i).map .fz := rfl
@[simp] theorem ixOp_scr (ds : List D) (i : Int) : ixOp (scrD ds) (.int i) = (L2.atI ds i).map .fz := rfl
theorem atI_nat {α : Type} {ds : List α} {i : Nat} (h : i < ds.length) : L2.atI ds (i : Int) = ds[i]? := by
  unfold L2.atI ixN
  rw [if_pos (by omega), if_pos (by omega)]
  rfl
theorem atI_int {α : Type} {ds : List α} {i : Int} (h0 : 0 ≤ i) (h : i < ds.length) : L2.atI ds i = ds[i.toNat]? := by
  obtain ⟨n, rfl⟩ := Int.eq_ofNat_of_zero_le h0
  exact atI_nat (by exact_mod_cast h)
@[simp] theorem listOp_list (ds : List D) : listOp (.list ds) = some (.ow (.lst ds)) := rfl
@[simp] theorem listOp_tuple (ds : List D) : listOp (.tuple ds) = some (.ow (.lst ds)) := rfl
@[simp] theorem tupleOp_list (ds : List D) : tupleOp (.list ds) = some (.fz (.tuple ds)) := rfl
@[simp] theorem tupleOp_tuple (ds : List D) : tupleOp (.tuple ds) = some (.fz (.tuple ds)) := rfl
@[simp] theorem allOp_bools (bs : List Bool) : allOp (.list (bs.map .bool)) = some (.fz (.bool (bs.all id))) := by show (asBools (bs.map .bool)).map _ = _; rw [asBools_map]; rfl
@[simp] theorem anyOp_bools (bs : List Bool) : anyOp (.list (bs.map .bool)) = some (.fz (.bool (bs.any id))) := by show (asBools (bs.map .bool)).map _ = _; rw [asBools_map]; rfl
@[simp] theorem sumOp_ints (ns : List Int) : sumOp (.list (ns.map .int)) = some (.fz (.int ns.sum)) := by show (asInts (ns.map .int)).map _ = _; rw [asInts_map]; rfl
/-! comprehensions -/
/-- one step -/
def lcStep (vl : List Nat) (t : TgD) (c : DEnv → Out Bool) (f : EM) (d : D) (ρ : DEnv) : Out (Option D) := match t d (wipeD ρ vl) with
  | none => .no
  | some ρ1 => (c ρ1).bind fun b ρ2 => if b then (f ρ2).bind fun s ρ3 => match s.shared with
      | none => .no
      | some y => .ok (some y) (wipeD ρ3 vl)
    else .ok none (wipeD ρ2 vl)
theorem lcGo_cons {gd : DEnv → Prop} {vl : List Nat} {tg : TgD} {c : DEnv → Out Bool} {ds : List D} {y : Option D} {ρ1 ρ2 : DEnv} {ys : List D}
    (h : lcStep vl tg c f d ρ = .ok y ρ1) (hg : gd ρ1) (h2 : lcGo gd vl tg c f ds ρ1 = .ok ys ρ2) : lcGo gd vl tg c f (d :: ds) ρ = .ok (y.toList ++ ys) ρ2 := by
  unfold lcStep at h
  unfold lcGo
  cases e : tg d (wipeD ρ vl) with
  | none => rw [e] at h; cases h
  | some ρ0 =>
    rw [e] at h
    simp only at h ⊢
    cases ec : c ρ0 with
    | er c' d' ρ' => rw [ec] at h; cases h
    | no => rw [ec] at h; cases h
    | ok b ρ' =>
      rw [ec] at h
      simp only [Out.bind] at h ⊢
      cases b with
      | false =>
        simp only [Bool.false_eq_true, if_false] at h ⊢
        cases h
        rw [if_pos hg, h2]; rfl
      | true =>
        simp only [if_true] at h ⊢
        cases ef : f ρ' with
        | er c' d' ρ' => rw [ef] at h; cases h
        | no => rw [ef] at h; cases h
        | ok s ρ'' =>
          rw [ef] at h
          simp only at h ⊢
          cases es : s.shared with
          | none => rw [es] at h; cases h
          | some y' =>
            rw [es] at h
            simp only at h ⊢
            cases h
            rw [if_pos hg, h2]; rfl
@[simp] theorem lcGo_nil {gd : DEnv → Prop} {vl : List Nat} {tg : TgD} {c : DEnv → Out Bool} : lcGo gd vl tg c f [] ρ = .ok [] ρ := rfl
/-- a comprehension that leaves all as it was -/
theorem lcGo_same {gd : DEnv → Prop} {vl : List Nat} {tg : TgD} {c : DEnv → Out Bool} {r : D → Option D} (hg : gd ρ) : ∀ {ds : List D}, (∀ d ∈ ds, lcStep vl tg c f d ρ = .ok (r d) ρ) → lcGo gd vl tg c f ds ρ = .ok (ds.filterMap r) ρ
  | [], _ => rfl
  | d :: ds, h => by
    rw [lcGo_cons (h d (by simp)) hg (lcGo_same hg fun x hx => h x (by simp [hx]))]
    congr 1
    cases e : r d <;> simp [List.filterMap_cons, e]
/-- a comprehension with something that changes -/
theorem lcGo_inv {gd : DEnv → Prop} {vl : List Nat} {tg : TgD} {c : DEnv → Out Bool} {I : List D → DEnv → Prop} {ds0 : List D} (hg : ∀ ys ρ, I ys ρ → gd ρ) : ∀ {ds : List D} {ys0 : List D} {ρ : DEnv}, (∀ d ∈ ds, ∀ ys ρ, I ys ρ → ∃ y ρ', lcStep vl tg c f d ρ = .ok y ρ' ∧ I (ys ++ y.toList) ρ') → I ys0 ρ →
    ∃ ys ρ', lcGo gd vl tg c f ds ρ = .ok ys ρ' ∧ I (ys0 ++ ys) ρ'
  | [], ys0, ρ, _, h => ⟨[], ρ, rfl, by simpa using h⟩
  | d :: ds, ys0, ρ, h, h0 => by
    obtain ⟨y, ρ1, e1, i1⟩ := h d (by simp) ys0 ρ h0
    obtain ⟨ys, ρ2, e2, i2⟩ := lcGo_inv (ds0 := ds0) hg (ds := ds) (fun x hx => h x (by simp [hx])) i1
    exact ⟨_, ρ2, lcGo_cons e1 (hg _ _ i1) e2, by simpa using i2⟩
/-! for, while -/
theorem forGo_inv {gd : DEnv → Prop} {tg : TgD} {I : List D → DEnv → Prop} (hg : ∀ ds ρ, I ds ρ → gd ρ) : ∀ {ds pre : List D} {ρ : DEnv}, (∀ l d r ρ, pre ++ ds = l ++ d :: r → I l ρ → ∃ ρ1 ρ2, tg d ρ = some ρ1 ∧ (b ρ1 = .nx ρ2 ∨ b ρ1 = .ct ρ2) ∧ I (l ++ [d]) ρ2) → I pre ρ →
    ∃ ρ', forGo gd tg b ds ρ = .nx ρ' ∧ I (pre ++ ds) ρ'
  | [], pre, ρ, _, h => ⟨ρ, rfl, by simpa using h⟩
  | d :: ds, pre, ρ, h, h0 => by
    obtain ⟨ρ1, ρ2, e1, e2, i2⟩ := h pre d ds ρ rfl h0
    obtain ⟨ρ3, e3, i3⟩ := forGo_inv hg (ds := ds) (pre := pre ++ [d]) (ρ := ρ2) (fun l x r ρ e => h l x r ρ (by simpa using e)) i2
    refine ⟨ρ3, ?_, by simpa using i3⟩
    unfold forGo
    rw [e1]
    rcases e2 with e2 | e2 <;> simp only [e2, if_pos (hg _ _ i2), e3]
theorem sWhile_inv {c : DEnv → Out Bool} {I Q : DEnv → Prop} {m : DEnv → Nat} (h : ∀ ρ, I ρ → (∃ ρ1, c ρ = .ok false ρ1 ∧ Q ρ1) ∨ ∃ ρ1 ρ2, c ρ = .ok true ρ1 ∧ (b ρ1 = .nx ρ2 ∨ b ρ1 = .ct ρ2) ∧ I ρ2 ∧ m ρ2 < m ρ) (h0 : I ρ) :
    ∃ ρ', sWhile c b ρ = .nx ρ' ∧ Q ρ' := by
  have : ∀ (n : Nat) (ρ : DEnv), I ρ → m ρ < n → ∃ ρ', whGo c b n ρ = .nx ρ' ∧ Q ρ' := by
    intro n
    induction n with
    | zero => intro ρ _ hm; omega
    | succ n ih =>
      intro ρ hi hm
      rcases h ρ hi with ⟨ρ1, e1, q⟩ | ⟨ρ1, ρ2, e1, e2, i2, hm2⟩
      · exact ⟨ρ1, by rw [whGo, e1]; rfl, q⟩
      · obtain ⟨ρ3, e3, q⟩ := ih ρ2 i2 (by omega)
        refine ⟨ρ3, ?_, q⟩
        rw [whGo, e1]
        rcases e2 with e2 | e2 <;> simp only [Out.bindS, if_true, e2, e3]
  obtain ⟨ρ', e, q⟩ := this (m ρ + 1) ρ h0 (by omega)
  exact ⟨ρ', sWhile_of e (by simp), q⟩
@[simp] theorem Slot.d_fz' : (Slot.fz d).d? = some d := rfl
@[simp] theorem Slot.d_lst {ds : List D} : (Slot.ow (.lst ds)).d? = some (.list ds) := rfl
@[simp] theorem Slot.sh_lst {ds : List D} : (Slot.ow (.lst ds)).shared = some (.list ds) := rfl
@[simp] theorem g1_eq {op : D → Option Slot} : g1 op s = s.d?.bind op := rfl
@[simp] theorem g2_eq {op : D → D → Option Slot} {t : Slot} : g2 op s t = s.d?.bind fun a => t.d?.bind fun b => op a b := rfl
@[simp] theorem gN1_eq {op : D → Option Slot} : gN1 op [s] = s.d?.bind op := rfl
@[simp] theorem gN2_eq {op : D → D → Option Slot} {t : Slot} : gN2 op [s, t] = s.d?.bind fun a => t.d?.bind fun b => op a b := rfl
@[simp] theorem wipeD_nil : wipeD ρ [] = ρ := rfl
@[simp] theorem wipeD_cons {is : List Nat} : wipeD ρ (i :: is) = (wipeD ρ is).set i .no := rfl
@[simp] theorem tgN_eq : tgN i d ρ = some (ρ.set i (.fz d)) := rfl
@[simp] theorem gdOf_t : gdOf .t d ρ = True := rfl
@[simp] theorem gdOf_n : gdOf (.n i) d ρ = ((ρ.getD i .no).d? = some d) := rfl
end
end Dl
end
section
/-! more equations for simp -/
namespace Dl
open PySem L2 DlZ DlR DlS
section
variable {ρ : DEnv} {f g fa fb fc : EM} {k ka kb kc : Kd}
theorem iEn_eq : iEn k f ρ = (eArgs [(k, f)] ρ).bind fun ss ρ1 => match slL [k] ss ρ1 with
  | [s] => match s.d? with
    | some a => match seqOf a with
      | some (_, ds) => .ok ⟨enumD ds, gdOf k a⟩ ρ1
      | _ => .no
    | _ => .no
  | _ => .no := rfl
theorem iZ3_eq : iZ3 ka kb kc fa fb fc ρ = (eArgs [(ka, fa), (kb, fb), (kc, fc)] ρ).bind fun ss ρ1 => match slL [ka, kb, kc] ss ρ1 with
  | [s, t, u] => match s.d?, t.d?, u.d? with
    | some a, some b, some c => match seqOf a, seqOf b, seqOf c with
      | some (_, ds), some (_, es), some (_, gs) => .ok ⟨zip3D ds es gs, fun ρ' => gdOf ka a ρ' ∧ gdOf kb b ρ' ∧ gdOf kc c ρ'⟩ ρ1
      | _, _, _ => .no
    | _, _, _ => .no
  | _ => .no := rfl
end
theorem cut_take {ds : List D} {i : Nat} (h : i ≤ ds.length) : cutD ds none (some (i : Int)) = ds.take i := by
  have e := HT.sIx_nat ds.length ds.length i
  unfold cutD
  rw [e]
  show (ds.drop 0).take (min i ds.length - 0) = _
  rw [Nat.min_eq_left h]
  rfl
theorem cut_drop (ds : List D) (i : Nat) : cutD ds (some (i : Int)) none = ds.drop i := by
  have e := HT.sIx_nat ds.length 0 i
  unfold cutD
  rw [e]
  rcases Nat.le_total i ds.length with h | h
  · rw [Nat.min_eq_left h]
    exact List.take_of_length_le (by simp [HT.sIx])
  · rw [Nat.min_eq_right h, List.drop_of_length_le h]
    simp
theorem cut_drop1 (ds : List D) (i : Nat) : cutD ds (some ((i : Int) + 1)) none = ds.drop (i + 1) := cut_drop ds (i + 1)
theorem slOp_tuple (ds : List D) (lo hi : Option Int) : slOp lo hi (.tuple ds) = some (.fz (.tuple (cutD ds lo hi))) := rfl
@[simp] theorem neOp_str (a b : Str) : neOp (.str a) (.str b) = some (.fz (.bool (decide (a ≠ b)))) := by
  unfold neOp
  rw [if_pos (by rfl)]
  by_cases e : a = b <;> simp [PyData.eqv, e]
@[simp] theorem neOp_bool (a b : Bool) : neOp (.bool a) (.bool b) = some (.fz (.bool (decide (a ≠ b)))) := by
  unfold neOp
  rw [if_pos (by rfl)]
  cases a <;> cases b <;> rfl
@[simp] theorem eqOp_bool (a b : Bool) : eqOp (.bool a) (.bool b) = some (.fz (.bool (decide (a = b)))) := by
  unfold eqOp
  rw [if_pos (by rfl)]
  cases a <;> cases b <;> rfl
@[simp] theorem tgT3 {t u v : TgD} {a b c : D} {ρ : DEnv} : tgT 3 (tgCons t (tgCons u (tgCons v tgNil))) (.tuple [a, b, c]) ρ = (t a ρ).bind fun ρ1 => (u b ρ1).bind fun ρ2 => (v c ρ2).bind fun ρ3 => some ρ3 := by
  show (t a ρ).bind (tgCons u (tgCons v tgNil) [b, c]) = _
  congr 1
theorem eqOp_lay {a b : D} (h : lay 60 a = true) (h2 : lay 60 b = true) : eqOp a b = some (.fz (.bool (PyData.eqv a b))) := by
  unfold eqOp
  rw [if_pos (by rw [h, h2]; rfl)]
theorem neOp_lay {a b : D} (h : lay 60 a = true) (h2 : lay 60 b = true) : neOp a b = some (.fz (.bool (!PyData.eqv a b))) := by
  unfold neOp
  rw [if_pos (by rw [h, h2]; rfl)]
theorem reprOp_ok {d : D} (h : lay 60 d = true) (h2 : d.showable = true) (h3 : d.leavesShort 8 = true) (h4 : d.weight ≤ 90000) : ∃ z : Str, reprOp d = some (.fz (.str z)) := by
  refine ⟨d.shown, ?_⟩
  show (if _ then _ else _) = _
  rw [if_pos]
  simp only [Bool.and_eq_true, decide_eq_true_eq]
  have := PyData.shown_le 8 (by omega) d h3
  exact ⟨⟨h, h2⟩, by omega⟩
end Dl
end
section
/-! sorting what stands for a list -/
namespace Dl
open PySem L2 DlZ DlR DlS
theorem sortK_enc {α : Type} (enc : α → D) (E : List α) (h : (layL 60 (E.map enc) && allAlike (E.map enc) && sortB (E.map enc)) = true) :
    ∃ T : List α, sortK (E.map enc) = some (T.map enc) ∧ T.Perm E ∧ T.Pairwise fun a b => PySem.W.dataLt (enc b) (enc a) = false := by
  refine ⟨E.mergeSort (PySem.W.dataLe false enc), ?_, List.mergeSort_perm _ _, ?_⟩
  · unfold sortK
    rw [if_pos h]
    congr 1
    exact (List.map_mergeSort (r := PySem.W.dataLe false enc) (s := PySem.W.dataLe false id) (f := enc) (l := E) fun a _ b _ => rfl).symm
  · have hp := PySem.W.sort_pairwise (PySem.W.sortLe_total (PyProof.Rows.listOrd PyProof.Rows.itemOrd) false fun b => PySem.W.keyToks (enc b)) E
    refine hp.imp fun {a b} h => ?_
    have h' : (!PySem.W.dataLt (enc b) (enc a)) = true := h
    simpa using h'
theorem sortL_enc {α : Type} (enc : α → D) (E : List α) (h : (layL 60 (E.map enc) && allAlike (E.map enc) && sortB (E.map enc)) = true) :
    ∃ T : List α, sortL (E.map enc) = some (T.map enc) ∧ T.Perm E ∧ T.Pairwise fun a b => PySem.W.dataLt (enc b) (enc a) = false := by
  unfold sortL
  by_cases hl : (E.map enc).length ≤ 1
  · rw [if_pos hl]
    refine ⟨E, rfl, List.Perm.refl _, ?_⟩
    rw [List.length_map] at hl
    cases E with
    | nil => simp
    | cons a l =>
      have : l = [] := List.eq_nil_of_length_eq_zero (by simpa using hl)
      subst this; simp
  · rw [if_neg hl]
    exact sortK_enc enc E h
end Dl
end
section
namespace K66
open PySem L2 Dl
theorem r_is_integer (i : Int) : F_is_integer [.fz (.int i)] = .ok (.fz (.bool true)) [.fz (.int i)] := by
  simp [F_is_integer, b_is_integer, isTy, tyName, tyKnown, tyB]
theorem r_is_between (i a b : Int) : F_is_between [.fz (.int i), .fz (.int a), .fz (.int b)] = .ok (.fz (.bool (decide (a ≤ i ∧ i ≤ b)))) [.fz (.int i), .fz (.int a), .fz (.int b)] := by
  by_cases h : a ≤ i <;> simp [F_is_between, b_is_between, r_is_integer, eX_fz, h]
theorem r_is_weight (i : Int) : F_is_weight [.fz (.int i)] = .ok (.fz (.bool (decide (1 ≤ i ∧ i ≤ 99)))) [.fz (.int i)] := by
  simp [F_is_weight, b_is_weight, r_is_between, eX_fz]
/-! the pot -/
def PotOk (n : Nat) (pot : List D) : Prop := ∃ p q c : Int, pot = [.int p, .int q, .int c] ∧ 0 ≤ p ∧ p < 10 ^ 300 ∧ 0 ≤ q ∧ q < 2 ^ 62 ∧ 0 ≤ c ∧ c ≤ n
theorem PotOk.mono {n m : Nat} {pot : List D} (h : PotOk n pot) (hm : n ≤ m) : PotOk m pot := by
  obtain ⟨p, q, c, e, h1, h2, h3, h4, h5, h6⟩ := h
  exact ⟨p, q, c, e, h1, h2, h3, h4, h5, by omega⟩
theorem log2_lt {a : Nat} {k : Nat} (h : a < 2 ^ k) (hk : 0 < k) : a.log2 < k := by
  by_cases e : a = 0
  · subst e; simpa using hk
  · exact (Nat.log2_lt e).mpr h
theorem log2_int {a : Int} {k : Nat} (h0 : 0 ≤ a) (h : a < 2 ^ k) (hk : 0 < k) : a.natAbs.log2 < k := by
  refine log2_lt ?_ hk
  obtain ⟨n, rfl⟩ := Int.eq_ofNat_of_zero_le h0
  exact_mod_cast h
theorem mulS {a b : Int} (ha : -2 ^ 200 < a) (ha2 : a < 2 ^ 200) (hb : -2 ^ 200 < b) (hb2 : b < 2 ^ 200) : mulOp (.int a) (.int b) = some (.fz (.int (a * b))) :=
  mulOp_int (by
    have h1 : a.natAbs.log2 < 200 := log2_lt (by omega) (by omega)
    have h2 : b.natAbs.log2 < 200 := log2_lt (by omega) (by omega)
    omega)
theorem bits_le {a : Int} {k : Nat} (h0 : 0 ≤ a) (h : a < 2 ^ k) : Builtin.Int.intBits a ≤ k := PySem.intBits_le_iff.mpr (by
  obtain ⟨n, rfl⟩ := Int.eq_ofNat_of_zero_le h0
  exact_mod_cast h)
theorem powOp_ok {a b : Int} (hb : 0 ≤ b) (h : (Builtin.Int.intBits a : Int) * b ≤ 2 ^ 27) : powOp (.int a) (.int b) = some (.fz (.int (a ^ b.toNat))) := by
  show (if decide _ = true then _ else _) = _
  rw [if_pos (by simpa using ⟨hb, h⟩)]
@[simp] theorem intOf_int (a : Int) : intOf (.int a) = some (.fz (.int a)) := rfl
@[simp] theorem intOf_bool (a : Bool) : intOf (.bool a) = some (.fz (.int (if a then 1 else 0))) := rfl
@[simp] theorem absOp_int (a : Int) : absOp (.int a) = some (.fz (.int (if a < 0 then -a else a))) := rfl
@[simp] theorem ownL_lst {ρ : DEnv} {i : Nat} {ds : List D} (h : ρ[i]? = some (.ow (.lst ds))) : ownL i ρ = some ds := by unfold ownL; rw [List.getD_eq_getElem?_getD, h]; rfl
@[simp] theorem ownC_lst {ρ : DEnv} {i : Nat} {c : Cont} (h : ρ[i]? = some (.ow c)) : ownC i ρ = some c := by unfold ownC; rw [List.getD_eq_getElem?_getD, h]; rfl
theorem r_take {n : Nat} {pot : List D} {m : Int} (h : PotOk n pot) (hn : n ≤ 100000) (hm : 0 < m) (hm2 : m ≤ 1000000) : ∃ (r : Int) (pot' : List D), F__law_take [.ow (.lst pot), .fz (.int m)] = .ok (.fz (.int r)) [.ow (.lst pot'), .fz (.int m)] ∧ 0 ≤ r ∧ r < m ∧ PotOk (n + 1) pot' := by
  obtain ⟨p, q, c, rfl, h1, h2, h3, h4, h5, h6⟩ := h
  by_cases hp : 0 < p
  · refine ⟨p % m, [.int (p / m), .int q, .int c], ?_, Int.emod_nonneg _ (by omega), Int.emod_lt_of_pos _ hm, p / m, q, c, rfl, Int.ediv_nonneg h1 (by omega), Int.lt_of_le_of_lt (Int.ediv_le_self _ h1) h2, h3, h4, h5, by omega⟩
    have hl : m.natAbs.log2 < 9000 := Nat.lt_trans (log2_int (k := 20) (by omega) (by omega) (by omega)) (by omega)
    simp [F__law_take, b__law_take, L2.atI, ixN, hp, modOp_int hm, fdivOp_int hm hl, sSto, stoOp, eM_fz]
  · have hp0 : p = 0 := by omega
    subst hp0
    have hc : 0 < c + 1 ∧ c + 1 ≤ 100001 := by omega
    have hs0 : 0 ≤ 99521 * (c + 1) := by omega
    have hs1 : 99521 * (c + 1) ≤ 9952199521 := by omega
    have hs2 : 0 ≤ 99521 * (c + 1) * (c + 1) := Int.mul_nonneg hs0 (by omega)
    have hs3 : 99521 * (c + 1) * (c + 1) ≤ 9952199521 * 100001 := Int.mul_le_mul hs1 hc.2 (by omega) (by omega)
    have hm1 : mulOp (.int 99521) (.int (c + 1)) = some (.fz (.int (99521 * (c + 1)))) := mulS (by omega) (by omega) (by omega) (by omega)
    have hm2 : mulOp (.int (99521 * (c + 1))) (.int (c + 1)) = some (.fz (.int (99521 * (c + 1) * (c + 1)))) := mulS (by omega) (by omega) (by omega) (by omega)
    have hm3 : mulOp (.int 1091) (.int (c + 1)) = some (.fz (.int (1091 * (c + 1)))) := mulS (by omega) (by omega) (by omega) (by omega)
    obtain ⟨a, ha⟩ : ∃ a, a = q + 99521 * (c + 1) * (c + 1) + 1261 := ⟨_, rfl⟩
    have ha0 : 0 ≤ a ∧ a < 2 ^ 100 := by omega
    have hpw : powOp (.int a) (.int 3) = some (.fz (.int (a ^ 3))) := powOp_ok (by omega) (by have := bits_le ha0.1 ha0.2; omega)
    obtain ⟨pr, hpr, hpr0, hpr1⟩ : ∃ pr : Int, (L2.atI [PyData.int 2147483647, .int 2147483629, .int 2147483587, .int 2147483579, .int 2147483563] ((c + 1) % 5)).map Slot.fz = some (.fz (.int pr)) ∧ 0 < pr ∧ pr < 2 ^ 31 := by
      have : (c + 1) % 5 = 0 ∨ (c + 1) % 5 = 1 ∨ (c + 1) % 5 = 2 ∨ (c + 1) % 5 = 3 ∨ (c + 1) % 5 = 4 := by omega
      rcases this with e | e | e | e | e <;> rw [e]
      · exact ⟨2147483647, rfl, by omega, by omega⟩
      · exact ⟨2147483629, rfl, by omega, by omega⟩
      · exact ⟨2147483587, rfl, by omega, by omega⟩
      · exact ⟨2147483579, rfl, by omega, by omega⟩
      · exact ⟨2147483563, rfl, by omega, by omega⟩
    obtain ⟨b, hb⟩ : ∃ b, b = a ^ 3 % pr := ⟨_, rfl⟩
    have hb0 : 0 ≤ b := hb ▸ Int.emod_nonneg _ (by omega)
    have hb1 : b < pr := hb ▸ Int.emod_lt_of_pos _ hpr0
    have hm4 : mulOp (.int b) (.int (b % 12963 + 1091 * (c + 1))) = some (.fz (.int (b * (b % 12963 + 1091 * (c + 1))))) := mulS (by omega) (by omega) (by omega) (by omega)
    obtain ⟨z, hz⟩ : ∃ z, z = b * (b % 12963 + 1091 * (c + 1)) % 2305843009213693907 := ⟨_, rfl⟩
    refine ⟨z / 1849 % m, [.int 0, .int q, .int (c + 1)], ?_, Int.emod_nonneg _ (by omega), Int.emod_lt_of_pos _ hm, 0, q, c + 1, rfl, by omega, by omega, h3, h4, by omega, by omega⟩
    have hmod1 : modOp (.int (a ^ 3)) (.int pr) = some (.fz (.int b)) := hb ▸ modOp_int hpr0
    have hmod2 : modOp (.int (b * (b % 12963 + 1091 * (c + 1)))) (.int 2305843009213693907) = some (.fz (.int z)) := hz ▸ modOp_int (by omega)
    have hmod3 : modOp (.int (c + 1)) (.int 5) = some (.fz (.int ((c + 1) % 5))) := modOp_int (by omega)
    have hmod4 : modOp (.int b) (.int 12963) = some (.fz (.int (b % 12963))) := modOp_int (by omega)
    have hfd : fdivOp (.int z) (.int 1849) = some (.fz (.int (z / 1849))) := fdivOp_int (by omega) (by decide)
    have hix0 : L2.atI [PyData.int 0, .int q, .int c] 0 = some (.int 0) := rfl
    have hix2 : L2.atI [PyData.int 0, .int q, .int c] 2 = some (.int c) := rfl
    have hix1' : L2.atI [PyData.int 0, .int q, .int (c + 1)] 1 = some (.int q) := rfl
    have hix2' : L2.atI [PyData.int 0, .int q, .int (c + 1)] 2 = some (.int (c + 1)) := rfl
    have hst : ixN 3 2 = some 2 := rfl
    simp [F__law_take, b__law_take, hix0, hix2, hix1', hix2', hst, sSto, stoOp, eM_fz, hm1, hm2, hm3, hm4, ← ha, hpw, hpr, hmod1, hmod2, hmod3, hmod4, hfd, modOp_int hm, lstG, allFz]
theorem r_of {n : Nat} {pot ds : List D} (h : PotOk n pot) (hn : n ≤ 100000) (hd : ds ≠ []) (hl : ds.length ≤ 1000000) : ∃ (d : D) (pot' : List D), F__law_of [.ow (.lst pot), .ow (.lst ds)] = .ok (.fz d) [.ow (.lst pot'), .ow (.lst ds)] ∧ d ∈ ds ∧ PotOk (n + 1) pot' := by
  have hp : 0 < ds.length := List.length_pos_iff.mpr hd
  obtain ⟨r, pot', e, r0, r1, ok⟩ := r_take (m := ds.length) h hn (by omega) (by omega)
  have hx : L2.atI ds r = some ds[r.toNat] := by rw [atI_int r0 r1, List.getElem?_eq_getElem (by omega)]
  refine ⟨_, pot', ?_, List.getElem_mem (by omega : r.toNat < ds.length), ok⟩
  simp [F__law_of, b__law_of, e, hx]
theorem erase_perm {α : Type} : ∀ {l : List α} {i : Nat} (h : i < l.length), (l[i] :: l.eraseIdx i).Perm l
  | a :: l, 0, _ => by simp
  | a :: l, i + 1, h => by
    simp only [List.getElem_cons_succ, List.eraseIdx_cons_succ]
    exact (List.Perm.swap _ _ _).trans ((erase_perm (by simpa using h)).cons a)
theorem r_some {n : Nat} {pot pool : List D} {m : Nat} (h : PotOk n pot) (hn : n + m ≤ 100000) (hm : m ≤ pool.length) (hl : pool.length ≤ 1000000) :
    ∃ (ys : List D) (pot' : List D), F__law_some [.ow (.lst pot), .fz (.list pool), .fz (.int m)] = .ok (.ow (.lst ys)) [.ow (.lst pot'), .fz (.list pool), .fz (.int m)] ∧ ys.length = m ∧ (∃ zs, (ys ++ zs).Perm pool) ∧ PotOk (n + m) pot' := by
  obtain ⟨ρ', e, i⟩ := forGo_inv (gd := fun _ => True) (tg := tgN 3) (b := sDrop (eApp 5 (ePop 4 (eCall [(.n 0, (eN 0)), (.t, (eB [(.n 4, (eN 4))] (gN1 lenOp)))] F__law_take))))
    (I := fun l ρ => ∃ pot' left found s3, ρ = [.ow (.lst pot'), .fz (.list pool), .fz (.int m), s3, .ow (.lst left), .ow (.lst found)] ∧ PotOk (n + l.length) pot' ∧ found.length = l.length ∧ (found ++ left).Perm pool) (fun _ _ _ => trivial)
    (ds := (List.range m).map fun (i : Nat) => .int i) (pre := []) (ρ := [.ow (.lst pot), .fz (.list pool), .fz (.int m), .no, .ow (.lst pool), .ow (.lst [])]) (fun l d r ρ el i => by
      obtain ⟨pot', left, found, s3, rfl, ok, hf, hp⟩ := i
      have hll := congrArg List.length el
      simp only [List.nil_append, List.length_map, List.length_range, List.length_append, List.length_cons] at hll
      have hpl := hp.length_eq
      rw [List.length_append] at hpl
      obtain ⟨r, pot'', e, r0, r1, ok'⟩ := r_take (m := left.length) ok (by omega) (by omega) (by omega)
      have hx : left[r.toNat]? = some left[r.toNat] := List.getElem?_eq_getElem (by omega)
      refine ⟨_, [.ow (.lst pot''), .fz (.list pool), .fz (.int m), .fz d, .ow (.lst (left.eraseIdx r.toNat)), .ow (.lst (found ++ [left[r.toNat]]))], rfl, .inl ?_, pot'', _, _, _, rfl, by simpa [Nat.add_assoc] using ok', by simp [hf], ?_⟩
      · have h1 : left.length ≤ 1000000 := by omega
        have h2 : found.length ≤ 1000000 := by omega
        simp [eApp, ePop, ownL, e, r0, hx, small, h1, h2]
      · rw [List.append_assoc]
        exact (List.Perm.append_left found (erase_perm (by omega))).trans hp) ⟨pot, pool, [], .no, rfl, by simpa using h, rfl, by simp⟩
  obtain ⟨pot', left, found, s3, rfl, ok, hf, hp⟩ := i
  simp only [List.nil_append, List.length_map, List.length_range] at ok hf
  refine ⟨found, pot', ?_, hf, ⟨_, hp⟩, ok⟩
  have hm2 : (m : Int) ≤ 1000000 ∧ (-1000000 : Int) ≤ m := by omega
  simp [F__law_some, b__law_some, lstG, allFz, eX_fz, iRg, hm2, e, eM_ow]
theorem cut_ints (ns : List Int) (lo hi : Option Int) : ∃ ms : List Int, cutD (ns.map PyData.int) lo hi = ms.map PyData.int := by
  unfold cutD
  rw [← List.map_drop, ← List.map_take]
  exact ⟨_, rfl⟩
theorem slOp_scr (ds : List D) (lo hi : Option Int) : slOp lo hi (scrD ds) = some (.ow (.lst (cutD ds lo hi))) := rfl
theorem r_pot {ns : List Int} {p : Int} (h0 : 0 ≤ p) (h1 : p ≤ 1000) : ∃ pot : List D, F__law_pot [.fz (scrD (ns.map .int)), .fz (.int p)] = .ok (.ow (.lst pot)) [.fz (scrD (ns.map .int)), .fz (.int p)] ∧ PotOk 0 pot := by
  obtain ⟨T, hT⟩ : ∃ T : Int, T = 10 ^ 60 := ⟨_, rfl⟩
  obtain ⟨T5, hT5⟩ : ∃ T : Int, T = 10 ^ 300 := ⟨_, rfl⟩
  obtain ⟨T18, hT18⟩ : ∃ T : Int, T = 10 ^ 18 := ⟨_, rfl⟩
  have p1 : powOp (.int 10) (.int 60) = some (.fz (.int T)) := hT ▸ powOp_ok (by omega) (by decide +kernel)
  have p2 : powOp (.int T) (.int 5) = some (.fz (.int T5)) := by subst hT hT5; exact powOp_ok (by omega) (by decide +kernel)
  have p3 : powOp (.int 10) (.int 18) = some (.fz (.int T18)) := hT18 ▸ powOp_ok (by omega) (by decide +kernel)
  have hT50 : 0 < T5 := by subst hT5; decide +kernel
  have main : ∀ c : Int, ∃ pot : List D, ((sSeq (sSet 3 (e2 (.t) (.t) (e2 (.t) (.t) (eB [(.t, (eB [(.n 2, (eN 2))] (gN1 absOp)))] (gN1 intOf)) (e2 (.t) (.t) (e2 (.t) (.t) (eC (.int 10)) (eC (.int 60)) (g2 powOp)) (eC (.int 5)) (g2 powOp)) (g2 modOp)) (eB [(.t, (e2 (.t) (.t) (eB [(.n 2, (eN 2))] (gN1 absOp)) (e2 (.t) (.t) (eC (.int 10)) (eC (.int 18)) (g2 powOp)) (g2 geOp)))] (gN1 intOf)) (g2 mulOp)))
  (sSeq (sSet 4 (e2 (.t) (.t) (eB [(.n 2, (eN 2))] (gN1 intOf)) (eC (.int 2305843009213693951)) (g2 modOp)))
  (sRt (eB [(.t, (eX 3)), (.t, (e2 (.t) (.t) (eB [(.t, (e2 (.t) (.t) (e2 (.t) (.t) (e2 (.n 4) (.t) (eN 4) (eC (.int 77769)) (g2 mulOp)) (e2 (.t) (.n 1) (e2 (.t) (.n 1) (eC (.int 10499)) (eN 1) (g2 mulOp)) (eN 1) (g2 mulOp)) (g2 addOp)) (eC (.int 2027)) (g2 addOp)))] (gN1 intOf)) (eC (.int 2305843009213693921)) (g2 modOp))), (.t, (eC (.int 0)))] lstG)))) [.fz (scrD (ns.map .int)), .fz (.int p), .fz (.int c), .no, .no]).fin [true, true] = .ok (.ow (.lst pot)) [.fz (scrD (ns.map .int)), .fz (.int p)] ∧ PotOk 0 pot := by
    intro c
    obtain ⟨A, hA⟩ : ∃ A : Int, A = if c < 0 then -c else c := ⟨_, rfl⟩
    have hA0 : 0 ≤ A := by subst hA; split <;> omega
    obtain ⟨B, hB⟩ : ∃ B : Int, B = if T18 ≤ A then 1 else 0 := ⟨_, rfl⟩
    have hB0 : B = 0 ∨ B = 1 := by subst hB; split <;> omega
    obtain ⟨M, hM⟩ : ∃ M : Int, M = A % T5 := ⟨_, rfl⟩
    have hM0 : 0 ≤ M := hM ▸ Int.emod_nonneg _ (by omega)
    have hM1 : M < T5 := hM ▸ Int.emod_lt_of_pos _ hT50
    have hM2 : M.natAbs.log2 < 1000 := log2_int hM0 (Int.lt_of_lt_of_le hM1 (by subst hT5; decide +kernel)) (by omega)
    have m1 : mulOp (.int M) (.int B) = some (.fz (.int (M * B))) := mulOp_int (by rcases hB0 with e | e <;> rw [e] <;> simp [show Nat.log2 1 = 0 from by decide] <;> omega)
    have m2 : modOp (.int A) (.int T5) = some (.fz (.int M)) := hM ▸ modOp_int hT50
    obtain ⟨S, hS⟩ : ∃ S : Int, S = c % 2305843009213693951 := ⟨_, rfl⟩
    have hS0 : 0 ≤ S ∧ S < 2305843009213693951 := by omega
    have m3 : modOp (.int c) (.int 2305843009213693951) = some (.fz (.int S)) := hS ▸ modOp_int (by omega)
    have m4 : mulOp (.int S) (.int 77769) = some (.fz (.int (S * 77769))) := mulS (by omega) (by omega) (by omega) (by omega)
    have m5 : mulOp (.int 10499) (.int p) = some (.fz (.int (10499 * p))) := mulS (by omega) (by omega) (by omega) (by omega)
    have m6 : mulOp (.int (10499 * p)) (.int p) = some (.fz (.int (10499 * p * p))) := mulS (by omega) (by omega) (by omega) (by omega)
    obtain ⟨Q, hQ⟩ : ∃ Q : Int, Q = (S * 77769 + 10499 * p * p + 2027) % 2305843009213693921 := ⟨_, rfl⟩
    have m7 : modOp (.int (S * 77769 + 10499 * p * p + 2027)) (.int 2305843009213693921) = some (.fz (.int Q)) := hQ ▸ modOp_int (by omega)
    have hab : absOp (.int c) = some (.fz (.int A)) := by rw [absOp_int, hA]
    have hib : intOf (.bool (decide (T18 ≤ A))) = some (.fz (.int B)) := by rw [intOf_bool, hB]; simp
    refine ⟨[.int (M * B), .int Q, .int 0], ?_, M * B, Q, 0, rfl, Int.mul_nonneg hM0 (by omega), ?_, by omega, by omega, by omega, by omega⟩
    · simp [p1, p2, p3, hab, hib, m1, m2, m3, m4, m5, m6, m7, lstG, allFz, eX_fz, -absOp_int, -intOf_bool]
    · rw [← hT5]
      rcases hB0 with e | e <;> subst e
      · simpa using hT50
      · simpa using hM1
  by_cases hl : p < ns.length
  · obtain ⟨pot, e, ok⟩ := main (ns[p.toNat]'(by omega))
    refine ⟨pot, ?_, ok⟩
    have hx : L2.atI (ns.map PyData.int) p = some (.int (ns[p.toNat]'(by omega))) := by
      rw [atI_int h0 (by simpa using hl), List.getElem?_map, List.getElem?_eq_getElem (by omega)]
      rfl
    rw [← e]
    simp only [F__law_pot, b__law_pot, runF_eq]
    rw [sSeq_eq]
    congr 1
    simp [hx, hl]
  · obtain ⟨ms, hms⟩ := cut_ints ns none (some 1)
    obtain ⟨pot, e, ok⟩ := main (ms.sum % 1000003 + 5283 * p + 2249)
    refine ⟨pot, ?_, ok⟩
    have hl' : ¬ p < (ns.length : Int) := hl
    have m1 : mulOp (.int 5283) (.int p) = some (.fz (.int (5283 * p))) := mulS (by omega) (by omega) (by omega) (by omega)
    have m2 : modOp (.int ms.sum) (.int 1000003) = some (.fz (.int (ms.sum % 1000003))) := modOp_int (by omega)
    rw [← e]
    simp only [F__law_pot, b__law_pot, runF_eq]
    rw [sSeq_eq]
    congr 1
    simp [hl', slOp_scr, hms, m1, m2, pS]
end K66
end
section
namespace K66
open PySem L2 Dl DlS DlZ
def inS (z : Str) (c : Nat) : Bool := !(Builtin.Str.occurrences z ⟨#[c]⟩ 0 z.length 1).isEmpty
def letS : Str := "abcdefghijklmnopqrstuvwxyz"
def figS : Str := "0123456789"
def nameB (z : Str) : Bool := decide (0 < z.length ∧ z.length ≤ 8) && (match z.cps.toList with | c :: _ => inS letS c | [] => false) && z.cps.toList.all fun c => inS letS c || inS figS c
/-- a number in figures -/
def figs (i : Int) : Str := toString i
def pool : List Str := (["a", "b", "c1", "pit", "wall", "floor", "hearth9", "x"] : List Str) ++ (List.range 24).map fun (n : Nat) => (("n" : Str) ++ figs n)
theorem pool_names : pool.all nameB = true := by decide +kernel
theorem pool_nodup : pool.Nodup := by decide +kernel
theorem ab_names : ((List.range 20).all fun (n : Nat) => nameB (("a" : Str) ++ figs n) && nameB (("b" : Str) ++ figs n)) = true := by decide +kernel
theorem lcGo_map {gd : DEnv → Prop} {vl : List Nat} {tg : TgD} {c : DEnv → Out Bool} {f : EM} {ρ : DEnv} {g : D → D} {ds : List D} (hg : gd ρ) (h : ∀ d ∈ ds, lcStep vl tg c f d ρ = .ok (some (g d)) ρ) : lcGo gd vl tg c f ds ρ = .ok (ds.map g) ρ := by
  rw [lcGo_same hg h]
  congr 1
  induction ds with
  | nil => rfl
  | cons d ds ih => simp
theorem lcGo_true {gd : DEnv → Prop} {vl : List Nat} {tg : TgD} {c : DEnv → Out Bool} {f : EM} {ρ : DEnv} {ds : List D} (hg : gd ρ) (h : ∀ d ∈ ds, lcStep vl tg c f d ρ = .ok (some (.bool true)) ρ) : lcGo gd vl tg c f ds ρ = .ok (List.replicate ds.length (.bool true)) ρ := by
  rw [lcGo_map hg h, List.map_const']
@[simp] theorem allOp_rep (n : Nat) : allOp (.list (List.replicate n (.bool true))) = some (.fz (.bool true)) := by
  have := allOp_bools (List.replicate n true)
  simpa using this
@[simp] theorem inOpD_str (neg : Bool) (x y : Str) : inOpD neg (.str x) (.str y) = some (.fz (.bool (neg != !(Builtin.Str.occurrences y x 0 y.length 1).isEmpty))) := rfl
theorem r_is_name {z : Str} (h : nameB z = true) : F_is_name [.fz (.str z)] = .ok (.fz (.bool true)) [.fz (.str z)] := by
  simp only [nameB, Bool.and_eq_true, decide_eq_true_eq] at h
  obtain ⟨⟨⟨h1, h2⟩, h3⟩, h4⟩ := h
  have hz : z.length ≤ sizeLine := Nat.le_trans h2 (by decide)
  cases e : z.cps.toList with
  | nil => rw [e] at h3; cases h3
  | cons c cs =>
    rw [e] at h3 h4
    have hx : L2.atI z.cps.toList 0 = some c := by rw [e, atI_int (by omega) (by simp)]; rfl
    have hlen : lenOp (.str z) = some (.fz (.int z.length)) := by show (if _ then _ else _) = _; rw [if_pos hz]
    have hix : ixOp (.str z) (.int 0) = some (.fz (.str ⟨#[c]⟩)) := by show (if _ then _ else _) = _; rw [if_pos hz, hx]; rfl
    have hit : itemsOf (.str z) = some (z.cps.toList.map fun c => .str ⟨#[c]⟩) := by show (if _ then _ else _) = _; rw [if_pos (show z.cps.size ≤ sizeLine from hz)]
    have h1' : (0 : Int) < z.length := by omega
    have h2' : (z.length : Int) ≤ 8 := by omega
    have h3' : Builtin.Str.occurrences letS ⟨#[c]⟩ 0 letS.length 1 ≠ [] := by simpa [inS] using h3
    have hlc := lcGo_true (gd := gdOf (.n 0) (.str z)) (vl := [1]) (tg := tgN 1) (c := tYesD) (f := eOr (.t) (e2 (.n 1) (.t) (eN 1) (eC (.str "abcdefghijklmnopqrstuvwxyz")) (g2 (inOpD false))) (e2 (.n 1) (.t) (eN 1) (eC (.str "0123456789")) (g2 (inOpD false)))) (ρ := [.fz (.str z), .no]) (ds := z.cps.toList.map fun c => .str ⟨#[c]⟩) (by simp) (fun d hd => by
      obtain ⟨k, hk, rfl⟩ := List.mem_map.mp hd
      rw [e] at hk
      have hh := List.all_eq_true.mp h4 k hk
      by_cases hq : Builtin.Str.occurrences letS ⟨#[k]⟩ 0 letS.length 1 = []
      · have h5 : Builtin.Str.occurrences figS ⟨#[k]⟩ 0 figS.length 1 ≠ [] := by simpa [inS, hq] using hh
        unfold letS at hq
        unfold figS at h5
        simp [lcStep, hq, h5]
      · unfold letS at hq
        simp [lcStep, hq])
    unfold letS at h3'
    simp [F_is_name, b_is_name, isTy, tyName, tyKnown, tyB, hlen, hix, hit, hlc, h1, h2, h1', h2', h3', -List.map_map]
theorem inK_iff (l : List Key) (k : Key) : inK l k = true ↔ k ∈ l := by
  unfold inK
  rw [List.any_eq_true]
  exact ⟨fun ⟨x, hx, e⟩ => of_decide_eq_true e ▸ hx, fun h => ⟨k, h, by simp⟩⟩
theorem dn_nodup {ks : List Key} (h : ks.Nodup) : ∀ i, i ≤ ks.length → dn ks i = i
  | 0, _ => rfl
  | i + 1, hi => by
    have hx : ks[i]? = some ks[i] := List.getElem?_eq_getElem (by omega)
    have hn : ks[i] ∉ ks.take i := by
      intro hm
      have h2 : (ks.take i ++ ks.drop i).Nodup := by rw [List.take_append_drop]; exact h
      rw [List.drop_eq_getElem_cons (by omega)] at h2
      exact (List.nodup_append.mp h2).2.2 _ hm _ (List.mem_cons_self ..) rfl
    unfold dn
    rw [hx]
    have hn2 : ¬ inK (ks.take i) ks[i] = true := fun z => hn ((inK_iff _ _).mp z)
    simp only [if_neg hn2]
    rw [dn_nodup h i (by omega)]
theorem flats_strs (os : List Str) : flatsD (os.map .str) = some (os.map .inr) := by
  induction os with
  | nil => rfl
  | cons o os ih =>
    simp only [List.map_cons, flatsD, ih, flatD]
    rfl
theorem nodup_map {α β : Type} {f : α → β} (hf : ∀ a b, f a = f b → a = b) : ∀ {l : List α}, l.Nodup → (l.map f).Nodup
  | [], _ => by simp
  | a :: l, h => by
    rw [List.nodup_cons] at h
    rw [List.map_cons, List.nodup_cons]
    refine ⟨fun hm => ?_, nodup_map hf h.2⟩
    obtain ⟨b, hb, e⟩ := List.mem_map.mp hm
    exact h.1 (hf _ _ e ▸ hb)
/-- a core -/
def CoreOk (os : List Str) : Prop := 1 ≤ os.length ∧ os.length ≤ 24 ∧ os.Nodup ∧ ∀ z ∈ os, nameB z = true
def coreD (os : List Str) : D := .tuple (os.map .str)
theorem r_is_core {os : List Str} (h : CoreOk os) : F_is_core [.fz (coreD os)] = .ok (.fz (.bool true)) [.fz (coreD os)] := by
  obtain ⟨h1, h2, h3, h4⟩ := h
  have hlc := lcGo_true (gd := gdOf (.n 0) (coreD os)) (vl := [1]) (tg := tgN 1) (c := tYesD) (f := eCall [(.t, (eX 1))] F_is_name) (ρ := [.fz (coreD os), .no]) (ds := os.map .str) (by simp) (fun d hd => by
    obtain ⟨z, hz, rfl⟩ := List.mem_map.mp hd
    simp [lcStep, r_is_name (h4 z hz), eX_fz])
  have hls : lsOp (coreD os) = some (.fz (.int os.length)) := by
    simp [lsOp, coreD, seqOf, flats_strs, dn_nodup (nodup_map (fun a b (e : (Sum.inr a : Key) = .inr b) => Sum.inr.inj e) h3) os.length (by simp)]
    omega
  have h1' : (1 : Int) ≤ os.length := by omega
  have h2' : (os.length : Int) ≤ 24 := by omega
  have hlen : lenOp (coreD os) = some (.fz (.int os.length)) := by simp [coreD]
  have hit : itemsOf (coreD os) = some (os.map .str) := rfl
  have hty : isTy "tuple" (coreD os) = some true := rfl
  simp [F_is_core, b_is_core, hty, hlen, hit, h1, h2, h1', h2', hlc, -List.map_map, hls]
def coresD (a b : List Str) : D := .tuple [coreD a, coreD b]
theorem r_is_cores {a b : List Str} (ha : CoreOk a) (hb : CoreOk b) : F_is_cores [.fz (coresD a b)] = .ok (.fz (.bool true)) [.fz (coresD a b)] := by
  have hty : isTy "tuple" (coresD a b) = some true := rfl
  have hlen : lenOp (coresD a b) = some (.fz (.int 2)) := rfl
  have h0 : ixOp (coresD a b) (.int 0) = some (.fz (coreD a)) := rfl
  have h1 : ixOp (coresD a b) (.int 1) = some (.fz (coreD b)) := rfl
  simp [F_is_cores, b_is_cores, hty, hlen, h0, h1, r_is_core ha, r_is_core hb]
theorem r_check_cores {a b : List Str} (ha : CoreOk a) (hb : CoreOk b) : F_check_cores [.fz (coresD a b)] = .ok (.fz .none) [.fz (coresD a b)] := by
  simp [F_check_cores, b_check_cores, r_is_cores ha hb, eX_fz, sNx_eq]
theorem r_cells (ns : List Int) (h : ns.length ≤ 1000) : ∃ m : Nat, 1 ≤ m ∧ m ≤ 2 ∧ F__law_cells [.fz (scrD (ns.map .int)), .fz (.int 2)] = .ok (.ow (.lst ((List.range m).map fun (n : Nat) => .int n))) [.fz (scrD (ns.map .int)), .fz (.int 2)] := by
  have hmin : min2Op (.int 2) (.int ns.length) = some (.fz (.int (if (ns.length : Int) < 2 then ns.length else 2))) := rfl
  rcases (by omega : ns.length = 0 ∨ ns.length = 1 ∨ 2 ≤ ns.length) with e | e | e
  · exact ⟨1, by omega, by omega, by simp [F__law_cells, b__law_cells, hmin, e]; rfl⟩
  · exact ⟨1, by omega, by omega, by simp [F__law_cells, b__law_cells, hmin, e]; rfl⟩
  · have h2 : ¬ (ns.length : Int) < 2 := by omega
    have h2' : ¬ ns.length < 2 := by omega
    exact ⟨2, by omega, by omega, by simp [F__law_cells, b__law_cells, hmin, h2, h2']; rfl⟩
theorem perm_strs {ys zs : List D} {os : List Str} (h : (ys ++ zs).Perm (os.map .str)) : ∃ as bs : List Str, ys = as.map .str ∧ (as ++ bs).Perm os := by
  have : ∀ d ∈ ys ++ zs, ∃ z, d = .str z := fun d hd => by
    obtain ⟨z, _, rfl⟩ := List.mem_map.mp (h.mem_iff.mp hd)
    exact ⟨z, rfl⟩
  have hx : ∀ l : List D, (∀ d ∈ l, ∃ z, d = .str z) → ∃ as : List Str, l = as.map .str := by
    intro l
    induction l with
    | nil => exact fun _ => ⟨[], rfl⟩
    | cons d l ih =>
      intro hl
      obtain ⟨z, rfl⟩ := hl d (by simp)
      obtain ⟨as, rfl⟩ := ih fun x hx => hl x (by simp [hx])
      exact ⟨z :: as, rfl⟩
  obtain ⟨as, rfl⟩ := hx ys fun d hd => this d (by simp [hd])
  obtain ⟨bs, rfl⟩ := hx zs fun d hd => this d (by simp [hd])
  refine ⟨as, bs, rfl, ?_⟩
  rw [← List.map_append] at h
  have h2 := h.map (fun d : D => match d with | .str z => z | _ => ⟨#[]⟩)
  have hid : ∀ l : List Str, (l.map PyData.str).map (fun d : D => match d with | .str z => z | _ => ⟨#[]⟩) = l := fun l => by
    induction l with
    | nil => rfl
    | cons a l ih => simp only [List.map_cons, ih]
  rw [hid, hid] at h2
  exact h2
theorem core_of {ys zs : List D} {m : Nat} (h : (ys ++ zs).Perm (pool.map .str)) (hl : ys.length = m) (h0 : 0 < m) (hm : m ≤ 24) : ∃ os : List Str, ys = os.map .str ∧ os.length = m ∧ CoreOk os := by
  obtain ⟨as, bs, rfl, hp⟩ := perm_strs h
  rw [List.length_map] at hl
  refine ⟨as, rfl, hl, by omega, by omega, ?_, fun z hz => ?_⟩
  · exact (List.nodup_append.mp ((hp.nodup_iff).mpr pool_nodup)).1
  · exact List.all_eq_true.mp pool_names z (hp.mem_iff.mp (by simp [hz]))
theorem addOp_str {x y : Str} (h : x.length + y.length ≤ sizeLine) : addOp (.str x) (.str y) = some (.fz (.str (x ++ y))) := by
  show (if _ then _ else _) = _
  rw [if_pos h]
theorem addOp_list {x y : List D} (h : x.length + y.length ≤ sizeLine) : addOp (.list x) (.list y) = some (.ow (.lst (x ++ y))) := by
  show (if _ then _ else _) = _
  rw [if_pos h]
theorem addOp_tuple {x y : List D} (h : x.length + y.length ≤ sizeLine) : addOp (.tuple x) (.tuple y) = some (.fz (.tuple (x ++ y))) := by
  show (if _ then _ else _) = _
  rw [if_pos h]
theorem small_line {n : Nat} (h : n ≤ 2000001) : n ≤ sizeLine := Nat.le_trans h million
theorem fig_len : ∀ n : Nat, n < 30 → (figs n).length ≤ 8 := by
  have h : ((List.range 30).all fun n => decide ((figs n).length ≤ 8)) = true := by decide +kernel
  intro n hn
  simpa using List.all_eq_true.mp h n (List.mem_range.mpr hn)
theorem log2_small {n : Nat} (h : n < 2 ^ 30) : (n : Int).natAbs.log2 < 1920 := Nat.lt_trans (log2_int (k := 30) (by omega) (by omega) (by omega)) (by omega)
theorem strOp_nat {n : Nat} (h : n < 2 ^ 30) : strOp (.int n) = some (.fz (.str (figs n))) := by
  show (if _ then _ else _) = _
  rw [if_pos (log2_small h)]
  rfl
/-- a word with a number -/
theorem nameOp {x : Str} {n : Nat} (hx : x.length ≤ 8) (h : n < 30) : addOp (.str x) (.str (figs n)) = some (.fz (.str (x ++ figs n))) :=
  addOp_str (small_line (by have := fig_len n h; omega))
theorem iRg_eq {f : EM} {ρ : DEnv} : iRg f ρ = (f ρ).bind fun s ρ1 => match s.d? with
  | some (.int j) => if j ≤ 1000000 ∧ -1000000 ≤ j then .ok ⟨(List.range j.toNat).map fun (i : Nat) => .int i, fun _ => True⟩ ρ1 else .no
  | _ => .no := rfl
theorem pool_len : pool.length = 32 := by decide
def numN (x : Str) : D → D
  | .int i => .str (x ++ figs i)
  | d => d
theorem r_cores {n most : Nat} {pot : List D} (h : PotOk n pot) (hn : n ≤ 5000) (hm0 : 1 ≤ most) (hm24 : most ≤ 24) : ∃ (a b : List Str) (pot' : List D), F__law_cores [.ow (.lst pot), .fz (.int most)] = .ok (.fz (coresD a b)) [.ow (.lst pot'), .fz (.int most)] ∧ CoreOk a ∧ CoreOk b ∧ a.length ≤ most ∧ b.length ≤ most ∧ PotOk (n + 50) pot' := by
  obtain ⟨r1, pot1, q1, r10, r11, ok1⟩ := r_take (m := most) h (by omega) (by omega) (by omega)
  obtain ⟨m1, rfl⟩ := Int.eq_ofNat_of_zero_le r10
  obtain ⟨ys1, pot2, q2, l2, ⟨zs, p2⟩, ok2⟩ := r_some (m := 1 + m1) (pool := pool.map .str) ok1 (by omega) (by rw [List.length_map, pool_len]; omega) (by decide)
  obtain ⟨a, rfl, la, ca⟩ := core_of p2 l2 (by omega) (by omega)
  obtain ⟨r3, pot3, q3, r30, r31, ok3⟩ := r_take (m := most) ok2 (by omega) (by omega) (by omega)
  obtain ⟨m3, rfl⟩ := Int.eq_ofNat_of_zero_le r30
  obtain ⟨ys4, pot4, q4, l4, ⟨zs4, p4⟩, ok4⟩ := r_some (m := 1 + m3) (pool := pool.map .str) ok3 (by omega) (by rw [List.length_map, pool_len]; omega) (by decide)
  obtain ⟨b, rfl, lb, cb⟩ := core_of p4 l4 (by omega) (by omega)
  refine ⟨a, b, pot4, ?_, ca, cb, by omega, by omega, ok4.mono (by omega)⟩
  have hlc := lcGo_map (gd := fun _ => True) (vl := [4]) (tg := tgN 4) (c := tYesD) (f := e2 (.t) (.t) (eC (.str "n")) (eB [(.n 4, (eN 4))] (gN1 strOp)) (g2 addOp)) (ρ := [.ow (.lst pot), .fz (.int most), .no, .no, .no]) (ds := (List.range 24).map fun (i : Nat) => .int i)
    (g := numN "n") trivial (fun d hd => by
    obtain ⟨k, hk, rfl⟩ := List.mem_map.mp hd
    have hk2 : k < 24 := List.mem_range.mp hk
    have s1 := strOp_nat (n := k) (by omega)
    have s2 := nameOp (x := "n") (n := k) (by decide) (by omega)
    simp [lcStep, s1, s2, numN])
  have hpool : (([.str "a", .str "b", .str "c1", .str "pit", .str "wall", .str "floor", .str "hearth9", .str "x"] : List D) ++ ((List.range 24).map fun (i : Nat) => PyData.int i).map (numN "n")) = pool.map .str := by
    unfold pool
    rw [List.map_append, List.map_map, List.map_map]
    rfl
  have hadd := addOp_list (x := [.str "a", .str "b", .str "c1", .str "pit", .str "wall", .str "floor", .str "hearth9", .str "x"]) (y := ((List.range 24).map fun (i : Nat) => PyData.int i).map (numN "n")) (small_line (by simp))
  rw [hpool] at hadd
  have hm1 : ((1 + m1 : Nat) : Int) = 1 + m1 := by omega
  have hm3 : ((1 + m3 : Nat) : Int) = 1 + m3 := by omega
  rw [hm1] at q2
  rw [hm3] at q4
  simp [F__law_cores, b__law_cores, iRg_eq, hlc, hadd, lstG, tupG, allFz, eX_fz, eX_l, q1, q2, q3, q4, coresD, coreD, -List.map_map]
end K66
end
section
/-! the greatest rows of likes: plain mathematics, no program in sight -/
namespace K66
abbrev Lk := Int × Int × Int
def wt (l : Lk) : Int := l.2.2
def bh (a b : Lk) : Prop := a.1 < b.1 ∧ a.2.1 < b.2.1
instance (a b : Lk) : Decidable (bh a b) := inferInstanceAs (Decidable (_ ∧ _))
def ltP (a b : Lk) : Prop := a.1 < b.1 ∨ (a.1 = b.1 ∧ a.2.1 < b.2.1)
theorem bh.trans {a b c : Lk} (h : bh a b) (h2 : bh b c) : bh a c := ⟨Int.lt_trans h.1 h2.1, Int.lt_trans h.2 h2.2⟩
theorem bh.irr (a : Lk) : ¬ bh a a := fun h => absurd h.1 (Int.lt_irrefl _)
theorem bh.ltP {a b : Lk} (h : bh a b) : ltP a b := .inl h.1
theorem ltP.not {a b : Lk} (h : ltP a b) : ¬ ltP b a := by unfold K66.ltP at *; omega
/-- a row whose likes stand one behind the other -/
def Ch (L c : List Lk) : Prop := c.Pairwise bh ∧ ∀ x ∈ c, x ∈ L
def wts (c : List Lk) : Int := (c.map wt).sum
@[simp] theorem wts_nil : wts [] = 0 := rfl
@[simp] theorem wts_cons (x : Lk) (c : List Lk) : wts (x :: c) = wt x + wts c := by simp [wts]
@[simp] theorem wts_append (a b : List Lk) : wts (a ++ b) = wts a + wts b := by simp [wts]
/-- the greatest of 0 and the numbers -/
def mx (ns : List Int) : Int := ns.foldl max 0
theorem foldl_max : ∀ (ns : List Int) (a : Int), a ≤ ns.foldl max a ∧ (∀ n ∈ ns, n ≤ ns.foldl max a) ∧ (ns.foldl max a = a ∨ ns.foldl max a ∈ ns)
  | [], a => ⟨Int.le_refl _, (fun _ h => nomatch h), Or.inl rfl⟩
  | n :: ns, a => by
    obtain ⟨h1, h2, h3⟩ := foldl_max ns (max a n)
    rw [List.foldl_cons]
    refine ⟨by omega, fun k hk => ?_, ?_⟩
    · rcases List.mem_cons.mp hk with rfl | hk
      · omega
      · exact h2 k hk
    · rcases h3 with e | e
      · rcases (by omega : max a n = a ∨ max a n = n) with z | z
        · left; rw [e, z]
        · right; rw [e, z]; simp
      · right; simp [e]
theorem mx_nonneg (ns : List Int) : 0 ≤ mx ns := (foldl_max ns 0).1
theorem le_mx {ns : List Int} {n : Int} (h : n ∈ ns) : n ≤ mx ns := (foldl_max ns 0).2.1 n h
theorem mx_or (ns : List Int) : mx ns = 0 ∨ mx ns ∈ ns := (foldl_max ns 0).2.2
/-! depths -/
def depF : List Lk → List (Lk × Int)
  | [] => []
  | l :: r => (l, wt l + mx (((depF r).filter fun e => decide (bh l e.1)).map (·.2))) :: depF r
theorem depF_keys : ∀ L : List Lk, (depF L).map (·.1) = L
  | [] => rfl
  | l :: r => by rw [depF, List.map_cons, depF_keys r]
theorem Ch.cons {L c : List Lk} {l : Lk} (h : Ch L c) : Ch (l :: L) c := ⟨h.1, fun x hx => List.mem_cons_of_mem _ (h.2 x hx)⟩
theorem Ch.tail {L c : List Lk} {l : Lk} (h : Ch L (l :: c)) : Ch L c := ⟨(List.pairwise_cons.mp h.1).2, fun x hx => h.2 x (List.mem_cons_of_mem _ hx)⟩
/-- a row that lies behind the first like is one of the others -/
theorem Ch.later {L c : List Lk} {l a : Lk} (hL : (l :: L).Pairwise ltP) (ha : a = l ∨ a ∈ L) (h : Ch (l :: L) (a :: c)) : Ch L c := by
  obtain ⟨p1, p2⟩ := List.pairwise_cons.mp h.1
  refine ⟨p2, fun x hx => ?_⟩
  rcases List.mem_cons.mp (h.2 x (List.mem_cons_of_mem _ hx)) with rfl | z
  · have hb := p1 x hx
    rcases ha with rfl | ha
    · exact absurd hb (bh.irr _)
    · exact absurd hb.ltP ((List.pairwise_cons.mp hL).1 a ha).not
  · exact z
theorem depF_ok : ∀ {L : List Lk}, L.Pairwise ltP → ∀ e ∈ depF L, (∃ c, Ch L (e.1 :: c) ∧ wts (e.1 :: c) = e.2) ∧ ∀ c, Ch L (e.1 :: c) → wts (e.1 :: c) ≤ e.2
  | [], _, e, he => by cases he
  | l :: r, hL, e, he => by
    have ih := depF_ok (L := r) (List.pairwise_cons.mp hL).2
    rw [depF] at he
    rcases List.mem_cons.mp he with rfl | he
    · refine ⟨?_, fun c hc => ?_⟩
      · rcases mx_or (((depF r).filter fun e => decide (bh l e.1)).map (·.2)) with z | z
        · exact ⟨[], ⟨by simp, by simp⟩, by simp [z]⟩
        · obtain ⟨e, he, ez⟩ := List.mem_map.mp z
          obtain ⟨he1, he2⟩ := List.mem_filter.mp he
          obtain ⟨⟨c, hc, hw⟩, _⟩ := ih e he1
          have hb : bh l e.1 := of_decide_eq_true he2
          refine ⟨e.1 :: c, ⟨List.pairwise_cons.mpr ⟨fun x hx => ?_, hc.1⟩, fun x hx => ?_⟩, ?_⟩
          · rcases List.mem_cons.mp hx with rfl | hx
            · exact hb
            · exact hb.trans ((List.pairwise_cons.mp hc.1).1 x hx)
          · rcases List.mem_cons.mp hx with rfl | hx
            · simp
            · exact List.mem_cons_of_mem _ (hc.2 x hx)
          · show wts (l :: e.1 :: c) = wt l + _
            rw [wts_cons, hw, ← ez]
      · show wts (l :: c) ≤ wt l + _
        rw [wts_cons]
        have hcr := Ch.later hL (.inl rfl) hc
        cases c with
        | nil => have := mx_nonneg (((depF r).filter fun e => decide (bh l e.1)).map (·.2)); simp; omega
        | cons y c =>
          have hy : y ∈ (depF r).map (·.1) := by rw [depF_keys]; exact hcr.2 y (by simp)
          obtain ⟨e, he, rfl⟩ := List.mem_map.mp hy
          have h1 := (ih e he).2 c hcr
          have hb : bh l e.1 := (List.pairwise_cons.mp hc.1).1 _ (by simp)
          have h2 : e.2 ≤ mx (((depF r).filter fun e => decide (bh l e.1)).map (·.2)) := le_mx (List.mem_map.mpr ⟨e, List.mem_filter.mpr ⟨he, by simpa using hb⟩, rfl⟩)
          omega
    · obtain ⟨⟨c, hc, hw⟩, h2⟩ := ih e he
      refine ⟨⟨c, hc.cons, hw⟩, fun c hc => h2 c ?_⟩
      have he1 : e.1 ∈ r := by rw [← depF_keys r]; exact List.mem_map.mpr ⟨e, he, rfl⟩
      have := Ch.later hL (.inr he1) hc
      exact ⟨hc.1, fun x hx => by
        rcases List.mem_cons.mp hx with rfl | hx
        · exact he1
        · exact this.2 x hx⟩
/-! heights -/
def hStep (acc : List (Lk × Int)) (l : Lk) : List (Lk × Int) := acc ++ [(l, wt l + mx ((acc.filter fun e => decide (bh e.1 l)).map (·.2)))]
def hgtF (L : List Lk) : List (Lk × Int) := L.foldl hStep []
theorem hgtF_snoc (L : List Lk) (l : Lk) : hgtF (L ++ [l]) = hStep (hgtF L) l := by simp [hgtF]
theorem snoc_ind {α : Type} {P : List α → Prop} (h0 : P []) (h1 : ∀ l a, P l → P (l ++ [a])) (l : List α) : P l := by
  have : ∀ r : List α, P r.reverse := fun r => by
    induction r with
    | nil => exact h0
    | cons a r ih => rw [List.reverse_cons]; exact h1 _ _ ih
  simpa using this l.reverse
theorem hgtF_keys (L : List Lk) : (hgtF L).map (·.1) = L := by
  induction L using snoc_ind with
  | h0 => rfl
  | h1 l a ih => rw [hgtF_snoc, hStep, List.map_append, ih]; rfl
theorem Ch.earlier {L c : List Lk} {l a : Lk} (hL : (L ++ [l]).Pairwise ltP) (ha : a = l ∨ a ∈ L) (h : Ch (L ++ [l]) (c ++ [a])) : Ch L c := by
  obtain ⟨p1, _, p2⟩ := List.pairwise_append.mp h.1
  refine ⟨p1, fun x hx => ?_⟩
  rcases List.mem_append.mp (h.2 x (List.mem_append_left _ hx)) with z | z
  · exact z
  · have hxl : x = l := by simpa using z
    subst hxl
    have hb := p2 x hx a (by simp)
    rcases ha with rfl | ha
    · exact absurd hb (bh.irr _)
    · exact absurd hb.ltP ((List.pairwise_append.mp hL).2.2 a ha x (by simp)).not
theorem hgtF_ok (L : List Lk) : L.Pairwise ltP → ∀ e ∈ hgtF L, (∃ c, Ch L (c ++ [e.1]) ∧ wts (c ++ [e.1]) = e.2) ∧ ∀ c, Ch L (c ++ [e.1]) → wts (c ++ [e.1]) ≤ e.2 := by
  induction L using snoc_ind with
  | h0 => intro _ e he; cases he
  | h1 r l ih =>
    intro hL e he
    have ih := ih (List.pairwise_append.mp hL).1
    rw [hgtF_snoc, hStep] at he
    rcases List.mem_append.mp he with he | he
    · obtain ⟨⟨c, hc, hw⟩, h2⟩ := ih e he
      refine ⟨⟨c, ⟨hc.1, fun x hx => List.mem_append_left _ (hc.2 x hx)⟩, hw⟩, fun c hc => h2 c ?_⟩
      have he1 : e.1 ∈ r := by rw [← hgtF_keys r]; exact List.mem_map.mpr ⟨e, he, rfl⟩
      have := Ch.earlier hL (.inr he1) hc
      exact ⟨hc.1, fun x hx => by
        rcases List.mem_append.mp hx with hx | hx
        · exact this.2 x hx
        · have : x = e.1 := by simpa using hx
          exact this ▸ he1⟩
    · have he : e = (l, wt l + mx (((hgtF r).filter fun e => decide (bh e.1 l)).map (·.2))) := by simpa using he
      subst he
      refine ⟨?_, fun c hc => ?_⟩
      · rcases mx_or (((hgtF r).filter fun e => decide (bh e.1 l)).map (·.2)) with z | z
        · exact ⟨[], ⟨by simp, by simp⟩, by simp [z]⟩
        · obtain ⟨e, he, ez⟩ := List.mem_map.mp z
          obtain ⟨he1, he2⟩ := List.mem_filter.mp he
          obtain ⟨⟨c, hc, hw⟩, _⟩ := ih e he1
          have hb : bh e.1 l := of_decide_eq_true he2
          refine ⟨c ++ [e.1], ⟨List.pairwise_append.mpr ⟨hc.1, by simp, fun x hx y hy => ?_⟩, fun x hx => ?_⟩, ?_⟩
          · have : y = l := by simpa using hy
            subst this
            rcases List.mem_append.mp hx with hx | hx
            · exact ((List.pairwise_append.mp hc.1).2.2 x hx e.1 (by simp)).trans hb
            · have : x = e.1 := by simpa using hx
              exact this ▸ hb
          · rcases List.mem_append.mp hx with hx | hx
            · exact List.mem_append_left _ (hc.2 x hx)
            · exact List.mem_append_right _ hx
          · show wts ((c ++ [e.1]) ++ [l]) = wt l + _
            rw [wts_append, hw, ← ez]
            simp
            omega
      · show wts (c ++ [l]) ≤ wt l + _
        have hcr := Ch.earlier hL (.inl rfl) hc
        rcases List.eq_nil_or_concat c with rfl | ⟨c, y, rfl⟩
        · have := mx_nonneg (((hgtF r).filter fun e => decide (bh e.1 l)).map (·.2)); simp; omega
        · rw [List.concat_eq_append] at hcr hc ⊢
          have hy : y ∈ (hgtF r).map (·.1) := by rw [hgtF_keys]; exact hcr.2 y (by simp)
          obtain ⟨e, he, rfl⟩ := List.mem_map.mp hy
          have h1 := (ih e he).2 c hcr
          have hb : bh e.1 l := (List.pairwise_append.mp hc.1).2.2 _ (by simp) l (by simp)
          have h2 : e.2 ≤ mx (((hgtF r).filter fun e => decide (bh e.1 l)).map (·.2)) := le_mx (List.mem_map.mpr ⟨e, List.mem_filter.mpr ⟨he, by simpa using hb⟩, rfl⟩)
          have h3 := wts_append (c ++ [e.1]) [l]
          have h4 : wts [l] = wt l := by simp
          omega
/-- the greatest weight of a row -/
def worthF (L : List Lk) : Int := mx ((hgtF L).map (·.2))
theorem worthF_ok {L : List Lk} (hL : L.Pairwise ltP) : (∃ c, Ch L c ∧ wts c = worthF L) ∧ ∀ c, Ch L c → wts c ≤ worthF L := by
  refine ⟨?_, fun c hc => ?_⟩
  · rcases mx_or ((hgtF L).map (·.2)) with z | z
    · exact ⟨[], ⟨by simp, by simp⟩, by rw [worthF, z]; rfl⟩
    · obtain ⟨e, he, ez⟩ := List.mem_map.mp z
      obtain ⟨⟨c, hc, hw⟩, _⟩ := hgtF_ok L hL e he
      exact ⟨_, hc, by rw [hw, worthF, ← ez]⟩
  · rcases List.eq_nil_or_concat c with rfl | ⟨c, y, rfl⟩
    · exact mx_nonneg _
    · rw [List.concat_eq_append] at hc ⊢
      have hy : y ∈ (hgtF L).map (·.1) := by rw [hgtF_keys]; exact hc.2 y (by simp)
      obtain ⟨e, he, rfl⟩ := List.mem_map.mp hy
      exact Int.le_trans ((hgtF_ok L hL e he).2 c hc) (le_mx (List.mem_map.mpr ⟨e, he, rfl⟩))
/-! all rows -/
def agB (a l : Lk) : Bool := (decide (a.1 < l.1) && decide (a.2.1 < l.2.1)) || (decide (l.1 < a.1) && decide (l.2.1 < a.2.1))
def rowStep (rows : List (List Lk)) (l : Lk) : List (List Lk) := rows ++ (rows.filter fun r => r.all fun a => agB a l).map (· ++ [l])
def rowsF (L : List Lk) : List (List Lk) := L.foldl rowStep [[]]
theorem rowsF_snoc (L : List Lk) (l : Lk) : rowsF (L ++ [l]) = rowStep (rowsF L) l := by simp [rowsF]
theorem rowsF_len (L : List Lk) : (rowsF L).length ≤ 2 ^ L.length := by
  induction L using snoc_ind with
  | h0 => simp [rowsF]
  | h1 L l ih =>
    rw [rowsF_snoc, rowStep, List.length_append, List.length_map, List.length_append, Nat.pow_add]
    have := List.length_filter_le (fun r : List Lk => r.all fun a => agB a l) (rowsF L)
    simp
    omega
theorem agB_bh {a l : Lk} (h : ltP a l) : agB a l = true ↔ bh a l := by
  unfold agB bh
  unfold ltP at h
  simp only [Bool.or_eq_true, Bool.and_eq_true, decide_eq_true_eq]
  omega
theorem mem_rows (L : List Lk) : L.Pairwise ltP → ∀ c, c ∈ rowsF L ↔ Ch L c := by
  induction L using snoc_ind with
  | h0 =>
    intro _ c
    rw [show rowsF [] = [[]] from rfl, List.mem_singleton]
    constructor
    · rintro rfl; exact ⟨by simp, by simp⟩
    · intro h
      cases c with
      | nil => rfl
      | cons x c => exact absurd (h.2 x (by simp)) (by simp)
  | h1 L l ih =>
    intro hL c
    obtain ⟨p1, _, p2⟩ := List.pairwise_append.mp hL
    have ih := ih p1
    rw [rowsF_snoc, rowStep, List.mem_append, List.mem_map]
    constructor
    · rintro (h | ⟨r, hr, rfl⟩)
      · have := (ih c).mp h
        exact ⟨this.1, fun x hx => List.mem_append_left _ (this.2 x hx)⟩
      · obtain ⟨h1, h2⟩ := List.mem_filter.mp hr
        have hc := (ih r).mp h1
        refine ⟨List.pairwise_append.mpr ⟨hc.1, by simp, fun x hx y hy => ?_⟩, fun x hx => ?_⟩
        · have : y = l := by simpa using hy
          subst this
          exact (agB_bh (p2 x (hc.2 x hx) y (by simp))).mp (List.all_eq_true.mp h2 x hx)
        · rcases List.mem_append.mp hx with hx | hx
          · exact List.mem_append_left _ (hc.2 x hx)
          · exact List.mem_append_right _ hx
    · intro h
      by_cases hl : l ∈ c
      · right
        obtain ⟨s, t, rfl⟩ := List.append_of_mem hl
        obtain ⟨h1, h2, h3⟩ := List.pairwise_append.mp h.1
        cases t with
        | cons y t =>
          have hb : bh l y := (List.pairwise_cons.mp h2).1 y (by simp)
          rcases List.mem_append.mp (h.2 y (by simp)) with hy | hy
          · exact absurd hb.ltP (p2 y hy l (by simp)).not
          · have : y = l := by simpa using hy
            exact absurd (this ▸ hb) (bh.irr _)
        | nil =>
          have hs : Ch L s := Ch.earlier hL (.inl rfl) h
          refine ⟨s, List.mem_filter.mpr ⟨(ih s).mpr hs, List.all_eq_true.mpr fun x hx => ?_⟩, rfl⟩
          exact (agB_bh (p2 x (hs.2 x hx) l (by simp))).mpr (h3 x hx l (by simp))
      · left
        refine (ih c).mpr ⟨h.1, fun x hx => ?_⟩
        rcases List.mem_append.mp (h.2 x hx) with z | z
        · exact z
        · have : x = l := by simpa using z
          exact absurd (this ▸ hx) hl
/-! taking the first one, step by step -/
structure Gr (lt : Lk → Lk → Prop) (L F : List Lk) (m M : Int) : Prop where
  sum : wts F + m = M
  ex : ∃ c, Ch L (F ++ c) ∧ wts c = m
  top : ∀ c, Ch L (F ++ c) → wts c ≤ m
  first : ∀ c, Ch L c → wts c = M → (∃ t, c = F ++ t) ∨ ∃ p x y s t, F = p ++ x :: s ∧ c = p ++ y :: t ∧ lt x y
theorem Gr.start {lt : Lk → Lk → Prop} {L : List Lk} (hL : L.Pairwise ltP) : Gr lt L [] (worthF L) (worthF L) where
  sum := by simp
  ex := (worthF_ok hL).1
  top := (worthF_ok hL).2
  first c _ _ := .inl ⟨c, rfl⟩
theorem Gr.nonneg {lt : Lk → Lk → Prop} {L F : List Lk} {m M : Int} (g : Gr lt L F m M) : 0 ≤ m := by
  obtain ⟨c, hc, _⟩ := g.ex
  have := g.top [] (by
    obtain ⟨p1, p2⟩ := hc
    rw [List.append_nil]
    exact ⟨(List.pairwise_append.mp p1).1, fun x hx => p2 x (List.mem_append_left _ hx)⟩)
  simpa using this
/-- what can come next -/
def Nx (L F : List Lk) (m : Int) (y : Lk) : Prop := (y, m) ∈ depF L ∧ ∀ z, F.getLast? = some z → bh z y
theorem mem_last {F : List Lk} {x y : Lk} (hF : F.Pairwise bh) (hx : x ∈ F) (h : ∀ z, F.getLast? = some z → bh z y) : bh x y := by
  rcases List.eq_nil_or_concat F with rfl | ⟨c, z, rfl⟩
  · cases hx
  · rw [List.concat_eq_append] at *
    have hz := h z (by simp)
    rcases List.mem_append.mp hx with hx | hx
    · exact ((List.pairwise_append.mp hF).2.2 x hx z (by simp)).trans hz
    · have : x = z := by simpa using hx
      exact this ▸ hz
theorem Ch.glue {L F c : List Lk} {y : Lk} (hF : Ch L F) (hc : Ch L (y :: c)) (h : ∀ z, F.getLast? = some z → bh z y) : Ch L (F ++ y :: c) := by
  refine ⟨List.pairwise_append.mpr ⟨hF.1, hc.1, fun a ha b hb => ?_⟩, fun x hx => ?_⟩
  · have hay := mem_last hF.1 ha h
    rcases List.mem_cons.mp hb with rfl | hb
    · exact hay
    · exact hay.trans ((List.pairwise_cons.mp hc.1).1 b hb)
  · rcases List.mem_append.mp hx with hx | hx
    · exact hF.2 x hx
    · exact hc.2 x hx
theorem Ch.left {L F c : List Lk} (h : Ch L (F ++ c)) : Ch L F := ⟨(List.pairwise_append.mp h.1).1, fun x hx => h.2 x (List.mem_append_left _ hx)⟩
theorem Ch.right {L F c : List Lk} (h : Ch L (F ++ c)) : Ch L c := ⟨(List.pairwise_append.mp h.1).2.1, fun x hx => h.2 x (List.mem_append_right _ hx)⟩
theorem Ch.lastBh {L F c : List Lk} {y : Lk} (h : Ch L (F ++ y :: c)) : ∀ z, F.getLast? = some z → bh z y := fun z hz => (List.pairwise_append.mp h.1).2.2 z (List.mem_of_getLast? hz) y (by simp)
/-- what begins a row of the greatest weight can come next -/
theorem Gr.nx {lt : Lk → Lk → Prop} {L F c : List Lk} {m M : Int} {y : Lk} (hL : L.Pairwise ltP) (g : Gr lt L F m M) (h : Ch L (F ++ y :: c)) (hw : wts (y :: c) = m) : Nx L F m y := by
  refine ⟨?_, h.lastBh⟩
  have hy : y ∈ (depF L).map (·.1) := by rw [depF_keys]; exact h.2 y (by simp)
  obtain ⟨e, he, rfl⟩ := List.mem_map.mp hy
  obtain ⟨⟨c', hc', hw'⟩, h2⟩ := depF_ok hL e he
  have h3 := h2 c h.right
  have h4 := g.top (e.1 :: c') (h.left.glue hc' h.lastBh)
  have : e.2 = m := by omega
  rw [← this]
  exact he
theorem Gr.some {lt : Lk → Lk → Prop} {L F : List Lk} {m M : Int} (hL : L.Pairwise ltP) (g : Gr lt L F m M) (hm : 0 < m) : ∃ y, Nx L F m y := by
  obtain ⟨c, hc, hw⟩ := g.ex
  cases c with
  | nil => simp at hw; omega
  | cons y c => exact ⟨y, g.nx hL hc hw⟩
theorem Gr.step {lt : Lk → Lk → Prop} {L F : List Lk} {m M : Int} {x : Lk} (hL : L.Pairwise ltP) (g : Gr lt L F m M) (hm : 0 < m) (hx : Nx L F m x) (hf : ∀ y, Nx L F m y → y = x ∨ lt x y) : Gr lt L (F ++ [x]) (m - wt x) M := by
  obtain ⟨⟨c, hc, hw⟩, h2⟩ := depF_ok hL _ hx.1
  simp only at hc hw h2
  have hF : Ch L F := by obtain ⟨c, hc, _⟩ := g.ex; exact hc.left
  have hg := hF.glue hc hx.2
  refine ⟨?_, ⟨c, by simpa using hg, by rw [wts_cons] at hw; omega⟩, fun c hc => ?_, fun c hc hw => ?_⟩
  · rw [wts_append]
    simp
    have := g.sum
    omega
  · have := g.top (x :: c) (by simpa using hc)
    rw [wts_cons] at this
    omega
  · rcases g.first c hc hw with ⟨t, rfl⟩ | ⟨p, a, b, s, t, e1, e2, e3⟩
    · have hs := g.sum
      rw [wts_append] at hw
      cases t with
      | nil => simp at hw; omega
      | cons y t =>
        rcases hf y (g.nx hL hc (by omega)) with rfl | hlt
        · exact .inl ⟨t, by simp⟩
        · exact .inr ⟨F, x, y, [], t, rfl, rfl, hlt⟩
    · exact .inr ⟨p, a, b, s ++ [x], t, by rw [e1]; simp, e2, e3⟩
/-- at the end -/
theorem Gr.done {lt : Lk → Lk → Prop} {L F : List Lk} {m M : Int} (hw : ∀ x ∈ L, 1 ≤ wt x) (g : Gr lt L F m M) (hm : m ≤ 0) : Ch L F ∧ wts F = M ∧ ∀ c, Ch L c → wts c = M → c = F ∨ ∃ p x y s t, F = p ++ x :: s ∧ c = p ++ y :: t ∧ lt x y := by
  have hs := g.sum
  have h0 := g.nonneg
  refine ⟨by obtain ⟨c, hc, _⟩ := g.ex; exact hc.left, by omega, fun c hc hcw => ?_⟩
  rcases g.first c hc hcw with ⟨t, rfl⟩ | h
  · left
    rw [wts_append] at hcw
    have ht : wts t = 0 := by omega
    cases t with
    | nil => simp
    | cons y t =>
      have : ∀ t : List Lk, (∀ x ∈ t, 1 ≤ wt x) → 0 ≤ wts t := fun t => by
        induction t with
        | nil => intro _; simp
        | cons a t ih =>
          intro h
          have := ih fun x hx => h x (List.mem_cons_of_mem _ hx)
          have := h a (by simp)
          rw [wts_cons]; omega
      have h1 := this t fun x hx => hw x (hc.2 x (by simp [hx]))
      have h2 := hw y (hc.2 y (by simp))
      rw [wts_cons] at ht
      omega
  · exact .inr h
end K66
end
section
namespace K66
open PySem L2 Dl DlS DlZ DlR
def lkD (l : Lk) : D := .tuple [.int l.1, .int l.2.1, .int l.2.2]
def prD (p : Int × Int) : D := .tuple [.int p.1, .int p.2]
def likesD (L : List Lk) : D := .tuple (L.map lkD)
@[simp] theorem lkD_0 (l : Lk) : ixOp (lkD l) (.int 0) = some (.fz (.int l.1)) := rfl
@[simp] theorem lkD_1 (l : Lk) : ixOp (lkD l) (.int 1) = some (.fz (.int l.2.1)) := rfl
@[simp] theorem lkD_2 (l : Lk) : ixOp (lkD l) (.int 2) = some (.fz (.int (wt l))) := rfl
@[simp] theorem lkD_len (l : Lk) : lenOp (lkD l) = some (.fz (.int 3)) := rfl
@[simp] theorem lkD_ty (l : Lk) : isTy "tuple" (lkD l) = some true := rfl
@[simp] theorem coresD_0 (a b : List Str) : ixOp (coresD a b) (.int 0) = some (.fz (coreD a)) := rfl
@[simp] theorem coresD_1 (a b : List Str) : ixOp (coresD a b) (.int 1) = some (.fz (coreD b)) := rfl
@[simp] theorem coreD_len (a : List Str) : lenOp (coreD a) = some (.fz (.int a.length)) := by simp [coreD]
@[simp] theorem likesD_len (L : List Lk) : lenOp (likesD L) = some (.fz (.int L.length)) := by simp [likesD]
@[simp] theorem likesD_ty (L : List Lk) : isTy "tuple" (likesD L) = some true := rfl
@[simp] theorem likesD_items (L : List Lk) : itemsOf (likesD L) = some (L.map lkD) := rfl
structure LikesOk (a b : Nat) (L : List Lk) : Prop where
  asc : L.Pairwise ltP
  len : L.length ≤ 60
  rng : ∀ l ∈ L, 0 ≤ l.1 ∧ l.1 < a ∧ 0 ≤ l.2.1 ∧ l.2.1 < b ∧ 1 ≤ wt l ∧ wt l ≤ 99
theorem r_is_like {a b : List Str} {l : Lk} (h : 0 ≤ l.1 ∧ l.1 < a.length ∧ 0 ≤ l.2.1 ∧ l.2.1 < b.length ∧ 1 ≤ wt l ∧ wt l ≤ 99) : F_is_like [.fz (coresD a b), .fz (lkD l)] = .ok (.fz (.bool true)) [.fz (coresD a b), .fz (lkD l)] := by
  obtain ⟨h1, h2, h3, h4, h5, h6⟩ := h
  have h2' : l.1 ≤ (a.length : Int) - 1 := by omega
  have h4' : l.2.1 ≤ (b.length : Int) - 1 := by omega
  simp [F_is_like, b_is_like, r_is_weight, r_is_between, h1, h2', h3, h4', h5, h6]
theorem cut_tail (ds : List D) : cutD ds (some 1) none = ds.drop 1 := by
  have h := HT.sIx_nat ds.length 0 1
  unfold cutD
  rw [show HT.sIx ds.length 0 (some 1) = min 1 ds.length from h]
  cases ds with
  | nil => rfl
  | cons d ds =>
    have : min 1 (d :: ds).length = 1 := by simp
    rw [this]
    exact List.take_of_length_le (by simp [HT.sIx])
theorem slOp_list (ds : List D) (lo hi : Option Int) : slOp lo hi (.list ds) = some (.ow (.lst (cutD ds lo hi))) := rfl
theorem slOp_lk (l : Lk) : slOp none (some 2) (lkD l) = some (.fz (prD (l.1, l.2.1))) := rfl
theorem pS_eq {k : Kd} {f : EM} {ρ : DEnv} : pS k f ρ = (f ρ).bind fun s ρ1 => match (sl k s ρ1).d? with
  | some (.int i) => .ok (some i) ρ1
  | _ => .no := rfl
theorem iZp_eq {ka kb : Kd} {fa fb : EM} {ρ : DEnv} : iZp ka kb fa fb ρ = (eArgs [(ka, fa), (kb, fb)] ρ).bind fun ss ρ1 => match slL [ka, kb] ss ρ1 with
  | [s, t] => match s.d?, t.d? with
    | some a, some b => match seqOf a, seqOf b with
      | some (_, ds), some (_, es) => .ok ⟨List.zipWith (fun x y => .tuple [x, y]) ds es, fun ρ' => gdOf ka a ρ' ∧ gdOf kb b ρ'⟩ ρ1
      | _, _ => .no
    | _, _ => .no
  | _ => .no := rfl
@[simp] theorem seqOf_list (ds : List D) : seqOf (.list ds) = some (false, ds) := rfl
@[simp] theorem seqOf_tuple (ds : List D) : seqOf (.tuple ds) = some (true, ds) := rfl
theorem ltOp_pr {p q : Int × Int} (h : p.1 < q.1 ∨ (p.1 = q.1 ∧ p.2 < q.2)) : ltOp (prD p) (prD q) = some (.fz (.bool true)) := by
  show (if ordOk _ _ then _ else _) = _
  rw [if_pos (by rfl)]
  unfold prD
  rw [PySem.W.dataLt_ii, decide_eq_true h]
@[simp] theorem tgT2 {t u : TgD} {a b : D} {ρ : DEnv} : tgT 2 (tgCons t (tgCons u tgNil)) (.tuple [a, b]) ρ = (t a ρ).bind fun ρ1 => (u b ρ1).bind fun ρ2 => some ρ2 := by
  show (t a ρ).bind (tgCons u tgNil [b]) = _
  congr 1
/-- a like's pair -/
def cutP : D → D
  | .tuple [x, y, _] => .tuple [x, y]
  | d => d
theorem r_is_ascending {ps : List (Int × Int)} (h : ps.Pairwise fun p q => p.1 < q.1 ∨ (p.1 = q.1 ∧ p.2 < q.2)) : F_is_ascending [.ow (.lst (ps.map prD))] = .ok (.fz (.bool true)) [.ow (.lst (ps.map prD))] := by
  have hz : ∀ d ∈ List.zipWith (fun x y => (.tuple [x, y] : D)) (ps.map prD) ((ps.map prD).drop 1), ∃ p q : Int × Int, d = .tuple [prD p, prD q] ∧ (p.1 < q.1 ∨ (p.1 = q.1 ∧ p.2 < q.2)) := by
    induction ps with
    | nil => intro d hd; simp at hd
    | cons p ps ih =>
      intro d hd
      cases ps with
      | nil => simp at hd
      | cons q ps =>
        simp only [List.map_cons, List.drop_succ_cons, List.drop_zero, List.zipWith_cons_cons, List.mem_cons] at hd
        rcases hd with rfl | hd
        · exact ⟨p, q, rfl, (List.pairwise_cons.mp h).1 q (by simp)⟩
        · exact ih (List.pairwise_cons.mp h).2 d (by simpa using hd)
  have hlc : ∀ gd : DEnv → Prop, gd [.ow (.lst (ps.map prD)), .no, .no] → _ := fun gd hg => lcGo_true (gd := gd) (vl := [1, 2]) (tg := tgT 2 (tgCons (tgN 1) (tgCons (tgN 2) tgNil))) (c := tYesD) (f := e2 (.n 1) (.n 2) (eN 1) (eN 2) (g2 ltOp)) (ρ := [.ow (.lst (ps.map prD)), .no, .no]) (ds := List.zipWith (fun x y => (.tuple [x, y] : D)) (ps.map prD) ((ps.map prD).drop 1)) hg (fun d hd => by
    obtain ⟨p, q, rfl, hpq⟩ := hz d hd
    simp [lcStep, ltOp_pr hpq])
  simp [F_is_ascending, b_is_ascending, iZp_eq, pS_eq, slOp_list, cut_tail, hlc, -List.map_map, -List.drop_one]
theorem r_have_likes {a b : List Str} {L : List Lk} (h : LikesOk a.length b.length L) : F_have_likes_form [.fz (coresD a b), .fz (likesD L)] = .ok (.fz (.bool true)) [.fz (coresD a b), .fz (likesD L)] := by
  have hl1 := lcGo_true (gd := gdOf (.n 1) (likesD L)) (vl := [2]) (tg := tgN 2) (c := tYesD) (f := eCall [(.t, (eX 0)), (.t, (eX 2))] F_is_like) (ρ := [.fz (coresD a b), .fz (likesD L), .no]) (ds := L.map lkD) (by simp) (fun d hd => by
    obtain ⟨l, hl, rfl⟩ := List.mem_map.mp hd
    simp [lcStep, eX_fz, r_is_like (h.rng l hl)])
  have hl2 := lcGo_map (gd := gdOf (.n 1) (likesD L)) (vl := [2]) (tg := tgN 2) (c := tYesD) (f := eSl (.n 2) (eN 2) pN (pS (.t) (eC (.int 2)))) (ρ := [.fz (coresD a b), .fz (likesD L), .no]) (ds := L.map lkD) (g := cutP) (by simp) (fun d hd => by
    obtain ⟨l, hl, rfl⟩ := List.mem_map.mp hd
    simp [lcStep, pS_eq, slOp_lk]
    rfl)
  have hm : (L.map lkD).map cutP = (L.map fun l => (l.1, l.2.1)).map prD := by
    rw [List.map_map, List.map_map]
    rfl
  rw [hm] at hl2
  have has := r_is_ascending (ps := L.map fun l => (l.1, l.2.1)) (List.pairwise_map.mpr (by exact h.asc))
  have h60 : ¬ (60 : Int) < L.length := by have := h.len; omega
  simp [F_have_likes_form, b_have_likes_form, hl1, hl2, has, h60, h.len, -List.map_map]
theorem r_check_likes {a b : List Str} {L : List Lk} (ha : CoreOk a) (hb : CoreOk b) (h : LikesOk a.length b.length L) : F_check_likes [.fz (coresD a b), .fz (likesD L)] = .ok (.fz .none) [.fz (coresD a b), .fz (likesD L)] := by
  simp [F_check_likes, b_check_likes, r_check_cores ha hb, r_have_likes h, eX_fz, sNx_eq]
end K66
end
section
namespace K66
open PySem L2 Dl DlS DlZ DlR
/-! data of likes -/
theorem lkD_inj {a b : Lk} (h : lkD a = lkD b) : a = b := by
  obtain ⟨a1, a2, a3⟩ := a
  obtain ⟨b1, b2, b3⟩ := b
  simp only [lkD, PyData.tuple.injEq, List.cons.injEq, PyData.int.injEq] at h
  obtain ⟨rfl, rfl, rfl, _⟩ := h
  rfl
theorem eqv_lk (a b : Lk) : PyData.eqv (lkD a) (lkD b) = decide (a = b) := by
  obtain ⟨a1, a2, a3⟩ := a
  obtain ⟨b1, b2, b3⟩ := b
  unfold lkD
  simp only [PyData.eqv, PyData.eqvAll, Bool.and_true]
  by_cases h1 : a1 = b1 <;> by_cases h2 : a2 = b2 <;> by_cases h3 : a3 = b3 <;> simp [h1, h2, h3]
@[simp] theorem isKey_lk (l : Lk) : isKey true (lkD l) = true := rfl
theorem lay_lk (n : Nat) (l : Lk) : lay (n + 1) (lkD l) = true := rfl
theorem layL_lk (n : Nat) (L : List Lk) : layL (n + 1) (L.map lkD) = true := by
  induction L with
  | nil => rfl
  | cons l L ih => simp only [List.map_cons, layL, lay_lk, ih, Bool.and_true]
theorem alike_lk (a b : Lk) : PySem.W.alike (lkD a) (lkD b) = true := rfl
theorem layL_int (n : Nat) (ns : List Int) : layL n (ns.map .int) = true := by
  induction ns with
  | nil => cases n <;> rfl
  | cons a ns ih => simp only [List.map_cons, layL, ih, Bool.and_true]; cases n <;> rfl
theorem max1_ints (n : Int) (ns : List Int) : max1Op (.list (.int n :: ns.map .int)) = some (.fz (.int (ns.foldl max n))) := by
  show (if _ then _ else _) = _
  rw [if_pos, PySem.W.maxD_ints]
  have h : (PyData.int n :: ns.map .int) = (n :: ns).map .int := rfl
  rw [h, layL_int]
  simp only [Bool.true_and, Bool.and_eq_true]
  constructor
  · refine List.all_eq_true.mpr fun a ha => List.all_eq_true.mpr fun b hb => ?_
    obtain ⟨x, _, rfl⟩ := List.mem_map.mp ha
    obtain ⟨y, _, rfl⟩ := List.mem_map.mp hb
    rfl
  · refine List.all_eq_true.mpr fun a ha => ?_
    obtain ⟨x, _, rfl⟩ := List.mem_map.mp ha
    rfl
/-- a comprehension over what stands for a list -/
theorem lcGo_enc {α : Type} {gd : DEnv → Prop} {vl : List Nat} {tg : TgD} {c : DEnv → Out Bool} {f : EM} {ρ : DEnv} {enc : α → D} {p : α → Bool} {g : α → D} (hg : gd ρ) : ∀ {E : List α}, (∀ e ∈ E, lcStep vl tg c f (enc e) ρ = .ok (if p e then some (g e) else none) ρ) → lcGo gd vl tg c f (E.map enc) ρ = .ok ((E.filter p).map g) ρ
  | [], _ => rfl
  | e :: E, h => by
    have h1 := h e (by simp)
    rw [List.map_cons, lcGo_cons h1 hg (lcGo_enc hg fun x hx => h x (by simp [hx]))]
    congr 1
    by_cases hp : p e <;> simp [hp]
theorem r_is_behind (a b : Lk) : F_is_behind [.fz (lkD a), .fz (lkD b)] = .ok (.fz (.bool (decide (bh a b)))) [.fz (lkD a), .fz (lkD b)] := by
  unfold bh
  by_cases h : a.1 < b.1 <;> simp [F_is_behind, b_is_behind, h]
theorem zip_enc (E : List (Lk × Int)) (R : List Lk) : List.zipWith (fun x y => (.tuple [x, y] : D)) ((E.map (·.1) ++ R).map lkD) (E.map fun e => .int e.2) = E.map fun e => .tuple [lkD e.1, .int e.2] := by
  induction E with
  | nil => simp
  | cons e E ih => simpa using ih
theorem map_inj {α β : Type} {f : α → β} (hf : ∀ a b, f a = f b → a = b) : ∀ {l m : List α}, l.map f = m.map f → l = m
  | [], [], _ => rfl
  | [], _ :: _, h => by simp at h
  | _ :: _, [], h => by simp at h
  | a :: l, b :: m, h => by
    simp only [List.map_cons, List.cons.injEq] at h
    rw [hf _ _ h.1, map_inj hf h.2]
/-- the loop of heights -/
def hEnv (L : List Lk) (P : List Lk) (s2 s3 : Dl.Slot) : DEnv := [.fz (likesD L), .ow (.lst ((hgtF P).map fun e => .int e.2)), s2, s3, .no, .no]
theorem hgtF_len (P : List Lk) : (hgtF P).length = P.length := by rw [← List.length_map (·.1), hgtF_keys]
theorem forGo_enc {α : Type} {enc : α → D} {gd : DEnv → Prop} {tg : TgD} {b : SM} {I : List α → DEnv → Prop} (hg : ∀ P ρ, I P ρ → gd ρ) : ∀ {Q P : List α} {ρ : DEnv}, (∀ A x B ρ, P ++ Q = A ++ x :: B → I A ρ → ∃ ρ1 ρ2, tg (enc x) ρ = some ρ1 ∧ (b ρ1 = .nx ρ2 ∨ b ρ1 = .ct ρ2) ∧ I (A ++ [x]) ρ2) → I P ρ →
    ∃ ρ', forGo gd tg b (Q.map enc) ρ = .nx ρ' ∧ I (P ++ Q) ρ'
  | [], P, ρ, _, h => ⟨ρ, rfl, by simpa using h⟩
  | x :: Q, P, ρ, h, h0 => by
    obtain ⟨ρ1, ρ2, e1, e2, i2⟩ := h P x Q ρ rfl h0
    obtain ⟨ρ3, e3, i3⟩ := forGo_enc hg (Q := Q) (P := P ++ [x]) (ρ := ρ2) (fun A y B ρ e => h A y B ρ (by simpa using e)) i2
    refine ⟨ρ3, ?_, by simpa using i3⟩
    rw [List.map_cons]
    unfold forGo
    rw [e1]
    rcases e2 with e2 | e2 <;> simp only [e2, if_pos (hg _ _ i2), e3]
theorem r_heights {L : List Lk} (hl : L.length ≤ 1000) : F_heights [.fz (likesD L)] = .ok (.ow (.lst ((hgtF L).map fun e => .int e.2))) [.fz (likesD L)] := by
  obtain ⟨ρ', e, s2, s3, rfl⟩ := forGo_enc (enc := lkD) (gd := gdOf .t (likesD L)) (tg := tgN 2) (b := sSeq (sSet 3 (eLc [4, 5] (iZp (.n 0) (.n 1) (eN 0) (eN 1)) (tgT 2 (tgCons (tgN 4) (tgCons (tgN 5) tgNil))) (bV (.t) (eCall [(.t, (eX 4)), (.t, (eX 2))] F_is_behind)) (eX 5)))
  (sDrop (eApp 1 (e2 (.t) (.t) (e2 (.n 2) (.t) (eN 2) (eC (.int 2)) (g2 ixOp)) (eB [(.t, (e2 (.t) (.n 3) (eB [(.t, (eC (.int 0)))] lstG) (eN 3) (g2 addOp)))] (gN1 max1Op)) (g2 addOp)))))
    (I := fun P ρ => ∃ s2 s3, ρ = hEnv L P s2 s3) (fun _ _ _ => trivial) (Q := L) (P := []) (ρ := hEnv L [] .no .no) (fun P x Q ρ el i => by
      rw [List.nil_append] at el
      subst el
      obtain ⟨s2, s3, rfl⟩ := i
      obtain ⟨below, hb⟩ : ∃ b, b = ((hgtF P).filter fun e => decide (bh e.1 x)).map (·.2) := ⟨_, rfl⟩
      have hlc := fun gd hg => lcGo_enc (gd := gd) (vl := [4, 5]) (tg := tgT 2 (tgCons (tgN 4) (tgCons (tgN 5) tgNil))) (c := bV (.t) (eCall [(.t, (eX 4)), (.t, (eX 2))] F_is_behind)) (f := eX 5) (ρ := [.fz (likesD (P ++ x :: Q)), .ow (.lst ((hgtF P).map fun e => .int e.2)), .fz (lkD x), s3, .no, .no])
        (E := hgtF P) (enc := fun e => .tuple [lkD e.1, .int e.2]) (p := fun e => decide (bh e.1 x)) (g := fun e => .int e.2) hg (fun e he => by
          by_cases hq : bh e.1 x <;> simp [lcStep, eX_fz, r_is_behind, hq])
      have hz := zip_enc (hgtF P) (x :: Q)
      rw [hgtF_keys] at hz
      have hit : seqOf (likesD (P ++ x :: Q)) = some (true, (P ++ x :: Q).map lkD) := rfl
      have hbl : ((hgtF P).filter fun e => decide (bh e.1 x)).map (fun e => PyData.int e.2) = below.map .int := by rw [hb, List.map_map]; rfl
      rw [hbl] at hlc
      have hlen : below.length ≤ 1000 := by
        rw [hb, List.length_map]
        have := List.length_filter_le (fun e : Lk × Int => decide (bh e.1 x)) (hgtF P)
        rw [hgtF_len] at this
        simp at hl
        omega
      have hadd : addOp (.list [.int 0]) (.list (below.map .int)) = some (.ow (.lst (.int 0 :: below.map .int))) := addOp_list (small_line (by simp; omega))
      have hsm : small (hgtF P).length = true := by rw [hgtF_len]; simp [small]; simp at hl; omega
      refine ⟨_, hEnv (P ++ x :: Q) (P ++ [x]) (.fz (lkD x)) (.ow (.lst (below.map .int))), rfl, .inl ?_, _, _, rfl⟩
      have hnew : (hgtF (P ++ [x])).map (fun e => PyData.int e.2) = (hgtF P).map (fun e => PyData.int e.2) ++ [.int (wt x + mx below)] := by
          rw [hgtF_snoc, hStep, List.map_append, ← hb]
          rfl
      unfold hEnv
      rw [hnew]
      have hmx : max1Op (.list (.int 0 :: below.map .int)) = some (.fz (.int (mx below))) := max1_ints 0 below
      simp [iZp_eq, hit, hz, hlc, lstG, hadd, hmx, eApp, ownL, hsm, -List.map_append]) ⟨_, _, rfl⟩
  rw [List.nil_append] at e
  rw [show hEnv L [] .no .no = [.fz (likesD L), .ow (.lst []), .no, .no, .no, .no] from rfl] at e
  simp [F_heights, b_heights, lstG, eX_fz, e, hEnv, eM_ow]
end K66
end
section
namespace K66
open PySem L2 Dl DlS DlZ DlR
theorem r_worth {L : List Lk} (hl : L.length ≤ 1000) : F_worth_of [.fz (likesD L)] = .ok (.fz (.int (worthF L))) [.fz (likesD L)] := by
  have hm : (hgtF L).map (fun e => PyData.int e.2) = ((hgtF L).map (·.2)).map .int := by rw [List.map_map]; rfl
  have hadd : addOp (.list [.int 0]) (.list ((hgtF L).map (fun e => PyData.int e.2))) = some (.ow (.lst (.int 0 :: (hgtF L).map (fun e => PyData.int e.2)))) := addOp_list (small_line (by simp [hgtF_len]; omega))
  have hmx : max1Op (.list (.int 0 :: (hgtF L).map (fun e => PyData.int e.2))) = some (.fz (.int (worthF L))) := by rw [hm]; exact max1_ints 0 _
  simp [F_worth_of, b_worth_of, lstG, eX_fz, r_heights hl, hadd, hmx]
/-! dicts whose keys are likes -/
def encE (e : Lk × Int) : D × D := (lkD e.1, .int e.2)
def encK (E : List (Lk × Int)) : List (D × D) := E.map encE
theorem encK_keys (E : List (Lk × Int)) : (encK E).map (·.1) = (E.map (·.1)).map lkD := by
  rw [encK, List.map_map, List.map_map]
  rfl
theorem dGet_enc : ∀ {E : List (Lk × Int)} {l : Lk} {v : Int}, (E.map (·.1)).Nodup → (l, v) ∈ E → dGet (encK E) (lkD l) = some (.int v)
  | e :: E, l, v, hn, h => by
    rw [List.map_cons, List.nodup_cons] at hn
    unfold dGet encK
    rw [List.map_cons, List.find?_cons]
    rcases List.mem_cons.mp h with rfl | h
    · rw [show (PyData.eqv (encE (l, v)).1 (lkD l)) = true from by show PyData.eqv (lkD l) (lkD l) = true; rw [eqv_lk]; simp]
      rfl
    · have : e.1 ≠ l := fun z => hn.1 (z ▸ List.mem_map.mpr ⟨_, h, rfl⟩)
      rw [show (PyData.eqv (encE e).1 (lkD l)) = false from by show PyData.eqv (lkD e.1) (lkD l) = false; rw [eqv_lk]; simpa using this]
      exact dGet_enc hn.2 h
theorem dPut_new {E : List (Lk × Int)} {l : Lk} {v : Int} (h : l ∉ E.map (·.1)) : dPut (encK E) (lkD l) (.int v) = encK (E ++ [(l, v)]) := by
  unfold dPut
  rw [if_neg]
  · unfold encK; rw [List.map_append]; rfl
  · intro z
    obtain ⟨x, hx, e⟩ := List.any_eq_true.mp z
    obtain ⟨y, hy, rfl⟩ := List.mem_map.mp hx
    rw [show PyData.eqv (encE y).1 (lkD l) = PyData.eqv (lkD y.1) (lkD l) from rfl, eqv_lk] at e
    exact h (of_decide_eq_true e ▸ List.mem_map.mpr ⟨y, hy, rfl⟩)
@[simp] theorem ixOp_dct (kvs : List (D × D)) (l : Lk) : ixOp (dctD true kvs) (lkD l) = (dGet kvs (lkD l)).map .fz := rfl
theorem mx_same {a b : List Int} (h : ∀ n, n ∈ a ↔ n ∈ b) : mx a = mx b := by
  have key : ∀ {a b : List Int}, (∀ n, n ∈ a → n ∈ b) → mx a ≤ mx b := fun {a b} h => by
    rcases mx_or a with z | z
    · rw [z]; exact mx_nonneg _
    · exact le_mx (h _ z)
  exact Int.le_antisymm (key fun n => (h n).mp) (key fun n => (h n).mpr)
theorem ltP_nodup {L : List Lk} (h : L.Pairwise ltP) : L.Nodup := h.imp fun {a b} hab e => by subst e; unfold ltP at hab; omega
theorem lcGo_encM {α : Type} {gd : DEnv → Prop} {vl : List Nat} {tg : TgD} {c : DEnv → Out Bool} {f : EM} {ρ : DEnv} {enc : α → D} {g : α → D} (hg : gd ρ) {E : List α} (h : ∀ e ∈ E, lcStep vl tg c f (enc e) ρ = .ok (some (g e)) ρ) : lcGo gd vl tg c f (E.map enc) ρ = .ok (E.map g) ρ := by
  rw [lcGo_enc (p := fun _ => true) (g := g) hg (fun e he => by simpa using h e he), List.filter_eq_self.mpr (by simp)]
theorem eLcD_eq {vl : List Nat} {j : Nat} {t : TgD} {c : DEnv → Out Bool} {f : EM} {ρ : DEnv} : eLcD vl j t c f ρ = match ownD j ρ with
  | none => .no
  | some (tt, kvs) => (noEr (lcGo (fun ρ' => ρ'.getD j .no = .ow (.lk tt kvs)) vl t c f (kvs.map (·.1)) (wipeD (ρ.set j (.ow (.lk tt kvs))) vl))).bind fun ys ρ2 => .ok (.ow (.lst ys)) (ρ2.set j (.ow (.dct tt kvs))) := rfl
theorem nodup_rev {α : Type} {l : List α} (h : l.Nodup) : l.reverse.Nodup := (List.reverse_perm l).nodup_iff.mpr h
def dEnv (L R : List Lk) (s2 s3 : Dl.Slot) : DEnv := [.fz (likesD L), .ow (.dct true (encK (depF R).reverse)), s2, s3, .no]
theorem depF_len (R : List Lk) : (depF R).length = R.length := by rw [← List.length_map (·.1), depF_keys]
theorem r_depths {L : List Lk} (hL : L.Pairwise ltP) (hl : L.length ≤ 1000) : F_depths [.fz (likesD L)] = .ok (.ow (.lst ((depF L).map fun e => .int e.2))) [.fz (likesD L)] := by
  obtain ⟨ρ', e, s2, s3, rfl⟩ := forGo_enc (enc := lkD) (gd := gdOf .t (.tuple (L.reverse.map lkD))) (tg := tgN 2) (b := (sSeq (sSet 3 (eLcD [4] 1 (tgN 4) (bV (.t) (eCall [(.t, (eX 2)), (.t, (eX 4))] F_is_behind)) (e2 (.n 1) (.n 4) (eN 1) (eN 4) (g2 ixOp))))
  (sSto 1 (e2 (.t) (.t) (e2 (.n 2) (.t) (eN 2) (eC (.int 2)) (g2 ixOp)) (eB [(.t, (e2 (.t) (.n 3) (eB [(.t, (eC (.int 0)))] lstG) (eN 3) (g2 addOp)))] (gN1 max1Op)) (g2 addOp)) (eX 2))))
    (I := fun P ρ => ∃ s2 s3, ρ = dEnv L P.reverse s2 s3) (fun _ _ _ => trivial) (Q := L.reverse) (P := []) (ρ := dEnv L [] .no .no) (fun P x Q ρ el i => by
      rw [List.nil_append] at el
      obtain ⟨s2, s3, rfl⟩ := i
      have el2 : L = Q.reverse ++ x :: P.reverse := by rw [← List.reverse_reverse L, el]; simp
      have hnd := ltP_nodup hL
      obtain ⟨R, hR⟩ : ∃ R, R = P.reverse := ⟨_, rfl⟩
      rw [← hR] at el2 ⊢
      rw [el2] at hnd
      have hnd2 := (List.nodup_append.mp hnd).2.1
      rw [List.nodup_cons] at hnd2
      have hRl : R.length ≤ 1000 := by rw [el2] at hl; simp at hl; omega
      obtain ⟨above, hb⟩ : ∃ b, b = ((depF R).reverse.filter fun e => decide (bh x e.1)).map (·.2) := ⟨_, rfl⟩
      have hkn : ((depF R).reverse.map (·.1)).Nodup := by rw [List.map_reverse, depF_keys]; exact nodup_rev hnd2.2
      have hlc := fun gd hg => lcGo_enc (gd := gd) (vl := [4]) (tg := tgN 4) (c := bV (.t) (eCall [(.t, (eX 2)), (.t, (eX 4))] F_is_behind)) (f := e2 (.n 1) (.n 4) (eN 1) (eN 4) (g2 ixOp)) (ρ := [.fz (likesD L), .ow (.lk true (encK (depF R).reverse)), .fz (lkD x), s3, .no])
        (E := (depF R).reverse) (enc := fun e => lkD e.1) (p := fun e => decide (bh x e.1)) (g := fun e => .int e.2) hg (fun e he => by
          have hget := dGet_enc (l := e.1) (v := e.2) hkn he
          by_cases hq : bh x e.1 <;> simp [lcStep, eX_fz, r_is_behind, hq, hget])
      have hkeys : (encK (depF R).reverse).map (·.1) = (depF R).reverse.map fun e => lkD e.1 := by rw [encK, List.map_map]; rfl
      have hbl : ((depF R).reverse.filter fun e => decide (bh x e.1)).map (fun e => PyData.int e.2) = above.map .int := by rw [hb, List.map_map]; rfl
      rw [hbl] at hlc
      have hlen : above.length ≤ 1000 := by
        rw [hb, List.length_map]
        have := List.length_filter_le (fun e : Lk × Int => decide (bh x e.1)) (depF R).reverse
        rw [List.length_reverse, depF_len] at this
        omega
      have hadd : addOp (.list [.int 0]) (.list (above.map .int)) = some (.ow (.lst (.int 0 :: above.map .int))) := addOp_list (small_line (by simp; omega))
      have hmx : max1Op (.list (.int 0 :: above.map .int)) = some (.fz (.int (mx above))) := max1_ints 0 above
      have hmx2 : mx above = mx (((depF R).filter fun e => decide (bh x e.1)).map (·.2)) := mx_same fun n => by rw [hb]; simp
      have hsm : small (encK (depF R).reverse).length = true := by simp [encK, depF_len, small]; omega
      have hput := dPut_new (E := (depF R).reverse) (l := x) (v := wt x + mx above) (by rw [List.map_reverse, depF_keys, List.mem_reverse]; exact hnd2.1)
      have hnew : (depF R).reverse ++ [(x, wt x + mx above)] = (depF (x :: R)).reverse := by rw [depF, hmx2]; simp
      refine ⟨_, dEnv L (x :: R) (.fz (lkD x)) (.ow (.lst (above.map .int))), rfl, .inl ?_, _, _, by rw [List.reverse_append, hR]; rfl⟩
      unfold dEnv
      rw [← hnew]
      have hsto : stoOp (.dct true (encK (depF R).reverse)) (lkD x) (.int (wt x + mx above)) = some (.dct true (encK ((depF R).reverse ++ [(x, wt x + mx above)]))) := by
        rw [← hput]
        show (if _ then _ else _) = _
        rw [if_pos (by rw [hsm]; rfl)]
      simp [eLcD_eq, ownD, hkeys, hlc, lstG, hadd, hmx, sSto, ownC, eX_fz, hsto, -List.map_reverse]) ⟨_, _, rfl⟩
  rw [List.nil_append, List.reverse_reverse] at e
  rw [show dEnv L [] .no .no = [.fz (likesD L), .ow (.dct true []), .no, .no, .no] from rfl] at e
  have hkn : ((depF L).reverse.map (·.1)).Nodup := by rw [List.map_reverse, depF_keys]; exact nodup_rev (ltP_nodup hL)
  have hlast := lcGo_encM (gd := gdOf (.n 0) (likesD L)) (vl := [2]) (tg := tgN 2) (c := tYesD) (f := e2 (.n 1) (.n 2) (eN 1) (eN 2) (g2 ixOp)) (ρ := [.fz (likesD L), .ow (.dct true (encK (depF L).reverse)), .no, s3, .no]) (E := depF L) (enc := fun e => lkD e.1) (g := fun e => .int e.2) (by simp) (fun e he => by
    have hget := dGet_enc (l := e.1) (v := e.2) hkn (List.mem_reverse.mpr he)
    simp [lcStep, hget])
  have hLk : (depF L).map (fun e => lkD e.1) = L.map lkD := by
    have := congrArg (List.map lkD) (depF_keys L)
    rw [List.map_map] at this
    exact this
  rw [hLk] at hlast
  have hrev : revOp (likesD L) = some (.fz (.tuple (L.reverse.map lkD))) := by rw [List.map_reverse]; rfl
  simp [F_depths, b_depths, eDct, hrev, e, dEnv, hlast, -List.map_reverse]
end K66
end
section
namespace K66
open PySem L2 Dl DlS DlZ DlR
/-! the order of likes -/
def lt3 (a b : Lk) : Prop := a.1 < b.1 ∨ (a.1 = b.1 ∧ (a.2.1 < b.2.1 ∨ (a.2.1 = b.2.1 ∧ a.2.2 < b.2.2)))
instance (a b : Lk) : Decidable (lt3 a b) := inferInstanceAs (Decidable (_ ∨ _))
theorem dataLt_lk (a b : Lk) : PySem.W.dataLt (lkD a) (lkD b) = decide (lt3 a b) := by
  unfold lkD
  rw [PySem.W.dataLt_tuple, PySem.W.dataLt_cons rfl, PySem.W.dataLt_cons rfl, PySem.W.dataLt_cons rfl, PySem.W.dataLt_int, PySem.W.dataLt_int, PySem.W.dataLt_int]
  have e0 : PyProof.Rows.lexLt PyProof.Rows.itemOrd (PySem.W.keyToksAll []) (PySem.W.keyToksAll []) = false := PyProof.Rows.lex_irrefl _
  rw [e0]
  unfold lt3
  by_cases h1 : a.1 = b.1 <;> by_cases h2 : a.2.1 = b.2.1 <;> by_cases h3 : a.2.2 = b.2.2 <;> simp [PyData.eqv, h1, h2, h3]
theorem lt3.irr (a : Lk) : ¬ lt3 a a := by unfold lt3; omega
theorem lt3.trans {a b c : Lk} (h : lt3 a b) (h2 : lt3 b c) : lt3 a c := by unfold lt3 at *; omega
theorem lt3.tot (a b : Lk) : a = b ∨ lt3 a b ∨ lt3 b a := by
  obtain ⟨a1, a2, a3⟩ := a
  obtain ⟨b1, b2, b3⟩ := b
  unfold lt3
  simp only [Prod.mk.injEq]
  omega
/-- forwards or backwards -/
def ltB (first : Bool) (a b : Lk) : Prop := if first then lt3 a b else lt3 b a
instance (first : Bool) (a b : Lk) : Decidable (ltB first a b) := by unfold ltB; split <;> infer_instance
theorem ltB.trans {f : Bool} {a b c : Lk} (h : ltB f a b) (h2 : ltB f b c) : ltB f a c := by
  cases f
  · exact lt3.trans (a := c) (b := b) (c := a) h2 h
  · exact lt3.trans (a := a) (b := b) (c := c) h h2
theorem ltB.tot (f : Bool) (a b : Lk) : a = b ∨ ltB f a b ∨ ltB f b a := by
  cases f
  · rcases lt3.tot a b with h | h | h
    · exact .inl h
    · exact .inr (.inr h)
    · exact .inr (.inl h)
  · exact lt3.tot a b
/-- the first of the first ones -/
def pick (f : Bool) (x : Lk) (xs : List Lk) : Lk := xs.foldl (fun a y => if ltB f y a then y else a) x
theorem pick_ok (f : Bool) : ∀ (xs : List Lk) (x : Lk), pick f x xs ∈ x :: xs ∧ ∀ y ∈ x :: xs, y = pick f x xs ∨ ltB f (pick f x xs) y
  | [], x => ⟨by simp [pick], fun y hy => .inl (by simpa [pick] using hy)⟩
  | z :: xs, x => by
    obtain ⟨h1, h2⟩ := pick_ok f xs (if ltB f z x then z else x)
    have hp : pick f x (z :: xs) = pick f (if ltB f z x then z else x) xs := rfl
    rw [hp]
    refine ⟨?_, fun y hy => ?_⟩
    · rcases List.mem_cons.mp h1 with e | e
      · rw [e]; split <;> simp
      · simp [e]
    · by_cases hz : ltB f z x
      · rw [if_pos hz] at h2 ⊢
        rcases List.mem_cons.mp hy with rfl | hy
        · rcases h2 z (by simp) with e | e
          · right; rw [← e]; exact hz
          · right; exact e.trans hz
        · exact h2 y hy
      · rw [if_neg hz] at h2 ⊢
        rcases List.mem_cons.mp hy with rfl | hy
        · exact h2 _ (by simp)
        · rcases List.mem_cons.mp hy with rfl | hy
          · rcases ltB.tot f y x with e | e | e
            · rw [e]; exact h2 _ (by simp)
            · exact absurd e hz
            · rcases h2 x (by simp) with e2 | e2
              · right; rw [← e2]; exact e
              · right; exact e2.trans e
          · exact h2 y (by simp [hy])
theorem minD_lk (x : Lk) (xs : List Lk) : PySem.W.minD (lkD x) (xs.map lkD) = lkD (pick true x xs) := by
  unfold PySem.W.minD pick
  induction xs generalizing x with
  | nil => rfl
  | cons y ys ih =>
    rw [List.map_cons, List.foldl_cons, List.foldl_cons, ← ih, dataLt_lk]
    by_cases h : lt3 y x
    · rw [if_pos (by simpa using h), if_pos (show ltB true y x from h)]
    · rw [if_neg (by simpa using h), if_neg (show ¬ ltB true y x from h)]
theorem maxD_lk (x : Lk) (xs : List Lk) : PySem.W.maxD (lkD x) (xs.map lkD) = lkD (pick false x xs) := by
  unfold PySem.W.maxD pick
  induction xs generalizing x with
  | nil => rfl
  | cons y ys ih =>
    rw [List.map_cons, List.foldl_cons, List.foldl_cons, ← ih, dataLt_lk]
    by_cases h : lt3 x y
    · rw [if_pos (by simpa using h), if_pos (show ltB false y x from h)]
    · rw [if_neg (by simpa using h), if_neg (show ¬ ltB false y x from h)]
theorem lk_good (x : Lk) (xs : List Lk) : (layL 60 (lkD x :: xs.map lkD) && allAlike (lkD x :: xs.map lkD) && noNone (lkD x :: xs.map lkD)) = true := by
  have h : (lkD x :: xs.map lkD) = (x :: xs).map lkD := rfl
  rw [h, layL_lk]
  simp only [Bool.true_and, Bool.and_eq_true]
  constructor
  · refine List.all_eq_true.mpr fun a ha => List.all_eq_true.mpr fun b hb => ?_
    obtain ⟨x, _, rfl⟩ := List.mem_map.mp ha
    obtain ⟨y, _, rfl⟩ := List.mem_map.mp hb
    rfl
  · refine List.all_eq_true.mpr fun a ha => ?_
    obtain ⟨x, _, rfl⟩ := List.mem_map.mp ha
    rfl
theorem min1_lk (x : Lk) (xs : List Lk) : min1Op (.list (lkD x :: xs.map lkD)) = some (.fz (lkD (pick true x xs))) := by
  show (if _ then _ else _) = _
  rw [if_pos (lk_good x xs), minD_lk]
theorem max1_lk (x : Lk) (xs : List Lk) : max1Op (.list (lkD x :: xs.map lkD)) = some (.fz (lkD (pick false x xs))) := by
  show (if _ then _ else _) = _
  rw [if_pos (lk_good x xs), maxD_lk]
/-! dict(zip(likes, numbers)) -/
theorem putAll_new : ∀ {E acc : List (Lk × Int)}, ((acc ++ E).map (·.1)).Nodup → (encK E).foldl (fun a e => dPut a e.1 e.2) (encK acc) = encK (acc ++ E)
  | [], acc, _ => by simp [encK]
  | e :: E, acc, h => by
    have hn : e.1 ∉ acc.map (·.1) := by
      intro hm
      rw [List.map_append, List.map_cons] at h
      exact (List.nodup_append.mp h).2.2 _ hm _ (List.mem_cons_self ..) rfl
    show (encK E).foldl _ (dPut (encK acc) (lkD e.1) (.int e.2)) = _
    rw [dPut_new hn]
    rw [putAll_new (E := E) (acc := acc ++ [(e.1, e.2)]) (by simpa using h)]
    congr 1
    simp
theorem isKeys_lk (L : List Lk) : isKeys (L.map lkD) = true := by
  induction L with
  | nil => rfl
  | cons l L ih => simp [isKeys, ih]
theorem dz_ok {L : List Lk} (hL : L.Nodup) : dzOp (likesD L) (.list ((depF L).map fun e => .int e.2)) = some (.ow (.dct true (encK (depF L)))) := by
  have hz : (L.map lkD).zip ((depF L).map fun e => PyData.int e.2) = encK (depF L) := by
    have h1 : L.map lkD = (depF L).map fun e => lkD e.1 := by
      have := congrArg (List.map lkD) (depF_keys L)
      rw [List.map_map] at this
      exact this.symm
    rw [h1]
    generalize depF L = E
    induction E with
    | nil => rfl
    | cons e E ih => simpa [encK, encE] using ih
  have hp := putAll_new (E := depF L) (acc := []) (by rw [List.nil_append, depF_keys]; exact hL)
  unfold dzOp
  show (if isKeys (L.map lkD) then _ else _) = _
  rw [if_pos (isKeys_lk L)]
  unfold dPutAll
  rw [hz]
  exact congrArg (fun x => some (Dl.Slot.ow (.dct true x))) hp
theorem eqOp_nil (F : List Lk) : eqOp (.list (F.map lkD)) (.list []) = some (.fz (.bool (decide (F = [])))) := by
  unfold eqOp
  rw [if_pos]
  · cases F <;> rfl
  · show (layL 59 (F.map lkD) && true) = true
    rw [layL_lk]; rfl
theorem atI_last {F : List Lk} {z : Lk} (h : F.getLast? = some z) : L2.atI (F.map lkD) (-1) = some (lkD z) := by
  rcases List.eq_nil_or_concat F with rfl | ⟨c, y, rfl⟩
  · cases h
  · rw [List.concat_eq_append] at *
    have hy : y = z := by simpa using h
    subst hy
    unfold L2.atI ixN
    rw [if_neg (by omega), if_pos (by simp; omega)]
    simp
    rw [show (-1 + ((c.length : Int) + 1)).toNat = c.length from by omega]
    simp
end K66
end
section
namespace K66
open PySem L2 Dl DlS DlZ DlR
/-- does it lie behind the last one taken? -/
def lastB (F : List Lk) (y : Lk) : Bool := match F.getLast? with
  | none => true
  | some z => decide (bh z y)
/-- what can come next -/
def nxL (L F : List Lk) (m : Int) : List Lk := ((depF L).filter fun e => decide (e.2 = m) && lastB F e.1).map (·.1)
theorem mem_nxL (L F : List Lk) (m : Int) (y : Lk) : y ∈ nxL L F m ↔ Nx L F m y := by
  unfold nxL Nx lastB
  constructor
  · intro h
    obtain ⟨e, he, rfl⟩ := List.mem_map.mp h
    obtain ⟨h1, h2⟩ := List.mem_filter.mp he
    rw [Bool.and_eq_true, decide_eq_true_eq] at h2
    refine ⟨?_, fun z hz => ?_⟩
    · rw [← h2.1]; exact h1
    · have := h2.2
      rw [hz] at this
      exact of_decide_eq_true this
  · rintro ⟨h1, h2⟩
    refine List.mem_map.mpr ⟨(y, m), List.mem_filter.mpr ⟨h1, ?_⟩, rfl⟩
    simp only [decide_true, Bool.true_and]
    cases hg : F.getLast? with
    | none => rfl
    | some z => exact decide_eq_true (h2 z hg)
def mEnv (L : List Lk) (b : Bool) (F : List Lk) (m : Int) (s5 : Dl.Slot) : DEnv := [.fz (likesD L), .fz (.bool b), .ow (.dct true (encK (depF L))), .fz (.int m), .ow (.lst (F.map lkD)), s5, .no]
def mM (ρ : DEnv) : Nat := match ρ[3]? with
  | some (Dl.Slot.fz (PyData.int m)) => m.toNat
  | _ => 0
def condM : DEnv → Out Bool := (bV .t (e2 (.n 3) (.t) (eN 3) (eC (.int 0)) (g2 gtOp)))
noncomputable def bodyM : SM := (sSeq (sSet 5 (eLc [6] (iSeq (.n 0) (eN 0)) (tgN 6) (bAnd (bV .t (e2 (.t) (.n 3) (e2 (.n 2) (.n 6) (eN 2) (eN 6) (g2 ixOp)) (eN 3) (g2 eqOp))) (bOr (bV .t (e2 (.n 4) (.t) (eN 4) (eB [] lstG) (g2 eqOp))) (bV (.t) (eCall [(.t, (e2 (.n 4) (.t) (eN 4) (e1 (.t) (eC (.int 1)) (g1 negOp)) (g2 ixOp))), (.t, (eX 6))] F_is_behind)))) (eX 6)))
  (sSeq (sDrop (eApp 4 (eIf (bV (.n 1) (eN 1)) (eB [(.n 5, (eN 5))] (gN1 min1Op)) (eB [(.n 5, (eN 5))] (gN1 max1Op)))))
  (sSet 3 (e2 (.n 3) (.t) (eN 3) (e2 (.t) (.t) (e2 (.n 4) (.t) (eN 4) (e1 (.t) (eC (.int 1)) (g1 negOp)) (g2 ixOp)) (eC (.int 2)) (g2 ixOp)) (g2 subOp)))))
theorem condM_ok {L F : List Lk} {b : Bool} {m : Int} {s5 : Dl.Slot} : condM (mEnv L b F m s5) = .ok (decide (0 < m)) (mEnv L b F m s5) := by
  unfold mEnv
  simp [condM]
theorem bodyM_ok {L F : List Lk} {b : Bool} {m : Int} {s5 : Dl.Slot} {x : Lk} {xs : List Lk} (hL : L.Nodup) (hs : nxL L F m = x :: xs) (hF : F.length ≤ 1000) :
    bodyM (mEnv L b F m s5) = .nx (mEnv L b (F ++ [pick b x xs]) (m - wt (pick b x xs)) (.ow (.lst ((x :: xs).map lkD)))) := by
  have hkn : ((depF L).map (·.1)).Nodup := by rw [depF_keys]; exact hL
  have hLk : (depF L).map (fun e => lkD e.1) = L.map lkD := by
    have := congrArg (List.map lkD) (depF_keys L)
    rw [List.map_map] at this
    exact this
  have hlc := lcGo_enc (gd := gdOf (.n 0) (likesD L)) (vl := [6]) (tg := tgN 6) (c := (bAnd (bV .t (e2 (.t) (.n 3) (e2 (.n 2) (.n 6) (eN 2) (eN 6) (g2 ixOp)) (eN 3) (g2 eqOp))) (bOr (bV .t (e2 (.n 4) (.t) (eN 4) (eB [] lstG) (g2 eqOp))) (bV (.t) (eCall [(.t, (e2 (.n 4) (.t) (eN 4) (e1 (.t) (eC (.int 1)) (g1 negOp)) (g2 ixOp))), (.t, (eX 6))] F_is_behind))))) (f := eX 6) (ρ := mEnv L b F m s5)
    (E := depF L) (enc := fun e => lkD e.1) (p := fun e => decide (e.2 = m) && lastB F e.1) (g := fun e => lkD e.1) (by simp [mEnv]) (fun e he => by
      have hget := dGet_enc (l := e.1) (v := e.2) hkn he
      have heq := eqOp_nil F
      unfold mEnv
      by_cases h1 : e.2 = m
      · cases hg : F.getLast? with
        | none =>
          have hF0 : F = [] := List.getLast?_eq_none_iff.mp hg
          subst hF0
          have he0 : eqOp (.list []) (.list []) = some (.fz (.bool true)) := rfl
          simp [lcStep, hget, h1, lastB, lstG, eX_fz, he0]
        | some z =>
          have hF0 : F ≠ [] := fun e => by rw [e] at hg; cases hg
          by_cases h2 : bh z e.1 <;> simp [lcStep, hget, h1, lastB, lstG, eX_fz, heq, hF0, hg, h2, atI_last hg, r_is_behind]
      · simp [lcStep, hget, h1])
  rw [hLk] at hlc
  have hres : ((depF L).filter fun e => decide (e.2 = m) && lastB F e.1).map (fun e => lkD e.1) = (x :: xs).map lkD := by
    rw [← hs, nxL, List.map_map]
    rfl
  rw [hres] at hlc
  have hsm : small F.length = true := by simpa [small] using Nat.le_trans hF (by decide)
  have hpk : ∀ (F : List Lk) (y : Lk), L2.atI (F.map lkD ++ [lkD y]) (-1) = some (lkD y) := fun F y => by
    have := atI_last (F := F ++ [y]) (z := y) (by simp)
    simpa using this
  unfold mEnv at hlc ⊢
  cases b <;> simp [bodyM, hlc, eApp, ownL, min1_lk, max1_lk, hsm, hpk]
theorem r_match_by {L : List Lk} (b : Bool) (hL : L.Pairwise ltP) (hl : L.length ≤ 1000) (hw : ∀ x ∈ L, 1 ≤ wt x) : ∃ F : List Lk, F_match_by [.fz (likesD L), .fz (.bool b)] = .ok (.fz (.tuple (F.map lkD))) [.fz (likesD L), .fz (.bool b)] ∧
    Ch L F ∧ wts F = worthF L ∧ ∀ c, Ch L c → wts c = worthF L → c = F ∨ ∃ p x y s t, F = p ++ x :: s ∧ c = p ++ y :: t ∧ ltB b x y := by
  obtain ⟨ρ', e, F, m, s5, rfl, g, hm⟩ := sWhile_inv (c := condM) (b := bodyM) (I := fun ρ => ∃ F m s5, ρ = mEnv L b F m s5 ∧ Gr (ltB b) L F m (worthF L))
    (Q := fun ρ => ∃ F m s5, ρ = mEnv L b F m s5 ∧ Gr (ltB b) L F m (worthF L) ∧ m ≤ 0) (m := mM) (ρ := mEnv L b [] (worthF L) .no) (fun ρ ⟨F, m, s5, e, g⟩ => by
      subst e
      by_cases hm : 0 < m
      · obtain ⟨y, hy⟩ := g.some hL hm
        have hy2 := (mem_nxL L F m y).mpr hy
        cases hs : nxL L F m with
        | nil => rw [hs] at hy2; cases hy2
        | cons x xs =>
          have hx := pick_ok b xs x
          rw [← hs] at hx
          have hF : F.length ≤ 1000 := by
            obtain ⟨c, hc, _⟩ := g.ex
            have hch := hc.left
            have hnd : F.Nodup := hch.1.imp fun {a b} hab e => by subst e; exact absurd hab (bh.irr _)
            exact Nat.le_trans (hnd.length_le_of_subset fun a ha => hch.2 a ha) hl
          have hnx := (mem_nxL L F m _).mp hx.1
          have g' := g.step hL hm hnx (fun y hy => hx.2 y ((mem_nxL L F m y).mpr hy))
          refine .inr ⟨mEnv L b F m s5, _, by rw [condM_ok]; simp [hm], .inl (bodyM_ok (ltP_nodup hL) hs hF), ⟨_, _, _, rfl, g'⟩, ?_⟩
          have hxL : pick b x xs ∈ L := by
            rw [← depF_keys L]
            exact List.mem_map.mpr ⟨_, hnx.1, rfl⟩
          have := hw _ hxL
          show (m - wt (pick b x xs)).toNat < m.toNat
          omega
      · exact .inl ⟨mEnv L b F m s5, by rw [condM_ok]; simp [hm], _, _, _, rfl, g, by omega⟩) ⟨_, _, _, rfl, Gr.start hL⟩
  refine ⟨F, ?_, g.done hw hm⟩
  rw [show mEnv L b [] (worthF L) .no = [.fz (likesD L), .fz (.bool b), .ow (.dct true (encK (depF L))), .fz (.int (worthF L)), .ow (.lst []), .no, .no] from rfl] at e
  unfold condM bodyM at e
  simp [F_match_by, b_match_by, r_depths hL hl, r_worth hl, eX_fz, dz_ok (ltP_nodup hL), lstG, e, mEnv]
end K66
end
section
namespace K66
open PySem L2 Dl DlS DlZ DlR
theorem r_agree (a b : Lk) : F__law_agree [.fz (lkD a), .fz (lkD b)] = .ok (.fz (.bool (agB a b))) [.fz (lkD a), .fz (lkD b)] := by
  unfold agB
  by_cases h : a.1 < b.1 <;> by_cases h2 : a.2.1 < b.2.1 <;> by_cases h3 : b.1 < a.1 <;> simp [F__law_agree, b__law_agree, h, h2, h3]
def rowD (c : List Lk) : D := .tuple (c.map lkD)
theorem rowD_items (c : List Lk) : itemsOf (rowD c) = some (c.map lkD) := rfl
theorem r_weight (c : List Lk) : F__law_weight [.fz (rowD c)] = .ok (.fz (.int (wts c))) [.fz (rowD c)] := by
  have hlc := lcGo_encM (gd := gdOf (.n 0) (rowD c)) (vl := [1]) (tg := tgN 1) (c := tYesD) (f := e2 (.n 1) (.t) (eN 1) (eC (.int 2)) (g2 ixOp)) (ρ := [.fz (rowD c), .no]) (E := c) (enc := lkD) (g := fun l => .int (wt l)) (by simp) (fun e he => by simp [lcStep])
  have hs : sumOp (.list (c.map fun l => .int (wt l))) = some (.fz (.int (wts c))) := by
    have := sumOp_ints (c.map wt)
    rw [List.map_map] at this
    exact this
  simp [F__law_weight, b__law_weight, rowD_items, hlc, hs]
def rEnv (L P : List Lk) (s2 : Dl.Slot) : DEnv := [.fz (likesD L), .ow (.lst ((rowsF P).map rowD)), s2, .no, .no]
theorem ch_len {L c : List Lk} (h : Ch L c) : c.length ≤ L.length := by
  have hnd : c.Nodup := h.1.imp fun {a b} hab e => by subst e; exact absurd hab (bh.irr _)
  exact hnd.length_le_of_subset fun a ha => h.2 a ha
theorem r_matches {L : List Lk} (hL : L.Pairwise ltP) (hl : L.length ≤ 14) : F__law_matches [.fz (likesD L)] = .ok (.ow (.lst ((rowsF L).map rowD))) [.fz (likesD L)] := by
  obtain ⟨ρ', e, s2, rfl⟩ := forGo_enc (enc := lkD) (gd := gdOf .t (likesD L)) (tg := tgN 2) (b := (sSet 1 (e2 (.n 1) (.t) (eN 1) (eLc [3] (iSeq (.n 1) (eN 1)) (tgN 3) (bV (.t) (eB [(.t, (eLc [4] (iSeq (.n 3) (eN 3)) (tgN 4) tYesD (eCall [(.t, (eX 4)), (.t, (eX 2))] F__law_agree)))] (gN1 allOp))) (e2 (.n 3) (.t) (eN 3) (eB [(.t, (eX 2))] tupG) (g2 addOp))) (g2 addOp))))
    (I := fun P ρ => ∃ s2, ρ = rEnv L P s2) (fun _ _ _ => trivial) (Q := L) (P := []) (ρ := rEnv L [] .no) (fun P x Q ρ el i => by
      rw [List.nil_append] at el
      obtain ⟨s2, rfl⟩ := i
      have hP : P.Pairwise ltP := by rw [el] at hL; exact (List.pairwise_append.mp hL).1
      have hPl : P.length + 1 ≤ 14 := by rw [el] at hl; simp at hl; omega
      have hrl := rowsF_len P
      have hpow : 2 ^ P.length ≤ 2 ^ 13 := Nat.pow_le_pow_right (by omega) (by omega)
      have hin : ∀ r : List Lk, lcGo (gdOf (.n 3) (rowD r)) [4] (tgN 4) tYesD (eCall [(.t, (eX 4)), (.t, (eX 2))] F__law_agree) (r.map lkD) [.fz (likesD L), .ow (.lst ((rowsF P).map rowD)), .fz (lkD x), .fz (rowD r), .no] = .ok (r.map fun a => .bool (agB a x)) [.fz (likesD L), .ow (.lst ((rowsF P).map rowD)), .fz (lkD x), .fz (rowD r), .no] := fun r =>
        lcGo_encM (E := r) (enc := lkD) (g := fun a => .bool (agB a x)) (by simp) (fun a ha => by simp [lcStep, eX_fz, r_agree])
      have hall : ∀ r : List Lk, allOp (.list (r.map fun a => .bool (agB a x))) = some (.fz (.bool (r.all fun a => agB a x))) := fun r => by
        have := allOp_bools (r.map fun a => agB a x)
        rw [List.map_map, List.all_map] at this
        exact this
      have hlc := lcGo_enc (gd := gdOf (.n 1) (.list ((rowsF P).map rowD))) (vl := [3]) (tg := tgN 3) (c := (bV (.t) (eB [(.t, (eLc [4] (iSeq (.n 3) (eN 3)) (tgN 4) tYesD (eCall [(.t, (eX 4)), (.t, (eX 2))] F__law_agree)))] (gN1 allOp)))) (f := (e2 (.n 3) (.t) (eN 3) (eB [(.t, (eX 2))] tupG) (g2 addOp))) (ρ := [.fz (likesD L), .ow (.lst ((rowsF P).map rowD)), .fz (lkD x), .no, .no])
        (E := rowsF P) (enc := rowD) (p := fun r => r.all fun a => agB a x) (g := fun r => rowD (r ++ [x])) (by simp) (fun r hr => by
          have hrl2 := ch_len ((mem_rows P hP r).mp hr)
          have hadd : addOp (rowD r) (.tuple [lkD x]) = some (.fz (rowD (r ++ [x]))) := by
            have := addOp_tuple (x := r.map lkD) (y := [lkD x]) (small_line (by simp; omega))
            unfold rowD
            rw [List.map_append]
            exact this
          by_cases hq : (r.all fun a => agB a x) = true
          · simp [lcStep, rowD_items, hin, hall, hq, eX_fz, tupG, hadd]
          · simp [lcStep, rowD_items, hin, hall, hq, eX_fz, tupG, hadd])
      have hadd : addOp (.list ((rowsF P).map rowD)) (.list (((rowsF P).filter fun r => r.all fun a => agB a x).map fun r => rowD (r ++ [x]))) = some (.ow (.lst ((rowsF (P ++ [x])).map rowD))) := by
        have h1 : (rowsF (P ++ [x])).map rowD = (rowsF P).map rowD ++ ((rowsF P).filter fun r => r.all fun a => agB a x).map fun r => rowD (r ++ [x]) := by
          rw [rowsF_snoc, rowStep, List.map_append, List.map_map]
          rfl
        rw [h1]
        have := List.length_filter_le (fun r : List Lk => r.all fun a => agB a x) (rowsF P)
        exact addOp_list (small_line (by rw [List.length_map, List.length_map]; omega))
      refine ⟨_, rEnv L (P ++ [x]) (.fz (lkD x)), rfl, .inl ?_, _, rfl⟩
      unfold rEnv
      simp [hlc, hadd]) ⟨_, rfl⟩
  rw [List.nil_append] at e
  rw [show rEnv L [] .no = [.fz (likesD L), .ow (.lst [.tuple []]), .no, .no, .no] from rfl] at e
  simp [F__law_matches, b__law_matches, lstG, tupG, eX_fz, e, rEnv, eM_ow]
end K66
end
section
namespace K66
open PySem L2 Dl DlS DlZ DlR
abbrev Pr := Int × Int
def ltQ (p q : Pr) : Prop := p.1 < q.1 ∨ (p.1 = q.1 ∧ p.2 < q.2)
def encQ (E : List (Pr × Int)) : List (D × D) := E.map fun e => (prD e.1, .int e.2)
theorem eqv_pr (a b : Pr) : PyData.eqv (prD a) (prD b) = decide (a = b) := by
  obtain ⟨a1, a2⟩ := a
  obtain ⟨b1, b2⟩ := b
  unfold prD
  simp only [PyData.eqv, PyData.eqvAll, Bool.and_true]
  by_cases h1 : a1 = b1 <;> by_cases h2 : a2 = b2 <;> simp [h1, h2]
def valE (E : List (Pr × Int)) (p : Pr) : Int := ((E.find? fun e => decide (e.1 = p)).map (·.2)).getD 0
theorem valE_mem {E : List (Pr × Int)} {p : Pr} (h : p ∈ E.map (·.1)) : (p, valE E p) ∈ E ∧ dGet (encQ E) (prD p) = some (.int (valE E p)) := by
  induction E with
  | nil => cases h
  | cons e E ih =>
    unfold valE dGet encQ at *
    rw [List.map_cons, List.find?_cons, List.find?_cons]
    by_cases hq : e.1 = p
    · subst hq
      simp [eqv_pr]
    · have hm : p ∈ E.map (·.1) := by
        rcases List.mem_cons.mp h with z | z
        · exact absurd z.symm hq
        · exact z
      have := ih hm
      simp only [eqv_pr, hq, decide_false] at this ⊢
      exact ⟨List.mem_cons_of_mem _ this.1, this.2⟩
def putE (E : List (Pr × Int)) (p : Pr) (v : Int) : List (Pr × Int) := if p ∈ E.map (·.1) then E.map (fun e => if e.1 = p then (e.1, v) else e) else E ++ [(p, v)]
theorem dPut_pr (E : List (Pr × Int)) (p : Pr) (v : Int) : dPut (encQ E) (prD p) (.int v) = encQ (putE E p v) := by
  have ha : (encQ E).any (fun e => PyData.eqv e.1 (prD p)) = decide (p ∈ E.map (·.1)) := by
    induction E with
    | nil => simp [encQ]
    | cons e E ih =>
      unfold encQ at *
      rw [List.map_cons, List.any_cons, ih]
      simp only [eqv_pr, List.map_cons, List.mem_cons]
      by_cases h : e.1 = p
      · simp [h]
      · have : ¬ p = e.1 := fun z => h z.symm
        simp [h, this]
  unfold dPut putE
  rw [ha]
  by_cases h : p ∈ E.map (·.1)
  · rw [if_pos (by simpa using h), if_pos h]
    unfold encQ
    rw [List.map_map, List.map_map]
    refine List.map_congr_left fun e _ => ?_
    simp only [Function.comp, eqv_pr]
    by_cases hq : e.1 = p <;> simp [hq]
  · rw [if_neg (by simpa using h), if_neg h]
    unfold encQ
    rw [List.map_append]
    rfl
theorem putE_keys {E : List (Pr × Int)} {p : Pr} {v : Int} (h : (E.map (·.1)).Nodup) : ((putE E p v).map (·.1)).Nodup ∧ (putE E p v).length ≤ E.length + 1 ∧ ∀ e ∈ putE E p v, e = (p, v) ∨ e ∈ E := by
  unfold putE
  split
  · refine ⟨?_, by simp, fun e he => ?_⟩
    · rw [List.map_map]
      have : (E.map ((fun e : Pr × Int => e.1) ∘ fun e => if e.1 = p then (e.1, v) else e)) = E.map (·.1) := List.map_congr_left fun e _ => by
        simp only [Function.comp]; split <;> rfl
      rw [this]; exact h
    · obtain ⟨x, hx, rfl⟩ := List.mem_map.mp he
      split
      · rename_i e1; left; rw [e1]
      · exact .inr hx
  · rename_i hn
    refine ⟨?_, by simp, fun e he => ?_⟩
    · rw [List.map_append]
      exact List.nodup_append.mpr ⟨h, by simp, fun a ha b hb e => hn (by simp at hb; rw [← hb, ← e]; exact ha)⟩
    · rcases List.mem_append.mp he with he | he
      · exact .inr he
      · exact .inl (by simpa using he)
theorem putE_pos (E : List (Pr × Int)) (p : Pr) (v : Int) : 1 ≤ (putE E p v).length := by
  unfold putE
  split
  · rename_i h
    obtain ⟨e, he, _⟩ := List.mem_map.mp h
    have := List.length_pos_of_mem he
    rw [List.length_map]
    omega
  · simp
theorem sortedPr (E : List (Pr × Int)) (hn : (E.map (·.1)).Nodup) : ∃ K : List Pr, sortedOp2 (dctD true (encQ E)) = some (.ow (.lst (K.map prD))) ∧ K.Perm (E.map (·.1)) ∧ K.Pairwise ltQ := by
  obtain ⟨ks, hks⟩ : ∃ ks, ks = E.map (·.1) := ⟨_, rfl⟩
  rw [← hks] at hn ⊢
  have h1 : (encQ E).map (·.1) = ks.map prD := by rw [encQ, hks, List.map_map, List.map_map]; rfl
  have h2 : sortedOp2 (dctD true (encQ E)) = (sortK (ks.map prD)).map fun es => .ow (.lst es) := by rw [← h1]; rfl
  have hlay : layL 60 (ks.map prD) = true := by
    generalize ks = l
    induction l with
    | nil => rfl
    | cons a l ih => rw [List.map_cons, layL, ih]; rfl
  have hal : allAlike (ks.map prD) = true := by
    refine List.all_eq_true.mpr fun a ha => List.all_eq_true.mpr fun b hb => ?_
    obtain ⟨x, _, rfl⟩ := List.mem_map.mp ha
    obtain ⟨y, _, rfl⟩ := List.mem_map.mp hb
    rfl
  have hsb : sortB (ks.map prD) = true := by
    unfold sortB
    rw [Bool.or_eq_true]
    left
    refine List.all_eq_true.mpr fun a ha => ?_
    obtain ⟨x, _, rfl⟩ := List.mem_map.mp ha
    rfl
  have h3 : sortK (ks.map prD) = some ((ks.mergeSort (PySem.W.dataLe false prD)).map prD) := by
    unfold sortK
    rw [hlay, hal, hsb, if_pos (by rfl)]
    congr 1
    exact (List.map_mergeSort (r := PySem.W.dataLe false prD) (s := PySem.W.dataLe false id) (f := prD) (l := ks) fun a _ b _ => rfl).symm
  refine ⟨ks.mergeSort (PySem.W.dataLe false prD), by rw [h2, h3]; rfl, List.mergeSort_perm _ _, ?_⟩
  have hp := PySem.W.sort_pairwise (PySem.W.sortLe_total (PyProof.Rows.listOrd PyProof.Rows.itemOrd) false fun b => PySem.W.keyToks (prD b)) ks
  have hnd : (ks.mergeSort (PySem.W.dataLe false prD)).Nodup := (List.mergeSort_perm _ _).nodup_iff.mpr hn
  refine (hp.and hnd).imp fun {a b} ⟨h, hne⟩ => ?_
  have h' : PySem.W.dataLe false (fun b : Pr => PyData.tuple [.int b.1, .int b.2]) a b = true := h
  rw [PySem.W.dataLe_ii (fun b : Pr => b.1) fun b => b.2] at h'
  have h'' := of_decide_eq_true h'
  unfold ltQ
  obtain ⟨a1, a2⟩ := a
  obtain ⟨b1, b2⟩ := b
  simp only [ne_eq, Prod.mk.injEq] at hne
  simp only at h'' ⊢
  omega
def lEnv (a b : List Str) (many : Nat) (heavy : Int) (pot : List D) (E : List (Pr × Int)) (s5 s6 : Dl.Slot) : DEnv := [.ow (.lst pot), .fz (coresD a b), .fz (.int many), .fz (.int heavy), .ow (.dct true (encQ E)), s5, s6]
theorem r_likes {n : Nat} {pot : List D} {a b : List Str} {many : Nat} {heavy : Int} (h : PotOk n pot) (hn : n ≤ 10000) (ha : CoreOk a) (hb : CoreOk b) (hm : many ≤ 60) (h0 : 1 ≤ heavy) (h99 : heavy ≤ 99) :
    ∃ (L : List Lk) (pot' : List D), F__law_likes [.ow (.lst pot), .fz (coresD a b), .fz (.int many), .fz (.int heavy)] = .ok (.fz (likesD L)) [.ow (.lst pot'), .fz (coresD a b), .fz (.int many), .fz (.int heavy)] ∧ LikesOk a.length b.length L ∧ L.length ≤ many ∧ PotOk (n + 3 * many) pot' ∧ (1 ≤ many → 1 ≤ L.length) ∧ ∀ l ∈ L, wt l ≤ heavy := by
  obtain ⟨ρ', e, pot', E, s5, s6, rfl, ok, hnd, hlen, hE, hne⟩ := forGo_enc (enc := fun (i : Nat) => PyData.int i) (gd := fun _ => True) (tg := tgN 5) (b := (sSeq (sSet 6 (eB [(.t, (eB [(.t, (eCall [(.n 0, (eN 0)), (.t, (eB [(.t, (e2 (.n 1) (.t) (eN 1) (eC (.int 0)) (g2 ixOp)))] (gN1 lenOp)))] F__law_take))] (gN1 intOf))), (.t, (eB [(.t, (eCall [(.n 0, (eN 0)), (.t, (eB [(.t, (e2 (.n 1) (.t) (eN 1) (eC (.int 1)) (g2 ixOp)))] (gN1 lenOp)))] F__law_take))] (gN1 intOf)))] tupG))
  (sSto 4 (eB [(.t, (e2 (.t) (.t) (eC (.int 1)) (eCall [(.n 0, (eN 0)), (.t, (eX 3))] F__law_take) (g2 addOp)))] (gN1 intOf)) (eX 6))))
    (I := fun P ρ => ∃ pot' E s5 s6, ρ = lEnv a b many heavy pot' E s5 s6 ∧ PotOk (n + 3 * P.length) pot' ∧ (E.map (·.1)).Nodup ∧ E.length ≤ P.length ∧ (∀ e ∈ E, 0 ≤ e.1.1 ∧ e.1.1 < a.length ∧ 0 ≤ e.1.2 ∧ e.1.2 < b.length ∧ 1 ≤ e.2 ∧ e.2 ≤ heavy) ∧ (1 ≤ P.length → 1 ≤ E.length)) (fun _ _ _ => trivial)
    (Q := List.range many) (P := []) (ρ := lEnv a b many heavy pot [] .no .no) (fun P x Q ρ el i => by
      obtain ⟨pot', E, s5, s6, rfl, ok, hnd, hlen, hE, hne⟩ := i
      have hPl : P.length + 1 ≤ many := by
        have := congrArg List.length el
        simp at this
        omega
      have ha1 := ha.1
      have ha2 := ha.2.1
      have hb1 := hb.1
      have hb2 := hb.2.1
      obtain ⟨r1, pot1, q1, r10, r11, ok1⟩ := r_take (m := a.length) ok (by omega) (by omega) (by omega)
      obtain ⟨r2, pot2, q2, r20, r21, ok2⟩ := r_take (m := b.length) ok1 (by omega) (by omega) (by omega)
      obtain ⟨r3, pot3, q3, r30, r31, ok3⟩ := r_take (m := heavy) ok2 (by omega) (by omega) (by omega)
      have hput := dPut_pr E (r1, r2) (1 + r3)
      obtain ⟨k1, k2, k3⟩ := putE_keys (p := (r1, r2)) (v := 1 + r3) hnd
      have hsto : stoOp (.dct true (encQ E)) (.tuple [.int r1, .int r2]) (.int (1 + r3)) = some (.dct true (encQ (putE E (r1, r2) (1 + r3)))) := by
        rw [← hput]
        show (if _ then _ else _) = _
        rw [if_pos]
        · rfl
        · simp [encQ, small, prD, isKey, flatsD, flatD]
          omega
      refine ⟨_, lEnv a b many heavy pot3 (putE E (r1, r2) (1 + r3)) (.fz (.int x)) (.fz (.tuple [.int r1, .int r2])), rfl, .inl ?_, _, _, _, _, rfl, ok3.mono (by simp; omega), k1, by simp; omega, fun e he => ?_, fun _ => putE_pos E _ _⟩
      · unfold lEnv
        simp [q1, q2, q3, tupG, allFz, eX_fz, sSto, ownC, hsto]
      · rcases k3 e he with rfl | he
        · simp only
          omega
        · exact hE e he) ⟨pot, [], _, _, rfl, h, by simp, by simp, (fun e he => nomatch he), by simp⟩
  rw [List.nil_append] at ok hlen hne
  rw [List.length_range] at ok hlen hne
  obtain ⟨K, hK, hperm, hasc⟩ := sortedPr E hnd
  have hmem : ∀ p ∈ K, p ∈ E.map (·.1) := fun p hp => hperm.mem_iff.mp hp
  have hlast := lcGo_encM (gd := gdOf .t (.list (K.map prD))) (vl := [6]) (tg := tgN 6) (c := tYesD) (f := e2 (.n 6) (.t) (eN 6) (eB [(.t, (e2 (.n 4) (.n 6) (eN 4) (eN 6) (g2 ixOp)))] tupG) (g2 addOp)) (ρ := [.ow (.lst pot'), .fz (coresD a b), .fz (.int many), .fz (.int heavy), .ow (.dct true (encQ E)), s5, .no]) (E := K) (enc := prD) (g := fun p => lkD (p.1, p.2, valE E p)) (by simp) (fun p hp => by
    have hget := (valE_mem (hmem p hp)).2
    have hix : ixOp (dctD true (encQ E)) (prD p) = some (.fz (.int (valE E p))) := by
      have : ixOp (dctD true (encQ E)) (prD p) = (dGet (encQ E) (prD p)).map .fz := rfl
      rw [this, hget]; rfl
    have hadd : addOp (prD p) (.tuple [.int (valE E p)]) = some (.fz (lkD (p.1, p.2, valE E p))) := addOp_tuple (x := [.int p.1, .int p.2]) (y := [.int (valE E p)]) (small_line (by simp))
    simp [lcStep, hix, tupG, allFz, hadd])
  refine ⟨K.map fun p => (p.1, p.2, valE E p), pot', ?_, ⟨List.pairwise_map.mpr (by exact hasc), ?_, ?_⟩, ?_, ok, ?_, ?_⟩
  · rw [show lEnv a b many heavy pot [] .no .no = [.ow (.lst pot), .fz (coresD a b), .fz (.int many), .fz (.int heavy), .ow (.dct true []), .no, .no] from rfl] at e
    have hmm : (many : Int) ≤ 1000000 ∧ (-1000000 : Int) ≤ many := by omega
    have hout : likesD (K.map fun p => (p.1, p.2, valE E p)) = .tuple (K.map fun p => lkD (p.1, p.2, valE E p)) := by
      unfold likesD
      rw [List.map_map]
      rfl
    simp [F__law_likes, b__law_likes, iRg_eq, hmm, eX_fz, e, lEnv, hK, hlast, hout]
  · rw [List.length_map, hperm.length_eq, List.length_map]; omega
  · intro l hl
    obtain ⟨p, hp, rfl⟩ := List.mem_map.mp hl
    have := hE _ (valE_mem (hmem p hp)).1
    unfold wt
    simp only at this ⊢
    omega
  · rw [List.length_map, hperm.length_eq, List.length_map]; exact hlen
  · intro h1; rw [List.length_map, hperm.length_eq, List.length_map]; exact hne h1
  · intro l hl
    obtain ⟨p, hp, rfl⟩ := List.mem_map.mp hl
    exact (hE _ (valE_mem (hmem p hp)).1).2.2.2.2.2
end K66
end
section
/-! the greatest worth through a like: plain mathematics -/
namespace K66
/-- the greatest worth of a row with this like, of each like -/
def thrF (L : List Lk) : List (Lk × Int) := List.zipWith (fun a b => (a.1, a.2 + b.2 - wt a.1)) (hgtF L) (depF L)
theorem hgt_len (L : List Lk) : (hgtF L).length = L.length := by rw [← List.length_map (·.1), hgtF_keys]
theorem dep_len (L : List Lk) : (depF L).length = L.length := by rw [← List.length_map (·.1), depF_keys]
theorem thrF_keys (L : List Lk) : (thrF L).map (·.1) = L := by
  have h : ∀ (A B : List (Lk × Int)), A.length = B.length → (List.zipWith (fun a b => (a.1, a.2 + b.2 - wt a.1)) A B).map (·.1) = A.map (·.1) := by
    intro A
    induction A with
    | nil => intro B _; simp
    | cons a A ih =>
      intro B hl
      cases B with
      | nil => simp at hl
      | cons b B => simpa using ih B (by simpa using hl)
  rw [thrF, h _ _ (by rw [hgt_len, dep_len]), hgtF_keys]
theorem thr_len (L : List Lk) : (thrF L).length = L.length := by rw [← List.length_map (·.1), thrF_keys]
theorem thr_get {L : List Lk} {e : Lk × Int} (he : e ∈ thrF L) : ∃ a b : Lk × Int, a ∈ hgtF L ∧ b ∈ depF L ∧ a.1 = e.1 ∧ b.1 = e.1 ∧ e.2 = a.2 + b.2 - wt e.1 := by
  obtain ⟨i, hi, rfl⟩ := List.getElem_of_mem he
  have hl := thr_len L
  have h1 := hgt_len L
  have h2 := dep_len L
  have hk1 : ((hgtF L)[i]'(by omega)).1 = L[i]'(by omega) := by
    have := congrArg (fun l => l[i]?) (hgtF_keys L)
    simpa [List.getElem?_eq_getElem (by omega : i < (hgtF L).length), List.getElem?_eq_getElem (by omega : i < L.length)] using this
  have hk2 : ((depF L)[i]'(by omega)).1 = L[i]'(by omega) := by
    have := congrArg (fun l => l[i]?) (depF_keys L)
    simpa [List.getElem?_eq_getElem (by omega : i < (depF L).length), List.getElem?_eq_getElem (by omega : i < L.length)] using this
  refine ⟨(hgtF L)[i]'(by omega), (depF L)[i]'(by omega), List.getElem_mem _, List.getElem_mem _, ?_, ?_, ?_⟩
  · simp [thrF]
  · simp only [thrF, List.getElem_zipWith]
    rw [hk1, hk2]
  · simp [thrF]
theorem thrF_ok {L : List Lk} (hL : L.Pairwise ltP) {e : Lk × Int} (he : e ∈ thrF L) : (∃ c, Ch L c ∧ e.1 ∈ c ∧ wts c = e.2) ∧ ∀ c, Ch L c → e.1 ∈ c → wts c ≤ e.2 := by
  obtain ⟨a, b, ha, hb, ea, eb, et⟩ := thr_get he
  obtain ⟨⟨p, hp, wp⟩, ha2⟩ := hgtF_ok L hL a ha
  obtain ⟨⟨q, hq, wq⟩, hb2⟩ := depF_ok hL b hb
  rw [ea] at hp wp ha2
  rw [eb] at hq wq hb2
  rw [wts_append] at wp
  rw [wts_cons] at wq
  simp only [wts_cons, wts_nil] at wp
  constructor
  · refine ⟨p ++ e.1 :: q, ⟨List.pairwise_append.mpr ⟨(List.pairwise_append.mp hp.1).1, hq.1, fun x hx y hy => ?_⟩, fun x hx => ?_⟩, by simp, ?_⟩
    · have hxe := (List.pairwise_append.mp hp.1).2.2 x hx e.1 (by simp)
      rcases List.mem_cons.mp hy with rfl | hy
      · exact hxe
      · exact hxe.trans ((List.pairwise_cons.mp hq.1).1 y hy)
    · rcases List.mem_append.mp hx with hx | hx
      · exact hp.2 x (by simp [hx])
      · exact hq.2 x hx
    · rw [wts_append, wts_cons]
      omega
  · intro c hc hm
    obtain ⟨s, t, rfl⟩ := List.append_of_mem hm
    have h1 : Ch L (s ++ [e.1]) := by
      refine ⟨?_, fun x hx => hc.2 x ?_⟩
      · have := hc.1
        rw [show s ++ e.1 :: t = (s ++ [e.1]) ++ t by simp] at this
        exact (List.pairwise_append.mp this).1
      · rcases List.mem_append.mp hx with hx | hx
        · simp [hx]
        · have : x = e.1 := by simpa using hx
          simp [this]
    have h2 : Ch L (e.1 :: t) := ⟨(List.pairwise_append.mp hc.1).2.1, fun x hx => hc.2 x (List.mem_append_right _ hx)⟩
    have h3 := ha2 s h1
    have h4 := hb2 t h2
    rw [wts_append] at h3
    rw [wts_cons] at h4
    simp only [wts_cons, wts_nil] at h3
    rw [wts_append, wts_cons]
    omega
theorem thr_le {L : List Lk} (hL : L.Pairwise ltP) {e : Lk × Int} (he : e ∈ thrF L) : e.2 ≤ worthF L := by
  obtain ⟨⟨c, hc, _, hw⟩, _⟩ := thrF_ok hL he
  rw [← hw]
  exact (worthF_ok hL).2 c hc
/-- it stands in a row of the greatest worth just if the worth through it is the greatest -/
theorem thr_some {L : List Lk} (hL : L.Pairwise ltP) {e : Lk × Int} (he : e ∈ thrF L) : e.2 = worthF L ↔ ∃ c, Ch L c ∧ wts c = worthF L ∧ e.1 ∈ c := by
  obtain ⟨⟨c, hc, hm, hw⟩, h2⟩ := thrF_ok hL he
  constructor
  · intro h
    exact ⟨c, hc, by rw [hw, h], hm⟩
  · rintro ⟨c', hc', hw', hm'⟩
    have h3 := h2 c' hc' hm'
    have h4 := thr_le hL he
    omega
/-! one like less -/
theorem mem_less {L : List Lk} (hn : L.Nodup) {i : Nat} (hi : i < L.length) {x : Lk} : x ∈ L.eraseIdx i ↔ x ∈ L ∧ x ≠ L[i] := by
  rw [List.mem_eraseIdx_iff_getElem]
  constructor
  · rintro ⟨k, hk, hne, rfl⟩
    exact ⟨List.getElem_mem _, fun e => hne ((List.getElem_inj hn).mp e)⟩
  · rintro ⟨hx, hne⟩
    obtain ⟨k, hk, rfl⟩ := List.getElem_of_mem hx
    exact ⟨k, hk, fun e => hne (by subst e; rfl), rfl⟩
theorem nodup_of {L : List Lk} (h : L.Pairwise ltP) : L.Nodup := h.imp fun {a b} hab e => by subst e; unfold ltP at hab; omega
theorem less_asc {L : List Lk} (hL : L.Pairwise ltP) (i : Nat) : (L.eraseIdx i).Pairwise ltP := hL.sublist (List.eraseIdx_sublist ..)
theorem less_ch {L : List Lk} (hn : L.Nodup) {i : Nat} (hi : i < L.length) {c : List Lk} : Ch (L.eraseIdx i) c ↔ Ch L c ∧ L[i] ∉ c := by
  constructor
  · rintro ⟨h1, h2⟩
    exact ⟨⟨h1, fun x hx => ((mem_less hn hi).mp (h2 x hx)).1⟩, fun hm => ((mem_less hn hi).mp (h2 _ hm)).2 rfl⟩
  · rintro ⟨⟨h1, h2⟩, h3⟩
    exact ⟨h1, fun x hx => (mem_less hn hi).mpr ⟨h2 x hx, fun e => h3 (e ▸ hx)⟩⟩
theorem less_le {L : List Lk} (hL : L.Pairwise ltP) {i : Nat} (hi : i < L.length) : worthF (L.eraseIdx i) ≤ worthF L := by
  obtain ⟨⟨c, hc, hw⟩, _⟩ := worthF_ok (less_asc hL i)
  rw [← hw]
  exact (worthF_ok hL).2 c ((less_ch (nodup_of hL) hi).mp hc).1
/-- without it there is less just if it stands in each row of the greatest worth -/
theorem less_all {L : List Lk} (hL : L.Pairwise ltP) {i : Nat} (hi : i < L.length) : worthF (L.eraseIdx i) < worthF L ↔ ∀ c, Ch L c → wts c = worthF L → L[i] ∈ c := by
  have hn := nodup_of hL
  constructor
  · intro h c hc hw
    refine Decidable.byContradiction fun hm => ?_
    have := (worthF_ok (less_asc hL i)).2 c ((less_ch hn hi).mpr ⟨hc, hm⟩)
    omega
  · intro h
    obtain ⟨⟨c, hc, hw⟩, _⟩ := worthF_ok (less_asc hL i)
    have h1 := (less_ch hn hi).mp hc
    have h2 := (worthF_ok hL).2 c h1.1
    rcases Int.lt_or_eq_of_le h2 with h3 | h3
    · omega
    · exact absurd (h c h1.1 h3) h1.2
/-! what is told -/
def bestL (L : List Lk) : List (List Lk) := (rowsF L).filter fun c => decide (wts c = worthF L)
theorem mem_best {L : List Lk} (hL : L.Pairwise ltP) (c : List Lk) : c ∈ bestL L ↔ Ch L c ∧ wts c = worthF L := by
  rw [bestL, List.mem_filter, mem_rows L hL, decide_eq_true_eq]
inductive Sort3
  | always | attimes | never
  deriving DecidableEq
def sortF (L : List Lk) (l : Lk) : Sort3 := if (bestL L).all (fun c => decide (l ∈ c)) then .always else if (bestL L).any (fun c => decide (l ∈ c)) then .attimes else .never
theorem sort_always {L : List Lk} (hL : L.Pairwise ltP) (l : Lk) : sortF L l = .always ↔ ∀ c, Ch L c → wts c = worthF L → l ∈ c := by
  have : ((bestL L).all (fun c => decide (l ∈ c)) = true) ↔ ∀ c, Ch L c → wts c = worthF L → l ∈ c := by
    rw [List.all_eq_true]
    exact ⟨fun h c hc hw => of_decide_eq_true (h c ((mem_best hL c).mpr ⟨hc, hw⟩)), fun h c hc => decide_eq_true (h c ((mem_best hL c).mp hc).1 ((mem_best hL c).mp hc).2)⟩
  rw [← this]
  unfold sortF
  by_cases h : (bestL L).all (fun c => decide (l ∈ c)) = true
  · rw [if_pos h]; simp [h]
  · rw [if_neg h]
    constructor
    · intro e; split at e <;> cases e
    · intro e; exact absurd e h
theorem sort_never {L : List Lk} (hL : L.Pairwise ltP) (l : Lk) : sortF L l ≠ .never ↔ ∃ c, Ch L c ∧ wts c = worthF L ∧ l ∈ c := by
  have h1 : ((bestL L).any (fun c => decide (l ∈ c)) = true) ↔ ∃ c, Ch L c ∧ wts c = worthF L ∧ l ∈ c := by
    rw [List.any_eq_true]
    exact ⟨fun ⟨c, hc, hm⟩ => ⟨c, ((mem_best hL c).mp hc).1, ((mem_best hL c).mp hc).2, of_decide_eq_true hm⟩, fun ⟨c, hc, hw, hm⟩ => ⟨c, (mem_best hL c).mpr ⟨hc, hw⟩, decide_eq_true hm⟩⟩
  rw [← h1]
  obtain ⟨⟨c, hc, hw⟩, _⟩ := worthF_ok hL
  have hcb := (mem_best hL c).mpr ⟨hc, hw⟩
  unfold sortF
  by_cases h : (bestL L).all (fun c => decide (l ∈ c)) = true
  · rw [if_pos h]
    exact ⟨fun _ => List.any_eq_true.mpr ⟨c, hcb, List.all_eq_true.mp h c hcb⟩, fun _ e => nomatch e⟩
  · rw [if_neg h]
    by_cases h2 : (bestL L).any (fun c => decide (l ∈ c)) = true
    · rw [if_pos h2]; exact ⟨fun _ => h2, fun _ e => nomatch e⟩
    · rw [if_neg h2]; exact ⟨fun e => absurd rfl e, fun e => absurd e h2⟩
/-- what the program tells of a like is what all rows tell -/
theorem sort_eq {L : List Lk} (hL : L.Pairwise ltP) {i : Nat} {t : Int} (hi : i < L.length) (he : (L[i], t) ∈ thrF L) :
    (if t < worthF L then Sort3.never else if worthF (L.eraseIdx i) = t then .attimes else .always) = sortF L L[i] := by
  have h1 := thr_some hL he
  have h2 := thr_le hL he
  have h3 := less_all hL hi
  have h4 := less_le hL hi
  simp only at h1 h2
  have n1 := sort_never hL L[i]
  have n2 := sort_always hL L[i]
  by_cases ht : t < worthF L
  · rw [if_pos ht]
    have : ¬ sortF L L[i] ≠ .never := fun z => by
      have := h1.mpr (n1.mp z)
      omega
    exact (Decidable.not_not.mp this).symm
  · rw [if_neg ht]
    have hne := n1.mpr (h1.mp (by omega))
    by_cases hw : worthF (L.eraseIdx i) = t
    · rw [if_pos hw]
      have : sortF L L[i] ≠ .always := fun z => by
        have := h3.mpr (n2.mp z)
        omega
      cases e : sortF L L[i]
      · exact absurd e this
      · rfl
      · exact absurd e hne
    · rw [if_neg hw]
      exact (n2.mpr (h3.mp (by omega))).symm
/-! one like with another weight -/
def setW (l : Lk) (w : Int) : Lk := (l.1, l.2.1, w)
@[simp] theorem wt_setW (l : Lk) (w : Int) : wt (setW l w) = w := rfl
def upC (l l' : Lk) (c : List Lk) : List Lk := c.map fun x => if x = l then l' else x
theorem ltP_same {a a' b b' : Lk} (h1 : a.1 = a'.1) (h2 : a.2.1 = a'.2.1) (h3 : b.1 = b'.1) (h4 : b.2.1 = b'.2.1) : ltP a b ↔ ltP a' b' := by unfold ltP; rw [h1, h2, h3, h4]
theorem bh_same {a a' b b' : Lk} (h1 : a.1 = a'.1) (h2 : a.2.1 = a'.2.1) (h3 : b.1 = b'.1) (h4 : b.2.1 = b'.2.1) : bh a b ↔ bh a' b' := by unfold bh; rw [h1, h2, h3, h4]
theorem upC_pair {R : Lk → Lk → Prop} {l l' : Lk} (hR : ∀ a a' b b', a.1 = a'.1 → a.2.1 = a'.2.1 → b.1 = b'.1 → b.2.1 = b'.2.1 → (R a b ↔ R a' b')) (h1 : l.1 = l'.1) (h2 : l.2.1 = l'.2.1) {c : List Lk} (h : c.Pairwise R) : (upC l l' c).Pairwise R := by
  unfold upC
  rw [List.pairwise_map]
  refine h.imp fun {a b} hab => ?_
  have hs : ∀ x : Lk, x.1 = (if x = l then l' else x).1 ∧ x.2.1 = (if x = l then l' else x).2.1 := fun x => by
    split
    · rename_i e; subst e; exact ⟨h1, h2⟩
    · exact ⟨rfl, rfl⟩
  exact (hR _ _ _ _ (hs a).1 (hs a).2 (hs b).1 (hs b).2).mp hab
theorem set_up {L : List Lk} (hn : L.Nodup) {i : Nat} (hi : i < L.length) (l' : Lk) : L.set i l' = upC L[i] l' L := by
  refine List.ext_getElem (by simp [upC]) fun k h1 h2 => ?_
  have hk : k < L.length := by simpa using h1
  simp only [upC, List.getElem_map, List.getElem_set]
  by_cases e : i = k
  · subst e; simp
  · have : L[k] ≠ L[i] := fun z => e ((List.getElem_inj hn).mp z).symm
    rw [if_neg e, if_neg this]
theorem set_asc {L : List Lk} (hL : L.Pairwise ltP) {i : Nat} (hi : i < L.length) (w : Int) : (L.set i (setW L[i] w)).Pairwise ltP := by
  rw [set_up (nodup_of hL) hi]
  exact upC_pair (R := ltP) (l := L[i]) (l' := setW L[i] w) (fun a a2 b b2 h1 h2 h3 h4 => ltP_same h1 h2 h3 h4) rfl rfl hL
theorem up_wts {l l' : Lk} {c : List Lk} (hn : c.Nodup) : wts (upC l l' c) = wts c + if l ∈ c then wt l' - wt l else 0 := by
  induction c with
  | nil => simp [upC]
  | cons a c ih =>
    rw [List.nodup_cons] at hn
    have ih := ih hn.2
    have hc : upC l l' (a :: c) = (if a = l then l' else a) :: upC l l' c := rfl
    rw [hc, wts_cons, wts_cons, ih]
    by_cases e : a = l
    · subst e
      simp [hn.1]
      omega
    · have e2 : ¬ l = a := fun z => e z.symm
      simp [e, e2]
      omega
theorem ch_nodup {L c : List Lk} (h : Ch L c) : c.Nodup := h.1.imp fun {a b} hab e => by subst e; exact absurd hab (bh.irr _)
theorem up_ch {L c : List Lk} (hL : L.Pairwise ltP) {i : Nat} (hi : i < L.length) (w : Int) (h : Ch L c) : Ch (L.set i (setW L[i] w)) (upC L[i] (setW L[i] w) c) := by
  refine ⟨upC_pair (R := bh) (l := L[i]) (l' := setW L[i] w) (fun a a2 b b2 h1 h2 h3 h4 => bh_same h1 h2 h3 h4) rfl rfl h.1, fun x hx => ?_⟩
  rw [set_up (nodup_of hL) hi]
  obtain ⟨y, hy, rfl⟩ := List.mem_map.mp hx
  exact List.mem_map.mpr ⟨y, h.2 y hy, rfl⟩
theorem setW_back (l : Lk) (w : Int) : setW (setW l w) (wt l) = l := rfl
/-- a like has one weight in a list -/
theorem set_back {L : List Lk} {i : Nat} (hi : i < L.length) (w : Int) : (L.set i (setW L[i] w)).set i (setW ((L.set i (setW L[i] w))[i]'(by simpa using hi)) (wt L[i])) = L := by
  simp [setW_back]
theorem up_mem {L c : List Lk} (hL : L.Pairwise ltP) {i : Nat} (hi : i < L.length) (w : Int) (h : Ch L c) : setW L[i] w ∈ upC L[i] (setW L[i] w) c ↔ L[i] ∈ c := by
  constructor
  · intro hm
    obtain ⟨y, hy, e⟩ := List.mem_map.mp hm
    by_cases e2 : y = L[i]
    · rw [← e2]; exact hy
    · rw [if_neg e2] at e
      subst e
      obtain ⟨k, hk, ek⟩ := List.getElem_of_mem (h.2 _ hy)
      by_cases hki : k = i
      · subst hki
        rw [ek]; exact hy
      · exfalso
        have h0 := List.pairwise_iff_getElem.mp hL
        rcases Nat.lt_or_gt_of_ne hki with z | z
        · have := h0 k i hk hi z
          rw [ek] at this
          unfold ltP setW at this
          simp only at this
          omega
        · have := h0 i k hi hk z
          rw [ek] at this
          unfold ltP setW at this
          simp only at this
          omega
  · intro hm
    exact List.mem_map.mpr ⟨L[i], hm, by simp⟩
/-- a row of the changed list comes from one of the list -/
theorem dn_ch {L c : List Lk} (hL : L.Pairwise ltP) {i : Nat} (hi : i < L.length) (w : Int) (h : Ch (L.set i (setW L[i] w)) c) : ∃ c0, Ch L c0 ∧ (L[i] ∈ c0 ↔ setW L[i] w ∈ c) ∧ wts c = wts c0 + if L[i] ∈ c0 then w - wt L[i] else 0 := by
  have hi2 : i < (L.set i (setW L[i] w)).length := by simpa using hi
  have hL2 := set_asc hL hi w
  have h1 := up_ch hL2 hi2 (wt L[i]) h
  rw [set_back hi w] at h1
  have h2 := up_mem hL2 hi2 (wt L[i]) h
  have h3 := up_wts (l := (L.set i (setW L[i] w))[i]) (l' := setW ((L.set i (setW L[i] w))[i]) (wt L[i])) (ch_nodup h)
  have e1 : (L.set i (setW L[i] w))[i] = setW L[i] w := by simp
  rw [e1] at h1 h2 h3
  rw [setW_back] at h1 h2 h3
  refine ⟨_, h1, h2, ?_⟩
  rw [h3]
  by_cases hm : setW L[i] w ∈ c
  · rw [if_pos hm, if_pos (h2.mpr hm)]
    simp
    omega
  · rw [if_neg hm, if_neg (fun z => hm (h2.mp z))]
    omega
/-- with so much more that the worth through it is the greatest, it stands in a greatest row -/
theorem raised_some {L : List Lk} (hL : L.Pairwise ltP) {i : Nat} {t : Int} (hi : i < L.length) (he : (L[i], t) ∈ thrF L) :
    sortF (L.set i (setW L[i] (wt L[i] + worthF L - t))) (setW L[i] (wt L[i] + worthF L - t)) ≠ .never := by
  obtain ⟨w, hw⟩ : ∃ w, w = wt L[i] + worthF L - t := ⟨_, rfl⟩
  rw [← hw]
  have hL2 := set_asc hL hi w
  obtain ⟨⟨c, hc, hm, hwc⟩, htop⟩ := thrF_ok hL he
  simp only at hm hwc htop
  have hle := thr_le hL he
  simp only at hle
  have h1 := up_ch hL hi w hc
  have h2 := up_wts (l := L[i]) (l' := setW L[i] w) (ch_nodup hc)
  rw [if_pos hm, wt_setW] at h2
  have hmx : worthF (L.set i (setW L[i] w)) = worthF L := by
    refine Int.le_antisymm ?_ ?_
    · obtain ⟨⟨c', hc', hw'⟩, _⟩ := worthF_ok hL2
      obtain ⟨c0, k1, k2, k3⟩ := dn_ch hL hi w hc'
      rw [← hw', k3]
      by_cases hz : L[i] ∈ c0
      · rw [if_pos hz]
        have := htop c0 k1 hz
        omega
      · rw [if_neg hz]
        have := (worthF_ok hL).2 c0 k1
        omega
    · have := (worthF_ok hL2).2 _ h1
      omega
  exact (sort_never hL2 _).mpr ⟨_, h1, by rw [hmx]; omega, (up_mem hL hi w hc).mpr hm⟩
theorem raised_never {L : List Lk} (hL : L.Pairwise ltP) {i : Nat} {t : Int} (hi : i < L.length) (he : (L[i], t) ∈ thrF L) (ht : t < worthF L) :
    sortF (L.set i (setW L[i] (wt L[i] + worthF L - t - 1))) (setW L[i] (wt L[i] + worthF L - t - 1)) = .never := by
  obtain ⟨w, hw⟩ : ∃ w, w = wt L[i] + worthF L - t - 1 := ⟨_, rfl⟩
  rw [← hw]
  have hL2 := set_asc hL hi w
  obtain ⟨_, htop⟩ := thrF_ok hL he
  simp only at htop
  obtain ⟨⟨c, hc, hwc⟩, hle⟩ := worthF_ok hL
  have hm : L[i] ∉ c := fun z => by have := htop c hc z; omega
  have h1 := up_ch hL hi w hc
  have h2 := up_wts (l := L[i]) (l' := setW L[i] w) (ch_nodup hc)
  rw [if_neg hm] at h2
  have h3 := (worthF_ok hL2).2 _ h1
  refine Decidable.byContradiction fun hne => ?_
  obtain ⟨c', hc', hw', hm'⟩ := (sort_never hL2 _).mp hne
  obtain ⟨c0, k1, k2, k3⟩ := dn_ch hL hi w hc'
  have hz := k2.mpr hm'
  rw [if_pos hz] at k3
  have := htop c0 k1 hz
  omega
end K66
end
section
/-! counts of years by levels: plain mathematics -/
namespace K66
/-! pairs that follow one another -/
def pairsL : List Int → List (Int × Int)
  | x :: y :: r => (x, y) :: pairsL (y :: r)
  | _ => []
def gapSum (ps : List (Int × Int)) : Int := (ps.map fun p => p.2 - p.1).sum
@[simp] theorem gapSum_nil : gapSum [] = 0 := rfl
@[simp] theorem gapSum_cons (p : Int × Int) (ps : List (Int × Int)) : gapSum (p :: ps) = p.2 - p.1 + gapSum ps := by simp [gapSum]
theorem pairs_lt : ∀ {m : List Int}, m.Pairwise (· < ·) → ∀ p ∈ pairsL m, p.1 < p.2 ∧ p.1 ∈ m ∧ p.2 ∈ m ∧ ∀ x ∈ m, x ≤ p.1 ∨ p.2 ≤ x
  | [], _, p, hp => by cases hp
  | [x], _, p, hp => by cases hp
  | x :: y :: r, h, p, hp => by
    obtain ⟨h1, h2⟩ := List.pairwise_cons.mp h
    rcases List.mem_cons.mp hp with rfl | hp
    · refine ⟨h1 y (by simp), by simp, by simp, fun z hz => ?_⟩
      rcases List.mem_cons.mp hz with rfl | hz
      · left; exact Int.le_refl _
      · right
        rcases List.mem_cons.mp hz with rfl | hz
        · exact Int.le_refl _
        · exact Int.le_of_lt ((List.pairwise_cons.mp h2).1 z hz)
    · obtain ⟨a, b, c, d⟩ := pairs_lt h2 p hp
      refine ⟨a, List.mem_cons_of_mem _ b, List.mem_cons_of_mem _ c, fun z hz => ?_⟩
      rcases List.mem_cons.mp hz with rfl | hz
      · left; exact Int.le_of_lt (h1 p.1 b)
      · exact d z hz
/-- up to b -/
theorem gaps_to : ∀ {x : Int} {m : List Int} {b : Int}, (x :: m).Pairwise (· < ·) → b ∈ x :: m → gapSum ((pairsL (x :: m)).filter fun p => decide (p.2 ≤ b)) = b - x
  | x, [], b, _, hb => by
    have : b = x := by simpa using hb
    subst this
    simp [pairsL]
  | x, y :: r, b, h, hb => by
    obtain ⟨h1, h2⟩ := List.pairwise_cons.mp h
    show gapSum (((x, y) :: pairsL (y :: r)).filter _) = _
    rcases List.mem_cons.mp hb with rfl | hb
    · have hn : ((b, y) :: pairsL (y :: r)).filter (fun p => decide (p.2 ≤ b)) = [] := by
        rw [List.filter_eq_nil_iff]
        intro p hp
        have : b < p.2 := by
          rcases List.mem_cons.mp hp with rfl | hp
          · exact h1 y (by simp)
          · exact h1 _ (pairs_lt h2 p hp).2.2.1
        simp; omega
      rw [hn]; simp
    · have hy : y ≤ b := by
        rcases List.mem_cons.mp hb with rfl | hb
        · exact Int.le_refl _
        · exact Int.le_of_lt ((List.pairwise_cons.mp h2).1 b hb)
      rw [List.filter_cons_of_pos (by simpa using hy), gapSum_cons, gaps_to h2 hb]
      simp only
      omega
theorem gap_split (ps : List (Int × Int)) (P Q : Int × Int → Bool) (h : ∀ p ∈ ps, ¬ (P p = true ∧ Q p = true)) : gapSum (ps.filter fun p => P p || Q p) = gapSum (ps.filter P) + gapSum (ps.filter Q) := by
  induction ps with
  | nil => rfl
  | cons p ps ih =>
    have ih := ih fun q hq => h q (by simp [hq])
    have hp := h p (by simp)
    cases e1 : P p <;> cases e2 : Q p <;> simp [e1, e2] at hp ⊢ <;> omega
/-- from a to b -/
theorem gaps_in {m : List Int} {a b : Int} (h : m.Pairwise (· < ·)) (ha : a ∈ m) (hb : b ∈ m) (hab : a ≤ b) : gapSum ((pairsL m).filter fun p => decide (a ≤ p.1) && decide (p.2 ≤ b)) = b - a := by
  cases m with
  | nil => cases ha
  | cons x m =>
    have h1 := gaps_to h ha
    have h2 := gaps_to h hb
    have hs := gap_split (pairsL (x :: m)) (fun p => decide (a ≤ p.1) && decide (p.2 ≤ b)) (fun p => decide (p.2 ≤ a)) fun p hp ⟨z1, z2⟩ => by
      have := (pairs_lt h p hp).1
      simp at z1 z2
      omega
    have he : (pairsL (x :: m)).filter (fun p => (decide (a ≤ p.1) && decide (p.2 ≤ b)) || decide (p.2 ≤ a)) = (pairsL (x :: m)).filter fun p => decide (p.2 ≤ b) := by
      refine List.filter_congr fun p hp => ?_
      have h3 := pairs_lt h p hp
      have h4 := h3.2.2.2 a ha
      have h5 := h3.1
      rw [Bool.eq_iff_iff]
      simp
      omega
    rw [he, h1, h2] at hs
    omega
theorem gaps_all {m : List Int} (h : m.Pairwise (· < ·)) {a b : Int} (ha : a ∈ m) (hb : b ∈ m) (h1 : ∀ x ∈ m, a ≤ x) (h2 : ∀ x ∈ m, x ≤ b) : gapSum (pairsL m) = b - a := by
  have := gaps_in h ha hb (h1 b hb)
  rw [← this]
  congr 1
  refine (List.filter_eq_self.mpr fun p hp => ?_).symm
  have h3 := pairs_lt h p hp
  have := h1 p.1 h3.2.1
  have := h2 p.2 h3.2.2.1
  simp
  omega
/-! levels -/
def stt (e : Lk × Int) : Int := e.2 - wt e.1
/-- where a like's years begin: the greatest of what ends below it -/
theorem hgt_start : ∀ {L : List Lk}, L.Pairwise ltP → ∀ e ∈ hgtF L, (stt e = 0 ∨ ∃ e' ∈ hgtF L, e'.2 = stt e) ∧ (0 ≤ stt e) ∧ ∀ e' ∈ hgtF L, bh e'.1 e.1 → e'.2 ≤ stt e := by
  intro L
  induction L using snoc_ind with
  | h0 => intro _ e he; cases he
  | h1 r l ih =>
    intro hL e he
    have ih := ih (List.pairwise_append.mp hL).1
    have hlast := (List.pairwise_append.mp hL).2.2
    have hk : ∀ e' ∈ hgtF r, e'.1 ∈ r := fun e' he' => by rw [← hgtF_keys r]; exact List.mem_map.mpr ⟨e', he', rfl⟩
    rw [hgtF_snoc, hStep] at he ⊢
    have hsub : ∀ e' ∈ hgtF r, e' ∈ hgtF r ++ [(l, wt l + mx (((hgtF r).filter fun e => decide (bh e.1 l)).map (·.2)))] := fun e' h => List.mem_append_left _ h
    rcases List.mem_append.mp he with he | he
    · obtain ⟨a, b, c⟩ := ih e he
      refine ⟨a.imp id fun ⟨e', h1, h2⟩ => ⟨e', hsub e' h1, h2⟩, b, fun e' he' hb => ?_⟩
      rcases List.mem_append.mp he' with he' | he'
      · exact c e' he' hb
      · have : e' = (l, wt l + mx (((hgtF r).filter fun e => decide (bh e.1 l)).map (·.2))) := by simpa using he'
        subst this
        exfalso
        exact absurd hb.ltP (hlast e.1 (hk e he) l (by simp)).not
    · have : e = (l, wt l + mx (((hgtF r).filter fun e => decide (bh e.1 l)).map (·.2))) := by simpa using he
      subst this
      have hs : stt (l, wt l + mx (((hgtF r).filter fun e => decide (bh e.1 l)).map (·.2))) = mx (((hgtF r).filter fun e => decide (bh e.1 l)).map (·.2)) := by unfold stt; simp only; omega
      rw [hs]
      refine ⟨?_, mx_nonneg _, fun e' he' hb => ?_⟩
      · rcases mx_or (((hgtF r).filter fun e => decide (bh e.1 l)).map (·.2)) with z | z
        · exact .inl z
        · right
          obtain ⟨e', he', ez⟩ := List.mem_map.mp z
          exact ⟨e', hsub e' (List.mem_filter.mp he').1, ez⟩
      · rcases List.mem_append.mp he' with he' | he'
        · exact le_mx (List.mem_map.mpr ⟨e', List.mem_filter.mpr ⟨he', by simpa using hb⟩, rfl⟩)
        · have : e' = (l, wt l + mx (((hgtF r).filter fun e => decide (bh e.1 l)).map (·.2))) := by simpa using he'
          subst this
          exact absurd hb (bh.irr _)
/-- the like without another below it -/
theorem hgt_zero {L : List Lk} (hL : L.Pairwise ltP) (hne : L ≠ []) : ∃ e ∈ hgtF L, stt e = 0 := by
  have hk := hgtF_keys L
  have hl : (hgtF L).length = L.length := by rw [← List.length_map (·.1), hk]
  have hpos : 0 < (hgtF L).length := by rw [hl]; exact List.length_pos_iff.mpr hne
  -- the entry of the first like
  have key : ∀ n : Nat, ∀ e ∈ hgtF L, (stt e).toNat ≤ n → ∃ e ∈ hgtF L, stt e = 0 := by
    intro n
    induction n with
    | zero => intro e he h; exact ⟨e, he, by have := (hgt_start hL e he).2.1; omega⟩
    | succ n ih =>
      intro e he h
      cases hf : L with
      | nil => exact absurd hf hne
      | cons x r =>
        have hx : x ∈ (hgtF L).map (·.1) := by rw [hk, hf]; simp
        obtain ⟨e0, he0, e1⟩ := List.mem_map.mp hx
        subst hf
        by_cases hz : stt e0 = 0
        · exact ⟨e0, he0, hz⟩
        · exfalso
          rcases (hgt_start hL e0 he0).1 with z | ⟨e', he', z⟩
          · exact hz z
          · -- something ends at the start of the first like: it lies below it
            have hmem := hgtF_ok (x :: r) hL e0 he0
            obtain ⟨⟨c, hc, hw⟩, _⟩ := hmem
            rw [e1] at hc hw
            cases c with
            | nil => unfold stt at hz; rw [e1] at hz; simp at hw; omega
            | cons y c =>
              have hb : bh y x := (List.pairwise_append.mp hc.1).2.2 y (by simp) x (by simp)
              have hy := hc.2 y (by simp)
              rcases List.mem_cons.mp hy with q | q
              · rw [q] at hb; exact bh.irr _ hb
              · exact hb.ltP.not ((List.pairwise_cons.mp hL).1 y q)
  exact key _ _ (List.getElem_mem hpos) (Nat.le_refl _)
/-- the counts: between each two levels the likes whose years hold these -/
def lotF (L : List Lk) (p : Int × Int) : List Lk := ((hgtF L).filter fun e => decide (stt e ≤ p.1) && decide (p.2 ≤ e.2)).map (·.1)
def cntF (L : List Lk) (M : List Int) : List (List Lk × Int) := (pairsL M).map fun p => (lotF L p, p.2 - p.1)
/-- the levels -/
structure Lev (L : List Lk) (M : List Int) : Prop where
  lt : M.Pairwise (· < ·)
  mem : ∀ x, x ∈ M ↔ ∃ e ∈ hgtF L, x = stt e ∨ x = e.2
theorem lot_mem {L : List Lk} {p : Int × Int} {l : Lk} : l ∈ lotF L p ↔ ∃ e ∈ hgtF L, e.1 = l ∧ stt e ≤ p.1 ∧ p.2 ≤ e.2 := by
  unfold lotF
  rw [List.mem_map]
  constructor
  · rintro ⟨e, he, rfl⟩
    obtain ⟨h1, h2⟩ := List.mem_filter.mp he
    simp at h2
    exact ⟨e, h1, rfl, h2.1, h2.2⟩
  · rintro ⟨e, he, rfl, h1, h2⟩
    exact ⟨e, List.mem_filter.mpr ⟨he, by simp [h1, h2]⟩, rfl⟩
theorem lot_in {L : List Lk} {p : Int × Int} {l : Lk} (h : l ∈ lotF L p) : l ∈ L := by
  obtain ⟨e, he, rfl, _⟩ := lot_mem.mp h
  rw [← hgtF_keys L]
  exact List.mem_map.mpr ⟨e, he, rfl⟩
theorem lot_asc {L : List Lk} (hL : L.Pairwise ltP) (p : Int × Int) : (lotF L p).Pairwise ltP := by
  unfold lotF
  have h : ((hgtF L).map (·.1)).Pairwise ltP := by rw [hgtF_keys]; exact hL
  exact h.sublist (List.Sublist.map _ List.filter_sublist)
theorem lot_ne {L : List Lk} {M : List Int} (hL : L.Pairwise ltP) (hw : ∀ l ∈ L, 1 ≤ wt l) (hM : Lev L M) {p : Int × Int} (hp : p ∈ pairsL M) : lotF L p ≠ [] := by
  obtain ⟨h1, h2, h3, h4⟩ := pairs_lt hM.lt p hp
  have hk : ∀ e' ∈ hgtF L, e'.1 ∈ L := fun e' he' => by rw [← hgtF_keys L]; exact List.mem_map.mpr ⟨e', he', rfl⟩
  have h0 : 0 ≤ p.1 := by
    obtain ⟨e, he, z⟩ := (hM.mem p.1).mp h2
    have := (hgt_start hL e he).2.1
    have := hw e.1 (hk e he)
    unfold stt at *
    omega
  have : ∃ e ∈ hgtF L, e.2 = p.2 := by
    obtain ⟨e, he, z⟩ := (hM.mem p.2).mp h3
    rcases z with z | z
    · rcases (hgt_start hL e he).1 with y | ⟨e', he', y⟩
      · omega
      · exact ⟨e', he', by omega⟩
    · exact ⟨e, he, z.symm⟩
  obtain ⟨e, he, ee⟩ := this
  have hs : stt e ∈ M := (hM.mem _).mpr ⟨e, he, .inl rfl⟩
  have := hw e.1 (hk e he)
  have hle : stt e ≤ p.1 := by
    rcases h4 (stt e) hs with z | z
    · exact z
    · unfold stt at z; omega
  intro hn
  have := lot_mem.mpr ⟨e, he, rfl, hle, Int.le_of_eq ee.symm⟩
  rw [hn] at this
  cases this
theorem lot_anti {L : List Lk} {M : List Int} (hL : L.Pairwise ltP) (hM : Lev L M) {p : Int × Int} (hp : p ∈ pairsL M) {a b : Lk} (ha : a ∈ lotF L p) (hb : b ∈ lotF L p) : ¬ bh a b := fun h => by
  obtain ⟨h1, _⟩ := pairs_lt hM.lt p hp
  obtain ⟨e, he, rfl, _, e2⟩ := lot_mem.mp ha
  obtain ⟨f, hf, rfl, f1, _⟩ := lot_mem.mp hb
  have := (hgt_start hL f hf).2.2 e he h
  omega
theorem key_uniq {L : List Lk} (hL : L.Pairwise ltP) {e f : Lk × Int} (he : e ∈ hgtF L) (hf : f ∈ hgtF L) (h : e.1 = f.1) : e = f := by
  have h1 := hgtF_ok L hL e he
  have h2 := hgtF_ok L hL f hf
  obtain ⟨⟨c, hc, hw⟩, ht⟩ := h1
  obtain ⟨⟨d, hd, hx⟩, hy⟩ := h2
  rw [h] at hc hw ht
  have := hy c hc
  have := ht d hd
  obtain ⟨e1, e2⟩ := e
  obtain ⟨f1, f2⟩ := f
  simp only at h
  subst h
  simp only [Prod.mk.injEq, true_and]
  simp only at *
  omega
/-- each like is held for as many years as it weighs -/
theorem cnt_cover {L : List Lk} {M : List Int} (hL : L.Pairwise ltP) (hw : ∀ l ∈ L, 1 ≤ wt l) (hM : Lev L M) {l : Lk} (hl : l ∈ L) : ((cntF L M).filter fun c => decide (l ∈ c.1)).map (·.2) = ((pairsL M).filter fun p => decide (l ∈ lotF L p)).map (fun p => p.2 - p.1) ∧ (((cntF L M).filter fun c => decide (l ∈ c.1)).map (·.2)).sum = wt l := by
  have e1 : ((cntF L M).filter fun c => decide (l ∈ c.1)).map (·.2) = ((pairsL M).filter fun p => decide (l ∈ lotF L p)).map (fun p => p.2 - p.1) := by
    unfold cntF
    rw [List.filter_map, List.map_map]
    rfl
  refine ⟨e1, ?_⟩
  rw [e1]
  have hx : l ∈ (hgtF L).map (·.1) := by rw [hgtF_keys]; exact hl
  obtain ⟨e, he, rfl⟩ := List.mem_map.mp hx
  have hwl := hw e.1 hl
  have hg := gaps_in hM.lt ((hM.mem (stt e)).mpr ⟨e, he, .inl rfl⟩) ((hM.mem e.2).mpr ⟨e, he, .inr rfl⟩) (by unfold stt; omega)
  have hf : (pairsL M).filter (fun p => decide (e.1 ∈ lotF L p)) = (pairsL M).filter fun p => decide (stt e ≤ p.1) && decide (p.2 ≤ e.2) := by
    refine List.filter_congr fun p _ => ?_
    rw [Bool.eq_iff_iff, decide_eq_true_eq, lot_mem]
    simp only [Bool.and_eq_true, decide_eq_true_eq]
    constructor
    · rintro ⟨f, hf, ef, z1, z2⟩
      rw [key_uniq hL he hf ef.symm]
      exact ⟨z1, z2⟩
    · rintro ⟨z1, z2⟩
      exact ⟨e, he, rfl, z1, z2⟩
  rw [hf]
  show gapSum _ = _
  rw [hg]
  unfold stt
  omega
/-- all years together -/
theorem cnt_sum {L : List Lk} {M : List Int} (hL : L.Pairwise ltP) (hw : ∀ l ∈ L, 1 ≤ wt l) (hM : Lev L M) : ((cntF L M).map (·.2)).sum = worthF L := by
  have e1 : (cntF L M).map (·.2) = (pairsL M).map fun p => p.2 - p.1 := by unfold cntF; rw [List.map_map]; rfl
  rw [e1]
  show gapSum (pairsL M) = _
  by_cases hne : L = []
  · subst hne
    have : M = [] := by
      cases M with
      | nil => rfl
      | cons x M =>
        obtain ⟨e, he, _⟩ := (hM.mem x).mp (by simp)
        cases he
    rw [this]; rfl
  · have hk : ∀ e' ∈ hgtF L, e'.1 ∈ L := fun e' he' => by rw [← hgtF_keys L]; exact List.mem_map.mpr ⟨e', he', rfl⟩
    obtain ⟨e0, he0, z0⟩ := hgt_zero hL hne
    have hmax : ∃ e ∈ hgtF L, e.2 = worthF L := by
      rcases mx_or ((hgtF L).map (·.2)) with z | z
      · exfalso
        have h1 := le_mx (ns := (hgtF L).map (·.2)) (List.mem_map.mpr ⟨e0, he0, rfl⟩)
        have := hw e0.1 (hk e0 he0)
        unfold stt at z0
        omega
      · obtain ⟨e, he, ee⟩ := List.mem_map.mp z
        exact ⟨e, he, ee⟩
    obtain ⟨e1', he1, z1⟩ := hmax
    have := gaps_all hM.lt (a := 0) (b := worthF L) ((hM.mem 0).mpr ⟨e0, he0, .inl z0.symm⟩) ((hM.mem _).mpr ⟨e1', he1, .inr z1.symm⟩) (fun x hx => ?_) (fun x hx => ?_)
    · omega
    · obtain ⟨e, he, z⟩ := (hM.mem x).mp hx
      have := (hgt_start hL e he).2.1
      have := hw e.1 (hk e he)
      unfold stt at *
      omega
    · obtain ⟨e, he, z⟩ := (hM.mem x).mp hx
      have h1 := le_mx (ns := (hgtF L).map (·.2)) (List.mem_map.mpr ⟨e, he, rfl⟩)
      have := hw e.1 (hk e he)
      unfold stt at *
      unfold worthF
      omega
/-! the worth through a like, by what lies below it and above it -/
def belowL (L : List Lk) (l : Lk) : List Lk := L.filter fun x => decide (bh x l)
def aboveL (L : List Lk) (l : Lk) : List Lk := L.filter fun x => decide (bh l x)
theorem thr_parts {L : List Lk} (hL : L.Pairwise ltP) {e : Lk × Int} (he : e ∈ thrF L) : e.2 = wt e.1 + worthF (belowL L e.1) + worthF (aboveL L e.1) := by
  obtain ⟨⟨c, hc, hm, hw⟩, ht⟩ := thrF_ok hL he
  have hB : (belowL L e.1).Pairwise ltP := hL.sublist List.filter_sublist
  have hA : (aboveL L e.1).Pairwise ltP := hL.sublist List.filter_sublist
  have hl : e.1 ∈ L := by rw [← thrF_keys L]; exact List.mem_map.mpr ⟨e, he, rfl⟩
  obtain ⟨⟨p, hp, wp⟩, tp⟩ := worthF_ok hB
  obtain ⟨⟨q, hq, wq⟩, tq⟩ := worthF_ok hA
  refine Int.le_antisymm ?_ ?_
  · obtain ⟨s, t, rfl⟩ := List.append_of_mem hm
    obtain ⟨c1, c2, c3⟩ := List.pairwise_append.mp hc.1
    have h1 := tp s ⟨c1, fun x hx => List.mem_filter.mpr ⟨hc.2 x (List.mem_append_left _ hx), by simpa using c3 x hx e.1 (by simp)⟩⟩
    have h2 := tq t ⟨(List.pairwise_cons.mp c2).2, fun x hx => List.mem_filter.mpr ⟨hc.2 x (by simp [hx]), by simpa using (List.pairwise_cons.mp c2).1 x hx⟩⟩
    rw [wts_append, wts_cons] at hw
    omega
  · have hpb : ∀ x ∈ p, x ∈ L ∧ bh x e.1 := fun x hx => by
      have := List.mem_filter.mp (hp.2 x hx)
      exact ⟨this.1, by simpa using this.2⟩
    have hqb : ∀ x ∈ q, x ∈ L ∧ bh e.1 x := fun x hx => by
      have := List.mem_filter.mp (hq.2 x hx)
      exact ⟨this.1, by simpa using this.2⟩
    have := ht (p ++ e.1 :: q) ⟨List.pairwise_append.mpr ⟨hp.1, List.pairwise_cons.mpr ⟨fun x hx => (hqb x hx).2, hq.1⟩, fun x hx y hy => ?_⟩, fun x hx => ?_⟩ (by simp)
    · rw [wts_append, wts_cons] at this
      omega
    · rcases List.mem_cons.mp hy with rfl | hy
      · exact (hpb x hx).2
      · exact (hpb x hx).2.trans (hqb y hy).2
    · rcases List.mem_append.mp hx with hx | hx
      · exact (hpb x hx).1
      · rcases List.mem_cons.mp hx with rfl | hx
        · exact hl
        · exact (hqb x hx).1
end K66
end
section
namespace K66
open PySem L2 Dl DlS DlZ DlR
def cntD (c : List Lk × Int) : D := .tuple [likesD c.1, .int c.2]
def countsD (cs : List (List Lk × Int)) : D := .tuple (cs.map cntD)
def rowE (e : Lk × Int) : D := .tuple [.int (stt e), .int e.2, lkD e.1]
/-- the levels of a list -/
def levF (L : List Lk) : List Int := sdI ((hgtF L).map stt ++ (hgtF L).map (·.2))
theorem levF_ok (L : List Lk) : Lev L (levF L) := ⟨sdI_lt _, fun x => by
  unfold levF
  rw [mem_sdI, List.mem_append, List.mem_map, List.mem_map]
  constructor
  · rintro (⟨e, he, rfl⟩ | ⟨e, he, rfl⟩)
    · exact ⟨e, he, .inl rfl⟩
    · exact ⟨e, he, .inr rfl⟩
  · rintro ⟨e, he, rfl | rfl⟩
    · exact .inl ⟨e, he, rfl⟩
    · exact .inr ⟨e, he, rfl⟩⟩
theorem zip_pairs : ∀ M : List Int, List.zipWith (fun x y => (.tuple [x, y] : D)) (M.map .int) ((M.map .int).drop 1) = (pairsL M).map fun p => .tuple [.int p.1, .int p.2]
  | [] => rfl
  | [x] => rfl
  | x :: y :: r => by
    have := zip_pairs (y :: r)
    simp only [List.map_cons, List.drop_succ_cons, List.drop_zero, List.zipWith_cons_cons, pairsL] at this ⊢
    rw [this]
theorem pairs_len : ∀ M : List Int, (pairsL M).length ≤ M.length
  | [] => by simp [pairsL]
  | [x] => by simp [pairsL]
  | x :: y :: r => by
    have := pairs_len (y :: r)
    simp only [pairsL, List.length_cons] at this ⊢
    omega
def cEnv (L : List Lk) (M : List Int) (P : List (Int × Int)) (s4 s5 : Dl.Slot) : DEnv := [.fz (likesD L), .ow (.lst ((hgtF L).map rowE)), .fz (.list (M.map .int)), .ow (.lst (P.map fun p => cntD (lotF L p, p.2 - p.1))), s4, s5, .no, .no, .no, .no, .no]
theorem r_counts {L : List Lk} (hL : L.Pairwise ltP) (hl : L.length ≤ 60) : F_counts_of [.fz (likesD L)] = .ok (.fz (countsD (cntF L (levF L)))) [.fz (likesD L)] := by
  have hz := zip_enc (hgtF L) []
  rw [hgtF_keys, List.append_nil] at hz
  have hsq : seqOf (likesD L) = some (true, L.map lkD) := rfl
  have hgl : (hgtF L).length = L.length := by rw [← List.length_map (·.1), hgtF_keys]
  have hc1 := fun gd hg => lcGo_encM (gd := gd) (vl := [6, 7]) (tg := (tgT 2 (tgCons (tgN 6) (tgCons (tgN 7) tgNil)))) (c := tYesD) (f := (eB [(.t, (e2 (.n 7) (.t) (eN 7) (e2 (.n 6) (.t) (eN 6) (eC (.int 2)) (g2 ixOp)) (g2 subOp))), (.t, (eX 7)), (.t, (eX 6))] tupG)) (ρ := [.fz (likesD L), .no, .no, .no, .no, .no, .no, .no, .no, .no, .no]) hg (E := hgtF L) (enc := fun e => .tuple [lkD e.1, .int e.2]) (g := rowE) (fun e he => by
    simp [lcStep, eX_fz, tupG, allFz, rowE, stt])
  have hrows : (PyData.list ((hgtF L).map rowE)) = .list ((hgtF L).map rowE) := rfl
  have hc2 := lcGo_encM (gd := gdOf (.n 1) (.list ((hgtF L).map rowE))) (vl := [8]) (tg := tgN 8) (c := tYesD) (f := (e2 (.n 8) (.t) (eN 8) (eC (.int 0)) (g2 ixOp))) (ρ := [.fz (likesD L), .ow (.lst ((hgtF L).map rowE)), .no, .no, .no, .no, .no, .no, .no, .no, .no]) (by simp) (E := hgtF L) (enc := rowE) (g := fun e => .int (stt e)) (fun e he => by
    have hx : ixOp (rowE e) (.int 0) = some (.fz (.int (stt e))) := rfl
    simp [lcStep, hx])
  have hc3 := lcGo_encM (gd := gdOf (.n 1) (.list ((hgtF L).map rowE))) (vl := [8]) (tg := tgN 8) (c := tYesD) (f := (e2 (.n 8) (.t) (eN 8) (eC (.int 1)) (g2 ixOp))) (ρ := [.fz (likesD L), .ow (.lst ((hgtF L).map rowE)), .no, .no, .no, .no, .no, .no, .no, .no, .no]) (by simp) (E := hgtF L) (enc := rowE) (g := fun e => .int e.2) (fun e he => by
    have hx : ixOp (rowE e) (.int 1) = some (.fz (.int e.2)) := rfl
    simp [lcStep, hx])
  have hadd := addOp_list (x := (hgtF L).map fun e => PyData.int (stt e)) (y := (hgtF L).map fun e => PyData.int e.2) (small_line (by simp; omega))
  have hcat : ((hgtF L).map fun e => PyData.int (stt e)) ++ ((hgtF L).map fun e => PyData.int e.2) = ((hgtF L).map stt ++ (hgtF L).map (·.2)).map .int := by rw [List.map_append, List.map_map, List.map_map]; rfl
  rw [hcat] at hadd
  have hss : ssOp (.list (((hgtF L).map stt ++ (hgtF L).map (·.2)).map .int)) = some (.ow (.lst ((levF L).map .int))) := by
    unfold ssOp
    simp only [seqOf_list, asInts_map]
    rw [if_pos (by simp; omega)]
    rfl
  obtain ⟨ρ', e, s4, s5, rfl⟩ := forGo_enc (enc := fun (p : Int × Int) => PyData.tuple [.int p.1, .int p.2]) (gd := fun _ => True) (tg := (tgT 2 (tgCons (tgN 4) (tgCons (tgN 5) tgNil)))) (b := (sDrop (eApp 3 (eB [(.t, (eB [(.t, (eLc [9, 10, 6] (iSeq (.n 1) (eN 1)) (tgT 3 (tgCons (tgN 9) (tgCons (tgN 10) (tgCons (tgN 6) tgNil)))) (bAnd (bV .t (e2 (.n 9) (.n 4) (eN 9) (eN 4) (g2 leOp))) (bV .t (e2 (.n 5) (.n 10) (eN 5) (eN 10) (g2 leOp)))) (eX 6)))] (gN1 tupleOp))), (.t, (e2 (.n 5) (.n 4) (eN 5) (eN 4) (g2 subOp)))] tupG))))
    (I := fun P ρ => ∃ s4 s5, ρ = cEnv L (levF L) P s4 s5) (fun _ _ _ => trivial) (Q := pairsL (levF L)) (P := []) (ρ := cEnv L (levF L) [] .no .no) (fun P x Q ρ el i => by
      obtain ⟨s4, s5, rfl⟩ := i
      have hPl : P.length + 1 ≤ 1000 := by
        have h1 := congrArg List.length el
        have h2 := pairs_len (levF L)
        have h3 : (levF L).length ≤ 120 := by
          have hd : ∀ ns : List Int, (dd ns).length ≤ ns.length := fun ns => by
            induction ns with
            | nil => simp [dd]
            | cons a ns ih => unfold dd; split <;> simp <;> omega
          unfold levF sdI
          rw [List.length_mergeSort]
          have := hd ((hgtF L).map stt ++ (hgtF L).map (·.2))
          simp at this
          omega
        simp at h1
        omega
      have hsm : small P.length = true := by simp [small]; omega
      obtain ⟨lo, hi⟩ := x
      have hc4 := lcGo_enc (gd := gdOf (.n 1) (.list ((hgtF L).map rowE))) (vl := [9, 10, 6]) (tg := (tgT 3 (tgCons (tgN 9) (tgCons (tgN 10) (tgCons (tgN 6) tgNil))))) (c := (bAnd (bV .t (e2 (.n 9) (.n 4) (eN 9) (eN 4) (g2 leOp))) (bV .t (e2 (.n 5) (.n 10) (eN 5) (eN 10) (g2 leOp))))) (f := eX 6) (ρ := [.fz (likesD L), .ow (.lst ((hgtF L).map rowE)), .fz (.list ((levF L).map .int)), .ow (.lst (P.map fun p => cntD (lotF L p, p.2 - p.1))), .fz (.int lo), .fz (.int hi), .no, .no, .no, .no, .no]) (E := hgtF L) (enc := fun e => .tuple [.int (stt e), .int e.2, lkD e.1]) (p := fun e => decide (stt e ≤ lo) && decide (hi ≤ e.2)) (g := fun e => lkD e.1) (by simp) (fun e he => by
        by_cases h1 : stt e ≤ lo <;> by_cases h2 : hi ≤ e.2 <;> simp [lcStep, eX_fz, h1, h2])
      have hE : (hgtF L).map (fun e => (PyData.tuple [.int (stt e), .int e.2, lkD e.1] : D)) = (hgtF L).map rowE := rfl
      rw [hE] at hc4
      have hout : ((hgtF L).filter fun e => decide (stt e ≤ lo) && decide (hi ≤ e.2)).map (fun e => lkD e.1) = (lotF L (lo, hi)).map lkD := by unfold lotF; rw [List.map_map]; rfl
      rw [hout] at hc4
      refine ⟨[.fz (likesD L), .ow (.lst ((hgtF L).map rowE)), .fz (.list ((levF L).map .int)), .ow (.lst (P.map fun p => cntD (lotF L p, p.2 - p.1))), .fz (.int lo), .fz (.int hi), .no, .no, .no, .no, .no], cEnv L (levF L) (P ++ [(lo, hi)]) (.fz (.int lo)) (.fz (.int hi)), by unfold cEnv; simp, .inl ?_, _, _, rfl⟩
      unfold cEnv
      rw [List.map_append]
      have hcd : (PyData.tuple [.tuple ((lotF L (lo, hi)).map lkD), .int (hi - lo)]) = cntD (lotF L (lo, hi), hi - lo) := rfl
      simp [hc4, tupG, allFz, eApp, ownL, hsm, hcd, -List.map_append]) ⟨_, _, rfl⟩
  rw [List.nil_append] at e
  have hzp := zip_pairs (levF L)
  have hcd := cut_tail ((levF L).map PyData.int)
  rw [show cEnv L (levF L) [] .no .no = [.fz (likesD L), .ow (.lst ((hgtF L).map rowE)), .fz (.list ((levF L).map .int)), .ow (.lst []), .no, .no, .no, .no, .no, .no, .no] from rfl] at e
  have hfin : (pairsL (levF L)).map (fun p => cntD (lotF L p, p.2 - p.1)) = (cntF L (levF L)).map cntD := by unfold cntF; rw [List.map_map]; rfl
  simp [F_counts_of, b_counts_of, iZp_eq, eX_fz, eX_l, r_heights (L := L) (by omega), hsq, hz, hc1, hc2, hc3, hadd, hss, lstG, allFz, pS_eq, slOp_list, hcd, hzp, e, cEnv, hfin, countsD, -List.map_map, -List.drop_one, -List.map_append]
end K66
end
section
namespace K66
open PySem L2 Dl DlS DlZ DlR
/-! the judges, at any value -/
mutual
theorem lay_up : ∀ (n : Nat) (d : D), lay n d = true → lay (n + 1) d = true
  | n, .none, _ => by cases n <;> rfl
  | n, .bool _, _ => by cases n <;> rfl
  | n, .int _, _ => by cases n <;> rfl
  | n, .str _, _ => by cases n <;> rfl
  | 0, .list _, h => by simp [lay] at h
  | 0, .tuple _, h => by simp [lay] at h
  | n + 1, .list xs, h => by rw [lay] at h ⊢; exact layL_up n xs h
  | n + 1, .tuple xs, h => by rw [lay] at h ⊢; exact layL_up n xs h
  | n, .dict _, h => by cases n <;> simp [lay] at h
theorem layL_up : ∀ (n : Nat) (ds : List D), layL n ds = true → layL (n + 1) ds = true
  | n, [], _ => by cases n <;> rfl
  | n, d :: ds, h => by
    rw [layL, Bool.and_eq_true] at h ⊢
    exact ⟨lay_up n d h.1, layL_up n ds h.2⟩
end
theorem lay_le {n m : Nat} {d : D} (h : lay n d = true) (hm : n ≤ m) : lay m d = true := by
  induction m with
  | zero => obtain rfl : n = 0 := by omega
            exact h
  | succ m ih =>
    by_cases e : n = m + 1
    · subst e; exact h
    · exact lay_up m d (ih (by omega))
theorem layL_iff {n : Nat} {ds : List D} : layL n ds = true ↔ ∀ d ∈ ds, lay n d = true := by
  induction ds with
  | nil => cases n <;> simp [layL]
  | cons d ds ih => simp [layL, ih]
theorem lay_tup {n : Nat} {ds : List D} : lay (n + 1) (.tuple ds) = true ↔ ∀ d ∈ ds, lay n d = true := by rw [lay, layL_iff]
theorem eqv_any (c : List Lk) (x : Lk) : (c.map lkD).any (fun y => PyData.eqv y (lkD x)) = decide (x ∈ c) := by
  induction c with
  | nil => simp
  | cons a c ih =>
    rw [List.map_cons, List.any_cons, ih, eqv_lk]
    by_cases h : a = x
    · simp [h]
    · have h2 : ¬ x = a := fun z => h z.symm
      simp [h, h2]
theorem in_lk (neg : Bool) (c : List Lk) (x : Lk) : inOpD neg (lkD x) (.tuple (c.map lkD)) = some (.fz (.bool (neg != decide (x ∈ c)))) := by
  show (if lay 60 (lkD x) && layL 60 (c.map lkD) then _ else _) = _
  rw [lay_lk, layL_lk, eqv_any]
  rfl
def isI : D → Bool
  | .int _ => true
  | _ => false
theorem r_isint {n : Nat} {d : D} (h : lay n d = true) : F_is_integer [.fz d] = .ok (.fz (.bool (isI d))) [.fz d] := by
  cases d with
  | dict _ => cases n <;> simp [lay] at h
  | _ => simp [F_is_integer, b_is_integer, isI, isTy, tyName, tyKnown, tyB]
def oneB (L : List Lk) (d : D) : Bool := match d with
  | .tuple ds => ds.all isI && (L.map lkD).any (fun y => PyData.eqv y (.tuple ds))
  | _ => false
theorem all_map {α : Type} (E : List α) (f : α → Bool) : allOp (.list (E.map fun e => .bool (f e))) = some (.fz (.bool (E.all f))) := by
  have := allOp_bools (E.map f)
  rw [List.map_map] at this
  rw [show (E.map fun e => PyData.bool (f e)) = E.map (PyData.bool ∘ f) from rfl, this, List.all_map]
  rfl
theorem any_map {α : Type} (E : List α) (f : α → Bool) : anyOp (.list (E.map fun e => .bool (f e))) = some (.fz (.bool (E.any f))) := by
  have := anyOp_bools (E.map f)
  rw [List.map_map] at this
  rw [show (E.map fun e => PyData.bool (f e)) = E.map (PyData.bool ∘ f) from rfl, this, List.any_map]
  rfl
theorem in_any {L : List Lk} {n : Nat} {d : D} (h : lay n d = true) (hn : n ≤ 60) : inOpD false d (likesD L) = some (.fz (.bool ((L.map lkD).any (fun y => PyData.eqv y d)))) := by
  show (if lay 60 d && layL 60 (L.map lkD) then _ else _) = _
  rw [lay_le h hn, layL_lk]
  simp
theorem r_one {L : List Lk} {n : Nat} {d : D} (h : lay n d = true) (hn : n ≤ 60) : F_is_one_of [.fz (likesD L), .fz d] = .ok (.fz (.bool (oneB L d))) [.fz (likesD L), .fz d] := by
  cases d with
  | dict _ => cases n <;> simp [lay] at h
  | tuple ds =>
    cases n with
    | zero => simp [lay] at h
    | succ n =>
      have hc := lcGo_encM (gd := gdOf (.n 1) (.tuple ds)) (vl := [2]) (tg := tgN 2) (c := tYesD) (f := eCall [(.t, (eX 2))] F_is_integer) (ρ := [.fz (likesD L), .fz (.tuple ds), .no]) (by simp) (E := ds) (enc := fun d => d) (g := fun d => .bool (isI d)) (fun d hd => by
        simp [lcStep, eX_fz, r_isint (lay_tup.mp h d hd)])
      rw [List.map_id'] at hc
      have hit : itemsOf (.tuple ds) = some ds := rfl
      have hty : isTy "tuple" (.tuple ds) = some true := rfl
      by_cases ha : ds.all isI = true
      · simp [F_is_one_of, b_is_one_of, hty, hit, hc, all_map, ha, in_any h hn, oneB, -List.any_map]
      · simp only [Bool.not_eq_true] at ha
        simp [F_is_one_of, b_is_one_of, hty, hit, hc, all_map, ha, oneB]
  | _ => simp [F_is_one_of, b_is_one_of, isTy, tyName, tyKnown, tyB, oneB]
theorem r_lone {L : List Lk} {n : Nat} {d : D} (h : lay n d = true) (hn : n ≤ 60) : F__law_is_like [.fz (likesD L), .fz d] = .ok (.fz (.bool (oneB L d))) [.fz (likesD L), .fz d] := by
  cases d with
  | dict _ => cases n <;> simp [lay] at h
  | tuple ds =>
    cases n with
    | zero => simp [lay] at h
    | succ n =>
      have hc := lcGo_encM (gd := gdOf (.n 1) (.tuple ds)) (vl := [2]) (tg := tgN 2) (c := tYesD) (f := (eAnd (.t) (eIsi (.n 2) (eN 2) "int") (eNot (.t) (eIsi (.n 2) (eN 2) "bool")))) (ρ := [.fz (likesD L), .fz (.tuple ds), .no]) (by simp) (E := ds) (enc := fun d => d) (g := fun d => .bool (isI d)) (fun d hd => by
        have hd' := lay_tup.mp h d hd
        cases d with
        | dict _ => cases n <;> simp [lay] at hd'
        | _ => simp [lcStep, isI, isTy, tyName, tyKnown, tyB])
      rw [List.map_id'] at hc
      have hit : itemsOf (.tuple ds) = some ds := rfl
      have hty : isTy "tuple" (.tuple ds) = some true := rfl
      by_cases ha : ds.all isI = true
      · simp [F__law_is_like, b__law_is_like, hty, hit, hc, all_map, ha, in_any h hn, oneB, -List.any_map]
      · simp only [Bool.not_eq_true] at ha
        simp [F__law_is_like, b__law_is_like, hty, hit, hc, all_map, ha, oneB]
  | _ => simp [F__law_is_like, b__law_is_like, isTy, tyName, tyKnown, tyB, oneB]
theorem one_lk {L : List Lk} {l : Lk} (h : l ∈ L) : oneB L (lkD l) = true := by
  have := eqv_any L l
  show (true && (L.map lkD).any fun y => PyData.eqv y (lkD l)) = true
  rw [this]
  simpa using h
theorem isI_int {d : D} (h : isI d = true) : ∃ i, d = .int i := by cases d <;> first | exact ⟨_, rfl⟩ | cases h
theorem eqv_short (l : Lk) (ds : List D) (h : ds.length ≠ 3) : PyData.eqv (lkD l) (.tuple ds) = false := by
  show PyData.eqvAll [.int l.1, .int l.2.1, .int l.2.2] ds = false
  match ds, h with
  | [], _ => rfl
  | [a], _ => show (_ && (PyData.eqvAll [_, _] [])) = false
              rw [show PyData.eqvAll [PyData.int l.2.1, .int l.2.2] [] = false from rfl, Bool.and_false]
  | [a, b], _ => show (_ && (_ && (PyData.eqvAll [_] []))) = false
                 rw [show PyData.eqvAll [PyData.int l.2.2] [] = false from rfl, Bool.and_false, Bool.and_false]
  | [a, b, c], h => exact absurd rfl h
  | a :: b :: c :: e :: r, _ => show (_ && (_ && (_ && (PyData.eqvAll [] _)))) = false
                                rw [show PyData.eqvAll [] (e :: r) = false from rfl, Bool.and_false, Bool.and_false, Bool.and_false]
theorem one_true {L : List Lk} {d : D} (h : oneB L d = true) : ∃ l ∈ L, d = lkD l := by
  unfold oneB at h
  split at h
  · rename_i ds
    rw [Bool.and_eq_true, List.all_eq_true, List.any_eq_true] at h
    obtain ⟨h1, y, hy, he⟩ := h
    obtain ⟨l, hl, rfl⟩ := List.mem_map.mp hy
    refine ⟨l, hl, ?_⟩
    have hl3 : ds.length = 3 := Decidable.byContradiction fun z => by rw [eqv_short l ds z] at he; cases he
    match ds, h1, he, hl3 with
    | [a, b, c], h1, he, _ =>
      obtain ⟨a, rfl⟩ := isI_int (h1 a (by simp))
      obtain ⟨b, rfl⟩ := isI_int (h1 b (by simp))
      obtain ⟨c, rfl⟩ := isI_int (h1 c (by simp))
      have := eqv_lk l (a, b, c)
      rw [show lkD (a, b, c) = PyData.tuple [.int a, .int b, .int c] from rfl, he] at this
      have e := of_decide_eq_true this.symm
      rw [e]
      rfl
  · cases h
theorem ones_true {L : List Lk} : ∀ {ds : List D}, ds.all (oneB L) = true → ∃ M : List Lk, ds = M.map lkD ∧ ∀ l ∈ M, l ∈ L
  | [], _ => ⟨[], rfl, by simp⟩
  | d :: ds, h => by
    rw [List.all_cons, Bool.and_eq_true] at h
    obtain ⟨l, hl, rfl⟩ := one_true h.1
    obtain ⟨M, rfl, hM⟩ := ones_true h.2
    exact ⟨l :: M, rfl, fun x hx => by
      rcases List.mem_cons.mp hx with rfl | hx
      · exact hl
      · exact hM x hx⟩
theorem zip_lk (A B : List Lk) : List.zipWith (fun x y => (.tuple [x, y] : D)) (A.map lkD) (B.map lkD) = (A.zip B).map fun e => .tuple [lkD e.1, lkD e.2] := by
  induction A generalizing B with
  | nil => rfl
  | cons a A ih =>
    cases B with
    | nil => rfl
    | cons b B => simp only [List.map_cons, List.zipWith_cons_cons, List.zip_cons_cons, ih]
theorem row_seq (c : List Lk) : seqOf (.tuple (c.map lkD)) = some (true, c.map lkD) := rfl
theorem slOp_row (c : List Lk) : slOp (some 1) none (.tuple (c.map lkD)) = some (.fz (.tuple ((c.map lkD).drop 1))) := by
  have := cut_tail (c.map lkD)
  show some (Dl.Slot.fz (.tuple (cutD (c.map lkD) (some 1) none))) = _
  rw [this]
/-- two behind one another -/
abbrev pairsK (M : List Lk) : List (Lk × Lk) := M.zip (M.drop 1)
theorem r_mat {L : List Lk} {n : Nat} {v : D} (h : lay n v = true) (hn : n ≤ 60) : ∃ b : Bool, F_is_match [.fz (likesD L), .fz v] = .ok (.fz (.bool b)) [.fz (likesD L), .fz v] ∧ F__law_is_match [.fz (likesD L), .fz v] = .ok (.fz (.bool b)) [.fz (likesD L), .fz v] ∧
    (b = true → ∃ M : List Lk, v = rowD M ∧ ∀ l ∈ M, l ∈ L) := by
  cases v with
  | dict _ => cases n <;> simp [lay] at h
  | tuple ds =>
    cases n with
    | zero => simp [lay] at h
    | succ n =>
      have hc1 := lcGo_encM (gd := gdOf (.n 1) (.tuple ds)) (vl := [4]) (tg := tgN 4) (c := tYesD) (f := eCall [(.t, (eX 0)), (.t, (eX 4))] F_is_one_of) (ρ := [.fz (likesD L), .fz (.tuple ds), .no, .no, .no]) (by simp) (E := ds) (enc := fun d => d) (g := fun d => .bool (oneB L d)) (fun e he => by simp [lcStep, eX_fz, r_one (L := L) (lay_tup.mp h e he) (by omega)])
      have hc2 := lcGo_encM (gd := gdOf (.n 1) (.tuple ds)) (vl := [2]) (tg := tgN 2) (c := tYesD) (f := eCall [(.t, (eX 0)), (.t, (eX 2))] F__law_is_like) (ρ := [.fz (likesD L), .fz (.tuple ds), .no, .no]) (by simp) (E := ds) (enc := fun d => d) (g := fun d => .bool (oneB L d)) (fun e he => by simp [lcStep, eX_fz, r_lone (L := L) (lay_tup.mp h e he) (by omega)])
      rw [List.map_id'] at hc1 hc2
      have hit : itemsOf (.tuple ds) = some ds := rfl
      have hty : isTy "tuple" (.tuple ds) = some true := rfl
      by_cases ha : ds.all (oneB L) = true
      · obtain ⟨M, rfl, hM⟩ := ones_true ha
        refine ⟨(pairsK M).all fun e => decide (bh e.1 e.2), ?_, ?_, fun _ => ⟨M, rfl, hM⟩⟩
        · have hc3 := fun gd hg => lcGo_encM (gd := gd) (vl := [2, 3]) (tg := (tgT 2 (tgCons (tgN 2) (tgCons (tgN 3) tgNil)))) (c := tYesD) (f := (eCall [(.t, (eX 2)), (.t, (eX 3))] F_is_behind)) (ρ := [.fz (likesD L), .fz (.tuple (M.map lkD)), .no, .no, .no]) hg (E := pairsK M) (enc := fun e => .tuple [lkD e.1, lkD e.2]) (g := fun e => .bool (decide (bh e.1 e.2))) (fun e he => by
            simp [lcStep, eX_fz, r_is_behind])
          rw [← zip_lk, List.map_drop] at hc3
          simp [F_is_match, b_is_match, hty, hit, hc1, all_map, ha, iZp_eq, pS_eq, slOp_row, row_seq, seqOf, hc3, -List.drop_one, -List.map_drop, -List.map_map]
        · have hc3 := fun gd hg => lcGo_encM (gd := gd) (vl := [2, 3]) (tg := (tgT 2 (tgCons (tgN 2) (tgCons (tgN 3) tgNil)))) (c := tYesD) (f := (eAnd (.t) (e2 (.t) (.t) (e2 (.n 2) (.t) (eN 2) (eC (.int 0)) (g2 ixOp)) (e2 (.n 3) (.t) (eN 3) (eC (.int 0)) (g2 ixOp)) (g2 ltOp)) (e2 (.t) (.t) (e2 (.n 2) (.t) (eN 2) (eC (.int 1)) (g2 ixOp)) (e2 (.n 3) (.t) (eN 3) (eC (.int 1)) (g2 ixOp)) (g2 ltOp)))) (ρ := [.fz (likesD L), .fz (.tuple (M.map lkD)), .no, .no]) hg (E := pairsK M) (enc := fun e => .tuple [lkD e.1, lkD e.2]) (g := fun e => .bool (decide (bh e.1 e.2))) (fun e he => by
            unfold bh
            by_cases h1 : e.1.1 < e.2.1 <;> simp [lcStep, h1])
          rw [← zip_lk, List.map_drop] at hc3
          simp [F__law_is_match, b__law_is_match, hty, hit, hc2, all_map, ha, iZp_eq, pS_eq, slOp_row, row_seq, seqOf, hc3, -List.drop_one, -List.map_drop, -List.map_map]
      · simp only [Bool.not_eq_true] at ha
        exact ⟨false, by simp [F_is_match, b_is_match, hty, hit, hc1, all_map, ha], by simp [F__law_is_match, b__law_is_match, hty, hit, hc2, all_map, ha], fun z => by cases z⟩
  | _ => exact ⟨false, by simp [F_is_match, b_is_match, isTy, tyName, tyKnown, tyB], by simp [F__law_is_match, b__law_is_match, isTy, tyName, tyKnown, tyB], fun z => by cases z⟩
end K66
end
section
namespace K66
open PySem L2 Dl DlS DlZ DlR
theorem ltOp_lkB (a b : Lk) : ltOp (lkD a) (lkD b) = some (.fz (.bool (decide (lt3 a b)))) := by
  show (if ordOk _ _ then _ else _) = _
  rw [if_pos (by rfl), dataLt_lk]
theorem r_asc (S : List Lk) : F_is_ascending [.fz (likesD S)] = .ok (.fz (.bool ((pairsK S).all fun e => decide (lt3 e.1 e.2)))) [.fz (likesD S)] := by
  have hc2 := fun gd hg => lcGo_encM (gd := gd) (vl := [1, 2]) (tg := (tgT 2 (tgCons (tgN 1) (tgCons (tgN 2) tgNil)))) (c := tYesD) (f := e2 (.n 1) (.n 2) (eN 1) (eN 2) (g2 ltOp)) (ρ := [.fz (likesD S), .no, .no]) hg (E := pairsK S) (enc := fun e => .tuple [lkD e.1, lkD e.2]) (g := fun e => .bool (decide (lt3 e.1 e.2))) (fun e he => by
    simp [lcStep, ltOp_lkB])
  rw [← zip_lk, List.map_drop] at hc2
  have hs : slOp (some 1) none (likesD S) = some (.fz (.tuple ((S.map lkD).drop 1))) := slOp_row S
  have hq : seqOf (likesD S) = some (true, S.map lkD) := rfl
  simp [F_is_ascending, b_is_ascending, iZp_eq, pS_eq, hs, hq, hc2, all_map, -List.drop_one, -List.map_drop, -List.map_map]
theorem r_do_agree (a b : Lk) : F_do_agree [.fz (lkD a), .fz (lkD b)] = .ok (.fz (.bool (agB a b))) [.fz (lkD a), .fz (lkD b)] := by
  have h : agB a b = (decide (bh a b) || decide (bh b a)) := by
    unfold agB bh
    by_cases h1 : a.1 < b.1 <;> by_cases h2 : a.2.1 < b.2.1 <;> by_cases h3 : b.1 < a.1 <;> by_cases h4 : b.2.1 < a.2.1 <;> simp [h1, h2, h3, h4]
  rw [h]
  by_cases h1 : bh a b <;> simp [F_do_agree, b_do_agree, eX_fz, r_is_behind, h1]
theorem tup_ne {ds : List D} {n : Nat} (h : lay n (.tuple ds) = true) (hn : n ≤ 60) : eqOp (.tuple ds) (.tuple []) = some (.fz (.bool ds.isEmpty)) := by
  rw [eqOp_lay (lay_le h hn) (by rfl)]
  cases ds with
  | nil => rfl
  | cons d ds => rfl
theorem r_cnt2 {L : List Lk} {n : Nat} {ds : List D} {m : Int} (h : ∀ d ∈ ds, lay n d = true) (hn : n + 1 ≤ 60) (hne : ds ≠ []) (hm : 1 ≤ m) : ∃ b : Bool, F_is_count [.fz (likesD L), .fz (.tuple [.tuple ds, .int m])] = .ok (.fz (.bool b)) [.fz (likesD L), .fz (.tuple [.tuple ds, .int m])] ∧ F__law_is_count [.fz (likesD L), .fz (.tuple [.tuple ds, .int m])] = .ok (.fz (.bool b)) [.fz (likesD L), .fz (.tuple [.tuple ds, .int m])] ∧
    (b = true → ∃ c : List Lk × Int, .tuple [.tuple ds, .int m] = cntD c) := by
  obtain ⟨v, hv⟩ : ∃ v : D, v = .tuple [.tuple ds, .int m] := ⟨_, rfl⟩
  have hx0 : ixOp v (.int 0) = some (.fz (.tuple ds)) := by rw [hv]; rfl
  have hx1 : ixOp v (.int 1) = some (.fz (.int m)) := by rw [hv]; rfl
  have hty : isTy "tuple" v = some true := by rw [hv]; rfl
  have htd : isTy "tuple" (.tuple ds) = some true := rfl
  have hlen : lenOp v = some (.fz (.int 2)) := by rw [hv]; rfl
  have hm' : ¬ m < 1 := by omega
  have hlds : lay (n + 1) (.tuple ds) = true := lay_tup.mpr h
  have hee : eqOp (.tuple ds) (.tuple []) = some (.fz (.bool false)) := by
    rw [tup_ne hlds hn]
    cases ds with
    | nil => exact absurd rfl hne
    | cons d ds => rfl
  have hint : F_is_integer [.fz (.int m)] = .ok (.fz (.bool true)) [.fz (.int m)] := r_is_integer m
  have hti : isTy "int" (.int m) = some true := rfl
  have htb : isTy "bool" (.int m) = some false := rfl
  have hit : itemsOf (.tuple ds) = some ds := rfl
  have hc1 := lcGo_encM (gd := gdOf (.n 2) (.tuple ds)) (vl := [3]) (tg := tgN 3) (c := tYesD) (f := eCall [(.t, (eX 0)), (.t, (eX 3))] F_is_one_of) (ρ := [.fz (likesD L), .fz v, .fz (.tuple ds), .no, .no, .no]) (by simp) (E := ds) (enc := fun d => d) (g := fun d => .bool (oneB L d)) (fun e he => by simp [lcStep, eX_fz, r_one (L := L) (h e he) (by omega)])
  have hd1 := lcGo_encM (gd := gdOf (.n 2) (.tuple ds)) (vl := [4]) (tg := tgN 4) (c := tYesD) (f := eCall [(.t, (eX 0)), (.t, (eX 4))] F__law_is_like) (ρ := [.fz (likesD L), .fz v, .fz (.tuple ds), .fz (.int m), .no, .no, .no]) (by simp) (E := ds) (enc := fun d => d) (g := fun d => .bool (oneB L d)) (fun e he => by simp [lcStep, eX_fz, r_lone (L := L) (h e he) (by omega)])
  rw [List.map_id'] at hc1 hd1
  have hun : ∀ ρ : DEnv, ρ.length = 7 → ρ[1]? = some (.fz v) → sAsg (tgT 2 (tgCons (tgN 2) (tgCons (tgN 3) tgNil))) (eX 1) ρ = .nx ((ρ.set 2 (.fz (.tuple ds))).set 3 (.fz (.int m))) := fun ρ hl h1 => by
    match ρ, hl, h1 with
    | [a, b, c, d, e, f, g], _, h1 =>
      obtain rfl : b = .fz v := by simpa using h1
      simp [sAsg, eX_fz, hv]
  by_cases ha : ds.all (oneB L) = true
  · obtain ⟨S, rfl, hS⟩ := ones_true ha
    refine ⟨((pairsK S).all fun e => decide (lt3 e.1 e.2)) && !(S.any fun a => S.any (agB a)), ?_, ?_, fun _ => ⟨(S, m), rfl⟩⟩
    · have hin : ∀ a ∈ S, lcGo (gdOf (.n 2) (.tuple (S.map lkD))) [5] (tgN 5) tYesD (eCall [(.t, (eX 4)), (.t, (eX 5))] F_do_agree) (S.map lkD) [.fz (likesD L), .fz v, .fz (.tuple (S.map lkD)), .no, .fz (lkD a), .no] = .ok (S.map fun e => .bool (agB a e)) [.fz (likesD L), .fz v, .fz (.tuple (S.map lkD)), .no, .fz (lkD a), .no] := fun a ha => by
        rw [lcGo_encM (E := S) (enc := lkD) (g := fun e => .bool (agB a e)) (by simp) (fun e he => by simp [lcStep, eX_fz, r_do_agree])]
      have hc2 := lcGo_encM (gd := gdOf (.n 2) (.tuple (S.map lkD))) (vl := [4]) (tg := tgN 4) (c := tYesD) (f := (eB [(.t, (eLc [5] (iSeq (.n 2) (eN 2)) (tgN 5) tYesD (eCall [(.t, (eX 4)), (.t, (eX 5))] F_do_agree)))] (gN1 anyOp))) (ρ := [.fz (likesD L), .fz v, .fz (.tuple (S.map lkD)), .no, .no, .no]) (by simp) (E := S) (enc := lkD) (g := fun a => .bool (S.any (agB a))) (fun a ha => by
        simp [lcStep, hit, hin a ha, any_map])
      have hasc := r_asc S
      rw [show likesD S = .tuple (S.map lkD) from rfl] at hasc
      rw [← hv]
      by_cases hq : ((pairsK S).all fun e => decide (lt3 e.1 e.2)) = true
      · rw [hq] at hasc ⊢
        simp [F_is_count, b_is_count, hty, hlen, hx0, hx1, hint, hm', tupG, allFz, htd, hee, hit, hc1, all_map, ha, hasc, hc2, any_map, eX_fz, -List.map_map]
      · simp only [Bool.not_eq_true] at hq
        rw [hq] at hasc ⊢
        simp [F_is_count, b_is_count, hty, hlen, hx0, hx1, hint, hm', tupG, allFz, htd, hee, hit, hc1, all_map, ha, hasc, hc2, any_map, eX_fz, -List.map_map]
    · have hin : ∀ a ∈ S, lcGo (gdOf (.n 2) (.tuple (S.map lkD))) [6] (tgN 6) tYesD (eCall [(.t, (eX 4)), (.t, (eX 6))] F__law_agree) (S.map lkD) [.fz (likesD L), .fz v, .fz (.tuple (S.map lkD)), .fz (.int m), .fz (lkD a), .no, .no] = .ok (S.map fun e => .bool (agB a e)) [.fz (likesD L), .fz v, .fz (.tuple (S.map lkD)), .fz (.int m), .fz (lkD a), .no, .no] := fun a ha => by
        rw [lcGo_encM (E := S) (enc := lkD) (g := fun e => .bool (agB a e)) (by simp) (fun e he => by simp [lcStep, eX_fz, r_agree])]
      have hc2 := lcGo_encM (gd := gdOf (.n 2) (.tuple (S.map lkD))) (vl := [4]) (tg := tgN 4) (c := tYesD) (f := (eB [(.t, (eLc [6] (iSeq (.n 2) (eN 2)) (tgN 6) tYesD (eCall [(.t, (eX 4)), (.t, (eX 6))] F__law_agree)))] (gN1 anyOp))) (ρ := [.fz (likesD L), .fz v, .fz (.tuple (S.map lkD)), .fz (.int m), .no, .no, .no]) (by simp) (E := S) (enc := lkD) (g := fun a => .bool (S.any (agB a))) (fun a ha => by
        simp [lcStep, hit, hin a ha, any_map])
      have hc3 := fun gd hg => lcGo_encM (gd := gd) (vl := [4, 5]) (tg := (tgT 2 (tgCons (tgN 4) (tgCons (tgN 5) tgNil)))) (c := tYesD) (f := e2 (.n 4) (.n 5) (eN 4) (eN 5) (g2 ltOp)) (ρ := [.fz (likesD L), .fz v, .fz (.tuple (S.map lkD)), .fz (.int m), .no, .no, .no]) hg (E := pairsK S) (enc := fun e => .tuple [lkD e.1, lkD e.2]) (g := fun e => .bool (decide (lt3 e.1 e.2))) (fun e he => by
        simp [lcStep, ltOp_lkB])
      rw [← zip_lk, List.map_drop] at hc3
      rw [← hv]
      by_cases hq : ((pairsK S).all fun e => decide (lt3 e.1 e.2)) = true
      · have hq' := all_map (pairsK S) fun e => decide (lt3 e.1 e.2)
        rw [hq] at hq' ⊢
        simp [F__law_is_count, b__law_is_count, hty, hlen, hx0, hm', tupG, allFz, htd, hee, hun, hti, htb, hit, hd1, all_map, ha, iZp_eq, pS_eq, slOp_row, row_seq, seqOf, hc3, hq', hc2, any_map, -List.map_map, -List.drop_one, -List.map_drop]
      · simp only [Bool.not_eq_true] at hq
        have hq' := all_map (pairsK S) fun e => decide (lt3 e.1 e.2)
        rw [hq] at hq' ⊢
        simp [F__law_is_count, b__law_is_count, hty, hlen, hx0, hm', tupG, allFz, htd, hee, hun, hti, htb, hit, hd1, all_map, ha, iZp_eq, pS_eq, slOp_row, row_seq, seqOf, hc3, hq', hc2, any_map, -List.map_map, -List.drop_one, -List.map_drop]
  · simp only [Bool.not_eq_true] at ha
    rw [← hv]
    refine ⟨false, ?_, ?_, fun z => by cases z⟩
    · simp [F_is_count, b_is_count, hty, hlen, hx0, hx1, hint, hm', tupG, allFz, htd, hee, hit, hc1, all_map, ha]
    · simp [F__law_is_count, b__law_is_count, hty, hlen, hx0, hm', tupG, allFz, htd, hee, hun, hti, htb, hit, hd1, all_map, ha]
end K66
end
section
namespace K66
open PySem L2 Dl DlS DlZ DlR
def isT : D → Bool
  | .tuple _ => true
  | _ => false
theorem isTy_tup {n : Nat} {d : D} (h : lay n d = true) : isTy "tuple" d = some (isT d) := by
  cases d with
  | dict _ => cases n <;> simp [lay] at h
  | _ => rfl
theorem isT_tup {d : D} (h : isT d = true) : ∃ ds, d = .tuple ds := by cases d <;> first | exact ⟨_, rfl⟩ | cases h
theorem unp2 {x y : D} {i j k : Nat} {ρ : DEnv} (h : ρ[k]? = some (.fz (.tuple [x, y]))) : sAsg (tgT 2 (tgCons (tgN i) (tgCons (tgN j) tgNil))) (eX k) ρ = .nx (((ρ.set k (.fz (.tuple [x, y]))).set i (.fz x)).set j (.fz y)) := by
  simp [sAsg, eX_fz h]
theorem r_cnt {L : List Lk} {n : Nat} {v : D} (h : lay n v = true) (hn : n ≤ 60) : ∃ b : Bool, F_is_count [.fz (likesD L), .fz v] = .ok (.fz (.bool b)) [.fz (likesD L), .fz v] ∧ F__law_is_count [.fz (likesD L), .fz v] = .ok (.fz (.bool b)) [.fz (likesD L), .fz v] ∧
    (b = true → ∃ c : List Lk × Int, v = cntD c) := by
  by_cases ht : isT v = true
  · obtain ⟨xs, rfl⟩ := isT_tup ht
    cases n with
    | zero => simp [lay] at h
    | succ n =>
      have hty : isTy "tuple" (.tuple xs) = some true := rfl
      by_cases hl : xs.length = 2
      · match xs, hl, h, hty with
        | [x, y], _, h, hty =>
          have hx := lay_tup.mp h x (by simp)
          have hy := lay_tup.mp h y (by simp)
          have hix := isTy_tup hx
          have hiy := r_isint hy
          have e0 : ixOp (.tuple [x, y]) (.int 0) = some (.fz x) := rfl
          have e1 : ixOp (.tuple [x, y]) (.int 1) = some (.fz y) := rfl
          have hlen : lenOp (.tuple [x, y]) = some (.fz (.int 2)) := rfl
          by_cases htx : isT x = true
          · obtain ⟨ds, rfl⟩ := isT_tup htx
            have hee := tup_ne hx (by omega)
            by_cases hi : isI y = true
            · obtain ⟨m, rfl⟩ := isI_int hi
              by_cases hm : 1 ≤ m
              · cases ds with
                | nil => exact ⟨false, by simp [F_is_count, b_is_count, hty, hlen, e0, e1, hiy, isI, show ¬ m < 1 by omega, tupG, allFz, hix, isT, hee, -lenOp_tuple], by simp [F__law_is_count, b__law_is_count, hty, hlen, e0, hix, isT, tupG, allFz, hee, -lenOp_tuple], fun z => by cases z⟩
                | cons d ds =>
                  cases n with
                  | zero => simp [lay] at hx
                  | succ n => exact r_cnt2 (lay_tup.mp hx) (by omega) (by simp) hm
              · have hm' : m < 1 := by omega
                have hti : isTy "int" (.int m) = some true := rfl
                have htb : isTy "bool" (.int m) = some false := rfl
                refine ⟨false, by simp [F_is_count, b_is_count, hty, hlen, e0, e1, hiy, isI, hm', -lenOp_tuple], ?_, fun z => by cases z⟩
                cases ds with
                | nil => simp [F__law_is_count, b__law_is_count, hty, hlen, e0, hix, isT, tupG, allFz, hee, -lenOp_tuple]
                | cons d ds =>
                  have hu := unp2 (x := .tuple (d :: ds)) (y := .int m) (i := 2) (j := 3) (k := 1) (ρ := [.fz (likesD L), .fz (.tuple [.tuple (d :: ds), .int m]), .no, .no, .no, .no, .no]) rfl
                  simp [F__law_is_count, b__law_is_count, hty, hlen, e0, hix, isT, tupG, allFz, hee, hu, hti, htb, hm', -lenOp_tuple]
            · simp only [Bool.not_eq_true] at hi
              refine ⟨false, by simp [F_is_count, b_is_count, hty, hlen, e0, e1, hiy, hi, -lenOp_tuple], ?_, fun z => by cases z⟩
              cases ds with
              | nil => simp [F__law_is_count, b__law_is_count, hty, hlen, e0, hix, isT, tupG, allFz, hee, -lenOp_tuple]
              | cons d ds =>
                have hu := unp2 (x := .tuple (d :: ds)) (y := y) (i := 2) (j := 3) (k := 1) (ρ := [.fz (likesD L), .fz (.tuple [.tuple (d :: ds), y]), .no, .no, .no, .no, .no]) rfl
                cases y with
                | dict _ => cases n <;> simp [lay] at hy
                | int m => cases hi
                | _ => simp [F__law_is_count, b__law_is_count, hty, hlen, e0, hix, isT, tupG, allFz, hee, hu, isTy, tyName, tyKnown, tyB, -lenOp_tuple]
          · simp only [Bool.not_eq_true] at htx
            refine ⟨false, ?_, by simp [F__law_is_count, b__law_is_count, hty, hlen, e0, hix, htx, -lenOp_tuple], fun z => by cases z⟩
            by_cases hi : isI y = true
            · obtain ⟨m, rfl⟩ := isI_int hi
              by_cases hm : m < 1
              · simp [F_is_count, b_is_count, hty, hlen, e0, e1, hiy, isI, hm, -lenOp_tuple]
              · simp [F_is_count, b_is_count, hty, hlen, e0, e1, hiy, isI, hm, hix, htx, -lenOp_tuple]
            · simp only [Bool.not_eq_true] at hi
              simp [F_is_count, b_is_count, hty, hlen, e0, e1, hiy, hi, -lenOp_tuple]
      · have hl' : ¬ (xs.length : Int) = 2 := by omega
        exact ⟨false, by simp [F_is_count, b_is_count, hty, hl'], by simp [F__law_is_count, b__law_is_count, hty, hl'], fun z => by cases z⟩
  · simp only [Bool.not_eq_true] at ht
    have hty := isTy_tup h
    exact ⟨false, by simp [F_is_count, b_is_count, hty, ht], by simp [F__law_is_count, b__law_is_count, hty, ht], fun z => by cases z⟩
/-- a for that may return on its way -/
theorem forGo_ret {α : Type} {enc : α → D} {gd : DEnv → Prop} {tg : TgD} {b : SM} {p : α → Bool} {s : Dl.Slot} {I J : DEnv → Prop} (hg : ∀ ρ, I ρ → gd ρ) : ∀ {Q : List α} {ρ : DEnv}, (∀ x ∈ Q, ∀ ρ, I ρ → ∃ ρ1 ρ2, tg (enc x) ρ = some ρ1 ∧ if p x then b ρ1 = .nx ρ2 ∧ I ρ2 else b ρ1 = .rt s ρ2 ∧ J ρ2) → I ρ →
    ∃ ρ', if Q.all p then forGo gd tg b (Q.map enc) ρ = .nx ρ' ∧ I ρ' else forGo gd tg b (Q.map enc) ρ = .rt s ρ' ∧ J ρ'
  | [], ρ, _, h => ⟨ρ, by rw [if_pos (by rfl)]; exact ⟨rfl, h⟩⟩
  | x :: Q, ρ, h, h0 => by
    obtain ⟨ρ1, ρ2, e1, e2⟩ := h x (by simp) ρ h0
    by_cases hp : p x = true
    · rw [if_pos hp] at e2
      obtain ⟨e2, i2⟩ := e2
      obtain ⟨ρ3, e3⟩ := forGo_ret hg (Q := Q) (ρ := ρ2) (fun y hy => h y (by simp [hy])) i2
      refine ⟨ρ3, ?_⟩
      rw [List.all_cons, hp, Bool.true_and, List.map_cons]
      have : forGo gd tg b (enc x :: Q.map enc) ρ = forGo gd tg b (Q.map enc) ρ2 := by
        rw [forGo]
        simp only [e1, e2, if_pos (hg _ i2)]
      rw [this]
      exact e3
    · rw [if_neg hp] at e2
      obtain ⟨e2, j2⟩ := e2
      refine ⟨ρ2, ?_⟩
      rw [if_neg (by simp [hp]), List.map_cons]
      refine ⟨?_, j2⟩
      rw [forGo]
      simp only [e1, e2]
theorem counts_of {L : List Lk} {n : Nat} {ys : List D} (h : ∀ d ∈ ys, lay n d = true) (hn : n ≤ 60) : ∃ f : D → Bool, (∀ d ∈ ys, F_is_count [.fz (likesD L), .fz d] = .ok (.fz (.bool (f d))) [.fz (likesD L), .fz d] ∧ F__law_is_count [.fz (likesD L), .fz d] = .ok (.fz (.bool (f d))) [.fz (likesD L), .fz d]) ∧
    (ys.all f = true → ∃ cs : List (List Lk × Int), ys = cs.map cntD) := by
  classical
  refine ⟨fun d => if hd : lay n d = true then (r_cnt (L := L) hd hn).choose else false, fun d hd => ?_, fun ha => ?_⟩
  · simp only [dif_pos (h d hd)]
    exact ⟨(r_cnt (L := L) (h d hd) hn).choose_spec.1, (r_cnt (L := L) (h d hd) hn).choose_spec.2.1⟩
  · induction ys with
    | nil => exact ⟨[], rfl⟩
    | cons y ys ih =>
      rw [List.all_cons, Bool.and_eq_true] at ha
      obtain ⟨h1, h2⟩ := ha
      simp only [dif_pos (h y (by simp))] at h1
      obtain ⟨c, rfl⟩ := (r_cnt (L := L) (h y (by simp)) hn).choose_spec.2.2 h1
      obtain ⟨cs, rfl⟩ := ih (fun d hd => h d (by simp [hd])) h2
      exact ⟨c :: cs, rfl⟩
end K66
end
section
namespace K66
open PySem L2 Dl DlS DlZ DlR
/-- the sum of the numbers -/
theorem sum_int {α : Type} (E : List α) (f : α → Int) : sumOp (.list (E.map fun e => .int (f e))) = some (.fz (.int (E.map f).sum)) := by
  have := sumOp_ints (E.map f)
  rw [List.map_map] at this
  exact this
/-- how much the counts that hold a like come to -/
def held (cs : List (List Lk × Int)) (l : Lk) : Int := ((cs.filter fun c => decide (l ∈ c.1)).map fun c => c.2).sum
theorem r_judge {a b : List Str} {L : List Lk} {n : Nat} {v : D} (ha : CoreOk a) (hb : CoreOk b) (h : LikesOk a.length b.length L) (hv : lay n v = true) (hn : n ≤ 60) : ∃ q : Bool,
    F_shows_best [.fz (coresD a b), .fz (likesD L), .fz v] = .ok (.fz (.bool q)) [.fz (coresD a b), .fz (likesD L), .fz v] ∧ F__law_due [.fz (likesD L), .fz v] = .ok (.fz (.bool q)) [.fz (likesD L), .fz v] := by
  have hck := r_check_likes ha hb h
  have hty := isTy_tup hv
  by_cases ht : isT v = true
  · rw [ht] at hty
    obtain ⟨xs, rfl⟩ := isT_tup ht
    cases n with
    | zero => simp [lay] at hv
    | succ n =>
      by_cases hl : xs.length = 2
      · match xs, hl, hv, hty with
        | [x, y], _, hv, hty =>
          have hx := lay_tup.mp hv x (by simp)
          have hy := lay_tup.mp hv y (by simp)
          have e0 : ixOp (.tuple [x, y]) (.int 0) = some (.fz x) := rfl
          have hlen : lenOp (.tuple [x, y]) = some (.fz (.int 2)) := rfl
          obtain ⟨bm, m1, m2, m3⟩ := r_mat (L := L) hx (by omega)
          cases bm with
          | false => exact ⟨false, by simp [F_shows_best, b_shows_best, hck, eX_fz, hty, hlen, e0, m1, -lenOp_tuple], by simp [F__law_due, b__law_due, eX_fz, hty, hlen, e0, m2, -lenOp_tuple]⟩
          | true =>
            obtain ⟨M, rfl, hM⟩ := m3 rfl
            have hu1 := unp2 (x := rowD M) (y := y) (i := 3) (j := 4) (k := 2) (ρ := [.fz (coresD a b), .fz (likesD L), .fz (.tuple [rowD M, y]), .no, .no, .no, .no, .no, .no]) rfl
            have hu2 := unp2 (x := rowD M) (y := y) (i := 3) (j := 4) (k := 1) (ρ := [.fz (likesD L), .fz (.tuple [rowD M, y]), .no, .no, .no, .no, .no, .no]) rfl
            have hiy := isTy_tup hy
            by_cases hty2 : isT y = true
            · obtain ⟨ys, rfl⟩ := isT_tup hty2
              cases n with
              | zero => simp [lay] at hy
              | succ n =>
                obtain ⟨f, f1, f2⟩ := counts_of (L := L) (lay_tup.mp hy) (by omega)
                have hic : itemsOf (.tuple ys) = some ys := rfl
                have hc1 := lcGo_encM (gd := gdOf (.n 4) (.tuple ys)) (vl := [6]) (tg := tgN 6) (c := tYesD) (f := eCall [(.t, (eX 1)), (.t, (eX 6))] F_is_count) (ρ := [.fz (coresD a b), .fz (likesD L), .fz (.tuple [rowD M, .tuple ys]), .fz (rowD M), .fz (.tuple ys), .no, .no, .no, .no]) (by simp) (E := ys) (enc := fun d => d) (g := fun d => .bool (f d)) (fun e he => by simp [lcStep, eX_fz, (f1 e he).1])
                have hd1 := lcGo_encM (gd := gdOf (.n 4) (.tuple ys)) (vl := [5]) (tg := tgN 5) (c := tYesD) (f := eCall [(.t, (eX 0)), (.t, (eX 5))] F__law_is_count) (ρ := [.fz (likesD L), .fz (.tuple [rowD M, .tuple ys]), .no, .fz (rowD M), .fz (.tuple ys), .no, .no, .no]) (by simp) (E := ys) (enc := fun d => d) (g := fun d => .bool (f d)) (fun e he => by simp [lcStep, eX_fz, (f1 e he).2])
                rw [List.map_id'] at hc1 hd1
                by_cases hall : ys.all f = true
                · obtain ⟨cs, rfl⟩ := f2 hall
                  refine ⟨decide (wts M = (cs.map fun c => c.2).sum) && L.all fun l => decide (wt l ≤ held cs l), ?_, ?_⟩
                  · have hc2 := lcGo_encM (gd := gdOf (.n 3) (rowD M)) (vl := [5]) (tg := tgN 5) (c := tYesD) (f := (e2 (.n 5) (.t) (eN 5) (eC (.int 2)) (g2 ixOp))) (ρ := [.fz (coresD a b), .fz (likesD L), .fz (.tuple [rowD M, .tuple (cs.map cntD)]), .fz (rowD M), .fz (.tuple (cs.map cntD)), .no, .no, .no, .no]) (by simp) (E := M) (enc := lkD) (g := fun l => .int (wt l)) (fun e he => by simp [lcStep])
                    have hc3 := lcGo_encM (gd := gdOf (.n 4) (.tuple (cs.map cntD))) (vl := [7, 8]) (tg := (tgT 2 (tgCons (tgN 7) (tgCons (tgN 8) tgNil)))) (c := tYesD) (f := eX 8) (ρ := [.fz (coresD a b), .fz (likesD L), .fz (.tuple [rowD M, .tuple (cs.map cntD)]), .fz (rowD M), .fz (.tuple (cs.map cntD)), .no, .no, .no, .no]) (by simp) (E := cs) (enc := fun c => .tuple [likesD c.1, .int c.2]) (g := fun c => .int c.2) (fun e he => by simp [lcStep, eX_fz])
                    rw [show cs.map (fun c => (PyData.tuple [likesD c.1, .int c.2] : D)) = cs.map cntD from rfl] at hc3
                    have hin : ∀ l ∈ L, lcGo (gdOf (.n 4) (.tuple (cs.map cntD))) [7, 8] (tgT 2 (tgCons (tgN 7) (tgCons (tgN 8) tgNil))) (bV .t (e2 (.n 5) (.n 7) (eN 5) (eN 7) (g2 (inOpD false)))) (eX 8) (cs.map cntD) [.fz (coresD a b), .fz (likesD L), .fz (.tuple [rowD M, .tuple (cs.map cntD)]), .fz (rowD M), .fz (.tuple (cs.map cntD)), .fz (lkD l), .no, .no, .no] = .ok ((cs.filter fun c => decide (l ∈ c.1)).map fun c => .int c.2) [.fz (coresD a b), .fz (likesD L), .fz (.tuple [rowD M, .tuple (cs.map cntD)]), .fz (rowD M), .fz (.tuple (cs.map cntD)), .fz (lkD l), .no, .no, .no] := fun l hl => by
                      have := lcGo_enc (gd := gdOf (.n 4) (.tuple (cs.map cntD))) (vl := [7, 8]) (tg := (tgT 2 (tgCons (tgN 7) (tgCons (tgN 8) tgNil)))) (c := (bV .t (e2 (.n 5) (.n 7) (eN 5) (eN 7) (g2 (inOpD false))))) (f := eX 8) (ρ := [.fz (coresD a b), .fz (likesD L), .fz (.tuple [rowD M, .tuple (cs.map cntD)]), .fz (rowD M), .fz (.tuple (cs.map cntD)), .fz (lkD l), .no, .no, .no]) (E := cs) (enc := fun c => .tuple [likesD c.1, .int c.2]) (p := fun c => decide (l ∈ c.1)) (g := fun c => .int c.2) (by simp) (fun e he => by
                        have hi := in_lk false e.1 l
                        rw [show (PyData.tuple (e.1.map lkD)) = likesD e.1 from rfl] at hi
                        by_cases hq : l ∈ e.1 <;> simp [lcStep, eX_fz, hi, hq])
                      exact this
                    have hc4 := lcGo_encM (gd := gdOf (.n 1) (likesD L)) (vl := [5]) (tg := tgN 5) (c := tYesD) (f := (e2 (.t) (.t) (eB [(.t, (eLc [7, 8] (iSeq (.n 4) (eN 4)) (tgT 2 (tgCons (tgN 7) (tgCons (tgN 8) tgNil))) (bV .t (e2 (.n 5) (.n 7) (eN 5) (eN 7) (g2 (inOpD false)))) (eX 8)))] (gN1 sumOp)) (e2 (.n 5) (.t) (eN 5) (eC (.int 2)) (g2 ixOp)) (g2 geOp))) (ρ := [.fz (coresD a b), .fz (likesD L), .fz (.tuple [rowD M, .tuple (cs.map cntD)]), .fz (rowD M), .fz (.tuple (cs.map cntD)), .no, .no, .no, .no]) (by simp) (E := L) (enc := lkD) (g := fun l => .bool (decide (wt l ≤ held cs l))) (fun l hl => by
                      have h2 := sum_int (cs.filter fun c => decide (l ∈ c.1)) fun c => c.2
                      rw [show ((cs.filter fun c => decide (l ∈ c.1)).map fun c => c.2).sum = held cs l from rfl] at h2
                      simp [lcStep, hic, hin l hl, h2])
                    have hs1 := sum_int M wt
                    have hs2 := sum_int cs fun c => c.2
                    rw [show (M.map wt).sum = wts M from rfl] at hs1
                    by_cases he : wts M = (cs.map fun c => c.2).sum
                    · rw [← he] at hs2
                      simp [F_shows_best, b_shows_best, hck, eX_fz, hty, hlen, e0, m1, hu1, hiy, isT, hic, hc1, all_map, hall, rowD_items, hc2, hs1, hc3, hs2, hc4, he, -lenOp_tuple, -List.map_map]
                    · simp [F_shows_best, b_shows_best, hck, eX_fz, hty, hlen, e0, m1, hu1, hiy, isT, hic, hc1, all_map, hall, rowD_items, hc2, hs1, hc3, hs2, he, -lenOp_tuple, -List.map_map]
                  · have hc3 := fun s2 : Dl.Slot => lcGo_encM (gd := gdOf (.n 4) (.tuple (cs.map cntD))) (vl := [6, 7]) (tg := (tgT 2 (tgCons (tgN 6) (tgCons (tgN 7) tgNil)))) (c := tYesD) (f := eX 7) (ρ := [.fz (likesD L), .fz (.tuple [rowD M, .tuple (cs.map cntD)]), s2, .fz (rowD M), .fz (.tuple (cs.map cntD)), .no, .no, .no]) (by simp) (E := cs) (enc := fun c => .tuple [likesD c.1, .int c.2]) (g := fun c => .int c.2) (fun e he => by simp [lcStep, eX_fz])
                    rw [show cs.map (fun c => (PyData.tuple [likesD c.1, .int c.2] : D)) = cs.map cntD from rfl] at hc3
                    have hs2 := sum_int cs fun c => c.2
                    obtain ⟨ρ', e⟩ := forGo_ret (enc := lkD) (gd := gdOf .t (likesD L)) (tg := tgN 2) (b := (sIf (bV .t (e2 (.t) (.t) (eB [(.t, (eLc [6, 7] (iSeq (.n 4) (eN 4)) (tgT 2 (tgCons (tgN 6) (tgCons (tgN 7) tgNil))) (bV .t (e2 (.n 2) (.n 6) (eN 2) (eN 6) (g2 (inOpD false)))) (eX 7)))] (gN1 sumOp)) (e2 (.n 2) (.t) (eN 2) (eC (.int 2)) (g2 ixOp)) (g2 ltOp))) (sRt (eC (.bool false))) sNx))
                      (p := fun l => decide (wt l ≤ held cs l)) (s := .fz (.bool false))
                      (I := fun ρ => ∃ s2, ρ = [.fz (likesD L), .fz (.tuple [rowD M, .tuple (cs.map cntD)]), s2, .fz (rowD M), .fz (.tuple (cs.map cntD)), .no, .no, .no])
                      (J := fun ρ => ∃ s2, ρ = [.fz (likesD L), .fz (.tuple [rowD M, .tuple (cs.map cntD)]), s2, .fz (rowD M), .fz (.tuple (cs.map cntD)), .no, .no, .no]) (fun _ _ => trivial) (Q := L) (ρ := [.fz (likesD L), .fz (.tuple [rowD M, .tuple (cs.map cntD)]), .no, .fz (rowD M), .fz (.tuple (cs.map cntD)), .no, .no, .no]) (fun l hl ρ i => by
                        obtain ⟨s2, rfl⟩ := i
                        have hin := lcGo_enc (gd := gdOf (.n 4) (.tuple (cs.map cntD))) (vl := [6, 7]) (tg := (tgT 2 (tgCons (tgN 6) (tgCons (tgN 7) tgNil)))) (c := (bV .t (e2 (.n 2) (.n 6) (eN 2) (eN 6) (g2 (inOpD false))))) (f := eX 7) (ρ := [.fz (likesD L), .fz (.tuple [rowD M, .tuple (cs.map cntD)]), .fz (lkD l), .fz (rowD M), .fz (.tuple (cs.map cntD)), .no, .no, .no]) (E := cs) (enc := fun c => .tuple [likesD c.1, .int c.2]) (p := fun c => decide (l ∈ c.1)) (g := fun c => .int c.2) (by simp) (fun e he => by
                          have hi := in_lk false e.1 l
                          rw [show (PyData.tuple (e.1.map lkD)) = likesD e.1 from rfl] at hi
                          by_cases hq : l ∈ e.1 <;> simp [lcStep, eX_fz, hi, hq])
                        rw [show cs.map (fun c => (PyData.tuple [likesD c.1, .int c.2] : D)) = cs.map cntD from rfl] at hin
                        have h2 := sum_int (cs.filter fun c => decide (l ∈ c.1)) fun c => c.2
                        rw [show ((cs.filter fun c => decide (l ∈ c.1)).map fun c => c.2).sum = held cs l from rfl] at h2
                        refine ⟨_, [.fz (likesD L), .fz (.tuple [rowD M, .tuple (cs.map cntD)]), .fz (lkD l), .fz (rowD M), .fz (.tuple (cs.map cntD)), .no, .no, .no], rfl, ?_⟩
                        by_cases hp : wt l ≤ held cs l
                        · rw [if_pos (by simpa using hp)]
                          have hp' : ¬ held cs l < wt l := by omega
                          exact ⟨by simp [hic, hin, h2, hp', sNx_eq], _, rfl⟩
                        · rw [if_neg (by simpa using hp)]
                          have hp' : held cs l < wt l := by omega
                          exact ⟨by simp [hic, hin, h2, hp', sNx_eq], _, rfl⟩) ⟨_, rfl⟩
                    have hil : itemsOf (likesD L) = some (L.map lkD) := rfl
                    by_cases hq : (L.all fun l => decide (wt l ≤ held cs l)) = true
                    · rw [if_pos hq] at e
                      obtain ⟨e, s2, rfl⟩ := e
                      rw [hq, Bool.and_true]
                      simp [F__law_due, b__law_due, eX_fz, hty, hlen, e0, m2, hu2, hiy, isT, hic, hd1, all_map, hall, hil, e, r_weight, hc3, hs2, -lenOp_tuple, -List.map_map]
                    · rw [if_neg hq] at e
                      obtain ⟨e, s2, rfl⟩ := e
                      simp only [Bool.not_eq_true] at hq
                      rw [hq, Bool.and_false]
                      simp [F__law_due, b__law_due, eX_fz, hty, hlen, e0, m2, hu2, hiy, isT, hic, hd1, all_map, hall, hil, e, -lenOp_tuple, -List.map_map]
                · simp only [Bool.not_eq_true] at hall
                  exact ⟨false, by simp [F_shows_best, b_shows_best, hck, eX_fz, hty, hlen, e0, m1, hu1, hiy, isT, hic, hc1, all_map, hall, -lenOp_tuple], by simp [F__law_due, b__law_due, eX_fz, hty, hlen, e0, m2, hu2, hiy, isT, hic, hd1, all_map, hall, -lenOp_tuple]⟩
            · simp only [Bool.not_eq_true] at hty2
              exact ⟨false, by simp [F_shows_best, b_shows_best, hck, eX_fz, hty, hlen, e0, m1, hu1, hiy, hty2, -lenOp_tuple], by simp [F__law_due, b__law_due, eX_fz, hty, hlen, e0, m2, hu2, hiy, hty2, -lenOp_tuple]⟩
      · have hl' : ¬ (xs.length : Int) = 2 := by omega
        exact ⟨false, by simp [F_shows_best, b_shows_best, hck, eX_fz, hty, hl'], by simp [F__law_due, b__law_due, eX_fz, hty, hl']⟩
  · simp only [Bool.not_eq_true] at ht
    rw [ht] at hty
    exact ⟨false, by simp [F_shows_best, b_shows_best, hck, eX_fz, hty], by simp [F__law_due, b__law_due, eX_fz, hty]⟩
end K66
end
section
namespace K66
open PySem L2 Dl DlS DlZ DlR
/-! small plain data -/
def okS (z : Str) : Bool := decide (z.cps.size ≤ 8) && (PyData.str z).leavesShort 8
mutual
def jok : Nat → D → Bool
  | _, .none => true
  | _, .bool _ => true
  | _, .int i => decide (-1 ≤ i ∧ i ≤ 6001)
  | _, .str z => okS z
  | 0, .list _ => false
  | 0, .tuple _ => false
  | n + 1, .list xs => jokL n xs
  | n + 1, .tuple xs => jokL n xs
  | _, .dict _ => false
def jokL : Nat → List D → Bool
  | _, [] => true
  | n, x :: xs => jok n x && jokL n xs
end
theorem jokL_iff {n : Nat} {ds : List D} : jokL n ds = true ↔ ∀ d ∈ ds, jok n d = true := by
  induction ds with
  | nil => simp [jokL]
  | cons d ds ih => simp [jokL, ih]
theorem jok_tup {n : Nat} {ds : List D} : jok (n + 1) (.tuple ds) = true ↔ ∀ d ∈ ds, jok n d = true := by rw [jok, jokL_iff]
theorem jok_list {n : Nat} {ds : List D} : jok (n + 1) (.list ds) = true ↔ ∀ d ∈ ds, jok n d = true := by rw [jok, jokL_iff]
mutual
theorem jok_up : ∀ (n : Nat) (d : D), jok n d = true → jok (n + 1) d = true
  | n, .none, _ => by cases n <;> rfl
  | n, .bool _, _ => by cases n <;> rfl
  | n, .int _, h => by cases n <;> simpa [jok] using h
  | n, .str _, h => by cases n <;> simpa [jok] using h
  | 0, .list _, h => by simp [jok] at h
  | 0, .tuple _, h => by simp [jok] at h
  | n + 1, .list xs, h => by rw [jok] at h ⊢; exact jokL_up n xs h
  | n + 1, .tuple xs, h => by rw [jok] at h ⊢; exact jokL_up n xs h
  | n, .dict _, h => by cases n <;> simp [jok] at h
theorem jokL_up : ∀ (n : Nat) (ds : List D), jokL n ds = true → jokL (n + 1) ds = true
  | n, [], _ => by cases n <;> rfl
  | n, d :: ds, h => by
    rw [jokL, Bool.and_eq_true] at h ⊢
    exact ⟨jok_up n d h.1, jokL_up n ds h.2⟩
end
theorem jok_le {n m : Nat} {d : D} (h : jok n d = true) (hm : n ≤ m) : jok m d = true := by
  induction m with
  | zero => obtain rfl : n = 0 := by omega
            exact h
  | succ m ih =>
    by_cases e : n = m + 1
    · subst e; exact h
    · exact jok_up m d (ih (by omega))
theorem short_all : ((List.range 6002).all fun n => decide ((PyData.shown (.int n)).length ≤ 8)) = true := by decide +kernel
theorem int_short {i : Int} (h0 : -1 ≤ i) (h1 : i ≤ 6001) : (PyData.shown (.int i)).length ≤ 8 := by
  by_cases e : i = -1
  · subst e; decide +kernel
  · obtain ⟨n, rfl⟩ := Int.eq_ofNat_of_zero_le (by omega : 0 ≤ i)
    simpa using List.all_eq_true.mp short_all n (List.mem_range.mpr (by omega))
theorem int_bits {i : Int} (h0 : -1 ≤ i) (h1 : i ≤ 6001) : i.natAbs.log2 < 13 := log2_lt (by omega) (by omega)
mutual
theorem jok_all : ∀ (n : Nat) (d : D), jok n d = true → lay n d = true ∧ d.showable = true ∧ d.leavesShort 8 = true
  | n, .none, _ => by cases n <;> exact ⟨rfl, rfl, rfl⟩
  | n, .bool _, _ => by cases n <;> exact ⟨rfl, rfl, rfl⟩
  | n, .int i, h => by
    have h' : -1 ≤ i ∧ i ≤ 6001 := by cases n <;> simpa [jok] using h
    have := int_bits h'.1 h'.2
    have h2 := int_short h'.1 h'.2
    refine ⟨by cases n <;> rfl, ?_, ?_⟩
    · simp only [PyData.showable, decide_eq_true_eq]; omega
    · simpa [PyData.leavesShort] using h2
  | n, .str z, h => by
    have h' : okS z = true := by cases n <;> simpa [jok] using h
    unfold okS at h'
    rw [Bool.and_eq_true] at h'
    exact ⟨by cases n <;> rfl, rfl, h'.2⟩
  | 0, .list _, h => by simp [jok] at h
  | 0, .tuple _, h => by simp [jok] at h
  | n + 1, .list xs, h => by
    rw [jok] at h
    obtain ⟨a, b, c⟩ := jokL_all n xs h
    exact ⟨by rw [lay]; exact a, by rw [PyData.showable]; exact b, by rw [PyData.leavesShort]; exact c⟩
  | n + 1, .tuple xs, h => by
    rw [jok] at h
    obtain ⟨a, b, c⟩ := jokL_all n xs h
    exact ⟨by rw [lay]; exact a, by rw [PyData.showable]; exact b, by rw [PyData.leavesShort]; exact c⟩
  | n, .dict _, h => by cases n <;> simp [jok] at h
theorem jokL_all : ∀ (n : Nat) (ds : List D), jokL n ds = true → layL n ds = true ∧ PyData.showableAll ds = true ∧ PyData.leavesShortAll 8 ds = true
  | n, [], _ => by cases n <;> exact ⟨rfl, rfl, rfl⟩
  | n, d :: ds, h => by
    rw [jokL, Bool.and_eq_true] at h
    obtain ⟨a, b, c⟩ := jok_all n d h.1
    obtain ⟨a', b', c'⟩ := jokL_all n ds h.2
    exact ⟨by rw [layL, a, a']; rfl, by rw [PyData.showableAll, b, b']; rfl, by rw [PyData.leavesShortAll, c, c']; rfl⟩
end
theorem repr_jok {n : Nat} {d : D} (h : jok n d = true) (hn : n ≤ 60) (hw : d.weight ≤ 90000) : ∃ z : Str, reprOp d = some (.fz (.str z)) := by
  obtain ⟨a, b, c⟩ := jok_all n d h
  exact reprOp_ok (lay_le a hn) b c hw
/-! weights -/
abbrev wA := PyData.weightAll
theorem wA_app (xs ys : List D) : wA (xs ++ ys) = wA xs + wA ys := by
  induction xs with
  | nil => simp [PyData.weightAll]
  | cons x xs ih => simp only [List.cons_append, wA, PyData.weightAll] at ih ⊢; omega
theorem wA_take (xs : List D) (i : Nat) : wA (xs.take i) + wA (xs.drop i) = wA xs := by rw [← wA_app, List.take_append_drop]
theorem wA_rev (xs : List D) : wA xs.reverse = wA xs := by
  induction xs with
  | nil => rfl
  | cons x xs ih => rw [List.reverse_cons, wA_app, ih]; simp only [wA, PyData.weightAll]; omega
theorem wA_len (xs : List D) : xs.length ≤ wA xs := by
  induction xs with
  | nil => simp
  | cons x xs ih => simp only [List.length_cons, wA, PyData.weightAll] at ih ⊢; omega
theorem wA_cut (xs : List D) (lo hi : Option Int) : wA (cutD xs lo hi) ≤ wA xs := by
  unfold cutD
  have h1 := wA_take (xs.drop (HT.sIx xs.length 0 lo)) (HT.sIx xs.length xs.length hi - HT.sIx xs.length 0 lo)
  have h2 := wA_take xs (HT.sIx xs.length 0 lo)
  omega
theorem cut_mem {xs : List D} {lo hi : Option Int} {d : D} (h : d ∈ cutD xs lo hi) : d ∈ xs := List.mem_of_mem_drop (List.mem_of_mem_take h)
theorem wA_at {xs : List D} {i : Nat} (h : i < xs.length) : wA (xs.take i) + (xs[i].weight + 1) + wA (xs.drop (i + 1)) = wA xs := by
  have h1 := wA_take xs i
  rw [List.drop_eq_getElem_cons h] at h1
  simp only [wA, PyData.weightAll] at h1 ⊢
  omega
theorem int_w {i : Int} (h0 : -1 ≤ i) (h1 : i ≤ 6001) : (PyData.int i).weight ≤ 13 := by
  have := int_bits h0 h1
  unfold PyData.weight
  split <;> omega
/-! tuples of numbers -/
mutual
def tin : Nat → D → Bool
  | _, .int i => decide (0 ≤ i ∧ i ≤ 6000)
  | n + 1, .tuple xs => tinL n xs
  | _, _ => false
def tinL : Nat → List D → Bool
  | _, [] => true
  | n, x :: xs => tin n x && tinL n xs
end
theorem tinL_iff {n : Nat} {ds : List D} : tinL n ds = true ↔ ∀ d ∈ ds, tin n d = true := by
  induction ds with
  | nil => simp [tinL]
  | cons d ds ih => simp [tinL, ih]
theorem tin_tup {n : Nat} {ds : List D} : tin (n + 1) (.tuple ds) = true ↔ ∀ d ∈ ds, tin n d = true := by rw [tin, tinL_iff]
mutual
theorem tin_jok : ∀ (n : Nat) (d : D), tin n d = true → jok n d = true
  | n, .int i, h => by
    have h' : 0 ≤ i ∧ i ≤ 6000 := by cases n <;> simpa [tin] using h
    have : (decide (-1 ≤ i ∧ i ≤ 6001)) = true := by simp; omega
    cases n <;> simpa [jok] using this
  | n + 1, .tuple xs, h => by
    rw [tin] at h
    rw [jok]
    exact tinL_jok n xs h
  | 0, .tuple _, h => by simp [tin] at h
  | n, .none, h => by cases n <;> simp [tin] at h
  | n, .bool _, h => by cases n <;> simp [tin] at h
  | n, .str _, h => by cases n <;> simp [tin] at h
  | n, .list _, h => by cases n <;> simp [tin] at h
  | n, .dict _, h => by cases n <;> simp [tin] at h
theorem tinL_jok : ∀ (n : Nat) (ds : List D), tinL n ds = true → jokL n ds = true
  | n, [], _ => rfl
  | n, d :: ds, h => by
    rw [tinL, Bool.and_eq_true] at h
    rw [jokL, tin_jok n d h.1, tinL_jok n ds h.2]; rfl
end
end K66
end
section
namespace K66
open PySem L2 Dl DlS DlZ DlR
theorem figs_all : ((List.range 6001).all fun n => okS (figs n)) = true := by decide +kernel
theorem figs_ok {n : Nat} (h : n ≤ 6000) : okS (figs n) = true := List.all_eq_true.mp figs_all n (List.mem_range.mpr (by omega))
theorem okS_w {z : Str} (h : okS z = true) : (PyData.str z).weight ≤ 8 := by
  unfold okS at h
  rw [Bool.and_eq_true] at h
  simpa [PyData.weight] using h.1
theorem jok_str {n : Nat} {z : Str} (h : okS z = true) : jok n (.str z) = true := by cases n <;> simpa [jok] using h
theorem jok_int {n : Nat} {i : Int} (h0 : -1 ≤ i) (h1 : i ≤ 6001) : jok n (.int i) = true := by
  have : (decide (-1 ≤ i ∧ i ≤ 6001)) = true := by simp; omega
  cases n <;> simpa [jok] using this
theorem tup_neq {ds : List D} {n : Nat} (h : lay n (.tuple ds) = true) (hn : n ≤ 60) : neOp (.tuple ds) (.tuple []) = some (.fz (.bool (!ds.isEmpty))) := by
  rw [neOp_lay (lay_le h hn) (by rfl)]
  cases ds with
  | nil => rfl
  | cons d ds => rfl
theorem r_bent : ∀ (k : Nat) {n m : Nat} {v : D} {pot : List D}, n < k → n ≤ 50 → tin n v = true → v.weight ≤ 400000 → PotOk m pot → m + 3 * k ≤ 90000 →
    ∃ (d : D) (pot' : List D), FR__law_bent k [.ow (.lst pot), .fz v] = .ok (.fz d) [.ow (.lst pot'), .fz v] ∧ jok n d = true ∧ d.weight ≤ 2 * v.weight + 20 ∧ PotOk (m + 3 * k) pot'
  | 0, _, _, _, _, h, _, _, _, _, _ => absurd h (Nat.not_lt_zero _)
  | k + 1, n, m, v, pot, hk, hn, hv, hw, hp, hm => by
    cases v with
    | int i =>
      have h' : 0 ≤ i ∧ i ≤ 6000 := by cases n <;> simpa [tin] using hv
      obtain ⟨i, rfl⟩ := Int.eq_ofNat_of_zero_le h'.1
      obtain ⟨d, pot', e, hd, ok⟩ := r_of (ds := [.int ((i : Int) + 1), .int ((i : Int) - 1), .bool (decide ((i : Int) = 1)), .str (figs i), .none, .int 0, .int 99]) hp (by omega) (by simp) (by simp)
      have hst := strOp_nat (n := i) (by omega)
      refine ⟨d, pot', ?_, ?_, ?_, ok.mono (by omega)⟩
      · simp [FR__law_bent, b__law_bent, isTy, tyName, tyKnown, tyB, hst, lstG, allFz, e, sNx_eq]
      · simp only [List.mem_cons, List.not_mem_nil, or_false] at hd
        rcases hd with rfl | rfl | rfl | rfl | rfl | rfl | rfl
        · exact jok_int (by omega) (by omega)
        · exact jok_int (by omega) (by omega)
        · cases n <;> rfl
        · exact jok_str (figs_ok (by omega))
        · cases n <;> rfl
        · exact jok_int (by omega) (by omega)
        · exact jok_int (by omega) (by omega)
      · simp only [List.mem_cons, List.not_mem_nil, or_false] at hd
        rcases hd with rfl | rfl | rfl | rfl | rfl | rfl | rfl
        · have := int_w (i := (i : Int) + 1) (by omega) (by omega); omega
        · have := int_w (i := (i : Int) - 1) (by omega) (by omega); omega
        · simp [PyData.weight]
        · have := okS_w (figs_ok (n := i) (by omega)); omega
        · simp [PyData.weight]
        · have := int_w (i := 0) (by omega) (by omega); omega
        · have := int_w (i := 99) (by omega) (by omega); omega
    | tuple ds =>
      cases n with
      | zero => simp [tin] at hv
      | succ n =>
        have hjv := tin_jok _ _ hv
        have hlv := (jok_all _ _ hjv).1
        have hne := tup_neq hlv (by omega)
        have hty : isTy "tuple" (.tuple ds) = some true := rfl
        have hWv : (PyData.tuple ds).weight = wA ds := by rw [PyData.weight]
        rw [hWv] at hw ⊢
        have hlen := wA_len ds
        -- the last branch
        have hleaf : ∀ (m' : Nat) (pot1 : List D), PotOk m' pot1 → m' ≤ 90000 → ∃ (d : D) (pot' : List D), F__law_of [.ow (.lst pot1), .ow (.lst [.list ds, .tuple (cutD ds (some 1) none), .tuple (ds ++ cutD ds (some (-1)) none), .tuple ds.reverse, .tuple [], .none, .tuple (ds ++ [.str "a"])])] = .ok (.fz d) [.ow (.lst pot'), .ow (.lst [.list ds, .tuple (cutD ds (some 1) none), .tuple (ds ++ cutD ds (some (-1)) none), .tuple ds.reverse, .tuple [], .none, .tuple (ds ++ [.str "a"])])] ∧ jok (n + 1) d = true ∧ d.weight ≤ 2 * wA ds + 20 ∧ PotOk (m' + 1) pot' := fun m' pot1 hp1 hm1 => by
          obtain ⟨d, pot', e, hd, ok⟩ := r_of (ds := [.list ds, .tuple (cutD ds (some 1) none), .tuple (ds ++ cutD ds (some (-1)) none), .tuple ds.reverse, .tuple [], .none, .tuple (ds ++ [.str "a"])]) hp1 (by omega) (by simp) (by simp)
          have hj := jok_tup.mp hjv
          have c1 := wA_cut ds (some 1) none
          have c2 := wA_cut ds (some (-1)) none
          refine ⟨d, pot', e, ?_, ?_, ok⟩
          · simp only [List.mem_cons, List.not_mem_nil, or_false] at hd
            rcases hd with rfl | rfl | rfl | rfl | rfl | rfl | rfl
            · exact jok_list.mpr hj
            · exact jok_tup.mpr fun x hx => hj x (cut_mem hx)
            · exact jok_tup.mpr fun x hx => (List.mem_append.mp hx).elim (hj x) fun z => hj x (cut_mem z)
            · exact jok_tup.mpr fun x hx => hj x (List.mem_reverse.mp hx)
            · exact jok_tup.mpr fun x hx => nomatch hx
            · rfl
            · refine jok_tup.mpr fun x hx => (List.mem_append.mp hx).elim (hj x) fun z => ?_
              rw [List.mem_singleton.mp z]
              exact jok_str (by decide +kernel)
          · simp only [List.mem_cons, List.not_mem_nil, or_false] at hd
            have ha : (PyData.str "a").weight ≤ 8 := okS_w (by decide +kernel)
            rcases hd with rfl | rfl | rfl | rfl | rfl | rfl | rfl <;> simp only [PyData.weight]
            · show wA _ ≤ _; omega
            · show wA _ ≤ _; omega
            · show wA _ ≤ _; rw [wA_app]; omega
            · show wA _ ≤ _; rw [wA_rev]; omega
            · show wA _ ≤ _; simp [wA, PyData.weightAll]
            · omega
            · show wA _ ≤ _; rw [wA_app]
              have : wA [PyData.str "a"] = (PyData.str "a").weight + 1 := by simp [wA, PyData.weightAll]
              omega
        have c2 := wA_cut ds (some (-1)) none
        have l2 := wA_len (cutD ds (some (-1)) none)
        have a1 : addOp (.tuple ds) (.tuple (cutD ds (some (-1)) none)) = some (.fz (.tuple (ds ++ cutD ds (some (-1)) none))) := addOp_tuple (small_line (by omega))
        have a2 : addOp (.tuple ds) (.tuple [.str "a"]) = some (.fz (.tuple (ds ++ [.str "a"]))) := addOp_tuple (small_line (by simp; omega))
        have hrev : revOp (.tuple ds) = some (.fz (.tuple ds.reverse)) := rfl
        by_cases hds : ds = []
        · obtain ⟨d, pot', e, hd, hdw, ok⟩ := hleaf m pot hp (by omega)
          have hie : ds.isEmpty = true := by rw [hds]; rfl
          rw [hie] at hne
          clear hds hie
          refine ⟨d, pot', ?_, hd, hdw, ok.mono (by omega)⟩
          simp [FR__law_bent, b__law_bent, hty, hne, tupG, lstG, allFz, e, slOp_tuple, pS_eq, a1, a2, hrev, sNx_eq]
        · have hie : ds.isEmpty = false := by cases ds with
            | nil => exact absurd rfl hds
            | cons _ _ => rfl
          rw [hie] at hne
          have hpos : 0 < ds.length := List.length_pos_iff.mpr hds
          obtain ⟨r, pot1, e1, r0, r1, ok1⟩ := r_take (m := 5) hp (by omega) (by omega) (by omega)
          by_cases hr : 0 < r
          · obtain ⟨at0, pot2, e2, t0, t1, ok2⟩ := r_take (m := ds.length) ok1 (by omega) (by omega) (by omega)
            obtain ⟨at0, rfl⟩ := Int.eq_ofNat_of_zero_le t0
            have hat : at0 < ds.length := by omega
            have hx : ixOp (.tuple ds) (.int at0) = some (.fz ds[at0]) := by
              rw [ixOp_tuple, atI_nat hat, List.getElem?_eq_getElem hat]; rfl
            have hwat := wA_at hat
            obtain ⟨d, pot3, e3, hd, hdw, ok3⟩ := r_bent k (n := n) (v := ds[at0]) (pot := pot2) (by omega) (by omega) (tin_tup.mp hv _ (List.getElem_mem hat)) (by omega) ok2 (by omega)
            have hj := jok_tup.mp hjv
            have lt := wA_len (ds.take at0)
            have ld := wA_len (ds.drop (at0 + 1))
            have b1 : addOp (.tuple (ds.take at0)) (.tuple [d]) = some (.fz (.tuple (ds.take at0 ++ [d]))) := addOp_tuple (small_line (by simp only [List.length_singleton]; omega))
            have b2 : addOp (.tuple (ds.take at0 ++ [d])) (.tuple (ds.drop (at0 + 1))) = some (.fz (.tuple (ds.take at0 ++ [d] ++ ds.drop (at0 + 1)))) := addOp_tuple (small_line (by simp only [List.length_append, List.length_singleton]; omega))
            refine ⟨.tuple (ds.take at0 ++ [d] ++ ds.drop (at0 + 1)), pot3, ?_, ?_, ?_, ok3.mono (by omega)⟩
            · have hs1 : slOp none (some (at0 : Int)) (.tuple ds) = some (.fz (.tuple (ds.take at0))) := by rw [slOp_tuple, cut_take (by omega)]
              have hs2 : slOp (some ((at0 : Int) + 1)) none (.tuple ds) = some (.fz (.tuple (ds.drop (at0 + 1)))) := by rw [slOp_tuple, cut_drop1]
              simp [FR__law_bent, b__law_bent, hty, hne, tupG, allFz, e1, hr, e2, hs1, hs2, pS_eq, hx, e3, b1, b2, -ixOp_tuple, -List.append_assoc]
            · refine jok_tup.mpr fun x hx => ?_
              rcases List.mem_append.mp hx with hx | hx
              · rcases List.mem_append.mp hx with hx | hx
                · exact hj x (List.mem_of_mem_take hx)
                · rw [List.mem_singleton.mp hx]; exact hd
              · exact hj x (List.mem_of_mem_drop hx)
            · simp only [PyData.weight]
              show wA _ ≤ _
              rw [wA_app, wA_app]
              have : wA [d] = d.weight + 1 := by simp [wA, PyData.weightAll]
              omega
          · obtain ⟨d, pot', e, hd, hdw, ok⟩ := hleaf (m + 1) pot1 ok1 (by omega)
            refine ⟨d, pot', ?_, hd, hdw, ok.mono (by omega)⟩
            simp [FR__law_bent, b__law_bent, hty, hne, tupG, lstG, allFz, e1, hr, e, slOp_tuple, pS_eq, a1, a2, hrev, sNx_eq]
    | none => cases n <;> simp [tin] at hv
    | bool _ => cases n <;> simp [tin] at hv
    | str _ => cases n <;> simp [tin] at hv
    | list _ => cases n <;> simp [tin] at hv
    | dict _ => cases n <;> simp [tin] at hv
end K66
end
section
namespace K66
open PySem L2 Dl DlS DlZ DlR
/-! small values put together -/
def G (n w : Nat) (d : D) : Prop := jok n d = true ∧ d.weight ≤ w
def GL (n w : Nat) (ds : List D) : Prop := (∀ d ∈ ds, jok n d = true) ∧ wA ds ≤ w
section
variable {n m w u : Nat} {d : D} {ds es : List D}
theorem G.mono (h : G n w d) (hn : n ≤ m) (hw : w ≤ u) : G m u d := ⟨jok_le h.1 hn, Nat.le_trans h.2 hw⟩
theorem GL.nil : GL 0 0 [] := ⟨fun d h => (nomatch h), by simp [wA, PyData.weightAll]⟩
theorem G.cons (h : G n w d) (hs : GL m u ds) : GL (max n m) (w + u + 1) (d :: ds) := ⟨fun x hx => by
  rcases List.mem_cons.mp hx with rfl | hx
  · exact jok_le h.1 (by omega)
  · exact jok_le (hs.1 x hx) (by omega), by
  have h1 := h.2
  have h2 := hs.2
  simp only [wA, PyData.weightAll] at h2 ⊢
  omega⟩
theorem GL.app (h : GL n w ds) (hs : GL m u es) : GL (max n m) (w + u) (ds ++ es) := ⟨fun x hx => (List.mem_append.mp hx).elim (fun z => jok_le (h.1 x z) (by omega)) fun z => jok_le (hs.1 x z) (by omega), by
  rw [wA_app]
  have h1 := h.2
  have h2 := hs.2
  omega⟩
theorem GL.cut (h : GL n w ds) (lo hi : Option Int) : GL n w (cutD ds lo hi) := ⟨fun x hx => h.1 x (cut_mem hx), Nat.le_trans (wA_cut _ _ _) h.2⟩
theorem GL.rev (h : GL n w ds) : GL n w ds.reverse := ⟨fun x hx => h.1 x (List.mem_reverse.mp hx), by rw [wA_rev]; exact h.2⟩
theorem GL.take (h : GL n w ds) (i : Nat) : GL n w (ds.take i) := ⟨fun x hx => h.1 x (List.mem_of_mem_take hx), by have := wA_take ds i; have := h.2; omega⟩
theorem GL.drop (h : GL n w ds) (i : Nat) : GL n w (ds.drop i) := ⟨fun x hx => h.1 x (List.mem_of_mem_drop hx), by have := wA_take ds i; have := h.2; omega⟩
theorem GL.mono (h : GL n w ds) (hn : n ≤ m) (hw : w ≤ u) : GL m u ds := ⟨fun x hx => jok_le (h.1 x hx) hn, Nat.le_trans h.2 hw⟩
theorem G.tup (h : GL n w ds) : G (n + 1) w (.tuple ds) := ⟨jok_tup.mpr h.1, by rw [PyData.weight]; exact h.2⟩
theorem G.list (h : GL n w ds) : G (n + 1) w (.list ds) := ⟨jok_list.mpr h.1, by rw [PyData.weight]; exact h.2⟩
theorem G.none : G 0 0 .none := ⟨rfl, by simp [PyData.weight]⟩
theorem G.int {i : Int} (h0 : -1 ≤ i) (h1 : i ≤ 6001) : G 0 13 (.int i) := ⟨jok_int h0 h1, int_w h0 h1⟩
theorem GL.mapc {α : Type} {f : α → D} : ∀ {E : List α}, (∀ e ∈ E, G n w (f e)) → GL n ((w + 1) * E.length) (E.map f)
  | [], _ => ⟨fun d h => (nomatch h), by simp [wA, PyData.weightAll]⟩
  | e :: E, h => by
    have h1 := h e (by simp)
    have h2 := GL.mapc (E := E) fun x hx => h x (by simp [hx])
    refine (G.cons h1 h2).mono (by omega) ?_
    rw [List.length_cons, Nat.mul_add]
    omega
end
/-- what a like may be -/
def LkB (l : Lk) : Prop := 0 ≤ l.1 ∧ l.1 ≤ 99 ∧ 0 ≤ l.2.1 ∧ l.2.1 ≤ 99 ∧ 0 ≤ wt l ∧ wt l ≤ 99
theorem G.lk {l : Lk} (h : LkB l) : G 1 42 (lkD l) := by
  obtain ⟨h1, h2, h3, h4, h5, h6⟩ := h
  have h5' : 0 ≤ l.2.2 := h5
  have h6' : l.2.2 ≤ 99 := h6
  exact (G.tup ((G.int (i := l.1) (by omega) (by omega)).cons ((G.int (i := l.2.1) (by omega) (by omega)).cons ((G.int (i := l.2.2) (by omega) (by omega)).cons GL.nil)))).mono (by decide) (by decide)
theorem tin_lk {l : Lk} (h : LkB l) : tin 1 (lkD l) = true := by
  obtain ⟨h1, h2, h3, h4, h5, h6⟩ := h
  have h5' : 0 ≤ l.2.2 := h5
  have h6' : l.2.2 ≤ 99 := h6
  refine tin_tup.mpr fun d hd => ?_
  simp only [List.mem_cons, List.not_mem_nil, or_false] at hd
  rcases hd with rfl | rfl | rfl <;> simp [tin] <;> omega
/-- what is told, as far as it counts here -/
structure Told (L F : List Lk) (cs : List (List Lk × Int)) : Prop where
  lb : ∀ l ∈ L, LkB l
  ll : L.length ≤ 9
  fm : ∀ l ∈ F, l ∈ L
  fl : F.length ≤ 9
  cl : cs.length ≤ 18
  cm : ∀ c ∈ cs, (∀ l ∈ c.1, l ∈ L) ∧ c.1.length ≤ 9 ∧ 0 ≤ c.2 ∧ c.2 ≤ 6000
  ne : cs ≠ [] → L ≠ []
theorem Told.row {L F : List Lk} {cs : List (List Lk × Int)} (h : Told L F cs) : GL 1 387 (F.map lkD) :=
  (GL.mapc (n := 1) (w := 42) fun e he => G.lk (h.lb e (h.fm e he))).mono (by omega) (by have := h.fl; omega)
theorem Told.likes {L F : List Lk} {cs : List (List Lk × Int)} (h : Told L F cs) : GL 1 387 (L.map lkD) :=
  (GL.mapc (n := 1) (w := 42) fun e he => G.lk (h.lb e he)).mono (by omega) (by have := h.ll; omega)
theorem Told.lot {L F : List Lk} {cs : List (List Lk × Int)} (h : Told L F cs) {c : List Lk × Int} (hc : c ∈ cs) : GL 1 387 (c.1.map lkD) :=
  (GL.mapc (n := 1) (w := 42) fun e he => G.lk (h.lb e ((h.cm c hc).1 e he))).mono (by omega) (by have := (h.cm c hc).2.1; omega)
theorem Told.cnt {L F : List Lk} {cs : List (List Lk × Int)} (h : Told L F cs) {c : List Lk × Int} (hc : c ∈ cs) : G 3 402 (cntD c) :=
  (G.tup ((G.tup (h.lot hc)).cons ((G.int (i := c.2) (by have := (h.cm c hc).2.2.1; omega) (by have := (h.cm c hc).2.2.2; omega)).cons GL.nil))).mono (by decide) (by decide)
theorem Told.cnts {L F : List Lk} {cs : List (List Lk × Int)} (h : Told L F cs) : GL 3 7254 (cs.map cntD) :=
  (GL.mapc (n := 3) (w := 402) fun e he => h.cnt he).mono (by omega) (by have := h.cl; omega)
theorem Told.tin {L F : List Lk} {cs : List (List Lk × Int)} (h : Told L F cs) : tin 5 (.tuple [rowD F, countsD cs]) = true := by
  have hl : ∀ {S : List Lk}, (∀ l ∈ S, l ∈ L) → K66.tin 2 (.tuple (S.map lkD)) = true := fun {S} hS => tin_tup.mpr fun d hd => by
    obtain ⟨l, hl, rfl⟩ := List.mem_map.mp hd
    exact tin_lk (h.lb l (hS l hl))
  refine tin_tup.mpr fun d hd => ?_
  simp only [List.mem_cons, List.not_mem_nil, or_false] at hd
  have up : ∀ {n : Nat} {d : D}, K66.tin n d = true → K66.tin n d = true := id
  rcases hd with rfl | rfl
  · refine tin_tup.mpr fun d hd => ?_
    obtain ⟨l, hl', rfl⟩ := List.mem_map.mp hd
    refine tin_tup.mpr fun d hd => ?_
    obtain ⟨h1, h2, h3, h4, h5, h6⟩ := h.lb l (h.fm l hl')
    have h5' : 0 ≤ l.2.2 := h5
    have h6' : l.2.2 ≤ 99 := h6
    simp only [List.mem_cons, List.not_mem_nil, or_false] at hd
    rcases hd with rfl | rfl | rfl <;> simp [K66.tin] <;> omega
  · refine tin_tup.mpr fun d hd => ?_
    obtain ⟨c, hc, rfl⟩ := List.mem_map.mp hd
    obtain ⟨c1, c2, c3, c4⟩ := h.cm c hc
    refine tin_tup.mpr fun d hd => ?_
    simp only [List.mem_cons, List.not_mem_nil, or_false] at hd
    rcases hd with rfl | rfl
    · exact hl c1
    · simp [K66.tin]; omega
theorem Told.all {L F : List Lk} {cs : List (List Lk × Int)} (h : Told L F cs) : G 5 7643 (.tuple [rowD F, countsD cs]) :=
  (G.tup ((G.tup h.row).cons ((G.tup h.cnts).cons GL.nil))).mono (by decide) (by decide)
/-! the keys of a dict that was made of likes -/
theorem put_lk {acc : List (D × D)} {E : List Lk} (k : Lk) (x : D) (h : acc.map (·.1) = E.map lkD) : ∃ E' : List Lk, (dPut acc (lkD k) x).map (·.1) = E'.map lkD ∧ (∀ l ∈ E', l ∈ E ∨ l = k) ∧ E'.length ≤ E.length + 1 := by
  unfold dPut
  split
  · refine ⟨E, ?_, fun l hl => .inl hl, by omega⟩
    rw [← h, List.map_map]
    apply List.map_congr_left
    intro e he
    simp only [Function.comp]
    split <;> rfl
  · exact ⟨E ++ [k], by rw [List.map_append, List.map_append, h]; rfl, fun l hl => by simpa using hl, by simp⟩
theorem putAll_lk : ∀ {X : List Lk} {acc : List (D × D)} {E : List Lk}, acc.map (·.1) = E.map lkD → ∃ E' : List Lk, ((X.map fun l => (lkD l, PyData.bool true)).foldl (fun acc e => dPut acc e.1 e.2) acc).map (·.1) = E'.map lkD ∧ (∀ l ∈ E', l ∈ E ∨ l ∈ X) ∧ E'.length ≤ E.length + X.length
  | [], acc, E, h => ⟨E, h, fun l hl => .inl hl, by simp⟩
  | x :: X, acc, E, h => by
    obtain ⟨E1, h1, h2, h3⟩ := put_lk x (.bool true) h
    obtain ⟨E2, h4, h5, h6⟩ := putAll_lk (X := X) h1
    refine ⟨E2, h4, fun l hl => ?_, by simp only [List.length_cons]; omega⟩
    rcases h5 l hl with z | z
    · rcases h2 l z with z | z
      · exact .inl z
      · exact .inr (by simp [z])
    · exact .inr (by simp [z])
theorem pairsOf_lk (X : List Lk) : pairsOf (X.map fun l => .tuple [lkD l, .bool true]) = some (X.map fun l => (lkD l, .bool true)) := by
  induction X with
  | nil => rfl
  | cons x X ih => simp only [List.map_cons, pairsOf, ih]; rfl
theorem more_ok (X : List Lk) : ∃ (kvs : List (D × D)) (E T : List Lk), dpOp (.list (X.map fun l => .tuple [lkD l, .bool true])) = some (.ow (.dct true kvs)) ∧ lkOp (dctD true kvs) = some (.ow (.lst (E.map lkD))) ∧ sortedOp2 (.list (E.map lkD)) = some (.ow (.lst (T.map lkD))) ∧ (∀ l ∈ T, l ∈ X) ∧ T.length ≤ X.length := by
  obtain ⟨E, h1, h2, h3⟩ := putAll_lk (X := X) (acc := []) (E := []) rfl
  have hal : allAlike (E.map lkD) = true := by simp [allAlike, alike_lk]
  have hsb : sortB (E.map lkD) = true := by
    unfold sortB
    rw [Bool.or_eq_true]
    exact .inl (by simp [lkD])
  obtain ⟨T, t1, t2, _⟩ := sortL_enc lkD E (by rw [hal, hsb, show layL 60 (E.map lkD) = true from layL_lk 59 E]; rfl)
  refine ⟨dPutAll (X.map fun l => (lkD l, PyData.bool true)), E, T, ?_, ?_, ?_, fun l hl => by simpa using h2 l (t2.mem_iff.mp hl), by have := t2.length_eq; simp at h3; omega⟩
  · unfold dpOp
    simp only [pairsOf_lk]
    rw [if_pos (by rw [List.map_map]; exact isKeys_lk X)]
  · unfold lkOp
    rw [show asDct (dctD true (dPutAll (X.map fun l => (lkD l, PyData.bool true)))) = some (true, dPutAll (X.map fun l => (lkD l, PyData.bool true))) from rfl]
    simp only
    rw [show (dPutAll (X.map fun l => (lkD l, PyData.bool true))).map (·.1) = E.map lkD from h1]
  · show (sortL (E.map lkD)).map _ = _
    rw [t1]; rfl
end K66
end
section
namespace K66
open PySem L2 Dl DlS DlZ DlR
noncomputable def p__law_values_1 : SM := (sAsg (tgT 2 (tgCons (tgN 4) (tgCons (tgN 5) tgNil))) (eX 2))
noncomputable def p__law_values_2 : SM := (sSet 3 (eB [(.t, (eX 2)), (.t, (eB [(.t, (eFz (e1 (.n 4) (eN 4) (g1 revOp)))), (.t, (eX 5))] tupG)), (.t, (eB [(.t, (eX 4)), (.t, (eFz (e1 (.n 5) (eN 5) (g1 revOp))))] tupG)), (.t, (eB [(.t, (eFz (eSl (.n 4) (eN 4) (pS (.t) (eC (.int 1))) pN))), (.t, (eX 5))] tupG)), (.t, (eB [(.t, (eX 4)), (.t, (eFz (eSl (.n 5) (eN 5) (pS (.t) (eC (.int 1))) pN)))] tupG)), (.t, (eC .none))] lstG))
noncomputable def p__law_values_3 : SM := (sDrop (eExt 3 (eB [(.t, (eB [] tupG)), (.t, (eX 4)), (.t, (eFz (eB [(.n 2, (eN 2))] (gN1 listOp)))), (.t, (eFz (e2 (.n 2) (.t) (eN 2) (eB [(.t, (eB [] tupG))] tupG) (g2 addOp)))), (.t, (eB [(.t, (eX 5)), (.t, (eX 4))] tupG)), (.t, (eB [(.t, (eB [] tupG)), (.t, (eB [] tupG))] tupG)), (.t, (eB [(.t, (eX 4)), (.t, (eFz (e2 (.n 5) (.t) (eN 5) (eSl (.n 5) (eN 5) pN (pS (.t) (eC (.int 1)))) (g2 addOp))))] tupG))] lstG)))
noncomputable def p__law_values_4 : SM := (sDrop (eApp 3 (eB [(.t, (eB [] tupG)), (.t, (eX 5))] tupG)))
noncomputable def p__law_values_5 : SM := (sDrop (eApp 3 (eB [(.t, (eX 4)), (.t, (eB [(.t, (eLc [13] (iSeq (.n 1) (eN 1)) (tgN 13) tYesD (eB [(.t, (eB [(.t, (eX 13))] tupG)), (.t, (e2 (.n 13) (.t) (eN 13) (eC (.int 2)) (g2 ixOp)))] tupG)))] (gN1 tupleOp)))] tupG)))
noncomputable def p__law_values_6 : SM := (sFor (iEn (.t) (eX 5)) (tgT 2 (tgCons (tgN 6) (tgCons (tgT 2 (tgCons (tgN 9) (tgCons (tgN 10) tgNil))) tgNil))) (sSeq (sSet 7 (eIf (bV .t (e2 (.n 10) (.t) (eN 10) (eC (.int 1)) (g2 gtOp))) (eB [(.t, (eB [(.t, (eX 9)), (.t, (eC (.int 1)))] tupG)), (.t, (eB [(.t, (eX 9)), (.t, (e2 (.n 10) (.t) (eN 10) (eC (.int 1)) (g2 subOp)))] tupG))] tupG) (eB [(.t, (eB [(.t, (eX 9)), (.t, (eX 10))] tupG))] tupG)))
  (sSeq (sDrop (eApp 3 (eB [(.t, (eX 4)), (.t, (eFz (e2 (.t) (.t) (e2 (.t) (.n 7) (eSl (.n 5) (eN 5) pN (pS (.n 6) (eN 6))) (eN 7) (g2 addOp)) (eSl (.n 5) (eN 5) (pS (.t) (e2 (.n 6) (.t) (eN 6) (eC (.int 1)) (g2 addOp))) pN) (g2 addOp))))] tupG)))
  (sSeq (sDrop (eApp 3 (eB [(.t, (eX 4)), (.t, (eFz (e2 (.t) (.t) (e2 (.t) (.t) (eSl (.n 5) (eN 5) pN (pS (.n 6) (eN 6))) (eB [(.t, (eB [(.t, (eX 9)), (.t, (e2 (.n 10) (.t) (eN 10) (eC (.int 1)) (g2 addOp)))] tupG))] tupG) (g2 addOp)) (eSl (.n 5) (eN 5) (pS (.t) (e2 (.n 6) (.t) (eN 6) (eC (.int 1)) (g2 addOp))) pN) (g2 addOp))))] tupG)))
  (sSeq (sDrop (eApp 3 (eB [(.t, (eX 4)), (.t, (eFz (e2 (.t) (.t) (e2 (.t) (.t) (eSl (.n 5) (eN 5) pN (pS (.n 6) (eN 6))) (eB [(.t, (eB [(.t, (eFz (eSl (.n 9) (eN 9) (pS (.t) (eC (.int 1))) pN))), (.t, (eX 10))] tupG))] tupG) (g2 addOp)) (eSl (.n 5) (eN 5) (pS (.t) (e2 (.n 6) (.t) (eN 6) (eC (.int 1)) (g2 addOp))) pN) (g2 addOp))))] tupG)))
  (sSeq (sDrop (eApp 3 (eB [(.t, (eX 4)), (.t, (eFz (e2 (.t) (.t) (e2 (.t) (.t) (eSl (.n 5) (eN 5) pN (pS (.n 6) (eN 6))) (eB [(.t, (eB [(.t, (eFz (e1 (.n 9) (eN 9) (g1 revOp)))), (.t, (eX 10))] tupG))] tupG) (g2 addOp)) (eSl (.n 5) (eN 5) (pS (.t) (e2 (.n 6) (.t) (eN 6) (eC (.int 1)) (g2 addOp))) pN) (g2 addOp))))] tupG)))
  (sSeq (sSet 8 (eB [(.t, (eB [(.t, (eB [(.t, (eB [(.t, (eLc [13] (iSeq (.t) (e2 (.n 9) (.t) (eN 9) (eB [(.t, (eFz (eCall [(.n 0, (eN 0)), (.t, (eX 1))] F__law_of)))] tupG) (g2 addOp))) (tgN 13) tYesD (eB [(.t, (eX 13)), (.t, (eC (.bool true)))] tupG)))] (gN1 dpOp)))] (gN1 lkOp)))] (gN1 sortedOp2)))] (gN1 tupleOp)))
  (sDrop (eApp 3 (eB [(.t, (eX 4)), (.t, (eFz (e2 (.t) (.t) (e2 (.t) (.t) (eSl (.n 5) (eN 5) pN (pS (.n 6) (eN 6))) (eB [(.t, (eB [(.t, (eX 8)), (.t, (eX 10))] tupG))] tupG) (g2 addOp)) (eSl (.n 5) (eN 5) (pS (.t) (e2 (.n 6) (.t) (eN 6) (eC (.int 1)) (g2 addOp))) pN) (g2 addOp))))] tupG))))))))))
noncomputable def p__law_values_7 : SM := (sDrop (eExt 3 (eLc [11] (iSeq (.t) (eCall [(.n 0, (eN 0)), (.t, (eCall [(.t, (eX 1))] F__law_matches)), (.t, (eB [(.t, (eC (.int 4))), (.t, (eB [(.t, (eCall [(.t, (eX 1))] F__law_matches))] (gN1 lenOp)))] (gN2 min2Op)))] F__law_some)) (tgN 11) tYesD (eB [(.t, (eX 11)), (.t, (eX 5))] tupG))))
noncomputable def p__law_values_8 : SM := (sRt (e2 (.n 3) (.t) (eN 3) (eLc [12] (iRg (eC (.int 9))) (tgN 12) tYesD (eCall [(.n 0, (eN 0)), (.t, (eX 2))] F__law_bent)) (g2 addOp)))
theorem split__law_values : b__law_values = (sSeq p__law_values_1 (sSeq p__law_values_2 (sSeq p__law_values_3 (sSeq p__law_values_4 (sSeq p__law_values_5 (sSeq p__law_values_6 (sSeq p__law_values_7 p__law_values_8))))))) := rfl
noncomputable def q__law_values_6_1 : SM := (sSet 7 (eIf (bV .t (e2 (.n 10) (.t) (eN 10) (eC (.int 1)) (g2 gtOp))) (eB [(.t, (eB [(.t, (eX 9)), (.t, (eC (.int 1)))] tupG)), (.t, (eB [(.t, (eX 9)), (.t, (e2 (.n 10) (.t) (eN 10) (eC (.int 1)) (g2 subOp)))] tupG))] tupG) (eB [(.t, (eB [(.t, (eX 9)), (.t, (eX 10))] tupG))] tupG)))
noncomputable def q__law_values_6_2 : SM := (sDrop (eApp 3 (eB [(.t, (eX 4)), (.t, (eFz (e2 (.t) (.t) (e2 (.t) (.n 7) (eSl (.n 5) (eN 5) pN (pS (.n 6) (eN 6))) (eN 7) (g2 addOp)) (eSl (.n 5) (eN 5) (pS (.t) (e2 (.n 6) (.t) (eN 6) (eC (.int 1)) (g2 addOp))) pN) (g2 addOp))))] tupG)))
noncomputable def q__law_values_6_3 : SM := (sDrop (eApp 3 (eB [(.t, (eX 4)), (.t, (eFz (e2 (.t) (.t) (e2 (.t) (.t) (eSl (.n 5) (eN 5) pN (pS (.n 6) (eN 6))) (eB [(.t, (eB [(.t, (eX 9)), (.t, (e2 (.n 10) (.t) (eN 10) (eC (.int 1)) (g2 addOp)))] tupG))] tupG) (g2 addOp)) (eSl (.n 5) (eN 5) (pS (.t) (e2 (.n 6) (.t) (eN 6) (eC (.int 1)) (g2 addOp))) pN) (g2 addOp))))] tupG)))
noncomputable def q__law_values_6_4 : SM := (sDrop (eApp 3 (eB [(.t, (eX 4)), (.t, (eFz (e2 (.t) (.t) (e2 (.t) (.t) (eSl (.n 5) (eN 5) pN (pS (.n 6) (eN 6))) (eB [(.t, (eB [(.t, (eFz (eSl (.n 9) (eN 9) (pS (.t) (eC (.int 1))) pN))), (.t, (eX 10))] tupG))] tupG) (g2 addOp)) (eSl (.n 5) (eN 5) (pS (.t) (e2 (.n 6) (.t) (eN 6) (eC (.int 1)) (g2 addOp))) pN) (g2 addOp))))] tupG)))
noncomputable def q__law_values_6_5 : SM := (sDrop (eApp 3 (eB [(.t, (eX 4)), (.t, (eFz (e2 (.t) (.t) (e2 (.t) (.t) (eSl (.n 5) (eN 5) pN (pS (.n 6) (eN 6))) (eB [(.t, (eB [(.t, (eFz (e1 (.n 9) (eN 9) (g1 revOp)))), (.t, (eX 10))] tupG))] tupG) (g2 addOp)) (eSl (.n 5) (eN 5) (pS (.t) (e2 (.n 6) (.t) (eN 6) (eC (.int 1)) (g2 addOp))) pN) (g2 addOp))))] tupG)))
noncomputable def q__law_values_6_6 : SM := (sSet 8 (eB [(.t, (eB [(.t, (eB [(.t, (eB [(.t, (eLc [13] (iSeq (.t) (e2 (.n 9) (.t) (eN 9) (eB [(.t, (eFz (eCall [(.n 0, (eN 0)), (.t, (eX 1))] F__law_of)))] tupG) (g2 addOp))) (tgN 13) tYesD (eB [(.t, (eX 13)), (.t, (eC (.bool true)))] tupG)))] (gN1 dpOp)))] (gN1 lkOp)))] (gN1 sortedOp2)))] (gN1 tupleOp)))
noncomputable def q__law_values_6_7 : SM := (sDrop (eApp 3 (eB [(.t, (eX 4)), (.t, (eFz (e2 (.t) (.t) (e2 (.t) (.t) (eSl (.n 5) (eN 5) pN (pS (.n 6) (eN 6))) (eB [(.t, (eB [(.t, (eX 8)), (.t, (eX 10))] tupG))] tupG) (g2 addOp)) (eSl (.n 5) (eN 5) (pS (.t) (e2 (.n 6) (.t) (eN 6) (eC (.int 1)) (g2 addOp))) pN) (g2 addOp))))] tupG)))
theorem splitf__law_values_6 : p__law_values_6 = sFor (iEn (.t) (eX 5)) (tgT 2 (tgCons (tgN 6) (tgCons (tgT 2 (tgCons (tgN 9) (tgCons (tgN 10) tgNil))) tgNil))) (sSeq q__law_values_6_1 (sSeq q__law_values_6_2 (sSeq q__law_values_6_3 (sSeq q__law_values_6_4 (sSeq q__law_values_6_5 (sSeq q__law_values_6_6 q__law_values_6_7)))))) := rfl
def vE (pot : List D) (L F : List Lk) (cs : List (List Lk × Int)) (s3 s6 s7 s8 s9 s10 : Dl.Slot) : DEnv := [.ow (.lst pot), .fz (likesD L), .fz (.tuple [rowD F, countsD cs]), s3, .fz (rowD F), .fz (countsD cs), s6, s7, s8, s9, s10, .no, .no, .no]
section
variable {pot : List D} {L F : List Lk} {cs : List (List Lk × Int)} {s3 s6 s7 s8 s9 s10 : Dl.Slot}
theorem rowD_rev : revOp (rowD F) = some (.fz (.tuple (F.map lkD).reverse)) := rfl
theorem rowD_sl (lo hi : Option Int) : slOp lo hi (rowD F) = some (.fz (.tuple (cutD (F.map lkD) lo hi))) := rfl
theorem cnts_rev : revOp (countsD cs) = some (.fz (.tuple (cs.map cntD).reverse)) := rfl
theorem cnts_sl (lo hi : Option Int) : slOp lo hi (countsD cs) = some (.fz (.tuple (cutD (cs.map cntD) lo hi))) := rfl
theorem cnts_add {ds : List D} (h : (cs.map cntD).length + ds.length ≤ 2000000) : addOp (countsD cs) (.tuple ds) = some (.fz (.tuple (cs.map cntD ++ ds))) := addOp_tuple (small_line (by omega))
theorem v1_ok : p__law_values_1 [.ow (.lst pot), .fz (likesD L), .fz (.tuple [rowD F, countsD cs]), .no, .no, .no, .no, .no, .no, .no, .no, .no, .no, .no] = .nx (vE pot L F cs .no .no .no .no .no .no) := by
  simp [p__law_values_1, sAsg, eX_fz, vE]
theorem v2_ok (hT : Told L F cs) : ∃ xs : List D, p__law_values_2 (vE pot L F cs s3 s6 s7 s8 s9 s10) = .nx (vE pot L F cs (.ow (.lst xs)) s6 s7 s8 s9 s10) ∧ xs.length = 6 ∧ ∀ d ∈ xs, G 12 60000 d := by
  refine ⟨[.tuple [rowD F, countsD cs], .tuple [.tuple (F.map lkD).reverse, countsD cs], .tuple [rowD F, .tuple (cs.map cntD).reverse], .tuple [.tuple (cutD (F.map lkD) (some 1) none), countsD cs], .tuple [rowD F, .tuple (cutD (cs.map cntD) (some 1) none)], .none], ?_, rfl, fun d hd => ?_⟩
  · simp [p__law_values_2, vE, eX_fz, tupG, lstG, allFz, rowD_rev, cnts_rev, rowD_sl, cnts_sl, pS_eq, sNx_eq]
  · simp only [List.mem_cons, List.not_mem_nil, or_false] at hd
    have hr := hT.row
    have hc := hT.cnts
    rcases hd with rfl | rfl | rfl | rfl | rfl | rfl
    · exact hT.all.mono (by omega) (by omega)
    · exact (G.tup ((G.tup hr.rev).cons ((G.tup hc).cons GL.nil))).mono (by decide) (by decide)
    · exact (G.tup ((G.tup hr).cons ((G.tup hc.rev).cons GL.nil))).mono (by decide) (by decide)
    · exact (G.tup ((G.tup (hr.cut _ _)).cons ((G.tup hc).cons GL.nil))).mono (by decide) (by decide)
    · exact (G.tup ((G.tup hr).cons ((G.tup (hc.cut _ _)).cons GL.nil))).mono (by decide) (by decide)
    · exact G.none.mono (by omega) (by omega)
theorem v3_ok (hT : Told L F cs) {xs : List D} (hl : xs.length ≤ 1000) (hx : ∀ d ∈ xs, G 12 60000 d) : ∃ ys : List D, p__law_values_3 (vE pot L F cs (.ow (.lst xs)) s6 s7 s8 s9 s10) = .nx (vE pot L F cs (.ow (.lst ys)) s6 s7 s8 s9 s10) ∧ ys.length = xs.length + 7 ∧ ∀ d ∈ ys, G 12 60000 d := by
  have c1 := wA_cut (cs.map cntD) none (some 1)
  have c2 := wA_len (cutD (cs.map cntD) none (some 1))
  have c3 := wA_len (cs.map cntD)
  have c4 := hT.cnts.2
  have a1 := cnts_add (cs := cs) (ds := cutD (cs.map cntD) none (some 1)) (by omega)
  have a2 : addOp (.tuple [rowD F, countsD cs]) (.tuple [.tuple []]) = some (.fz (.tuple [rowD F, countsD cs, .tuple []])) := addOp_tuple (small_line (by simp))
  have hsm : small (xs.length + 7) = true := by simp [small]; omega
  refine ⟨xs ++ [.tuple [], rowD F, .list [rowD F, countsD cs], .tuple [rowD F, countsD cs, .tuple []], .tuple [countsD cs, rowD F], .tuple [.tuple [], .tuple []], .tuple [rowD F, .tuple (cs.map cntD ++ cutD (cs.map cntD) none (some 1))]], ?_, by simp, fun d hd => ?_⟩
  · simp [p__law_values_3, vE, eX_fz, eExt, ownL, tupG, lstG, allFz, cnts_sl, pS_eq, a1, a2, hsm, sNx_eq]
  · rcases List.mem_append.mp hd with hd | hd
    · exact hx d hd
    · simp only [List.mem_cons, List.not_mem_nil, or_false] at hd
      have hr := hT.row
      have hc := hT.cnts
      rcases hd with rfl | rfl | rfl | rfl | rfl | rfl | rfl
      · exact (G.tup GL.nil).mono (by omega) (by omega)
      · exact (G.tup hr).mono (by omega) (by omega)
      · exact (G.list ((G.tup hr).cons ((G.tup hc).cons GL.nil))).mono (by decide) (by decide)
      · exact (G.tup ((G.tup hr).cons ((G.tup hc).cons ((G.tup GL.nil).cons GL.nil)))).mono (by decide) (by decide)
      · exact (G.tup ((G.tup hc).cons ((G.tup hr).cons GL.nil))).mono (by decide) (by decide)
      · exact (G.tup ((G.tup GL.nil).cons ((G.tup GL.nil).cons GL.nil))).mono (by decide) (by decide)
      · exact (G.tup ((G.tup hr).cons ((G.tup (hc.app (hc.cut none (some 1)))).cons GL.nil))).mono (by decide) (by decide)
theorem v4_ok (hT : Told L F cs) {xs : List D} (hl : xs.length ≤ 1000) (hx : ∀ d ∈ xs, G 12 60000 d) : ∃ ys : List D, p__law_values_4 (vE pot L F cs (.ow (.lst xs)) s6 s7 s8 s9 s10) = .nx (vE pot L F cs (.ow (.lst ys)) s6 s7 s8 s9 s10) ∧ ys.length = xs.length + 1 ∧ ∀ d ∈ ys, G 12 60000 d := by
  have hsm : small xs.length = true := by simp [small]; omega
  refine ⟨xs ++ [.tuple [.tuple [], countsD cs]], ?_, by simp, fun d hd => ?_⟩
  · simp [p__law_values_4, vE, eX_fz, eApp, ownL, tupG, allFz, hsm, sNx_eq]
  · rcases List.mem_append.mp hd with hd | hd
    · exact hx d hd
    · rw [List.mem_singleton.mp hd]
      exact (G.tup ((G.tup GL.nil).cons ((G.tup hT.cnts).cons GL.nil))).mono (by decide) (by decide)
theorem v5_ok (hT : Told L F cs) {xs : List D} (hl : xs.length ≤ 1000) (hx : ∀ d ∈ xs, G 12 60000 d) : ∃ ys : List D, p__law_values_5 (vE pot L F cs (.ow (.lst xs)) s6 s7 s8 s9 s10) = .nx (vE pot L F cs (.ow (.lst ys)) s6 s7 s8 s9 s10) ∧ ys.length = xs.length + 1 ∧ ∀ d ∈ ys, G 12 60000 d := by
  have hsm : small xs.length = true := by simp [small]; omega
  have hc := lcGo_encM (gd := gdOf (.n 1) (likesD L)) (vl := [13]) (tg := tgN 13) (c := tYesD) (f := (eB [(.t, (eB [(.t, (eX 13))] tupG)), (.t, (e2 (.n 13) (.t) (eN 13) (eC (.int 2)) (g2 ixOp)))] tupG)) (ρ := vE pot L F cs (.ow (.lst xs)) s6 s7 s8 s9 s10) (by simp [vE]) (E := L) (enc := lkD) (g := fun l => .tuple [.tuple [lkD l], .int (wt l)]) (fun l hl => by simp [lcStep, vE, eX_fz, tupG, allFz])
  have hit : itemsOf (likesD L) = some (L.map lkD) := rfl
  refine ⟨xs ++ [.tuple [rowD F, .tuple (L.map fun l => .tuple [.tuple [lkD l], .int (wt l)])]], ?_, by simp, fun d hd => ?_⟩
  · unfold vE at hc ⊢
    simp [p__law_values_5, eX_fz, eApp, ownL, tupG, allFz, hsm, hit, hc, sNx_eq]
  · rcases List.mem_append.mp hd with hd | hd
    · exact hx d hd
    · rw [List.mem_singleton.mp hd]
      have hw : GL 3 711 (L.map fun l => .tuple [.tuple [lkD l], .int (wt l)]) := (GL.mapc (n := 3) (w := 78) fun l hl => by
        obtain ⟨h1, h2, h3, h4, h5, h6⟩ := hT.lb l hl
        exact (G.tup ((G.tup ((G.lk (hT.lb l hl)).cons GL.nil)).cons ((G.int (i := wt l) (by omega) (by omega)).cons GL.nil))).mono (by decide) (by decide)).mono (by omega) (by have := hT.ll; omega)
      exact (G.tup ((G.tup hT.row).cons ((G.tup hw).cons GL.nil))).mono (by decide) (by decide)
end
end K66
end
section
namespace K66
open PySem L2 Dl DlS DlZ DlR
/-- the counts with others in one's place -/
def valD (F : List Lk) (cs : List (List Lk × Int)) (i : Nat) (ys : List D) : D := .tuple [rowD F, .tuple ((cs.map cntD).take i ++ ys ++ (cs.map cntD).drop (i + 1))]
section
variable {pot : List D} {L F : List Lk} {cs : List (List Lk × Int)} {s3 s6 s7 s8 s9 s10 : Dl.Slot} {i : Nat} {ys xs : List D} {S : List Lk} {m : Int}
theorem val_ok (hT : Told L F cs) (hy : GL 3 1300 ys) : G 12 60000 (valD F cs i ys) :=
  (G.tup ((G.tup hT.row).cons ((G.tup (((hT.cnts.take i).app hy).app (hT.cnts.drop (i + 1)))).cons GL.nil))).mono (by decide) (by decide)
theorem cnts_take (h : i ≤ cs.length) : slOp none (some (i : Int)) (countsD cs) = some (.fz (.tuple ((cs.map cntD).take i))) := by
  show some (Dl.Slot.fz (.tuple (cutD (cs.map cntD) none (some (i : Int))))) = _
  rw [cut_take (by simpa using h)]
theorem cnts_drop : slOp (some ((i : Int) + 1)) none (countsD cs) = some (.fz (.tuple ((cs.map cntD).drop (i + 1)))) := by
  show some (Dl.Slot.fz (.tuple (cutD (cs.map cntD) (some ((i : Int) + 1)) none))) = _
  rw [cut_drop1]
theorem add_ok (hT : Told L F cs) (hy : GL 3 1300 ys) : addOp (.tuple ((cs.map cntD).take i)) (.tuple ys) = some (.fz (.tuple ((cs.map cntD).take i ++ ys))) ∧ addOp (.tuple ((cs.map cntD).take i ++ ys)) (.tuple ((cs.map cntD).drop (i + 1))) = some (.fz (.tuple ((cs.map cntD).take i ++ ys ++ (cs.map cntD).drop (i + 1)))) := by
  have h1 := wA_len ys
  have h2 := hy.2
  have h3 := hT.cl
  have h4 : (cs.map cntD).length = cs.length := by simp
  exact ⟨addOp_tuple (small_line (by rw [List.length_take]; omega)), addOp_tuple (small_line (by rw [List.length_append, List.length_take, List.length_drop]; omega))⟩
abbrev lE (pot : List D) (L F : List Lk) (cs : List (List Lk × Int)) (xs : List D) (i : Nat) (s7 s8 : Dl.Slot) (S : List Lk) (m : Int) : DEnv := vE pot L F cs (.ow (.lst xs)) (.fz (.int i)) s7 s8 (.fz (likesD S)) (.fz (.int m))
theorem lot_g (hT : Told L F cs) (hc : (S, m) ∈ cs) : GL 1 387 (S.map lkD) := hT.lot hc
theorem q1_ok (hT : Told L F cs) (hc : (S, m) ∈ cs) : ∃ ys : List D, q__law_values_6_1 (lE pot L F cs xs i s7 s8 S m) = .nx (lE pot L F cs xs i (.fz (.tuple ys)) s8 S m) ∧ GL 3 1300 ys := by
  have hS := hT.lot hc
  have hm := (hT.cm _ hc).2.2
  simp only at hm
  by_cases h : 1 < m
  · refine ⟨[.tuple [likesD S, .int 1], .tuple [likesD S, .int (m - 1)]], by simp [q__law_values_6_1, vE, eX_fz, tupG, allFz, h], ?_⟩
    exact ((G.tup ((G.tup hS).cons ((G.int (i := 1) (by omega) (by omega)).cons GL.nil))).cons ((G.tup ((G.tup hS).cons ((G.int (i := m - 1) (by omega) (by omega)).cons GL.nil))).cons GL.nil)).mono (by decide) (by decide)
  · refine ⟨[.tuple [likesD S, .int m]], by simp [q__law_values_6_1, vE, eX_fz, tupG, allFz, h], ?_⟩
    exact ((G.tup ((G.tup hS).cons ((G.int (i := m) (by omega) (by omega)).cons GL.nil))).cons GL.nil).mono (by decide) (by decide)
theorem q2_ok (hT : Told L F cs) (hc : (S, m) ∈ cs) (hi : i ≤ cs.length) (hx : xs.length ≤ 1000) (hy : GL 3 1300 ys) : q__law_values_6_2 (lE pot L F cs xs i (.fz (.tuple ys)) s8 S m) = .nx (lE pot L F cs (xs ++ [valD F cs i ys]) i (.fz (.tuple ys)) s8 S m) := by
  have hsm : small xs.length = true := by simp [small]; omega
  obtain ⟨a1, a2⟩ := add_ok (i := i) hT hy
  simp [q__law_values_6_2, vE, eX_fz, eApp, ownL, tupG, allFz, hsm, pS_eq, cnts_take hi, cnts_drop, a1, a2, valD, -List.append_assoc]
theorem q3_ok (hT : Told L F cs) (hc : (S, m) ∈ cs) (hi : i ≤ cs.length) (hx : xs.length ≤ 1000) : ∃ ys, q__law_values_6_3 (lE pot L F cs xs i s7 s8 S m) = .nx (lE pot L F cs (xs ++ [valD F cs i ys]) i s7 s8 S m) ∧ GL 3 1300 ys := by
  have hS := hT.lot hc
  have hm := (hT.cm _ hc).2.2
  simp only at hm
  have hy : GL 3 1300 [.tuple [likesD S, .int (m + 1)]] := ((G.tup ((G.tup hS).cons ((G.int (i := m + 1) (by omega) (by omega)).cons GL.nil))).cons GL.nil).mono (by decide) (by decide)
  have hsm : small xs.length = true := by simp [small]; omega
  obtain ⟨a1, a2⟩ := add_ok (i := i) hT hy
  exact ⟨_, by simp [q__law_values_6_3, vE, eX_fz, eApp, ownL, tupG, allFz, hsm, pS_eq, cnts_take hi, cnts_drop, a1, a2, valD, -List.append_assoc], hy⟩
theorem q4_ok (hT : Told L F cs) (hc : (S, m) ∈ cs) (hi : i ≤ cs.length) (hx : xs.length ≤ 1000) : ∃ ys, q__law_values_6_4 (lE pot L F cs xs i s7 s8 S m) = .nx (lE pot L F cs (xs ++ [valD F cs i ys]) i s7 s8 S m) ∧ GL 3 1300 ys := by
  have hS := hT.lot hc
  have hm := (hT.cm _ hc).2.2
  simp only at hm
  have hy : GL 3 1300 [.tuple [.tuple (cutD (S.map lkD) (some 1) none), .int m]] := ((G.tup ((G.tup (hS.cut _ _)).cons ((G.int (i := m) (by omega) (by omega)).cons GL.nil))).cons GL.nil).mono (by decide) (by decide)
  have hsm : small xs.length = true := by simp [small]; omega
  obtain ⟨a1, a2⟩ := add_ok (i := i) hT hy
  have hs : slOp (some 1) none (likesD S) = some (.fz (.tuple (cutD (S.map lkD) (some 1) none))) := rfl
  exact ⟨_, by simp [q__law_values_6_4, vE, eX_fz, eApp, ownL, tupG, allFz, hsm, pS_eq, hs, cnts_take hi, cnts_drop, a1, a2, valD, -List.append_assoc], hy⟩
theorem q5_ok (hT : Told L F cs) (hc : (S, m) ∈ cs) (hi : i ≤ cs.length) (hx : xs.length ≤ 1000) : ∃ ys, q__law_values_6_5 (lE pot L F cs xs i s7 s8 S m) = .nx (lE pot L F cs (xs ++ [valD F cs i ys]) i s7 s8 S m) ∧ GL 3 1300 ys := by
  have hS := hT.lot hc
  have hm := (hT.cm _ hc).2.2
  simp only at hm
  have hy : GL 3 1300 [.tuple [.tuple (S.map lkD).reverse, .int m]] := ((G.tup ((G.tup hS.rev).cons ((G.int (i := m) (by omega) (by omega)).cons GL.nil))).cons GL.nil).mono (by decide) (by decide)
  have hsm : small xs.length = true := by simp [small]; omega
  obtain ⟨a1, a2⟩ := add_ok (i := i) hT hy
  have hs : revOp (likesD S) = some (.fz (.tuple (S.map lkD).reverse)) := rfl
  exact ⟨_, by simp [q__law_values_6_5, vE, eX_fz, eApp, ownL, tupG, allFz, hsm, pS_eq, hs, cnts_take hi, cnts_drop, a1, a2, valD, -List.append_assoc, -List.map_reverse], hy⟩
theorem r_ofT {n : Nat} {pot ds : List D} (h : PotOk n pot) (hn : n ≤ 100000) (hd : ds ≠ []) (hl : ds.length ≤ 1000000) : ∃ (d : D) (pot' : List D), F__law_of [.ow (.lst pot), .fz (.tuple ds)] = .ok (.fz d) [.ow (.lst pot'), .fz (.tuple ds)] ∧ d ∈ ds ∧ PotOk (n + 1) pot' := by
  have hp : 0 < ds.length := List.length_pos_iff.mpr hd
  obtain ⟨r, pot', e, r0, r1, ok⟩ := r_take (m := ds.length) h hn (by omega) (by omega)
  have hx : L2.atI ds r = some ds[r.toNat] := by rw [atI_int r0 r1, List.getElem?_eq_getElem (by omega)]
  refine ⟨_, pot', ?_, List.getElem_mem (by omega : r.toNat < ds.length), ok⟩
  simp [F__law_of, b__law_of, e, hx]
theorem q6_ok {n : Nat} (hT : Told L F cs) (hc : (S, m) ∈ cs) (hp : PotOk n pot) (hn : n ≤ 90000) : ∃ (T : List Lk) (pot' : List D), q__law_values_6_6 (lE pot L F cs xs i s7 s8 S m) = .nx (lE pot' L F cs xs i s7 (.fz (.tuple (T.map lkD))) S m) ∧ GL 1 430 (T.map lkD) ∧ PotOk (n + 1) pot' := by
  have hne : L ≠ [] := hT.ne (fun z => by rw [z] at hc; cases hc)
  have hll := hT.ll
  obtain ⟨d, pot', e, hd, ok⟩ := r_ofT (ds := L.map lkD) hp (by omega) (by simpa using hne) (by simp; omega)
  obtain ⟨l, hl, rfl⟩ := List.mem_map.mp hd
  obtain ⟨kvs, E, T, m1, m2, m3, m4, m5⟩ := more_ok (S ++ [l])
  have hcm := hT.cm _ hc
  simp only at hcm
  have a1 : addOp (likesD S) (.tuple [lkD l]) = some (.fz (.tuple ((S ++ [l]).map lkD))) := by
    rw [List.map_append]
    exact addOp_tuple (small_line (by simp; omega))
  have hlc := lcGo_encM (gd := gdOf .t (.tuple ((S ++ [l]).map lkD))) (vl := [13]) (tg := tgN 13) (c := tYesD) (f := (eB [(.t, (eX 13)), (.t, (eC (.bool true)))] tupG)) (ρ := lE pot' L F cs xs i s7 s8 S m) trivial (E := S ++ [l]) (enc := lkD) (g := fun l => .tuple [lkD l, .bool true]) (fun x hx => by simp [lcStep, vE, eX_fz, tupG, allFz])
  have hit : itemsOf (.tuple ((S ++ [l]).map lkD)) = some ((S ++ [l]).map lkD) := rfl
  refine ⟨T, pot', ?_, (GL.mapc (n := 1) (w := 42) fun x hx => ?_).mono (by omega) ?_, ok⟩
  · have e' : F__law_of [.ow (.lst pot), .fz (likesD L)] = .ok (.fz (lkD l)) [.ow (.lst pot'), .fz (likesD L)] := e
    have hdt : (Dl.Slot.ow (.dct true kvs)).d? = some (dctD true kvs) := rfl
    unfold lE vE at hlc ⊢
    simp [q__law_values_6_6, eX_fz, e', tupG, allFz, a1, hit, hlc, m1, hdt, m2, m3, -List.map_append]
  · rcases List.mem_append.mp (m4 x hx) with z | z
    · exact G.lk (hT.lb x (hcm.1 x z))
    · rw [List.mem_singleton.mp z]; exact G.lk (hT.lb l hl)
  · simp at m5
    omega
theorem q7_ok {T : List Lk} (hT : Told L F cs) (hc : (S, m) ∈ cs) (hi : i ≤ cs.length) (hx : xs.length ≤ 1000) (hg : GL 1 430 (T.map lkD)) : ∃ ys, q__law_values_6_7 (lE pot L F cs xs i s7 (.fz (.tuple (T.map lkD))) S m) = .nx (lE pot L F cs (xs ++ [valD F cs i ys]) i s7 (.fz (.tuple (T.map lkD))) S m) ∧ GL 3 1300 ys := by
  have hm := (hT.cm _ hc).2.2
  simp only at hm
  have hy : GL 3 1300 [.tuple [.tuple (T.map lkD), .int m]] := ((G.tup ((G.tup hg).cons ((G.int (i := m) (by omega) (by omega)).cons GL.nil))).cons GL.nil).mono (by decide) (by decide)
  have hsm : small xs.length = true := by simp [small]; omega
  obtain ⟨a1, a2⟩ := add_ok (i := i) hT hy
  exact ⟨_, by simp [q__law_values_6_7, vE, eX_fz, eApp, ownL, tupG, allFz, hsm, pS_eq, cnts_take hi, cnts_drop, a1, a2, valD, -List.append_assoc], hy⟩
end
end K66
end
section
namespace K66
open PySem L2 Dl DlS DlZ DlR
section
variable {pot : List D} {L F : List Lk} {cs : List (List Lk × Int)} {s3 s6 s7 s8 s9 s10 : Dl.Slot} {i : Nat} {ys xs : List D} {S : List Lk} {m : Int}
theorem enum_cs (cs : List (List Lk × Int)) : enumD (cs.map cntD) = cs.zipIdx.map fun p => .tuple [.int (p.2 : Nat), cntD p.1] := by
  unfold enumD
  rw [List.zipIdx_map, List.map_map]
  rfl
theorem v6_ok {n : Nat} (hT : Told L F cs) (hp : PotOk n pot) (hn : n ≤ 80000) (hx0 : xs.length ≤ 100) (hx : ∀ d ∈ xs, G 12 60000 d) : ∃ (xs' pot' : List D) (t6 t7 t8 t9 t10 : Dl.Slot), p__law_values_6 (vE pot L F cs (.ow (.lst xs)) s6 s7 s8 s9 s10) = .nx (vE pot' L F cs (.ow (.lst xs')) t6 t7 t8 t9 t10) ∧ PotOk (n + 18) pot' ∧ xs'.length ≤ 200 ∧ ∀ d ∈ xs', G 12 60000 d := by
  obtain ⟨ρ', e, pot', xs', t6, t7, t8, t9, t10, rfl, ok, hl, hg⟩ := forGo_enc (enc := fun (p : (List Lk × Int) × Nat) => PyData.tuple [.int (p.2 : Nat), cntD p.1]) (gd := gdOf .t (countsD cs)) (tg := (tgT 2 (tgCons (tgN 6) (tgCons (tgT 2 (tgCons (tgN 9) (tgCons (tgN 10) tgNil))) tgNil))))
    (b := (sSeq q__law_values_6_1 (sSeq q__law_values_6_2 (sSeq q__law_values_6_3 (sSeq q__law_values_6_4 (sSeq q__law_values_6_5 (sSeq q__law_values_6_6 q__law_values_6_7)))))))
    (I := fun P ρ => ∃ pot' xs' t6 t7 t8 t9 t10, ρ = vE pot' L F cs (.ow (.lst xs')) t6 t7 t8 t9 t10 ∧ PotOk (n + P.length) pot' ∧ xs'.length = xs.length + 5 * P.length ∧ ∀ d ∈ xs', G 12 60000 d) (fun _ _ _ => trivial) (Q := cs.zipIdx) (P := []) (ρ := vE pot L F cs (.ow (.lst xs)) s6 s7 s8 s9 s10) (fun P x Q ρ el i => by
      obtain ⟨pot', xs', t6, t7, t8, t9, t10, rfl, ok, hl, hg⟩ := i
      rw [List.nil_append] at el
      obtain ⟨⟨S, m⟩, k⟩ := x
      have hcl := hT.cl
      have hlen := congrArg List.length el
      simp only [List.length_zipIdx, List.length_append, List.length_cons] at hlen
      have hm : ((S, m), k) ∈ cs.zipIdx := by rw [el]; simp
      have hc : (S, m) ∈ cs := (List.mem_zipIdx' hm).2 ▸ List.getElem_mem _
      have hk : k ≤ cs.length := Nat.le_of_lt (List.mem_zipIdx' hm).1
      obtain ⟨y1, e1, g1⟩ := q1_ok (pot := pot') (xs := xs') (i := k) (s7 := t7) (s8 := t8) hT hc
      have e2 := q2_ok (pot := pot') (s8 := t8) hT hc hk (by omega : xs'.length ≤ 1000) g1
      obtain ⟨y3, e3, g3⟩ := q3_ok (pot := pot') (s7 := .fz (.tuple y1)) (s8 := t8) (xs := xs' ++ [valD F cs k y1]) hT hc hk (by simp; omega)
      obtain ⟨y4, e4, g4⟩ := q4_ok (pot := pot') (s7 := .fz (.tuple y1)) (s8 := t8) (xs := xs' ++ [valD F cs k y1] ++ [valD F cs k y3]) hT hc hk (by simp; omega)
      obtain ⟨y5, e5, g5⟩ := q5_ok (pot := pot') (s7 := .fz (.tuple y1)) (s8 := t8) (xs := xs' ++ [valD F cs k y1] ++ [valD F cs k y3] ++ [valD F cs k y4]) hT hc hk (by simp; omega)
      obtain ⟨T, pot2, e6, g6, ok2⟩ := q6_ok (s7 := .fz (.tuple y1)) (s8 := t8) (i := k) (xs := xs' ++ [valD F cs k y1] ++ [valD F cs k y3] ++ [valD F cs k y4] ++ [valD F cs k y5]) hT hc ok (by omega)
      obtain ⟨y7, e7, g7⟩ := q7_ok (pot := pot2) (s7 := .fz (.tuple y1)) (xs := xs' ++ [valD F cs k y1] ++ [valD F cs k y3] ++ [valD F cs k y4] ++ [valD F cs k y5]) hT hc hk (by simp; omega) g6
      refine ⟨lE pot' L F cs xs' k t7 t8 S m, lE pot2 L F cs (xs' ++ [valD F cs k y1] ++ [valD F cs k y3] ++ [valD F cs k y4] ++ [valD F cs k y5] ++ [valD F cs k y7]) k (.fz (.tuple y1)) (.fz (.tuple (T.map lkD))) S m, ?_, .inl ?_, pot2, _, _, _, _, _, _, rfl, ?_, ?_, ?_⟩
      · simp [vE, cntD]
      · rw [sSeq_eq, e1, SOut.seq_nx, sSeq_eq, e2, SOut.seq_nx, sSeq_eq, e3, SOut.seq_nx, sSeq_eq, e4, SOut.seq_nx, sSeq_eq, e5, SOut.seq_nx, sSeq_eq, e6, SOut.seq_nx, e7]
      · simpa [Nat.add_assoc] using ok2
      · simp [hl]; omega
      · intro d hd
        simp only [List.mem_append, List.mem_singleton] at hd
        rcases hd with ((((hd | rfl) | rfl) | rfl) | rfl) | rfl
        · exact hg d hd
        · exact val_ok hT g1
        · exact val_ok hT g3
        · exact val_ok hT g4
        · exact val_ok hT g5
        · exact val_ok hT g7) ⟨pot, xs, s6, s7, s8, s9, s10, rfl, by simpa using hp, by simp, hx⟩
  have hcl := hT.cl
  rw [List.nil_append, List.length_zipIdx] at ok hl
  refine ⟨xs', pot', t6, t7, t8, t9, t10, ?_, ok.mono (by omega), by omega, hg⟩
  rw [splitf__law_values_6]
  have hsq : seqOf (countsD cs) = some (true, cs.map cntD) := rfl
  have he := enum_cs cs
  have hv : (vE pot L F cs (.ow (.lst xs)) s6 s7 s8 s9 s10)[5]? = some (.fz (countsD cs)) := rfl
  have hv2 : (vE pot L F cs (.ow (.lst xs)) s6 s7 s8 s9 s10).set 5 (.fz (countsD cs)) = vE pot L F cs (.ow (.lst xs)) s6 s7 s8 s9 s10 := rfl
  simp [iEn_eq, eX_fz hv, hv2, hsq, he, e, -sSeq_eq]
theorem r_someO {n : Nat} {pot pool : List D} {m : Nat} (h : PotOk n pot) (hn : n + m ≤ 100000) (hm : m ≤ pool.length) (hl : pool.length ≤ 1000000) :
    ∃ (ys : List D) (pot' : List D), F__law_some [.ow (.lst pot), .ow (.lst pool), .fz (.int m)] = .ok (.ow (.lst ys)) [.ow (.lst pot'), .ow (.lst pool), .fz (.int m)] ∧ ys.length = m ∧ (∃ zs, (ys ++ zs).Perm pool) ∧ PotOk (n + m) pot' := by
  obtain ⟨ρ', e, i⟩ := forGo_inv (gd := fun _ => True) (tg := tgN 3) (b := sDrop (eApp 5 (ePop 4 (eCall [(.n 0, (eN 0)), (.t, (eB [(.n 4, (eN 4))] (gN1 lenOp)))] F__law_take))))
    (I := fun l ρ => ∃ pot' left found s3, ρ = [.ow (.lst pot'), .ow (.lst pool), .fz (.int m), s3, .ow (.lst left), .ow (.lst found)] ∧ PotOk (n + l.length) pot' ∧ found.length = l.length ∧ (found ++ left).Perm pool) (fun _ _ _ => trivial)
    (ds := (List.range m).map fun (i : Nat) => .int i) (pre := []) (ρ := [.ow (.lst pot), .ow (.lst pool), .fz (.int m), .no, .ow (.lst pool), .ow (.lst [])]) (fun l d r ρ el i => by
      obtain ⟨pot', left, found, s3, rfl, ok, hf, hp⟩ := i
      have hll := congrArg List.length el
      simp only [List.nil_append, List.length_map, List.length_range, List.length_append, List.length_cons] at hll
      have hpl := hp.length_eq
      rw [List.length_append] at hpl
      obtain ⟨r, pot'', e, r0, r1, ok'⟩ := r_take (m := left.length) ok (by omega) (by omega) (by omega)
      have hx : left[r.toNat]? = some left[r.toNat] := List.getElem?_eq_getElem (by omega)
      refine ⟨_, [.ow (.lst pot''), .ow (.lst pool), .fz (.int m), .fz d, .ow (.lst (left.eraseIdx r.toNat)), .ow (.lst (found ++ [left[r.toNat]]))], rfl, .inl ?_, pot'', _, _, _, rfl, by simpa [Nat.add_assoc] using ok', by simp [hf], ?_⟩
      · have h1 : left.length ≤ 1000000 := by omega
        have h2 : found.length ≤ 1000000 := by omega
        simp [eApp, ePop, ownL, e, r0, hx, small, h1, h2]
      · rw [List.append_assoc]
        exact (List.Perm.append_left found (erase_perm (by omega))).trans hp) ⟨pot, pool, [], .no, rfl, by simpa using h, rfl, by simp⟩
  obtain ⟨pot', left, found, s3, rfl, ok, hf, hp⟩ := i
  simp only [List.nil_append, List.length_map, List.length_range] at ok hf
  refine ⟨found, pot', ?_, hf, ⟨_, hp⟩, ok⟩
  have hm2 : (m : Int) ≤ 1000000 ∧ (-1000000 : Int) ≤ m := by omega
  simp [F__law_some, b__law_some, lstG, allFz, eX_fz, iRg, hm2, e, eM_ow]
theorem v7_ok {n : Nat} (hL : L.Pairwise ltP) (hT : Told L F cs) (hp : PotOk n pot) (hn : n ≤ 80000) (hx0 : xs.length ≤ 1000) (hx : ∀ d ∈ xs, G 12 60000 d) : ∃ (xs' pot' : List D), p__law_values_7 (vE pot L F cs (.ow (.lst xs)) s6 s7 s8 s9 s10) = .nx (vE pot' L F cs (.ow (.lst xs')) s6 s7 s8 s9 s10) ∧ PotOk (n + 4) pot' ∧ xs'.length ≤ xs.length + 4 ∧ ∀ d ∈ xs', G 12 60000 d := by
  have hll := hT.ll
  have hrm := r_matches hL (by omega : L.length ≤ 14)
  have hrl := rowsF_len L
  have hr2 : (rowsF L).length ≤ 512 := Nat.le_trans hrl (Nat.le_trans (Nat.pow_le_pow_right (by omega) hll) (by decide))
  obtain ⟨k, hk⟩ : ∃ k : Nat, k = if (rowsF L).length < 4 then (rowsF L).length else 4 := ⟨_, rfl⟩
  have hk4 : k ≤ 4 ∧ k ≤ (rowsF L).length := by split at hk <;> omega
  have hmin : min2Op (.int 4) (.int ((rowsF L).length : Nat)) = some (.fz (.int k)) := by
    show some (Dl.Slot.fz (.int (if ((rowsF L).length : Int) < 4 then ((rowsF L).length : Int) else 4))) = _
    rw [hk]
    by_cases h4 : (rowsF L).length < 4
    · rw [if_pos (by omega), if_pos h4]
    · rw [if_neg (by omega), if_neg h4]; rfl
  obtain ⟨ys, pot', e, hyl, ⟨zs, hpm⟩, ok⟩ := r_someO (pool := (rowsF L).map rowD) (m := k) hp (by omega) (by simp; omega) (by simp; omega)
  have hlc := lcGo_encM (gd := gdOf .t (.list ys)) (vl := [11]) (tg := tgN 11) (c := tYesD) (f := (eB [(.t, (eX 11)), (.t, (eX 5))] tupG)) (ρ := vE pot' L F cs (.ow (.lst xs)) s6 s7 s8 s9 s10) trivial (E := ys) (enc := fun d => d) (g := fun d => .tuple [d, countsD cs]) (fun x hx => by simp [lcStep, vE, eX_fz, tupG, allFz])
  rw [List.map_id'] at hlc
  have hit : itemsOf (.list ys) = some ys := rfl
  have hsm : small (xs.length + ys.length) = true := by simp [small]; omega
  refine ⟨xs ++ ys.map fun d => .tuple [d, countsD cs], pot', ?_, ok.mono (by omega), by simp; omega, fun d hd => ?_⟩
  · unfold vE at hlc ⊢
    simp [p__law_values_7, eX_fz, hrm, hmin, e, eExt, ownL, hit, hlc, hsm]
  · rcases List.mem_append.mp hd with hd | hd
    · exact hx d hd
    · obtain ⟨y, hy, rfl⟩ := List.mem_map.mp hd
      have hy2 : y ∈ (rowsF L).map rowD := hpm.mem_iff.mp (List.mem_append_left _ hy)
      obtain ⟨c, hc, rfl⟩ := List.mem_map.mp hy2
      have hch := (mem_rows L hL c).mp hc
      have hcl := ch_len hch
      have hg : GL 1 387 (c.map lkD) := (GL.mapc (n := 1) (w := 42) fun x hx => G.lk (hT.lb x (hch.2 x hx))).mono (by omega) (by omega)
      exact (G.tup ((G.tup hg).cons ((G.tup hT.cnts).cons GL.nil))).mono (by decide) (by decide)
theorem lcGo_pos {gd : DEnv → Prop} {vl : List Nat} {tg : TgD} {c : DEnv → Out Bool} {f : EM} {I : List D → List D → DEnv → Prop} (hg : ∀ l ys ρ, I l ys ρ → gd ρ) : ∀ {ds pre ys0 : List D} {ρ : DEnv}, (∀ l d r ys ρ, pre ++ ds = l ++ d :: r → I l ys ρ → ∃ y ρ', lcStep vl tg c f d ρ = .ok y ρ' ∧ I (l ++ [d]) (ys ++ y.toList) ρ') → I pre ys0 ρ →
    ∃ ys ρ', lcGo gd vl tg c f ds ρ = .ok ys ρ' ∧ I (pre ++ ds) (ys0 ++ ys) ρ'
  | [], pre, ys0, ρ, _, h => ⟨[], ρ, rfl, by simpa using h⟩
  | d :: ds, pre, ys0, ρ, h, h0 => by
    obtain ⟨y, ρ1, e1, i1⟩ := h pre d ds ys0 ρ rfl h0
    obtain ⟨ys, ρ2, e2, i2⟩ := lcGo_pos hg (ds := ds) (pre := pre ++ [d]) (fun l x r ys ρ e => h l x r ys ρ (by simpa using e)) i1
    exact ⟨_, ρ2, lcGo_cons e1 (hg _ _ _ i1) e2, by simpa using i2⟩
theorem v8_ok {n : Nat} (hT : Told L F cs) (hp : PotOk n pot) (hn : n ≤ 60000) (hx0 : xs.length ≤ 1000) (hx : ∀ d ∈ xs, G 12 60000 d) : ∃ (xs' pot' : List D), p__law_values_8 (vE pot L F cs (.ow (.lst xs)) s6 s7 s8 s9 s10) = .rt (.ow (.lst xs')) (vE pot' L F cs (.ow (.lst xs)) s6 s7 s8 s9 s10) ∧ PotOk (n + 400) pot' ∧ xs'.length ≤ xs.length + 9 ∧ ∀ d ∈ xs', G 12 60000 d := by
  obtain ⟨ys, ρ', e, pot', rfl, ok, hl, hg⟩ := lcGo_pos (gd := fun _ => True) (vl := [12]) (tg := tgN 12) (c := tYesD) (f := eCall [(.n 0, (eN 0)), (.t, (eX 2))] F__law_bent)
    (I := fun l ys ρ => ∃ pot', ρ = vE pot' L F cs (.ow (.lst xs)) s6 s7 s8 s9 s10 ∧ PotOk (n + 36 * l.length) pot' ∧ ys.length = l.length ∧ ∀ d ∈ ys, G 12 60000 d) (fun _ _ _ _ => trivial) (ds := (List.range 9).map fun (i : Nat) => PyData.int i) (pre := []) (ys0 := []) (ρ := vE pot L F cs (.ow (.lst xs)) s6 s7 s8 s9 s10) (fun l d r ys ρ el i => by
      obtain ⟨pot', rfl, ok, hl, hg⟩ := i
      have hll := congrArg List.length el
      simp only [List.nil_append, List.length_map, List.length_range, List.length_append, List.length_cons] at hll
      have hA := hT.all
      obtain ⟨b, pot2, e2, j2, w2, ok2⟩ := r_bent 12 (n := 5) (v := .tuple [rowD F, countsD cs]) (pot := pot') (by omega) (by omega) hT.tin (by have := hA.2; omega) ok (by omega)
      refine ⟨some b, vE pot2 L F cs (.ow (.lst xs)) s6 s7 s8 s9 s10, ?_, pot2, rfl, ?_, by simp [hl], fun d hd => ?_⟩
      · have e2' : F__law_bent [.ow (.lst pot'), .fz (.tuple [rowD F, countsD cs])] = .ok (.fz b) [.ow (.lst pot2), .fz (.tuple [rowD F, countsD cs])] := e2
        simp [lcStep, vE, eX_fz, e2']
      · refine ok2.mono ?_
        simp
        omega
      · rcases List.mem_append.mp hd with hd | hd
        · exact hg d hd
        · rw [List.mem_singleton.mp hd]
          exact ⟨jok_le j2 (by omega), by have := hA.2; omega⟩) ⟨pot, rfl, by simpa using hp, by simp, by simp⟩
  simp only [List.nil_append, List.length_map, List.length_range] at ok hl hg
  have ha : addOp (.list xs) (.list ys) = some (.ow (.lst (xs ++ ys))) := addOp_list (small_line (by omega))
  refine ⟨xs ++ ys, pot', ?_, ok.mono (by omega), by simp; omega, fun d hd => (List.mem_append.mp hd).elim (hx d) (hg d)⟩
  unfold vE at e ⊢
  simp [p__law_values_8, iRg_eq, e, ha, -List.map_map]
theorem r_values {n : Nat} (hL : L.Pairwise ltP) (hT : Told L F cs) (hp : PotOk n pot) (hn : n ≤ 50000) : ∃ (xs pot' : List D), F__law_values [.ow (.lst pot), .fz (likesD L), .fz (.tuple [rowD F, countsD cs])] = .ok (.ow (.lst xs)) [.ow (.lst pot'), .fz (likesD L), .fz (.tuple [rowD F, countsD cs])] ∧ PotOk (n + 500) pot' ∧ ∀ d ∈ xs, G 12 60000 d := by
  have e1 := v1_ok (pot := pot) (L := L) (F := F) (cs := cs)
  obtain ⟨x2, e2, l2, g2⟩ := v2_ok (pot := pot) (s3 := .no) (s6 := .no) (s7 := .no) (s8 := .no) (s9 := .no) (s10 := .no) hT
  obtain ⟨x3, e3, l3, g3⟩ := v3_ok (pot := pot) (s6 := .no) (s7 := .no) (s8 := .no) (s9 := .no) (s10 := .no) hT (by omega) g2
  obtain ⟨x4, e4, l4, g4⟩ := v4_ok (pot := pot) (s6 := .no) (s7 := .no) (s8 := .no) (s9 := .no) (s10 := .no) hT (by omega) g3
  obtain ⟨x5, e5, l5, g5⟩ := v5_ok (pot := pot) (s6 := .no) (s7 := .no) (s8 := .no) (s9 := .no) (s10 := .no) hT (by omega) g4
  obtain ⟨x6, pot6, t6, t7, t8, t9, t10, e6, ok6, l6, g6⟩ := v6_ok (s6 := .no) (s7 := .no) (s8 := .no) (s9 := .no) (s10 := .no) hT hp (by omega) (by omega) g5
  obtain ⟨x7, pot7, e7, ok7, l7, g7⟩ := v7_ok (s6 := t6) (s7 := t7) (s8 := t8) (s9 := t9) (s10 := t10) hL hT ok6 (by omega) (by omega) g6
  obtain ⟨x8, pot8, e8, ok8, l8, g8⟩ := v8_ok (s6 := t6) (s7 := t7) (s8 := t8) (s9 := t9) (s10 := t10) hT ok7 (by omega) (by omega) g7
  refine ⟨x8, pot8, ?_, ok8.mono (by omega), g8⟩
  unfold F__law_values
  rw [runF_eq, split__law_values]
  show SOut.fin (sSeq _ _ [.ow (.lst pot), .fz (likesD L), .fz (.tuple [rowD F, countsD cs]), .no, .no, .no, .no, .no, .no, .no, .no, .no, .no, .no]) _ = _
  rw [sSeq_eq, e1, SOut.seq_nx, sSeq_eq, e2, SOut.seq_nx, sSeq_eq, e3, SOut.seq_nx, sSeq_eq, e4, SOut.seq_nx, sSeq_eq, e5, SOut.seq_nx, sSeq_eq, e6, SOut.seq_nx, sSeq_eq, e7, SOut.seq_nx, e8]
  rfl
end
end K66
end
section
namespace K66
open PySem L2 Dl DlS DlZ DlR
theorem r_best {a b : List Str} {L : List Lk} (ha : CoreOk a) (hb : CoreOk b) (h : LikesOk a.length b.length L) : ∃ F : List Lk, F_best [.fz (coresD a b), .fz (likesD L)] = .ok (.fz (.tuple [rowD F, countsD (cntF L (levF L))])) [.fz (coresD a b), .fz (likesD L)] ∧ Ch L F ∧ wts F = worthF L := by
  have hl := h.len
  obtain ⟨F, e, f1, f2, _⟩ := r_match_by (L := L) true h.asc (by omega) fun x hx => (h.rng x hx).2.2.2.2.1
  refine ⟨F, ?_, f1, f2⟩
  simp [F_best, b_best, r_check_likes ha hb h, eX_fz, e, r_counts h.asc hl, tupG, allFz, rowD]
theorem wts_le {k : Int} (hk : 0 ≤ k) : ∀ {c : List Lk}, (∀ x ∈ c, wt x ≤ k) → wts c ≤ k * c.length
  | [], _ => by simp
  | a :: c, h => by
    have h1 := wts_le hk (c := c) fun x hx => h x (by simp [hx])
    have h2 := h a (by simp)
    rw [wts_cons, List.length_cons]
    have e : k * ((c.length + 1 : Nat) : Int) = k * c.length + k := by rw [Int.natCast_add, Int.mul_add]; simp
    omega
theorem worth_bd {a b : Nat} {L : List Lk} (h : LikesOk a b L) : 0 ≤ worthF L ∧ worthF L ≤ 5940 := by
  obtain ⟨⟨c, hc, hw⟩, _⟩ := worthF_ok h.asc
  refine ⟨mx_nonneg _, ?_⟩
  have h1 := wts_le (k := 99) (by omega) (c := c) fun x hx => (h.rng x (hc.2 x hx)).2.2.2.2.2
  have h2 : c.length ≤ L.length := ch_len hc
  have h3 := h.len
  omega
theorem mem_sum : ∀ {ns : List Int}, (∀ n ∈ ns, 0 ≤ n) → 0 ≤ ns.sum ∧ ∀ n ∈ ns, n ≤ ns.sum
  | [], _ => ⟨by simp, by simp⟩
  | a :: ns, h => by
    obtain ⟨h1, h2⟩ := mem_sum (ns := ns) fun n hn => h n (by simp [hn])
    have h3 := h a (by simp)
    rw [List.sum_cons]
    refine ⟨by omega, fun n hn => ?_⟩
    rcases List.mem_cons.mp hn with rfl | hn
    · omega
    · have := h2 n hn; omega
theorem lev_len (L : List Lk) : (levF L).length ≤ 2 * L.length := by
  have hd : ∀ ns : List Int, (dd ns).length ≤ ns.length := fun ns => by
    induction ns with
    | nil => simp [dd]
    | cons a ns ih => unfold dd; split <;> simp <;> omega
  unfold levF sdI
  rw [List.length_mergeSort]
  have h1 := hd ((hgtF L).map stt ++ (hgtF L).map (·.2))
  have h2 : (hgtF L).length = L.length := by rw [← List.length_map (f := Prod.fst), hgtF_keys]
  simp only [List.length_append, List.length_map] at h1
  omega
theorem lot_len (L : List Lk) (p : Int × Int) : (lotF L p).length ≤ L.length := by
  have h2 : (hgtF L).length = L.length := by rw [← List.length_map (f := Prod.fst), hgtF_keys]
  unfold lotF
  rw [List.length_map, ← h2]
  exact List.length_filter_le _ _
theorem cnt_gap {a b : Nat} {L : List Lk} (h : LikesOk a b L) {c : List Lk × Int} (hc : c ∈ cntF L (levF L)) : 0 ≤ c.2 ∧ c.2 ≤ 6000 := by
  have hw : ∀ l ∈ L, 1 ≤ wt l := fun x hx => (h.rng x hx).2.2.2.2.1
  have hM := levF_ok L
  have hs := cnt_sum h.asc hw hM
  have hp : ∀ n ∈ (cntF L (levF L)).map (·.2), 0 ≤ n := fun n hn => by
    obtain ⟨c, hc, rfl⟩ := List.mem_map.mp hn
    obtain ⟨p, hp, rfl⟩ := List.mem_map.mp hc
    have := (pairs_lt hM.lt p hp).1
    simp only
    omega
  have h1 := (mem_sum hp).2 c.2 (List.mem_map.mpr ⟨c, hc, rfl⟩)
  have h2 := hp c.2 (List.mem_map.mpr ⟨c, hc, rfl⟩)
  have h3 := worth_bd h
  omega
theorem told_ok {a b : Nat} {L F : List Lk} (h : LikesOk a b L) (ha : a ≤ 24) (hb : b ≤ 24) (hl : L.length ≤ 9) (hF : Ch L F) : Told L F (cntF L (levF L)) := by
  refine ⟨fun l hm => ?_, hl, hF.2, Nat.le_trans (ch_len hF) hl, ?_, fun c hc => ⟨?_, ?_, cnt_gap h hc⟩, fun hne z => hne ?_⟩
  · obtain ⟨h1, h2, h3, h4, h5, h6⟩ := h.rng l hm
    exact ⟨h1, by omega, h3, by omega, by omega, h6⟩
  · have h1 := pairs_len (levF L)
    have h2 := lev_len L
    unfold cntF
    rw [List.length_map]
    omega
  · obtain ⟨p, hp, rfl⟩ := List.mem_map.mp hc
    exact fun l hl => lot_in hl
  · obtain ⟨p, hp, rfl⟩ := List.mem_map.mp hc
    exact Nat.le_trans (lot_len L p) hl
  · have h1 := pairs_len (levF L)
    have h2 := lev_len L
    rw [z] at h1 h2 ⊢
    have : (pairsL (levF [])) = [] := List.eq_nil_of_length_eq_zero (by simp only [List.length_nil, Nat.mul_zero] at h2; omega)
    unfold cntF
    rw [this]; rfl
theorem repr_bool (q : Bool) : ∃ z : Str, reprOp (.bool q) = some (.fz (.str z)) := repr_jok (n := 0) (by rfl) (by omega) (by simp [PyData.weight])
/-- one lap's values -/
theorem r_vals {a b : List Str} {L : List Lk} {pot : List D} {s1 s4 s5 : Dl.Slot} (ha : CoreOk a) (hb : CoreOk b) (h : LikesOk a.length b.length L) : ∀ {xs : List D}, (∀ d ∈ xs, G 12 60000 d) → ∀ {gd : DEnv → Prop}, (∀ ρ, gd ρ) → ∃ t4 t5 : Dl.Slot, forGo gd (tgN 4) (sSeq (sSet 5 (eB [(.n 4, (eN 4))] (gN1 reprOp)))
    (sIf (bOr (bV .t (e2 (.t) (.t) (eB [(.t, (eCall [(.t, (eX 2)), (.t, (eX 3)), (.t, (eX 4))] F_shows_best))] (gN1 reprOp)) (eB [(.t, (eCall [(.t, (eX 3)), (.t, (eX 4))] F__law_due))] (gN1 reprOp)) (g2 neOp))) (bV .t (e2 (.t) (.n 5) (eB [(.n 4, (eN 4))] (gN1 reprOp)) (eN 5) (g2 neOp)))) (sRt (eC (.bool false))) sNx)) xs
    [.ow (.lst pot), s1, .fz (coresD a b), .fz (likesD L), s4, s5] = .nx [.ow (.lst pot), s1, .fz (coresD a b), .fz (likesD L), t4, t5] := fun {xs} hx {gd} hg => by
  obtain ⟨ρ', e, t4, t5, rfl⟩ := forGo_inv (gd := gd) (tg := tgN 4) (b := (sSeq (sSet 5 (eB [(.n 4, (eN 4))] (gN1 reprOp)))
    (sIf (bOr (bV .t (e2 (.t) (.t) (eB [(.t, (eCall [(.t, (eX 2)), (.t, (eX 3)), (.t, (eX 4))] F_shows_best))] (gN1 reprOp)) (eB [(.t, (eCall [(.t, (eX 3)), (.t, (eX 4))] F__law_due))] (gN1 reprOp)) (g2 neOp))) (bV .t (e2 (.t) (.n 5) (eB [(.n 4, (eN 4))] (gN1 reprOp)) (eN 5) (g2 neOp)))) (sRt (eC (.bool false))) sNx)))
    (I := fun l ρ => ∃ t4 t5 : Dl.Slot, ρ = [.ow (.lst pot), s1, .fz (coresD a b), .fz (likesD L), t4, t5]) (fun _ ρ _ => hg ρ) (ds := xs) (pre := []) (ρ := [.ow (.lst pot), s1, .fz (coresD a b), .fz (likesD L), s4, s5]) (fun l d r ρ el i => by
      obtain ⟨t4, t5, rfl⟩ := i
      have hd := hx d (by rw [List.nil_append] at el; rw [el]; simp)
      obtain ⟨z, hz⟩ := repr_jok hd.1 (by omega) (by have := hd.2; omega)
      obtain ⟨q, q1, q2⟩ := r_judge ha hb h (jok_all _ _ hd.1).1 (by omega)
      obtain ⟨zq, hzq⟩ := repr_bool q
      refine ⟨[.ow (.lst pot), s1, .fz (coresD a b), .fz (likesD L), .fz d, t5], [.ow (.lst pot), s1, .fz (coresD a b), .fz (likesD L), .fz d, .fz (.str z)], rfl, .inl ?_, _, _, rfl⟩
      simp [eX_fz, hz, q1, q2, hzq, sNx_eq]) ⟨s4, s5, rfl⟩
  exact ⟨t4, t5, e⟩
end K66
end
section
namespace K66
open PySem L2 Dl DlS DlZ DlR
theorem lay_row (n : Nat) (F : List Lk) : lay (n + 2) (rowD F) = true := by
  show layL (n + 1) (F.map lkD) = true
  exact layL_lk n F
theorem lay_cnt (n : Nat) (c : List Lk × Int) : lay (n + 3) (cntD c) = true := lay_tup.mpr fun d hd => by
  simp only [List.mem_cons, List.not_mem_nil, or_false] at hd
  rcases hd with rfl | rfl
  · exact lay_row n c.1
  · rfl
theorem lay_pair {n : Nat} {x y : D} (hx : lay n x = true) (hy : lay n y = true) : lay (n + 1) (.tuple [x, y]) = true := lay_tup.mpr fun d hd => by
  simp only [List.mem_cons, List.not_mem_nil, or_false] at hd
  rcases hd with rfl | rfl
  · exact hx
  · exact hy
theorem r_great {n : Nat} {pot : List D} (h : PotOk n pot) (hn : n ≤ 4000) : ∃ pot' : List D, F__law_are_great_right [.ow (.lst pot)] = .ok (.fz (.bool true)) [.ow (.lst pot')] := by
  obtain ⟨a, b, pot1, q1, ha, hb, la, lb, ok1⟩ := r_cores (most := 24) h (by omega) (by omega) (by omega)
  obtain ⟨L, pot2, q2, hL, hLm, ok2, hL1, _⟩ := r_likes (a := a) (b := b) (many := 60) (heavy := 99) ok1 (by omega) ha hb (by omega) (by omega) (by omega)
  obtain ⟨F, q3, f1, f2⟩ := r_best ha hb hL
  have hw : ∀ l ∈ L, 1 ≤ wt l := fun x hx => (hL.rng x hx).2.2.2.2.1
  obtain ⟨cs, hcs⟩ : ∃ cs, cs = cntF L (levF L) := ⟨_, rfl⟩
  rw [← hcs] at q3
  have hne : cs ≠ [] := fun z => by
    have hs := cnt_sum hL.asc hw (levF_ok L)
    rw [← hcs, z] at hs
    have hl1 := hL1 (by omega)
    cases hLL : L with
    | nil => rw [hLL] at hl1; simp at hl1
    | cons x L' =>
      have hx : x ∈ L := by rw [hLL]; simp
      have h1 := hw x hx
      have h2 := (worthF_ok hL.asc).2 [x] ⟨by simp, by simpa using hx⟩
      have h3 : wts [x] = wt x := by simp [wts]
      have h4 : (0 : Int) = worthF L := by simpa using hs
      omega
  obtain ⟨c0, c, hsplit⟩ : ∃ c0 c, cs = c0 ++ [c] := ⟨cs.dropLast, cs.getLast hne, (List.dropLast_concat_getLast hne).symm⟩
  obtain ⟨S, m⟩ := c
  have hcl : cs.length ≤ 120 := by
    rw [hcs]
    have h1 := pairs_len (levF L)
    have h2 := lev_len L
    have h3 := hL.len
    unfold cntF
    rw [List.length_map]
    omega
  have hix : ixOp (countsD cs) (.int (-1)) = some (.fz (cntD (S, m))) := by
    have hl0 : (c0 ++ [(S, m)]).map cntD = c0.map cntD ++ [cntD (S, m)] := by simp
    have hat : L2.atI (c0.map cntD ++ [cntD (S, m)]) (-1) = some (cntD (S, m)) := by
      unfold L2.atI ixN
      rw [if_neg (by omega), if_pos (by simp; omega)]
      simp
      rw [List.getElem?_append_right (by simp; omega)]
      simp
      rw [show (-1 + ((c0.length : Int) + 1)).toNat - c0.length = 0 by omega]
      rfl
    show (L2.atI (cs.map cntD) (-1)).map Dl.Slot.fz = _
    rw [hsplit, hl0, hat]; rfl
  have judge := fun (v : D) (hv : lay 20 v = true) => r_judge ha hb hL hv (by omega)
  have hF : ∀ lo hi, slOp lo hi (rowD F) = some (.fz (.tuple (cutD (F.map lkD) lo hi))) := rowD_sl
  have hC : ∀ lo hi, slOp lo hi (countsD cs) = some (.fz (.tuple (cutD (cs.map cntD) lo hi))) := cnts_sl
  have hlen : ∀ lo hi, (cutD (cs.map cntD) lo hi).length ≤ 120 := fun lo hi => by
    unfold cutD
    rw [List.length_take, List.length_drop, List.length_map]
    omega
  have lF : ∀ lo hi, lay 19 (.tuple (cutD (F.map lkD) lo hi)) = true := fun lo hi => lay_tup.mpr fun d hd => by
    obtain ⟨l, _, rfl⟩ := List.mem_map.mp (cut_mem hd); rfl
  have mC : ∀ lo hi, ∀ d ∈ cutD (cs.map cntD) lo hi, lay 18 d = true := fun lo hi d hd => by
    obtain ⟨c, _, rfl⟩ := List.mem_map.mp (cut_mem hd)
    exact lay_cnt 15 c
  have lC : ∀ lo hi, lay 19 (.tuple (cutD (cs.map cntD) lo hi)) = true := fun lo hi => lay_tup.mpr (mC lo hi)
  have lA : lay 19 (countsD cs) = true := lay_tup.mpr fun d hd => by
    obtain ⟨c, _, rfl⟩ := List.mem_map.mp hd
    exact lay_cnt 15 c
  have lR : lay 19 (rowD F) = true := lay_row 17 F
  have a1 : ∀ x : D, addOp (.tuple (cutD (cs.map cntD) none (some (-1)))) (.tuple [x]) = some (.fz (.tuple (cutD (cs.map cntD) none (some (-1)) ++ [x]))) := fun x => addOp_tuple (small_line (by have := hlen none (some (-1)); simp only [List.length_singleton]; omega))
  have a2 : addOp (.tuple (cutD (cs.map cntD) (some 1) none)) (.tuple (cutD (cs.map cntD) none (some 1))) = some (.fz (.tuple (cutD (cs.map cntD) (some 1) none ++ cutD (cs.map cntD) none (some 1)))) := addOp_tuple (small_line (by have := hlen none (some 1); have := hlen (some 1) none; omega))
  have lX : ∀ k : Int, lay 19 (.tuple (cutD (cs.map cntD) none (some (-1)) ++ [.tuple [likesD S, .int k]])) = true := fun k => lay_tup.mpr fun d hd => by
    rcases List.mem_append.mp hd with hd | hd
    · exact mC _ _ d hd
    · rw [List.mem_singleton.mp hd]; exact lay_cnt 15 (S, k)
  have lY : lay 19 (.tuple (cutD (cs.map cntD) (some 1) none ++ cutD (cs.map cntD) none (some 1))) = true := lay_tup.mpr fun d hd => (List.mem_append.mp hd).elim (mC _ _ d) (mC _ _ d)
  obtain ⟨vs, hvs⟩ : ∃ vs : List D, vs = [.tuple [.tuple (cutD (F.map lkD) none (some (-1))), countsD cs], .tuple [rowD F, .tuple (cutD (cs.map cntD) none (some (-1)))], .tuple [rowD F, .tuple (cutD (cs.map cntD) none (some (-1)) ++ [.tuple [likesD S, .int (m + 1)]])], .tuple [rowD F, countsD cs], .tuple [rowD F, .tuple (cutD (cs.map cntD) none (some (-1)) ++ [.tuple [likesD S, .int (m - 1)]])], .tuple [rowD F, .tuple (cutD (cs.map cntD) (some 1) none ++ cutD (cs.map cntD) none (some 1))]] := ⟨_, rfl⟩
  have hv : ∀ v ∈ vs, lay 20 v = true := fun v hv => by
    rw [hvs] at hv
    simp only [List.mem_cons, List.not_mem_nil, or_false] at hv
    rcases hv with rfl | rfl | rfl | rfl | rfl | rfl
    · exact lay_pair (lF _ _) lA
    · exact lay_pair lR (lC _ _)
    · exact lay_pair lR (lX _)
    · exact lay_pair lR lA
    · exact lay_pair lR (lX _)
    · exact lay_pair lR lY
  have hlc := lcGo_encM (gd := gdOf (.n 3) (.list vs)) (vl := [8]) (tg := tgN 8) (c := tYesD) (f := (e2 (.t) (.t) (eB [(.t, (eCall [(.t, (eX 1)), (.t, (eX 2)), (.t, (eX 8))] F_shows_best))] (gN1 reprOp)) (eB [(.t, (eCall [(.t, (eX 2)), (.t, (eX 8))] F__law_due))] (gN1 reprOp)) (g2 eqOp))) (ρ := [.ow (.lst pot2), .fz (coresD a b), .fz (likesD L), .ow (.lst vs), .fz (rowD F), .fz (countsD cs), .fz (likesD S), .fz (.int m), .no]) (by simp) (E := vs) (enc := fun d => d) (g := fun _ => .bool true) (fun v hm => by
    obtain ⟨q, j1, j2⟩ := judge v (hv v hm)
    obtain ⟨z, hz⟩ := repr_bool q
    simp [lcStep, eX_fz, j1, j2, hz])
  rw [List.map_id', List.map_const'] at hlc
  have hit : itemsOf (.list vs) = some vs := rfl
  have hun1 : ∀ s : DEnv, True := fun _ => trivial
  refine ⟨pot2, ?_⟩
  have hcd : cntD (S, m) = .tuple [likesD S, .int m] := rfl
  rw [hcd] at hix
  rw [hvs] at hlc hit
  have hall : allOp (.list [.bool true, .bool true, .bool true, .bool true, .bool true, .bool true]) = some (.fz (.bool true)) := rfl
  have q1' : F__law_cores [.ow (.lst pot), .fz (.int 24)] = .ok (.fz (coresD a b)) [.ow (.lst pot1), .fz (.int 24)] := q1
  have q2' : F__law_likes [.ow (.lst pot1), .fz (coresD a b), .fz (.int 60), .fz (.int 99)] = .ok (.fz (likesD L)) [.ow (.lst pot2), .fz (coresD a b), .fz (.int 60), .fz (.int 99)] := q2
  simp [F__law_are_great_right, b__law_are_great_right, eX_fz, q1', q2', q3, sAsg, hix, lstG, tupG, allFz, hF, hC, pS_eq, a1, a2, eExt, ownL, small, hlc, hit, hall, -ixOp_tuple]
end K66
end
section
namespace K66
open PySem L2 Dl DlS DlZ DlR
theorem r_right {n : Nat} {pot : List D} (h : PotOk n pot) (hn : n ≤ 300) : ∃ pot' : List D, F__law_right [.ow (.lst pot)] = .ok (.fz (.bool true)) [.ow (.lst pot')] := by
  obtain ⟨ρ', e, pot', s1, s2, s3, s4, s5, rfl, ok⟩ := forGo_enc (enc := fun (i : Nat) => PyData.int i) (gd := fun _ => True) (tg := tgN 1) (b := (sSeq (sSet 2 (eCall [(.n 0, (eN 0)), (.t, (eC (.int 6)))] F__law_cores))
  (sSeq (sSet 3 (eCall [(.n 0, (eN 0)), (.t, (eX 2)), (.t, (eCall [(.n 0, (eN 0)), (.t, (eC (.int 10)))] F__law_take)), (.t, (eCall [(.n 0, (eN 0)), (.t, (eB [(.t, (eC (.int 1))), (.t, (eC (.int 3))), (.t, (eC (.int 99)))] lstG))] F__law_of))] F__law_likes))
  (sFor (iSeq (.t) (eFz (eCall [(.n 0, (eN 0)), (.t, (eX 3)), (.t, (eCall [(.t, (eX 2)), (.t, (eX 3))] F_best))] F__law_values))) (tgN 4) (sSeq (sSet 5 (eB [(.n 4, (eN 4))] (gN1 reprOp)))
  (sIf (bOr (bV .t (e2 (.t) (.t) (eB [(.t, (eCall [(.t, (eX 2)), (.t, (eX 3)), (.t, (eX 4))] F_shows_best))] (gN1 reprOp)) (eB [(.t, (eCall [(.t, (eX 3)), (.t, (eX 4))] F__law_due))] (gN1 reprOp)) (g2 neOp))) (bV .t (e2 (.t) (.n 5) (eB [(.n 4, (eN 4))] (gN1 reprOp)) (eN 5) (g2 neOp)))) (sRt (eC (.bool false))) sNx))))))
    (I := fun P ρ => ∃ pot' s1 s2 s3 s4 s5, ρ = [.ow (.lst pot'), s1, s2, s3, s4, s5] ∧ PotOk (n + 700 * P.length) pot') (fun _ _ _ => trivial) (Q := List.range 3) (P := []) (ρ := [.ow (.lst pot), .no, .no, .no, .no, .no]) (fun P x Q ρ el i => by
      obtain ⟨pot', s1, s2, s3, s4, s5, rfl, ok⟩ := i
      have hPl : P.length + 1 ≤ 3 := by
        have := congrArg List.length el
        simp at this
        omega
      obtain ⟨a, b, pot1, q1, ha, hb, la, lb, ok1⟩ := r_cores (most := 6) ok (by omega) (by omega) (by omega)
      obtain ⟨r2, pot2, q2, r20, r21, ok2⟩ := r_take (m := 10) ok1 (by omega) (by omega) (by omega)
      obtain ⟨many, rfl⟩ := Int.eq_ofNat_of_zero_le r20
      obtain ⟨d3, pot3, q3, hd3, ok3⟩ := r_of (ds := [.int 1, .int 3, .int 99]) ok2 (by omega) (by simp) (by simp)
      obtain ⟨heavy, rfl, hv0, hv1⟩ : ∃ v : Int, d3 = .int v ∧ 1 ≤ v ∧ v ≤ 99 := by
        simp only [List.mem_cons, List.not_mem_nil, or_false] at hd3
        rcases hd3 with rfl | rfl | rfl
        · exact ⟨1, rfl, by omega, by omega⟩
        · exact ⟨3, rfl, by omega, by omega⟩
        · exact ⟨99, rfl, by omega, by omega⟩
      obtain ⟨L, pot4, q4, hL, hLm, ok4, _⟩ := r_likes (a := a) (b := b) (many := many) (heavy := heavy) ok3 (by omega) ha hb (by omega) hv0 hv1
      obtain ⟨F, q5, f1, f2⟩ := r_best ha hb hL
      have hT : Told L F (cntF L (levF L)) := told_ok hL (by omega) (by omega) (by omega) f1
      obtain ⟨xs, pot5, q6, ok5, hx⟩ := r_values hL.asc hT ok4 (by omega)
      obtain ⟨t4, t5, q7⟩ := r_vals (pot := pot5) (s1 := .fz (.int x)) (s4 := s4) (s5 := s5) ha hb hL hx (gd := gdOf .t (.list xs)) (fun _ => trivial)
      refine ⟨_, [.ow (.lst pot5), .fz (.int x), .fz (coresD a b), .fz (likesD L), t4, t5], rfl, .inl ?_, pot5, _, _, _, _, _, rfl, ok5.mono (by simp; omega)⟩
      have q1' : F__law_cores [.ow (.lst pot'), .fz (.int 6)] = .ok (.fz (coresD a b)) [.ow (.lst pot1), .fz (.int 6)] := q1
      have hit : itemsOf (.list xs) = some xs := rfl
      simp [q1', eX_fz, q2, q3, q4, q5, q6, lstG, allFz, hit, q7]) ⟨pot, _, _, _, _, _, rfl, by simpa using h⟩
  rw [List.nil_append] at ok
  rw [List.length_range] at ok
  obtain ⟨pot2, q⟩ := r_great ok (by omega)
  refine ⟨pot2, ?_⟩
  have hr3 : (List.range 3).map (fun (i : Nat) => PyData.int i) = [.int 0, .int 1, .int 2] := rfl
  simp [F__law_right, b__law_right, iRg_eq, eX_fz, e, q, -List.map_map]
theorem r_law (ns : List Int) (hl : ns.length ≤ 1000) : ∃ ss : List Dl.Slot, F_law [.fz (scrD (ns.map .int))] = .ok (.fz (.bool true)) ss := by
  obtain ⟨m, hm0, hm2, q1⟩ := r_cells ns hl
  have hlc := lcGo_encM (gd := gdOf .t (.list ((List.range m).map fun (n : Nat) => .int n))) (vl := [1]) (tg := tgN 1) (c := tYesD) (f := eCall [(.t, (eCall [(.t, (eX 0)), (.t, (eX 1))] F__law_pot))] F__law_right) (ρ := [.fz (scrD (ns.map .int)), .no]) trivial (E := List.range m) (enc := fun (i : Nat) => PyData.int i) (g := fun _ => .bool true) (fun x hx => by
    have hx2 := List.mem_range.mp hx
    obtain ⟨pot, q2, ok⟩ := r_pot (ns := ns) (p := x) (by omega) (by omega)
    obtain ⟨p1, e1⟩ := r_right ok (by omega)
    simp [lcStep, eX_fz, q2, e1])
  rw [List.map_const'] at hlc
  refine ⟨[.fz (scrD (ns.map .int))], ?_⟩
  simp [F_law, b_law, eX_fz, q1, hlc]
end K66
end
section
namespace K66
open PySem L2 Dl
section
theorem mk_ground {K : PySem.W.Frag} {h : Heap} {mg : Str → Option Value} (X : K.In h) (G : h.Ns mainGlobals mg)
    (z_abs : PySem.W.nsIn K mainGlobals "abs" = some none)
    (z_all : PySem.W.nsIn K mainGlobals "all" = some none)
    (z_any : PySem.W.nsIn K mainGlobals "any" = some none)
    (z_bool : PySem.W.nsIn K mainGlobals "bool" = some none)
    (z_dict : PySem.W.nsIn K mainGlobals "dict" = some none)
    (z_enumerate : PySem.W.nsIn K mainGlobals "enumerate" = some none)
    (z_int : PySem.W.nsIn K mainGlobals "int" = some none)
    (z_isinstance : PySem.W.nsIn K mainGlobals "isinstance" = some none)
    (z_len : PySem.W.nsIn K mainGlobals "len" = some none)
    (z_list : PySem.W.nsIn K mainGlobals "list" = some none)
    (z_max : PySem.W.nsIn K mainGlobals "max" = some none)
    (z_min : PySem.W.nsIn K mainGlobals "min" = some none)
    (z_range : PySem.W.nsIn K mainGlobals "range" = some none)
    (z_repr : PySem.W.nsIn K mainGlobals "repr" = some none)
    (z_set : PySem.W.nsIn K mainGlobals "set" = some none)
    (z_sorted : PySem.W.nsIn K mainGlobals "sorted" = some none)
    (z_str : PySem.W.nsIn K mainGlobals "str" = some none)
    (z_sum : PySem.W.nsIn K mainGlobals "sum" = some none)
    (z_tuple : PySem.W.nsIn K mainGlobals "tuple" = some none)
    (z_zip : PySem.W.nsIn K mainGlobals "zip" = some none)
    {t_FIGURES : Nat} (g_FIGURES : PySem.W.nsIn K mainGlobals "FIGURES" = some (some (.str "0123456789" t_FIGURES)))
    {t_LETTERS : Nat} (g_LETTERS : PySem.W.nsIn K mainGlobals "LETTERS" = some (some (.str "abcdefghijklmnopqrstuvwxyz" t_LETTERS)))
    {t_MOST_LAYERS : Nat} (g_MOST_LAYERS : PySem.W.nsIn K mainGlobals "MOST_LAYERS" = some (some (.int 24 t_MOST_LAYERS)))
    {t_MOST_LIKES : Nat} (g_MOST_LIKES : PySem.W.nsIn K mainGlobals "MOST_LIKES" = some (some (.int 60 t_MOST_LIKES)))
    {t_MOST_SIGNS : Nat} (g_MOST_SIGNS : PySem.W.nsIn K mainGlobals "MOST_SIGNS" = some (some (.int 8 t_MOST_SIGNS)))
    {t_MOST_WEIGHT : Nat} (g_MOST_WEIGHT : PySem.W.nsIn K mainGlobals "MOST_WEIGHT" = some (some (.int 99 t_MOST_WEIGHT)))
    {f_is_integer : Addr} {od_is_integer an_is_integer : Option Addr} {sl_is_integer : Array (Option Value)} {oc_is_integer kV_is_integer dc_is_integer pm_is_integer cd_is_integer ct_is_integer : Value} (a_is_integer : PySem.W.nsIn K mainGlobals "is_integer" = some (some (.ref f_is_integer))) (l_is_integer : K.lookup f_is_integer = some ⟨oc_is_integer, od_is_integer, .func (PySem.W.fnOf "is_integer" "is_integer" (defArgs s_is_integer) (defBody s_is_integer) (defScope s_is_integer) .none kV_is_integer dc_is_integer pm_is_integer an_is_integer cd_is_integer ct_is_integer), sl_is_integer⟩) (c_is_integer : PySem.W.codeIn K cd_is_integer "is_integer" = true) (k_is_integer : PySem.W.keepIn K (.ref f_is_integer) = true)
    {f_is_name : Addr} {od_is_name an_is_name : Option Addr} {sl_is_name : Array (Option Value)} {oc_is_name kV_is_name dc_is_name pm_is_name cd_is_name ct_is_name : Value} (a_is_name : PySem.W.nsIn K mainGlobals "is_name" = some (some (.ref f_is_name))) (l_is_name : K.lookup f_is_name = some ⟨oc_is_name, od_is_name, .func (PySem.W.fnOf "is_name" "is_name" (defArgs s_is_name) (defBody s_is_name) (defScope s_is_name) .none kV_is_name dc_is_name pm_is_name an_is_name cd_is_name ct_is_name), sl_is_name⟩) (c_is_name : PySem.W.codeIn K cd_is_name "is_name" = true) (k_is_name : PySem.W.keepIn K (.ref f_is_name) = true)
    {f_is_ascending : Addr} {od_is_ascending an_is_ascending : Option Addr} {sl_is_ascending : Array (Option Value)} {oc_is_ascending kV_is_ascending dc_is_ascending pm_is_ascending cd_is_ascending ct_is_ascending : Value} (a_is_ascending : PySem.W.nsIn K mainGlobals "is_ascending" = some (some (.ref f_is_ascending))) (l_is_ascending : K.lookup f_is_ascending = some ⟨oc_is_ascending, od_is_ascending, .func (PySem.W.fnOf "is_ascending" "is_ascending" (defArgs s_is_ascending) (defBody s_is_ascending) (defScope s_is_ascending) .none kV_is_ascending dc_is_ascending pm_is_ascending an_is_ascending cd_is_ascending ct_is_ascending), sl_is_ascending⟩) (c_is_ascending : PySem.W.codeIn K cd_is_ascending "is_ascending" = true) (k_is_ascending : PySem.W.keepIn K (.ref f_is_ascending) = true)
    {f_is_behind : Addr} {od_is_behind an_is_behind : Option Addr} {sl_is_behind : Array (Option Value)} {oc_is_behind kV_is_behind dc_is_behind pm_is_behind cd_is_behind ct_is_behind : Value} (a_is_behind : PySem.W.nsIn K mainGlobals "is_behind" = some (some (.ref f_is_behind))) (l_is_behind : K.lookup f_is_behind = some ⟨oc_is_behind, od_is_behind, .func (PySem.W.fnOf "is_behind" "is_behind" (defArgs s_is_behind) (defBody s_is_behind) (defScope s_is_behind) .none kV_is_behind dc_is_behind pm_is_behind an_is_behind cd_is_behind ct_is_behind), sl_is_behind⟩) (c_is_behind : PySem.W.codeIn K cd_is_behind "is_behind" = true) (k_is_behind : PySem.W.keepIn K (.ref f_is_behind) = true)
    {f__law_pot : Addr} {od__law_pot an__law_pot : Option Addr} {sl__law_pot : Array (Option Value)} {oc__law_pot kV__law_pot dc__law_pot pm__law_pot cd__law_pot ct__law_pot : Value} (a__law_pot : PySem.W.nsIn K mainGlobals "_law_pot" = some (some (.ref f__law_pot))) (l__law_pot : K.lookup f__law_pot = some ⟨oc__law_pot, od__law_pot, .func (PySem.W.fnOf "_law_pot" "_law_pot" (defArgs s__law_pot) (defBody s__law_pot) (defScope s__law_pot) .none kV__law_pot dc__law_pot pm__law_pot an__law_pot cd__law_pot ct__law_pot), sl__law_pot⟩) (c__law_pot : PySem.W.codeIn K cd__law_pot "_law_pot" = true) (k__law_pot : PySem.W.keepIn K (.ref f__law_pot) = true)
    {f__law_take : Addr} {od__law_take an__law_take : Option Addr} {sl__law_take : Array (Option Value)} {oc__law_take kV__law_take dc__law_take pm__law_take cd__law_take ct__law_take : Value} (a__law_take : PySem.W.nsIn K mainGlobals "_law_take" = some (some (.ref f__law_take))) (l__law_take : K.lookup f__law_take = some ⟨oc__law_take, od__law_take, .func (PySem.W.fnOf "_law_take" "_law_take" (defArgs s__law_take) (defBody s__law_take) (defScope s__law_take) .none kV__law_take dc__law_take pm__law_take an__law_take cd__law_take ct__law_take), sl__law_take⟩) (c__law_take : PySem.W.codeIn K cd__law_take "_law_take" = true) (k__law_take : PySem.W.keepIn K (.ref f__law_take) = true)
    {f__law_cells : Addr} {od__law_cells an__law_cells : Option Addr} {sl__law_cells : Array (Option Value)} {oc__law_cells kV__law_cells dc__law_cells pm__law_cells cd__law_cells ct__law_cells : Value} (a__law_cells : PySem.W.nsIn K mainGlobals "_law_cells" = some (some (.ref f__law_cells))) (l__law_cells : K.lookup f__law_cells = some ⟨oc__law_cells, od__law_cells, .func (PySem.W.fnOf "_law_cells" "_law_cells" (defArgs s__law_cells) (defBody s__law_cells) (defScope s__law_cells) .none kV__law_cells dc__law_cells pm__law_cells an__law_cells cd__law_cells ct__law_cells), sl__law_cells⟩) (c__law_cells : PySem.W.codeIn K cd__law_cells "_law_cells" = true) (k__law_cells : PySem.W.keepIn K (.ref f__law_cells) = true)
    {f__law_agree : Addr} {od__law_agree an__law_agree : Option Addr} {sl__law_agree : Array (Option Value)} {oc__law_agree kV__law_agree dc__law_agree pm__law_agree cd__law_agree ct__law_agree : Value} (a__law_agree : PySem.W.nsIn K mainGlobals "_law_agree" = some (some (.ref f__law_agree))) (l__law_agree : K.lookup f__law_agree = some ⟨oc__law_agree, od__law_agree, .func (PySem.W.fnOf "_law_agree" "_law_agree" (defArgs s__law_agree) (defBody s__law_agree) (defScope s__law_agree) .none kV__law_agree dc__law_agree pm__law_agree an__law_agree cd__law_agree ct__law_agree), sl__law_agree⟩) (c__law_agree : PySem.W.codeIn K cd__law_agree "_law_agree" = true) (k__law_agree : PySem.W.keepIn K (.ref f__law_agree) = true)
    {f__law_weight : Addr} {od__law_weight an__law_weight : Option Addr} {sl__law_weight : Array (Option Value)} {oc__law_weight kV__law_weight dc__law_weight pm__law_weight cd__law_weight ct__law_weight : Value} (a__law_weight : PySem.W.nsIn K mainGlobals "_law_weight" = some (some (.ref f__law_weight))) (l__law_weight : K.lookup f__law_weight = some ⟨oc__law_weight, od__law_weight, .func (PySem.W.fnOf "_law_weight" "_law_weight" (defArgs s__law_weight) (defBody s__law_weight) (defScope s__law_weight) .none kV__law_weight dc__law_weight pm__law_weight an__law_weight cd__law_weight ct__law_weight), sl__law_weight⟩) (c__law_weight : PySem.W.codeIn K cd__law_weight "_law_weight" = true) (k__law_weight : PySem.W.keepIn K (.ref f__law_weight) = true)
    {f__law_is_like : Addr} {od__law_is_like an__law_is_like : Option Addr} {sl__law_is_like : Array (Option Value)} {oc__law_is_like kV__law_is_like dc__law_is_like pm__law_is_like cd__law_is_like ct__law_is_like : Value} (a__law_is_like : PySem.W.nsIn K mainGlobals "_law_is_like" = some (some (.ref f__law_is_like))) (l__law_is_like : K.lookup f__law_is_like = some ⟨oc__law_is_like, od__law_is_like, .func (PySem.W.fnOf "_law_is_like" "_law_is_like" (defArgs s__law_is_like) (defBody s__law_is_like) (defScope s__law_is_like) .none kV__law_is_like dc__law_is_like pm__law_is_like an__law_is_like cd__law_is_like ct__law_is_like), sl__law_is_like⟩) (c__law_is_like : PySem.W.codeIn K cd__law_is_like "_law_is_like" = true) (k__law_is_like : PySem.W.keepIn K (.ref f__law_is_like) = true)
    {f_is_between : Addr} {od_is_between an_is_between : Option Addr} {sl_is_between : Array (Option Value)} {oc_is_between kV_is_between dc_is_between pm_is_between cd_is_between ct_is_between : Value} (a_is_between : PySem.W.nsIn K mainGlobals "is_between" = some (some (.ref f_is_between))) (l_is_between : K.lookup f_is_between = some ⟨oc_is_between, od_is_between, .func (PySem.W.fnOf "is_between" "is_between" (defArgs s_is_between) (defBody s_is_between) (defScope s_is_between) .none kV_is_between dc_is_between pm_is_between an_is_between cd_is_between ct_is_between), sl_is_between⟩) (c_is_between : PySem.W.codeIn K cd_is_between "is_between" = true) (k_is_between : PySem.W.keepIn K (.ref f_is_between) = true)
    {f_is_core : Addr} {od_is_core an_is_core : Option Addr} {sl_is_core : Array (Option Value)} {oc_is_core kV_is_core dc_is_core pm_is_core cd_is_core ct_is_core : Value} (a_is_core : PySem.W.nsIn K mainGlobals "is_core" = some (some (.ref f_is_core))) (l_is_core : K.lookup f_is_core = some ⟨oc_is_core, od_is_core, .func (PySem.W.fnOf "is_core" "is_core" (defArgs s_is_core) (defBody s_is_core) (defScope s_is_core) .none kV_is_core dc_is_core pm_is_core an_is_core cd_is_core ct_is_core), sl_is_core⟩) (c_is_core : PySem.W.codeIn K cd_is_core "is_core" = true) (k_is_core : PySem.W.keepIn K (.ref f_is_core) = true)
    {f_do_agree : Addr} {od_do_agree an_do_agree : Option Addr} {sl_do_agree : Array (Option Value)} {oc_do_agree kV_do_agree dc_do_agree pm_do_agree cd_do_agree ct_do_agree : Value} (a_do_agree : PySem.W.nsIn K mainGlobals "do_agree" = some (some (.ref f_do_agree))) (l_do_agree : K.lookup f_do_agree = some ⟨oc_do_agree, od_do_agree, .func (PySem.W.fnOf "do_agree" "do_agree" (defArgs s_do_agree) (defBody s_do_agree) (defScope s_do_agree) .none kV_do_agree dc_do_agree pm_do_agree an_do_agree cd_do_agree ct_do_agree), sl_do_agree⟩) (c_do_agree : PySem.W.codeIn K cd_do_agree "do_agree" = true) (k_do_agree : PySem.W.keepIn K (.ref f_do_agree) = true)
    {f_heights : Addr} {od_heights an_heights : Option Addr} {sl_heights : Array (Option Value)} {oc_heights kV_heights dc_heights pm_heights cd_heights ct_heights : Value} (a_heights : PySem.W.nsIn K mainGlobals "heights" = some (some (.ref f_heights))) (l_heights : K.lookup f_heights = some ⟨oc_heights, od_heights, .func (PySem.W.fnOf "heights" "heights" (defArgs s_heights) (defBody s_heights) (defScope s_heights) .none kV_heights dc_heights pm_heights an_heights cd_heights ct_heights), sl_heights⟩) (c_heights : PySem.W.codeIn K cd_heights "heights" = true) (k_heights : PySem.W.keepIn K (.ref f_heights) = true)
    {f_depths : Addr} {od_depths an_depths : Option Addr} {sl_depths : Array (Option Value)} {oc_depths kV_depths dc_depths pm_depths cd_depths ct_depths : Value} (a_depths : PySem.W.nsIn K mainGlobals "depths" = some (some (.ref f_depths))) (l_depths : K.lookup f_depths = some ⟨oc_depths, od_depths, .func (PySem.W.fnOf "depths" "depths" (defArgs s_depths) (defBody s_depths) (defScope s_depths) .none kV_depths dc_depths pm_depths an_depths cd_depths ct_depths), sl_depths⟩) (c_depths : PySem.W.codeIn K cd_depths "depths" = true) (k_depths : PySem.W.keepIn K (.ref f_depths) = true)
    {f_is_one_of : Addr} {od_is_one_of an_is_one_of : Option Addr} {sl_is_one_of : Array (Option Value)} {oc_is_one_of kV_is_one_of dc_is_one_of pm_is_one_of cd_is_one_of ct_is_one_of : Value} (a_is_one_of : PySem.W.nsIn K mainGlobals "is_one_of" = some (some (.ref f_is_one_of))) (l_is_one_of : K.lookup f_is_one_of = some ⟨oc_is_one_of, od_is_one_of, .func (PySem.W.fnOf "is_one_of" "is_one_of" (defArgs s_is_one_of) (defBody s_is_one_of) (defScope s_is_one_of) .none kV_is_one_of dc_is_one_of pm_is_one_of an_is_one_of cd_is_one_of ct_is_one_of), sl_is_one_of⟩) (c_is_one_of : PySem.W.codeIn K cd_is_one_of "is_one_of" = true) (k_is_one_of : PySem.W.keepIn K (.ref f_is_one_of) = true)
    {f__law_of : Addr} {od__law_of an__law_of : Option Addr} {sl__law_of : Array (Option Value)} {oc__law_of kV__law_of dc__law_of pm__law_of cd__law_of ct__law_of : Value} (a__law_of : PySem.W.nsIn K mainGlobals "_law_of" = some (some (.ref f__law_of))) (l__law_of : K.lookup f__law_of = some ⟨oc__law_of, od__law_of, .func (PySem.W.fnOf "_law_of" "_law_of" (defArgs s__law_of) (defBody s__law_of) (defScope s__law_of) .none kV__law_of dc__law_of pm__law_of an__law_of cd__law_of ct__law_of), sl__law_of⟩) (c__law_of : PySem.W.codeIn K cd__law_of "_law_of" = true) (k__law_of : PySem.W.keepIn K (.ref f__law_of) = true)
    {f__law_some : Addr} {od__law_some an__law_some : Option Addr} {sl__law_some : Array (Option Value)} {oc__law_some kV__law_some dc__law_some pm__law_some cd__law_some ct__law_some : Value} (a__law_some : PySem.W.nsIn K mainGlobals "_law_some" = some (some (.ref f__law_some))) (l__law_some : K.lookup f__law_some = some ⟨oc__law_some, od__law_some, .func (PySem.W.fnOf "_law_some" "_law_some" (defArgs s__law_some) (defBody s__law_some) (defScope s__law_some) .none kV__law_some dc__law_some pm__law_some an__law_some cd__law_some ct__law_some), sl__law_some⟩) (c__law_some : PySem.W.codeIn K cd__law_some "_law_some" = true) (k__law_some : PySem.W.keepIn K (.ref f__law_some) = true)
    {f__law_likes : Addr} {od__law_likes an__law_likes : Option Addr} {sl__law_likes : Array (Option Value)} {oc__law_likes kV__law_likes dc__law_likes pm__law_likes cd__law_likes ct__law_likes : Value} (a__law_likes : PySem.W.nsIn K mainGlobals "_law_likes" = some (some (.ref f__law_likes))) (l__law_likes : K.lookup f__law_likes = some ⟨oc__law_likes, od__law_likes, .func (PySem.W.fnOf "_law_likes" "_law_likes" (defArgs s__law_likes) (defBody s__law_likes) (defScope s__law_likes) .none kV__law_likes dc__law_likes pm__law_likes an__law_likes cd__law_likes ct__law_likes), sl__law_likes⟩) (c__law_likes : PySem.W.codeIn K cd__law_likes "_law_likes" = true) (k__law_likes : PySem.W.keepIn K (.ref f__law_likes) = true)
    {f__law_matches : Addr} {od__law_matches an__law_matches : Option Addr} {sl__law_matches : Array (Option Value)} {oc__law_matches kV__law_matches dc__law_matches pm__law_matches cd__law_matches ct__law_matches : Value} (a__law_matches : PySem.W.nsIn K mainGlobals "_law_matches" = some (some (.ref f__law_matches))) (l__law_matches : K.lookup f__law_matches = some ⟨oc__law_matches, od__law_matches, .func (PySem.W.fnOf "_law_matches" "_law_matches" (defArgs s__law_matches) (defBody s__law_matches) (defScope s__law_matches) .none kV__law_matches dc__law_matches pm__law_matches an__law_matches cd__law_matches ct__law_matches), sl__law_matches⟩) (c__law_matches : PySem.W.codeIn K cd__law_matches "_law_matches" = true) (k__law_matches : PySem.W.keepIn K (.ref f__law_matches) = true)
    {f__law_is_match : Addr} {od__law_is_match an__law_is_match : Option Addr} {sl__law_is_match : Array (Option Value)} {oc__law_is_match kV__law_is_match dc__law_is_match pm__law_is_match cd__law_is_match ct__law_is_match : Value} (a__law_is_match : PySem.W.nsIn K mainGlobals "_law_is_match" = some (some (.ref f__law_is_match))) (l__law_is_match : K.lookup f__law_is_match = some ⟨oc__law_is_match, od__law_is_match, .func (PySem.W.fnOf "_law_is_match" "_law_is_match" (defArgs s__law_is_match) (defBody s__law_is_match) (defScope s__law_is_match) .none kV__law_is_match dc__law_is_match pm__law_is_match an__law_is_match cd__law_is_match ct__law_is_match), sl__law_is_match⟩) (c__law_is_match : PySem.W.codeIn K cd__law_is_match "_law_is_match" = true) (k__law_is_match : PySem.W.keepIn K (.ref f__law_is_match) = true)
    {f__law_is_count : Addr} {od__law_is_count an__law_is_count : Option Addr} {sl__law_is_count : Array (Option Value)} {oc__law_is_count kV__law_is_count dc__law_is_count pm__law_is_count cd__law_is_count ct__law_is_count : Value} (a__law_is_count : PySem.W.nsIn K mainGlobals "_law_is_count" = some (some (.ref f__law_is_count))) (l__law_is_count : K.lookup f__law_is_count = some ⟨oc__law_is_count, od__law_is_count, .func (PySem.W.fnOf "_law_is_count" "_law_is_count" (defArgs s__law_is_count) (defBody s__law_is_count) (defScope s__law_is_count) .none kV__law_is_count dc__law_is_count pm__law_is_count an__law_is_count cd__law_is_count ct__law_is_count), sl__law_is_count⟩) (c__law_is_count : PySem.W.codeIn K cd__law_is_count "_law_is_count" = true) (k__law_is_count : PySem.W.keepIn K (.ref f__law_is_count) = true)
    {f_is_weight : Addr} {od_is_weight an_is_weight : Option Addr} {sl_is_weight : Array (Option Value)} {oc_is_weight kV_is_weight dc_is_weight pm_is_weight cd_is_weight ct_is_weight : Value} (a_is_weight : PySem.W.nsIn K mainGlobals "is_weight" = some (some (.ref f_is_weight))) (l_is_weight : K.lookup f_is_weight = some ⟨oc_is_weight, od_is_weight, .func (PySem.W.fnOf "is_weight" "is_weight" (defArgs s_is_weight) (defBody s_is_weight) (defScope s_is_weight) .none kV_is_weight dc_is_weight pm_is_weight an_is_weight cd_is_weight ct_is_weight), sl_is_weight⟩) (c_is_weight : PySem.W.codeIn K cd_is_weight "is_weight" = true) (k_is_weight : PySem.W.keepIn K (.ref f_is_weight) = true)
    {f_is_cores : Addr} {od_is_cores an_is_cores : Option Addr} {sl_is_cores : Array (Option Value)} {oc_is_cores kV_is_cores dc_is_cores pm_is_cores cd_is_cores ct_is_cores : Value} (a_is_cores : PySem.W.nsIn K mainGlobals "is_cores" = some (some (.ref f_is_cores))) (l_is_cores : K.lookup f_is_cores = some ⟨oc_is_cores, od_is_cores, .func (PySem.W.fnOf "is_cores" "is_cores" (defArgs s_is_cores) (defBody s_is_cores) (defScope s_is_cores) .none kV_is_cores dc_is_cores pm_is_cores an_is_cores cd_is_cores ct_is_cores), sl_is_cores⟩) (c_is_cores : PySem.W.codeIn K cd_is_cores "is_cores" = true) (k_is_cores : PySem.W.keepIn K (.ref f_is_cores) = true)
    {f_worth_of : Addr} {od_worth_of an_worth_of : Option Addr} {sl_worth_of : Array (Option Value)} {oc_worth_of kV_worth_of dc_worth_of pm_worth_of cd_worth_of ct_worth_of : Value} (a_worth_of : PySem.W.nsIn K mainGlobals "worth_of" = some (some (.ref f_worth_of))) (l_worth_of : K.lookup f_worth_of = some ⟨oc_worth_of, od_worth_of, .func (PySem.W.fnOf "worth_of" "worth_of" (defArgs s_worth_of) (defBody s_worth_of) (defScope s_worth_of) .none kV_worth_of dc_worth_of pm_worth_of an_worth_of cd_worth_of ct_worth_of), sl_worth_of⟩) (c_worth_of : PySem.W.codeIn K cd_worth_of "worth_of" = true) (k_worth_of : PySem.W.keepIn K (.ref f_worth_of) = true)
    {f_counts_of : Addr} {od_counts_of an_counts_of : Option Addr} {sl_counts_of : Array (Option Value)} {oc_counts_of kV_counts_of dc_counts_of pm_counts_of cd_counts_of ct_counts_of : Value} (a_counts_of : PySem.W.nsIn K mainGlobals "counts_of" = some (some (.ref f_counts_of))) (l_counts_of : K.lookup f_counts_of = some ⟨oc_counts_of, od_counts_of, .func (PySem.W.fnOf "counts_of" "counts_of" (defArgs s_counts_of) (defBody s_counts_of) (defScope s_counts_of) .none kV_counts_of dc_counts_of pm_counts_of an_counts_of cd_counts_of ct_counts_of), sl_counts_of⟩) (c_counts_of : PySem.W.codeIn K cd_counts_of "counts_of" = true) (k_counts_of : PySem.W.keepIn K (.ref f_counts_of) = true)
    {f_is_match : Addr} {od_is_match an_is_match : Option Addr} {sl_is_match : Array (Option Value)} {oc_is_match kV_is_match dc_is_match pm_is_match cd_is_match ct_is_match : Value} (a_is_match : PySem.W.nsIn K mainGlobals "is_match" = some (some (.ref f_is_match))) (l_is_match : K.lookup f_is_match = some ⟨oc_is_match, od_is_match, .func (PySem.W.fnOf "is_match" "is_match" (defArgs s_is_match) (defBody s_is_match) (defScope s_is_match) .none kV_is_match dc_is_match pm_is_match an_is_match cd_is_match ct_is_match), sl_is_match⟩) (c_is_match : PySem.W.codeIn K cd_is_match "is_match" = true) (k_is_match : PySem.W.keepIn K (.ref f_is_match) = true)
    {f_is_count : Addr} {od_is_count an_is_count : Option Addr} {sl_is_count : Array (Option Value)} {oc_is_count kV_is_count dc_is_count pm_is_count cd_is_count ct_is_count : Value} (a_is_count : PySem.W.nsIn K mainGlobals "is_count" = some (some (.ref f_is_count))) (l_is_count : K.lookup f_is_count = some ⟨oc_is_count, od_is_count, .func (PySem.W.fnOf "is_count" "is_count" (defArgs s_is_count) (defBody s_is_count) (defScope s_is_count) .none kV_is_count dc_is_count pm_is_count an_is_count cd_is_count ct_is_count), sl_is_count⟩) (c_is_count : PySem.W.codeIn K cd_is_count "is_count" = true) (k_is_count : PySem.W.keepIn K (.ref f_is_count) = true)
    {f__law_cores : Addr} {od__law_cores an__law_cores : Option Addr} {sl__law_cores : Array (Option Value)} {oc__law_cores kV__law_cores dc__law_cores pm__law_cores cd__law_cores ct__law_cores : Value} (a__law_cores : PySem.W.nsIn K mainGlobals "_law_cores" = some (some (.ref f__law_cores))) (l__law_cores : K.lookup f__law_cores = some ⟨oc__law_cores, od__law_cores, .func (PySem.W.fnOf "_law_cores" "_law_cores" (defArgs s__law_cores) (defBody s__law_cores) (defScope s__law_cores) .none kV__law_cores dc__law_cores pm__law_cores an__law_cores cd__law_cores ct__law_cores), sl__law_cores⟩) (c__law_cores : PySem.W.codeIn K cd__law_cores "_law_cores" = true) (k__law_cores : PySem.W.keepIn K (.ref f__law_cores) = true)
    {f__law_due : Addr} {od__law_due an__law_due : Option Addr} {sl__law_due : Array (Option Value)} {oc__law_due kV__law_due dc__law_due pm__law_due cd__law_due ct__law_due : Value} (a__law_due : PySem.W.nsIn K mainGlobals "_law_due" = some (some (.ref f__law_due))) (l__law_due : K.lookup f__law_due = some ⟨oc__law_due, od__law_due, .func (PySem.W.fnOf "_law_due" "_law_due" (defArgs s__law_due) (defBody s__law_due) (defScope s__law_due) .none kV__law_due dc__law_due pm__law_due an__law_due cd__law_due ct__law_due), sl__law_due⟩) (c__law_due : PySem.W.codeIn K cd__law_due "_law_due" = true) (k__law_due : PySem.W.keepIn K (.ref f__law_due) = true)
    {f_is_like : Addr} {od_is_like an_is_like : Option Addr} {sl_is_like : Array (Option Value)} {oc_is_like kV_is_like dc_is_like pm_is_like cd_is_like ct_is_like : Value} (a_is_like : PySem.W.nsIn K mainGlobals "is_like" = some (some (.ref f_is_like))) (l_is_like : K.lookup f_is_like = some ⟨oc_is_like, od_is_like, .func (PySem.W.fnOf "is_like" "is_like" (defArgs s_is_like) (defBody s_is_like) (defScope s_is_like) .none kV_is_like dc_is_like pm_is_like an_is_like cd_is_like ct_is_like), sl_is_like⟩) (c_is_like : PySem.W.codeIn K cd_is_like "is_like" = true) (k_is_like : PySem.W.keepIn K (.ref f_is_like) = true)
    {f_check_cores : Addr} {od_check_cores an_check_cores : Option Addr} {sl_check_cores : Array (Option Value)} {oc_check_cores kV_check_cores dc_check_cores pm_check_cores cd_check_cores ct_check_cores : Value} (a_check_cores : PySem.W.nsIn K mainGlobals "check_cores" = some (some (.ref f_check_cores))) (l_check_cores : K.lookup f_check_cores = some ⟨oc_check_cores, od_check_cores, .func (PySem.W.fnOf "check_cores" "check_cores" (defArgs s_check_cores) (defBody s_check_cores) (defScope s_check_cores) .none kV_check_cores dc_check_cores pm_check_cores an_check_cores cd_check_cores ct_check_cores), sl_check_cores⟩) (c_check_cores : PySem.W.codeIn K cd_check_cores "check_cores" = true) (k_check_cores : PySem.W.keepIn K (.ref f_check_cores) = true)
    {f_match_by : Addr} {od_match_by an_match_by : Option Addr} {sl_match_by : Array (Option Value)} {oc_match_by kV_match_by dc_match_by pm_match_by cd_match_by ct_match_by : Value} (a_match_by : PySem.W.nsIn K mainGlobals "match_by" = some (some (.ref f_match_by))) (l_match_by : K.lookup f_match_by = some ⟨oc_match_by, od_match_by, .func (PySem.W.fnOf "match_by" "match_by" (defArgs s_match_by) (defBody s_match_by) (defScope s_match_by) .none kV_match_by dc_match_by pm_match_by an_match_by cd_match_by ct_match_by), sl_match_by⟩) (c_match_by : PySem.W.codeIn K cd_match_by "match_by" = true) (k_match_by : PySem.W.keepIn K (.ref f_match_by) = true)
    {f_have_likes_form : Addr} {od_have_likes_form an_have_likes_form : Option Addr} {sl_have_likes_form : Array (Option Value)} {oc_have_likes_form kV_have_likes_form dc_have_likes_form pm_have_likes_form cd_have_likes_form ct_have_likes_form : Value} (a_have_likes_form : PySem.W.nsIn K mainGlobals "have_likes_form" = some (some (.ref f_have_likes_form))) (l_have_likes_form : K.lookup f_have_likes_form = some ⟨oc_have_likes_form, od_have_likes_form, .func (PySem.W.fnOf "have_likes_form" "have_likes_form" (defArgs s_have_likes_form) (defBody s_have_likes_form) (defScope s_have_likes_form) .none kV_have_likes_form dc_have_likes_form pm_have_likes_form an_have_likes_form cd_have_likes_form ct_have_likes_form), sl_have_likes_form⟩) (c_have_likes_form : PySem.W.codeIn K cd_have_likes_form "have_likes_form" = true) (k_have_likes_form : PySem.W.keepIn K (.ref f_have_likes_form) = true)
    {f_check_likes : Addr} {od_check_likes an_check_likes : Option Addr} {sl_check_likes : Array (Option Value)} {oc_check_likes kV_check_likes dc_check_likes pm_check_likes cd_check_likes ct_check_likes : Value} (a_check_likes : PySem.W.nsIn K mainGlobals "check_likes" = some (some (.ref f_check_likes))) (l_check_likes : K.lookup f_check_likes = some ⟨oc_check_likes, od_check_likes, .func (PySem.W.fnOf "check_likes" "check_likes" (defArgs s_check_likes) (defBody s_check_likes) (defScope s_check_likes) .none kV_check_likes dc_check_likes pm_check_likes an_check_likes cd_check_likes ct_check_likes), sl_check_likes⟩) (c_check_likes : PySem.W.codeIn K cd_check_likes "check_likes" = true) (k_check_likes : PySem.W.keepIn K (.ref f_check_likes) = true)
    {f_best : Addr} {od_best an_best : Option Addr} {sl_best : Array (Option Value)} {oc_best kV_best dc_best pm_best cd_best ct_best : Value} (a_best : PySem.W.nsIn K mainGlobals "best" = some (some (.ref f_best))) (l_best : K.lookup f_best = some ⟨oc_best, od_best, .func (PySem.W.fnOf "best" "best" (defArgs s_best) (defBody s_best) (defScope s_best) .none kV_best dc_best pm_best an_best cd_best ct_best), sl_best⟩) (c_best : PySem.W.codeIn K cd_best "best" = true) (k_best : PySem.W.keepIn K (.ref f_best) = true)
    {f_shows_best : Addr} {od_shows_best an_shows_best : Option Addr} {sl_shows_best : Array (Option Value)} {oc_shows_best kV_shows_best dc_shows_best pm_shows_best cd_shows_best ct_shows_best : Value} (a_shows_best : PySem.W.nsIn K mainGlobals "shows_best" = some (some (.ref f_shows_best))) (l_shows_best : K.lookup f_shows_best = some ⟨oc_shows_best, od_shows_best, .func (PySem.W.fnOf "shows_best" "shows_best" (defArgs s_shows_best) (defBody s_shows_best) (defScope s_shows_best) .none kV_shows_best dc_shows_best pm_shows_best an_shows_best cd_shows_best ct_shows_best), sl_shows_best⟩) (c_shows_best : PySem.W.codeIn K cd_shows_best "shows_best" = true) (k_shows_best : PySem.W.keepIn K (.ref f_shows_best) = true)
    {f__law_are_great_right : Addr} {od__law_are_great_right an__law_are_great_right : Option Addr} {sl__law_are_great_right : Array (Option Value)} {oc__law_are_great_right kV__law_are_great_right dc__law_are_great_right pm__law_are_great_right cd__law_are_great_right ct__law_are_great_right : Value} (a__law_are_great_right : PySem.W.nsIn K mainGlobals "_law_are_great_right" = some (some (.ref f__law_are_great_right))) (l__law_are_great_right : K.lookup f__law_are_great_right = some ⟨oc__law_are_great_right, od__law_are_great_right, .func (PySem.W.fnOf "_law_are_great_right" "_law_are_great_right" (defArgs s__law_are_great_right) (defBody s__law_are_great_right) (defScope s__law_are_great_right) .none kV__law_are_great_right dc__law_are_great_right pm__law_are_great_right an__law_are_great_right cd__law_are_great_right ct__law_are_great_right), sl__law_are_great_right⟩) (c__law_are_great_right : PySem.W.codeIn K cd__law_are_great_right "_law_are_great_right" = true) (k__law_are_great_right : PySem.W.keepIn K (.ref f__law_are_great_right) = true)
    {f__law_bent : Addr} {od__law_bent an__law_bent : Option Addr} {sl__law_bent : Array (Option Value)} {oc__law_bent kV__law_bent dc__law_bent pm__law_bent cd__law_bent ct__law_bent : Value} (a__law_bent : PySem.W.nsIn K mainGlobals "_law_bent" = some (some (.ref f__law_bent))) (l__law_bent : K.lookup f__law_bent = some ⟨oc__law_bent, od__law_bent, .func (PySem.W.fnOf "_law_bent" "_law_bent" (defArgs s__law_bent) (defBody s__law_bent) (defScope s__law_bent) .none kV__law_bent dc__law_bent pm__law_bent an__law_bent cd__law_bent ct__law_bent), sl__law_bent⟩) (c__law_bent : PySem.W.codeIn K cd__law_bent "_law_bent" = true) (k__law_bent : PySem.W.keepIn K (.ref f__law_bent) = true)
    {f__law_values : Addr} {od__law_values an__law_values : Option Addr} {sl__law_values : Array (Option Value)} {oc__law_values kV__law_values dc__law_values pm__law_values cd__law_values ct__law_values : Value} (a__law_values : PySem.W.nsIn K mainGlobals "_law_values" = some (some (.ref f__law_values))) (l__law_values : K.lookup f__law_values = some ⟨oc__law_values, od__law_values, .func (PySem.W.fnOf "_law_values" "_law_values" (defArgs s__law_values) (defBody s__law_values) (defScope s__law_values) .none kV__law_values dc__law_values pm__law_values an__law_values cd__law_values ct__law_values), sl__law_values⟩) (c__law_values : PySem.W.codeIn K cd__law_values "_law_values" = true) (k__law_values : PySem.W.keepIn K (.ref f__law_values) = true)
    {f__law_right : Addr} {od__law_right an__law_right : Option Addr} {sl__law_right : Array (Option Value)} {oc__law_right kV__law_right dc__law_right pm__law_right cd__law_right ct__law_right : Value} (a__law_right : PySem.W.nsIn K mainGlobals "_law_right" = some (some (.ref f__law_right))) (l__law_right : K.lookup f__law_right = some ⟨oc__law_right, od__law_right, .func (PySem.W.fnOf "_law_right" "_law_right" (defArgs s__law_right) (defBody s__law_right) (defScope s__law_right) .none kV__law_right dc__law_right pm__law_right an__law_right cd__law_right ct__law_right), sl__law_right⟩) (c__law_right : PySem.W.codeIn K cd__law_right "_law_right" = true) (k__law_right : PySem.W.keepIn K (.ref f__law_right) = true)
    {f_law : Addr} {od_law an_law : Option Addr} {sl_law : Array (Option Value)} {oc_law kV_law dc_law pm_law cd_law ct_law : Value} (a_law : PySem.W.nsIn K mainGlobals "law" = some (some (.ref f_law))) (l_law : K.lookup f_law = some ⟨oc_law, od_law, .func (PySem.W.fnOf "law" "law" (defArgs s_law) (defBody s_law) (defScope s_law) .none kV_law dc_law pm_law an_law cd_law ct_law), sl_law⟩) (c_law : PySem.W.codeIn K cd_law "law" = true) (k_law : PySem.W.keepIn K (.ref f_law) = true)
    : Ground K mg where
  b_abs := PySem.W.mg_none_of X G z_abs
  b_all := PySem.W.mg_none_of X G z_all
  b_any := PySem.W.mg_none_of X G z_any
  b_bool := PySem.W.mg_none_of X G z_bool
  b_dict := PySem.W.mg_none_of X G z_dict
  b_enumerate := PySem.W.mg_none_of X G z_enumerate
  b_int := PySem.W.mg_none_of X G z_int
  b_isinstance := PySem.W.mg_none_of X G z_isinstance
  b_len := PySem.W.mg_none_of X G z_len
  b_list := PySem.W.mg_none_of X G z_list
  b_max := PySem.W.mg_none_of X G z_max
  b_min := PySem.W.mg_none_of X G z_min
  b_range := PySem.W.mg_none_of X G z_range
  b_repr := PySem.W.mg_none_of X G z_repr
  b_set := PySem.W.mg_none_of X G z_set
  b_sorted := PySem.W.mg_none_of X G z_sorted
  b_str := PySem.W.mg_none_of X G z_str
  b_sum := PySem.W.mg_none_of X G z_sum
  b_tuple := PySem.W.mg_none_of X G z_tuple
  b_zip := PySem.W.mg_none_of X G z_zip
  g_FIGURES := ⟨_, PySem.W.mg_of X G g_FIGURES, _, rfl⟩
  g_LETTERS := ⟨_, PySem.W.mg_of X G g_LETTERS, _, rfl⟩
  g_MOST_LAYERS := ⟨_, PySem.W.mg_of X G g_MOST_LAYERS, _, rfl⟩
  g_MOST_LIKES := ⟨_, PySem.W.mg_of X G g_MOST_LIKES, _, rfl⟩
  g_MOST_SIGNS := ⟨_, PySem.W.mg_of X G g_MOST_SIGNS, _, rfl⟩
  g_MOST_WEIGHT := ⟨_, PySem.W.mg_of X G g_MOST_WEIGHT, _, rfl⟩
  f_is_integer := ⟨_, _, fun_mk (st := s_is_integer) l_is_integer c_is_integer k_is_integer, PySem.W.mg_of X G a_is_integer⟩
  f_is_name := ⟨_, _, fun_mk (st := s_is_name) l_is_name c_is_name k_is_name, PySem.W.mg_of X G a_is_name⟩
  f_is_ascending := ⟨_, _, fun_mk (st := s_is_ascending) l_is_ascending c_is_ascending k_is_ascending, PySem.W.mg_of X G a_is_ascending⟩
  f_is_behind := ⟨_, _, fun_mk (st := s_is_behind) l_is_behind c_is_behind k_is_behind, PySem.W.mg_of X G a_is_behind⟩
  f__law_pot := ⟨_, _, fun_mk (st := s__law_pot) l__law_pot c__law_pot k__law_pot, PySem.W.mg_of X G a__law_pot⟩
  f__law_take := ⟨_, _, fun_mk (st := s__law_take) l__law_take c__law_take k__law_take, PySem.W.mg_of X G a__law_take⟩
  f__law_cells := ⟨_, _, fun_mk (st := s__law_cells) l__law_cells c__law_cells k__law_cells, PySem.W.mg_of X G a__law_cells⟩
  f__law_agree := ⟨_, _, fun_mk (st := s__law_agree) l__law_agree c__law_agree k__law_agree, PySem.W.mg_of X G a__law_agree⟩
  f__law_weight := ⟨_, _, fun_mk (st := s__law_weight) l__law_weight c__law_weight k__law_weight, PySem.W.mg_of X G a__law_weight⟩
  f__law_is_like := ⟨_, _, fun_mk (st := s__law_is_like) l__law_is_like c__law_is_like k__law_is_like, PySem.W.mg_of X G a__law_is_like⟩
  f_is_between := ⟨_, _, fun_mk (st := s_is_between) l_is_between c_is_between k_is_between, PySem.W.mg_of X G a_is_between⟩
  f_is_core := ⟨_, _, fun_mk (st := s_is_core) l_is_core c_is_core k_is_core, PySem.W.mg_of X G a_is_core⟩
  f_do_agree := ⟨_, _, fun_mk (st := s_do_agree) l_do_agree c_do_agree k_do_agree, PySem.W.mg_of X G a_do_agree⟩
  f_heights := ⟨_, _, fun_mk (st := s_heights) l_heights c_heights k_heights, PySem.W.mg_of X G a_heights⟩
  f_depths := ⟨_, _, fun_mk (st := s_depths) l_depths c_depths k_depths, PySem.W.mg_of X G a_depths⟩
  f_is_one_of := ⟨_, _, fun_mk (st := s_is_one_of) l_is_one_of c_is_one_of k_is_one_of, PySem.W.mg_of X G a_is_one_of⟩
  f__law_of := ⟨_, _, fun_mk (st := s__law_of) l__law_of c__law_of k__law_of, PySem.W.mg_of X G a__law_of⟩
  f__law_some := ⟨_, _, fun_mk (st := s__law_some) l__law_some c__law_some k__law_some, PySem.W.mg_of X G a__law_some⟩
  f__law_likes := ⟨_, _, fun_mk (st := s__law_likes) l__law_likes c__law_likes k__law_likes, PySem.W.mg_of X G a__law_likes⟩
  f__law_matches := ⟨_, _, fun_mk (st := s__law_matches) l__law_matches c__law_matches k__law_matches, PySem.W.mg_of X G a__law_matches⟩
  f__law_is_match := ⟨_, _, fun_mk (st := s__law_is_match) l__law_is_match c__law_is_match k__law_is_match, PySem.W.mg_of X G a__law_is_match⟩
  f__law_is_count := ⟨_, _, fun_mk (st := s__law_is_count) l__law_is_count c__law_is_count k__law_is_count, PySem.W.mg_of X G a__law_is_count⟩
  f_is_weight := ⟨_, _, fun_mk (st := s_is_weight) l_is_weight c_is_weight k_is_weight, PySem.W.mg_of X G a_is_weight⟩
  f_is_cores := ⟨_, _, fun_mk (st := s_is_cores) l_is_cores c_is_cores k_is_cores, PySem.W.mg_of X G a_is_cores⟩
  f_worth_of := ⟨_, _, fun_mk (st := s_worth_of) l_worth_of c_worth_of k_worth_of, PySem.W.mg_of X G a_worth_of⟩
  f_counts_of := ⟨_, _, fun_mk (st := s_counts_of) l_counts_of c_counts_of k_counts_of, PySem.W.mg_of X G a_counts_of⟩
  f_is_match := ⟨_, _, fun_mk (st := s_is_match) l_is_match c_is_match k_is_match, PySem.W.mg_of X G a_is_match⟩
  f_is_count := ⟨_, _, fun_mk (st := s_is_count) l_is_count c_is_count k_is_count, PySem.W.mg_of X G a_is_count⟩
  f__law_cores := ⟨_, _, fun_mk (st := s__law_cores) l__law_cores c__law_cores k__law_cores, PySem.W.mg_of X G a__law_cores⟩
  f__law_due := ⟨_, _, fun_mk (st := s__law_due) l__law_due c__law_due k__law_due, PySem.W.mg_of X G a__law_due⟩
  f_is_like := ⟨_, _, fun_mk (st := s_is_like) l_is_like c_is_like k_is_like, PySem.W.mg_of X G a_is_like⟩
  f_check_cores := ⟨_, _, fun_mk (st := s_check_cores) l_check_cores c_check_cores k_check_cores, PySem.W.mg_of X G a_check_cores⟩
  f_match_by := ⟨_, _, fun_mk (st := s_match_by) l_match_by c_match_by k_match_by, PySem.W.mg_of X G a_match_by⟩
  f_have_likes_form := ⟨_, _, fun_mk (st := s_have_likes_form) l_have_likes_form c_have_likes_form k_have_likes_form, PySem.W.mg_of X G a_have_likes_form⟩
  f_check_likes := ⟨_, _, fun_mk (st := s_check_likes) l_check_likes c_check_likes k_check_likes, PySem.W.mg_of X G a_check_likes⟩
  f_best := ⟨_, _, fun_mk (st := s_best) l_best c_best k_best, PySem.W.mg_of X G a_best⟩
  f_shows_best := ⟨_, _, fun_mk (st := s_shows_best) l_shows_best c_shows_best k_shows_best, PySem.W.mg_of X G a_shows_best⟩
  f__law_are_great_right := ⟨_, _, fun_mk (st := s__law_are_great_right) l__law_are_great_right c__law_are_great_right k__law_are_great_right, PySem.W.mg_of X G a__law_are_great_right⟩
  f__law_bent := ⟨_, _, fun_mk (st := s__law_bent) l__law_bent c__law_bent k__law_bent, PySem.W.mg_of X G a__law_bent⟩
  f__law_values := ⟨_, _, fun_mk (st := s__law_values) l__law_values c__law_values k__law_values, PySem.W.mg_of X G a__law_values⟩
  f__law_right := ⟨_, _, fun_mk (st := s__law_right) l__law_right c__law_right k__law_right, PySem.W.mg_of X G a__law_right⟩
  f_law := ⟨_, _, fun_mk (st := s_law) l_law c_law k_law, PySem.W.mg_of X G a_law⟩
end
end K66
open PySem PySem.W PyProof.Rows
set_option maxHeartbeats 0 in
theorem PySem.Challenge.cw_laidthen_k66_what_shows_the_greatest_mat_holds : PySem.Challenge.rw_laidthen_k66_what_shows_the_greatest_mat.Holds := by
  w_on; o_law; k_head; (case hw => w_witness2)
  k_fill
  refine Dl.walk_ofG (l := PySem.Challenge.rw_laidthen_k66_what_shows_the_greatest_mat) (n := 63) (k := 18) (x := "script") rfl (by decide) rfl ⟨rfl, by decide, by decide⟩ ?F
  case F =>
    intro w mg fa h Y G hmg
    refine ⟨_, fun _ => none, K66.F_law, PySem.W.kIn_of Y, fun ns hl => K66.r_law ns (Nat.le_trans hl (by decide)), fun base hb hg => K66.ok_law ?gr⟩
    case gr =>
      refine' K66.mk_ground (PySem.W.kIn_of Y) G ?z_abs ?z_all ?z_any ?z_bool ?z_dict ?z_enumerate ?z_int ?z_isinstance ?z_len ?z_list ?z_max ?z_min ?z_range ?z_repr ?z_set ?z_sorted ?z_str ?z_sum ?z_tuple ?z_zip ?g_FIGURES ?g_LETTERS ?g_MOST_LAYERS ?g_MOST_LIKES ?g_MOST_SIGNS ?g_MOST_WEIGHT ?a_is_integer ?l_is_integer ?c_is_integer ?k_is_integer ?a_is_name ?l_is_name ?c_is_name ?k_is_name ?a_is_ascending ?l_is_ascending ?c_is_ascending ?k_is_ascending ?a_is_behind ?l_is_behind ?c_is_behind ?k_is_behind ?a__law_pot ?l__law_pot ?c__law_pot ?k__law_pot ?a__law_take ?l__law_take ?c__law_take ?k__law_take ?a__law_cells ?l__law_cells ?c__law_cells ?k__law_cells ?a__law_agree ?l__law_agree ?c__law_agree ?k__law_agree ?a__law_weight ?l__law_weight ?c__law_weight ?k__law_weight ?a__law_is_like ?l__law_is_like ?c__law_is_like ?k__law_is_like ?a_is_between ?l_is_between ?c_is_between ?k_is_between ?a_is_core ?l_is_core ?c_is_core ?k_is_core ?a_do_agree ?l_do_agree ?c_do_agree ?k_do_agree ?a_heights ?l_heights ?c_heights ?k_heights ?a_depths ?l_depths ?c_depths ?k_depths ?a_is_one_of ?l_is_one_of ?c_is_one_of ?k_is_one_of ?a__law_of ?l__law_of ?c__law_of ?k__law_of ?a__law_some ?l__law_some ?c__law_some ?k__law_some ?a__law_likes ?l__law_likes ?c__law_likes ?k__law_likes ?a__law_matches ?l__law_matches ?c__law_matches ?k__law_matches ?a__law_is_match ?l__law_is_match ?c__law_is_match ?k__law_is_match ?a__law_is_count ?l__law_is_count ?c__law_is_count ?k__law_is_count ?a_is_weight ?l_is_weight ?c_is_weight ?k_is_weight ?a_is_cores ?l_is_cores ?c_is_cores ?k_is_cores ?a_worth_of ?l_worth_of ?c_worth_of ?k_worth_of ?a_counts_of ?l_counts_of ?c_counts_of ?k_counts_of ?a_is_match ?l_is_match ?c_is_match ?k_is_match ?a_is_count ?l_is_count ?c_is_count ?k_is_count ?a__law_cores ?l__law_cores ?c__law_cores ?k__law_cores ?a__law_due ?l__law_due ?c__law_due ?k__law_due ?a_is_like ?l_is_like ?c_is_like ?k_is_like ?a_check_cores ?l_check_cores ?c_check_cores ?k_check_cores ?a_match_by ?l_match_by ?c_match_by ?k_match_by ?a_have_likes_form ?l_have_likes_form ?c_have_likes_form ?k_have_likes_form ?a_check_likes ?l_check_likes ?c_check_likes ?k_check_likes ?a_best ?l_best ?c_best ?k_best ?a_shows_best ?l_shows_best ?c_shows_best ?k_shows_best ?a__law_are_great_right ?l__law_are_great_right ?c__law_are_great_right ?k__law_are_great_right ?a__law_bent ?l__law_bent ?c__law_bent ?k__law_bent ?a__law_values ?l__law_values ?c__law_values ?k__law_values ?a__law_right ?l__law_right ?c__law_right ?k__law_right ?a_law ?l_law ?c_law ?k_law
      (case z_abs => k_is); (case z_all => k_is); (case z_any => k_is); (case z_bool => k_is); (case z_dict => k_is); (case z_enumerate => k_is); (case z_int => k_is)
      (case z_isinstance => k_is); (case z_len => k_is); (case z_list => k_is); (case z_max => k_is); (case z_min => k_is); (case z_range => k_is); (case z_repr => k_is)
      (case z_set => k_is); (case z_sorted => k_is); (case z_str => k_is); (case z_sum => k_is); (case z_tuple => k_is); (case z_zip => k_is); (case g_FIGURES => k_is)
      (case g_LETTERS => k_is); (case g_MOST_LAYERS => k_is); (case g_MOST_LIKES => k_is); (case g_MOST_SIGNS => k_is); (case g_MOST_WEIGHT => k_is); (case a_is_integer => k_is)
      (case l_is_integer => k_is); (case c_is_integer => k_is); (case k_is_integer => k_is); (case a_is_name => k_is); (case l_is_name => k_is); (case c_is_name => k_is)
      (case k_is_name => k_is); (case a_is_ascending => k_is); (case l_is_ascending => k_is); (case c_is_ascending => k_is); (case k_is_ascending => k_is)
      (case a_is_behind => k_is); (case l_is_behind => k_is); (case c_is_behind => k_is); (case k_is_behind => k_is); (case a__law_pot => k_is); (case l__law_pot => k_is)
      (case c__law_pot => k_is); (case k__law_pot => k_is); (case a__law_take => k_is); (case l__law_take => k_is); (case c__law_take => k_is); (case k__law_take => k_is)
      (case a__law_cells => k_is); (case l__law_cells => k_is); (case c__law_cells => k_is); (case k__law_cells => k_is); (case a__law_agree => k_is)
      (case l__law_agree => k_is); (case c__law_agree => k_is); (case k__law_agree => k_is); (case a__law_weight => k_is); (case l__law_weight => k_is)
      (case c__law_weight => k_is); (case k__law_weight => k_is); (case a__law_is_like => k_is); (case l__law_is_like => k_is); (case c__law_is_like => k_is)
      (case k__law_is_like => k_is); (case a_is_between => k_is); (case l_is_between => k_is); (case c_is_between => k_is); (case k_is_between => k_is)
      (case a_is_core => k_is); (case l_is_core => k_is); (case c_is_core => k_is); (case k_is_core => k_is); (case a_do_agree => k_is); (case l_do_agree => k_is)
      (case c_do_agree => k_is); (case k_do_agree => k_is); (case a_heights => k_is); (case l_heights => k_is); (case c_heights => k_is); (case k_heights => k_is)
      (case a_depths => k_is); (case l_depths => k_is); (case c_depths => k_is); (case k_depths => k_is); (case a_is_one_of => k_is); (case l_is_one_of => k_is)
      (case c_is_one_of => k_is); (case k_is_one_of => k_is); (case a__law_of => k_is); (case l__law_of => k_is); (case c__law_of => k_is); (case k__law_of => k_is)
      (case a__law_some => k_is); (case l__law_some => k_is); (case c__law_some => k_is); (case k__law_some => k_is); (case a__law_likes => k_is); (case l__law_likes => k_is)
      (case c__law_likes => k_is); (case k__law_likes => k_is); (case a__law_matches => k_is); (case l__law_matches => k_is); (case c__law_matches => k_is)
      (case k__law_matches => k_is); (case a__law_is_match => k_is); (case l__law_is_match => k_is); (case c__law_is_match => k_is); (case k__law_is_match => k_is)
      (case a__law_is_count => k_is); (case l__law_is_count => k_is); (case c__law_is_count => k_is); (case k__law_is_count => k_is); (case a_is_weight => k_is)
      (case l_is_weight => k_is); (case c_is_weight => k_is); (case k_is_weight => k_is); (case a_is_cores => k_is); (case l_is_cores => k_is); (case c_is_cores => k_is)
      (case k_is_cores => k_is); (case a_worth_of => k_is); (case l_worth_of => k_is); (case c_worth_of => k_is); (case k_worth_of => k_is); (case a_counts_of => k_is)
      (case l_counts_of => k_is); (case c_counts_of => k_is); (case k_counts_of => k_is); (case a_is_match => k_is); (case l_is_match => k_is); (case c_is_match => k_is)
      (case k_is_match => k_is); (case a_is_count => k_is); (case l_is_count => k_is); (case c_is_count => k_is); (case k_is_count => k_is); (case a__law_cores => k_is)
      (case l__law_cores => k_is); (case c__law_cores => k_is); (case k__law_cores => k_is); (case a__law_due => k_is); (case l__law_due => k_is); (case c__law_due => k_is)
      (case k__law_due => k_is); (case a_is_like => k_is); (case l_is_like => k_is); (case c_is_like => k_is); (case k_is_like => k_is); (case a_check_cores => k_is)
      (case l_check_cores => k_is); (case c_check_cores => k_is); (case k_check_cores => k_is); (case a_match_by => k_is); (case l_match_by => k_is); (case c_match_by => k_is)
      (case k_match_by => k_is); (case a_have_likes_form => k_is); (case l_have_likes_form => k_is); (case c_have_likes_form => k_is); (case k_have_likes_form => k_is)
      (case a_check_likes => k_is); (case l_check_likes => k_is); (case c_check_likes => k_is); (case k_check_likes => k_is); (case a_best => k_is); (case l_best => k_is)
      (case c_best => k_is); (case k_best => k_is); (case a_shows_best => k_is); (case l_shows_best => k_is); (case c_shows_best => k_is); (case k_shows_best => k_is)
      (case a__law_are_great_right => k_is); (case l__law_are_great_right => k_is); (case c__law_are_great_right => k_is); (case k__law_are_great_right => k_is)
      (case a__law_bent => k_is); (case l__law_bent => k_is); (case c__law_bent => k_is); (case k__law_bent => k_is); (case a__law_values => k_is); (case l__law_values => k_is)
      (case c__law_values => k_is); (case k__law_values => k_is); (case a__law_right => k_is); (case l__law_right => k_is); (case c__law_right => k_is)
      (case k__law_right => k_is); (case a_law => k_is); (case l_law => k_is); (case c_law => k_is); (case k_law => k_is)
end
