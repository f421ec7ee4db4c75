import PyProof.Rows.All
import Wide.All
import OpenK.AllK
import Wide.FinOn
import KE.KStateDown
import HandS.ForMost
import HandS.ForExc
import HandS.Words
import HandS.Defaults
import HandS.ExcInit
import HandS.Head0
import HandS.Head1
import HandS.Head2
import HandS.HeadHook1
import HandS.HeadHook2
import HandS.Wide
import HandS.TupAny
import HandS.TupLen
import KE.KEqNest
import PyProof.FactsAll.dict
import PyProof.NeKinds
import HandS.More
import HandS.IsInst
import HandS.Text
import HandS.Replace
import HandS.Style
import HandS.Records
import HandS.ExcOwn
import HandS.ClsMeth
import HandS.Small
import KE.KDictList
import KE.KExcIs
import HandS.Conv
import HandS.Rev
import HandS.RevTup
import HandS.Zip
import HandS.Iter
import KE.GoesEnum
import KE.GoesZip
import KE.GoesMore
import HandS.List
import KE.KRevSl
import KE.KUnpack
import HandS.Comp
import HandS.TryOnly
import HandS.TryElse
import HandS.WordsExc
import HandS.Ends
import PySem.Challenge.RW_foreknown_k81_what_is_a_score
set_option Elab.async false
set_option linter.all false
set_option maxRecDepth 100000
set_option maxHeartbeats 4000000
/-! EvH0: what the head looks at: Bool checks over the reached part of the heap, addresses by names; the defs of the text. -/
namespace Ev
open PySem L2
abbrev Ck : Type := PySem.W.Frag → Bool
def obsK (ck : List Ck) (fn : List He.DefD) (K : PySem.W.Frag) : He.AlD := ((ck.all fun f => f K) && fn.all fun d => d.ok K, fn.map fun d => He.fnW K d.at_)
def SaysK (ck : List Ck) (fn : List He.DefD) (K : PySem.W.Frag) : Prop := obsK ck fn K = He.valD fn
/-! what the module's names reach in n steps, the places seen kept as the bits of a number -/
def bitB (s a : Nat) : Bool := Nat.beq (Nat.land (Nat.shiftRight s a) 1) 1
def addR : List Addr → Nat → List Addr → List Addr × Nat
  | [], s, acc => (acc, s)
  | b :: r, s, acc => match bitB s b with
    | true => addR r s acc
    | false => addR r (Nat.lor s (Nat.shiftLeft 1 b)) (b :: acc)
def addO (g : Addr → Option Obj) : List Addr → Nat → List Addr → List Addr × Nat
  | [], s, acc => (acc, s)
  | a :: r, s, acc => match g a with
    | some o => match addR (He.refsO o) s acc with
      | (acc', s') => addO g r s' acc'
    | none => addO g r s acc
def levB (g : Addr → Option Obj) : Nat → List Addr → Nat → List Addr
  | 0, fr, _ => fr
  | n + 1, fr, s => match addO g fr s [] with
    | (nx, s') => fr ++ levB g n nx s'
def asB (g : Addr → Option Obj) (n : Nat) : List Addr := levB g n [mainGlobals] (Nat.shiftLeft 1 mainGlobals)
def obsKG (n : Nat) (ck : List Ck) (fn : List He.DefD) (g : Addr → Option Obj) : He.AlD := obsK ck fn (He.frG g (PySem.cStatics :: asB g n))
def hookK (n : Nat) (ck : List Ck) (fn : List He.DefD) : PySem.W.Hook where
  α := He.AlD
  obs := fun s => obsKG n ck fn s.heap.get?
  val := fun _ => He.valD fn
  says := fun _ h => ∃ K : PySem.W.Frag, K.In h ∧ SaysK ck fn K
  of := fun _ _ e => ⟨_, He.frG_in, e⟩
  keeps := fun _ _ _ ⟨K, hK, c⟩ k => ⟨K, PySem.W.Frag.In.keeps hK k, c⟩
theorem obsKG_eq {n : Nat} {ck : List Ck} {fn : List He.DefD} {g : Addr → Option Obj} {s : Shared} (h : ∀ a, g a = s.heap.get? a) : obsKG n ck fn g = (hookK n ck fn).obs s := by
  have e : g = s.heap.get? := funext h
  rw [e] <;> rfl
section
variable {cs : List Ck} {fn : List He.DefD} {K : PySem.W.Frag}
theorem SaysK.ck (c : SaysK cs fn K) (i : Nat) {f : Ck} (h : cs[i]? = some f := by rfl) : f K = true := by
  have c1 := (He.ba (show ((cs.all fun f => f K) && fn.all fun d => d.ok K) = true from congrArg (fun z : He.AlD => z.1) c)).1
  exact List.all_eq_true.mp c1 f (List.mem_of_getElem? h)
theorem SaysK.fun_ (c : SaysK cs fn K) (i : Nat) {p : Str × Option Str} {x qual : Str} {st : Stmt} (h : fn[i]? = some ⟨p, x, qual, defArgs st, defBody st, defScope st, [], []⟩) : ∃ fd, Fun K x qual st (He.fAd K p) fd := by
  have c2 := (He.ba (show ((cs.all fun f => f K) && fn.all fun d => d.ok K) = true from congrArg (fun z : He.AlD => z.1) c)).2
  have e : fn.map (fun d => He.fnW K d.at_) = fn.map He.DefD.val := congrArg (fun z : He.AlD => z.2) c
  have e2 : (fn.map fun d => He.fnW K d.at_)[i]? = (fn.map He.DefD.val)[i]? := by rw [e]
  rw [List.getElem?_map, List.getElem?_map, h] at e2
  obtain ⟨fd, ⟨oc, od, dV, kV, doc, pm, an, cdv, ct, osl, e1, lk, hc, hd, _⟩, kp⟩ := He.DefD.funD (Option.some.inj e2) (List.all_eq_true.mp c2 _ (List.mem_of_getElem? h))
  rcases hd with ⟨_, z⟩ | ⟨z, _⟩
  · subst z
    exact ⟨fd, ⟨⟨oc, od, kV, doc, pm, an, cdv, ct, osl, e1, lk, hc⟩, kp⟩⟩
  · exact absurd rfl z
end
def oexB (K : PySem.W.Frag) (C : Addr) : Bool := match K.lookup C with
  | some ⟨.type t, dd, .cls cd, sl⟩ => decide (t = "type") && (match cd.mro, sl.toList with
    | .ref C' :: bm, [_, _, _, _, some (.builtin n), _] => decide (C' = C) && (decide (n = "ValueError.__new__") && (cd.hasDict && (!cd.hasDel && PySem.HandSPX.refsVE bm)))
    | _, _ => false)
  | _ => false
theorem oexB_ok {K : PySem.W.Frag} {C : Addr} (h : oexB K C = true) : ∃ nm q N bs bm sn sub ab col dd k0 k1 k2 k3 k5, K.lookup C = some (excClassObj nm q C N bs bm true sn sub ab col dd k0 k1 k2 k3 k5 "ValueError.__new__") ∧ PySem.HandSPX.refsVE bm = true := by
  unfold oexB at h
  split at h
  · rename_i t dd cd sl ho
    obtain ⟨h1, h2⟩ := He.ba h
    split at h2
    · rename_i C' bm k0 k1 k2 k3 n k5 hm hs
      obtain ⟨h3, h4⟩ := He.ba h2
      obtain ⟨h5, h6⟩ := He.ba h4
      obtain ⟨h7, h8⟩ := He.ba h6
      obtain ⟨h9, h10⟩ := He.ba h8
      have e1 := of_decide_eq_true h1
      have e3 := of_decide_eq_true h3
      have e5 := of_decide_eq_true h5
      subst e1 e3 e5
      obtain ⟨nm, bs, mro, ns, q, hdct, sn, sub, ab, col, hdel⟩ := cd
      have g7 : hdct = true := h7
      have g8 : (!hdel) = true := h9
      have g9 : hdel = false := by simpa using g8
      have gm : mro = .ref C' :: bm := hm
      clear h2 h4 h6 h7 h8 h9 hm
      subst g7 g9 gm
      obtain ⟨sl⟩ := sl
      have gs : sl = [k0, k1, k2, k3, some (.builtin "ValueError.__new__"), k5] := hs
      clear hs
      subst gs
      exact ⟨_, _, _, _, _, _, _, _, _, _, _, _, _, _, _, ho, h10⟩
    · cases h2
  · cases h
theorem intB_ok {K : PySem.W.Frag} {x : Str} {i : Int} (c : (match PySem.W.nsIn K mainGlobals x with | some (some (.int j _)) => decide (j = i) | _ => false) = true) : ∃ t, PySem.W.nsIn K mainGlobals x = some (some (.int i t)) := by
  split at c
  · rename_i j t e
    have z := of_decide_eq_true c
    subst z
    exact ⟨t, e⟩
  · cases c
theorem strB_ok {K : PySem.W.Frag} {x i : Str} (c : (match PySem.W.nsIn K mainGlobals x with | some (some (.str j _)) => decide (j = i) | _ => false) = true) : ∃ t, PySem.W.nsIn K mainGlobals x = some (some (.str i t)) := by
  split at c
  · rename_i j t e
    have z := of_decide_eq_true c
    subst z
    exact ⟨t, e⟩
  · cases c
def clsB (r : Option PySem.W.CFound) (v : Value) : Bool := match r with
  | some (.val u) => decide (u = v)
  | _ => false
theorem clsB_ok {r : Option PySem.W.CFound} {v : Value} (h : clsB r v = true) : r = some (.val v) := by
  unfold clsB at h
  split at h
  · rename_i u
    rw [of_decide_eq_true h]
  · cases h
/-! the run's equation in pieces: each piece runs the top anew, and looks at a part of the facts -/
theorem obsK_app {c1 c2 : List Ck} {d1 d2 : List He.DefD} {K : PySem.W.Frag} (h1 : obsK c1 d1 K = He.valD d1) (h2 : obsK c2 d2 K = He.valD d2) : obsK (c1 ++ c2) (d1 ++ d2) K = He.valD (d1 ++ d2) := by
  obtain ⟨a1, a2⟩ := He.ba (show ((c1.all fun f => f K) && d1.all fun d => d.ok K) = true from congrArg (fun z : He.AlD => z.1) h1)
  obtain ⟨b1, b2⟩ := He.ba (show ((c2.all fun f => f K) && d2.all fun d => d.ok K) = true from congrArg (fun z : He.AlD => z.1) h2)
  have e1 : d1.map (fun d => He.fnW K d.at_) = d1.map He.DefD.val := congrArg (fun z : He.AlD => z.2) h1
  have e2 : d2.map (fun d => He.fnW K d.at_) = d2.map He.DefD.val := congrArg (fun z : He.AlD => z.2) h2
  show (((c1 ++ c2).all fun f => f K) && (d1 ++ d2).all fun d => d.ok K, (d1 ++ d2).map fun d => He.fnW K d.at_) = (true, (d1 ++ d2).map He.DefD.val)
  rw [List.all_append, List.all_append, a1, a2, b1, b2, List.map_append, List.map_append, e1, e2]
  rfl
theorem obsKG_app {n : Nat} {c1 c2 : List Ck} {d1 d2 : List He.DefD} {g : Addr → Option Obj} (h1 : obsKG n c1 d1 g = He.valD d1) (h2 : obsKG n c2 d2 g = He.valD d2) : obsKG n (c1 ++ c2) (d1 ++ d2) g = He.valD (d1 ++ d2) := obsK_app h1 h2
theorem ob_join {σ : Type} {E : Option σ} {n : Nat} {c1 c2 : List Ck} {d1 d2 : List He.DefD} {g : σ → Addr → Option Obj} (h1 : E.map (fun s => obsKG n c1 d1 (g s)) = some (He.valD d1)) (h2 : E.map (fun s => obsKG n c2 d2 (g s)) = some (He.valD d2)) : E.map (fun s => obsKG n (c1 ++ c2) (d1 ++ d2) (g s)) = some (He.valD (d1 ++ d2)) := by
  cases E with
  | none => cases h1
  | some s => exact congrArg some (obsKG_app (Option.some.inj h1) (Option.some.inj h2))
theorem run_join {σ α β γ : Type} {E : Option σ} {l : σ → α} {q : σ → β} {o : σ → γ} {x : α} {y : β} {z : γ} (h1 : E.map (fun s => (l s, q s)) = some (x, y)) (h2 : E.map o = some z) : E.map (fun s => (l s, q s, o s)) = some (x, y, z) := by
  cases E with
  | none => cases h1
  | some s =>
    have e1 := Option.some.inj h1
    have e2 := Option.some.inj h2
    have a1 : l s = x := congrArg Prod.fst e1
    have a2 : q s = y := congrArg Prod.snd e1
    show some (l s, q s, o s) = _
    rw [e2, a1, a2]
/-- no list stands in the reached part -/
def noLst (K : PySem.W.Frag) : Bool := K.all fun p => !(p.2.cls == .type "list")
end Ev
noncomputable section
namespace Ev.Law
open PySem PySem.Spec PyProof.Rows L2
def top (i : Nat) : Stmt := PySem.Challenge.pw_foreknown_k81_what_is_a_score.main.body.getD i (.Pass ⟨0, 0, 0, 0⟩)
abbrev st0 : Stmt := top 1
abbrev st1 : Stmt := top 3
abbrev st2 : Stmt := top 4
abbrev st3 : Stmt := top 5
abbrev st4 : Stmt := top 7
abbrev st5 : Stmt := top 8
abbrev st6 : Stmt := top 9
abbrev st7 : Stmt := top 10
abbrev st8 : Stmt := top 11
abbrev st9 : Stmt := top 12
abbrev st10 : Stmt := top 13
abbrev st11 : Stmt := top 14
abbrev st12 : Stmt := top 15
abbrev st13 : Stmt := top 16
abbrev st14 : Stmt := top 17
abbrev st15 : Stmt := top 18
abbrev ck0 : Ev.Ck := fun K => Ev.noLst K
abbrev ck1 : Ev.Ck := fun K => He.eqO (PySem.W.nsIn K mainGlobals "is_number") (some (some (.ref (He.fAd K ("is_number", none)))))
abbrev ck2 : Ev.Ck := fun K => He.eqO (PySem.W.nsIn K mainGlobals "third_of") (some (some (.ref (He.fAd K ("third_of", none)))))
abbrev ck3 : Ev.Ck := fun K => He.eqO (PySem.W.nsIn K mainGlobals "is_command") (some (some (.ref (He.fAd K ("is_command", none)))))
abbrev ck4 : Ev.Ck := fun K => He.eqO (PySem.W.nsIn K mainGlobals "is_score") (some (some (.ref (He.fAd K ("is_score", none)))))
abbrev ck5 : Ev.Ck := fun K => He.eqO (PySem.W.nsIn K mainGlobals "_law_cell") (some (some (.ref (He.fAd K ("_law_cell", none)))))
abbrev ck6 : Ev.Ck := fun K => He.eqO (PySem.W.nsIn K mainGlobals "_law_number") (some (some (.ref (He.fAd K ("_law_number", none)))))
abbrev ck7 : Ev.Ck := fun K => He.eqO (PySem.W.nsIn K mainGlobals "_law_odd") (some (some (.ref (He.fAd K ("_law_odd", none)))))
abbrev ck8 : Ev.Ck := fun K => He.eqO (PySem.W.nsIn K mainGlobals "_law_third") (some (some (.ref (He.fAd K ("_law_third", none)))))
abbrev ck9 : Ev.Ck := fun K => He.eqO (PySem.W.nsIn K mainGlobals "_law_command") (some (some (.ref (He.fAd K ("_law_command", none)))))
abbrev ck10 : Ev.Ck := fun K => He.eqO (PySem.W.nsIn K mainGlobals "_law_without") (some (some (.ref (He.fAd K ("_law_without", none)))))
abbrev ck11 : Ev.Ck := fun K => He.eqO (PySem.W.nsIn K mainGlobals "_law_spoilt") (some (some (.ref (He.fAd K ("_law_spoilt", none)))))
abbrev ck12 : Ev.Ck := fun K => He.eqO (PySem.W.nsIn K mainGlobals "_law_turned") (some (some (.ref (He.fAd K ("_law_turned", none)))))
abbrev ck13 : Ev.Ck := fun K => He.eqO (PySem.W.nsIn K mainGlobals "_law_size") (some (some (.ref (He.fAd K ("_law_size", none)))))
abbrev ck14 : Ev.Ck := fun K => He.eqO (PySem.W.nsIn K mainGlobals "_law_score") (some (some (.ref (He.fAd K ("_law_score", none)))))
abbrev ck15 : Ev.Ck := fun K => He.eqO (PySem.W.nsIn K mainGlobals "_law_truth") (some (some (.ref (He.fAd K ("_law_truth", none)))))
abbrev ck16 : Ev.Ck := fun K => He.eqO (PySem.W.nsIn K mainGlobals "law") (some (some (.ref (He.fAd K ("law", none)))))
abbrev ck17 : Ev.Ck := fun K => He.eqO (PySem.W.nsIn K mainGlobals "len") (some none)
abbrev ck18 : Ev.Ck := fun K => He.eqO (PySem.W.nsIn K mainGlobals "int") (some none)
abbrev ck19 : Ev.Ck := fun K => He.eqO (PySem.W.nsIn K mainGlobals "str") (some none)
abbrev ck20 : Ev.Ck := fun K => He.eqO (PySem.W.nsIn K mainGlobals "list") (some none)
abbrev ck21 : Ev.Ck := fun K => He.eqO (PySem.W.nsIn K mainGlobals "tuple") (some none)
abbrev ck22 : Ev.Ck := fun K => He.eqO (PySem.W.nsIn K mainGlobals "dict") (some none)
abbrev ck23 : Ev.Ck := fun K => He.eqO (PySem.W.nsIn K mainGlobals "max") (some none)
abbrev ck24 : Ev.Ck := fun K => He.eqO (PySem.W.nsIn K mainGlobals "min") (some none)
abbrev ck25 : Ev.Ck := fun K => He.eqO (PySem.W.nsIn K mainGlobals "abs") (some none)
abbrev ck26 : Ev.Ck := fun K => He.eqO (PySem.W.nsIn K mainGlobals "sum") (some none)
abbrev ck27 : Ev.Ck := fun K => He.eqO (PySem.W.nsIn K mainGlobals "sorted") (some none)
abbrev ck28 : Ev.Ck := fun K => He.eqO (PySem.W.nsIn K mainGlobals "any") (some none)
abbrev ck29 : Ev.Ck := fun K => He.eqO (PySem.W.nsIn K mainGlobals "all") (some none)
abbrev ck30 : Ev.Ck := fun K => He.eqO (PySem.W.nsIn K mainGlobals "ord") (some none)
abbrev ck31 : Ev.Ck := fun K => He.eqO (PySem.W.nsIn K mainGlobals "isinstance") (some none)
abbrev ck32 : Ev.Ck := fun K => He.eqO (PySem.W.nsIn K mainGlobals "range") (some none)
abbrev ck33 : Ev.Ck := fun K => He.eqO (PySem.W.nsIn K mainGlobals "enumerate") (some none)
abbrev ck34 : Ev.Ck := fun K => He.eqO (PySem.W.nsIn K mainGlobals "zip") (some none)
abbrev ck35 : Ev.Ck := fun K => He.eqO (PySem.W.nsIn K mainGlobals "reversed") (some none)
abbrev ck36 : Ev.Ck := fun K => He.eqO (PySem.W.nsIn K mainGlobals "bool") (some none)
abbrev ck37 : Ev.Ck := fun K => He.eqO (PySem.W.nsIn K mainGlobals "ValueError") (some none)
abbrev ckA0 : List Ev.Ck := [ck0, ck1, ck2, ck3, ck4, ck5, ck6, ck7, ck8, ck9, ck10, ck11, ck12, ck13, ck14, ck15, ck16, ck17, ck18, ck19, ck20, ck21, ck22, ck23, ck24, ck25, ck26, ck27, ck28, ck29]
abbrev ckA1 : List Ev.Ck := [ck30, ck31, ck32, ck33, ck34, ck35, ck36, ck37]
abbrev dd0 : He.DefD := ⟨("is_number", none), "is_number", "is_number", defArgs st0, defBody st0, defScope st0, [], []⟩
abbrev dd1 : He.DefD := ⟨("third_of", none), "third_of", "third_of", defArgs st1, defBody st1, defScope st1, [], []⟩
abbrev dd2 : He.DefD := ⟨("is_command", none), "is_command", "is_command", defArgs st2, defBody st2, defScope st2, [], []⟩
abbrev dd3 : He.DefD := ⟨("is_score", none), "is_score", "is_score", defArgs st3, defBody st3, defScope st3, [], []⟩
abbrev dd4 : He.DefD := ⟨("_law_cell", none), "_law_cell", "_law_cell", defArgs st4, defBody st4, defScope st4, [], []⟩
abbrev dd5 : He.DefD := ⟨("_law_number", none), "_law_number", "_law_number", defArgs st5, defBody st5, defScope st5, [], []⟩
abbrev dd6 : He.DefD := ⟨("_law_odd", none), "_law_odd", "_law_odd", defArgs st6, defBody st6, defScope st6, [], []⟩
abbrev dd7 : He.DefD := ⟨("_law_third", none), "_law_third", "_law_third", defArgs st7, defBody st7, defScope st7, [], []⟩
abbrev dd8 : He.DefD := ⟨("_law_command", none), "_law_command", "_law_command", defArgs st8, defBody st8, defScope st8, [], []⟩
abbrev dd9 : He.DefD := ⟨("_law_without", none), "_law_without", "_law_without", defArgs st9, defBody st9, defScope st9, [], []⟩
abbrev dd10 : He.DefD := ⟨("_law_spoilt", none), "_law_spoilt", "_law_spoilt", defArgs st10, defBody st10, defScope st10, [], []⟩
abbrev dd11 : He.DefD := ⟨("_law_turned", none), "_law_turned", "_law_turned", defArgs st11, defBody st11, defScope st11, [], []⟩
abbrev dd12 : He.DefD := ⟨("_law_size", none), "_law_size", "_law_size", defArgs st12, defBody st12, defScope st12, [], []⟩
abbrev dd13 : He.DefD := ⟨("_law_score", none), "_law_score", "_law_score", defArgs st13, defBody st13, defScope st13, [], []⟩
abbrev dd14 : He.DefD := ⟨("_law_truth", none), "_law_truth", "_law_truth", defArgs st14, defBody st14, defScope st14, [], []⟩
abbrev dd15 : He.DefD := ⟨("law", none), "law", "law", defArgs st15, defBody st15, defScope st15, [], []⟩
abbrev ddA0 : List He.DefD := [dd0, dd1, dd2, dd3, dd4, dd5, dd6, dd7, dd8, dd9, dd10, dd11, dd12, dd13, dd14, dd15]
abbrev ckP0 : List Ev.Ck := ckA0 ++ (ckA1)
abbrev ddP0 : List He.DefD := ddA0
def ckL : List Ev.Ck := ckP0
def ddL : List He.DefD := ddP0
def lo0 : List PySem.Str := ["is_number", "third_of", "is_command", "is_score", "_law_cell", "_law_number", "_law_odd", "_law_third", "_law_command", "_law_without", "_law_spoilt", "_law_turned", "_law_size", "_law_score", "_law_truth"]
def looseL : List PySem.Str := lo0
abbrev hk : PySem.W.Hook := Ev.hookK 5 ckL ddL
def ob (s : PySem.W.SharedT) : He.AlD := Ev.obsKG 5 ckL ddL (HandSHeadRun.getT s)
theorem ob_eq (s : PySem.W.SharedT) : ob s = hk.obs s.abs := Ev.obsKG_eq (HandSHeadRun.getT_eq s)
abbrev endE (w : World) (os : OsState) : Option PySem.W.SharedT := HandSHeadRun.endF (HandSHeadRun.stepQ (HandSHeadRun.denQ HandSHeadRun.tabQ) (PySem.W.OpenLaw.row PySem.Challenge.rw_foreknown_k81_what_is_a_score).prog w) 60000 (PySem.W.OpenLaw.row PySem.Challenge.rw_foreknown_k81_what_is_a_score).prog w os
theorem runO0 (w : World) (os : OsState) : (endE w os).map (fun s => Ev.obsKG 5 ckP0 ddP0 (HandSHeadRun.getT s)) = some (He.valD ddP0) := by kernel_rfl
open PySem.W PySem.Calls in
theorem runL (w : World) (os : OsState) : (endE w os).map (fun s => (HandSHeadRun.looksF (PySem.W.OpenLaw.row PySem.Challenge.rw_foreknown_k81_what_is_a_score).prog (boot_heap w.params) s.abs, HandSHeadRun.seenQ (PySem.W.view (PySem.W.OpenLaw.row PySem.Challenge.rw_foreknown_k81_what_is_a_score).prog [18]) looseL (importedModules (PySem.W.OpenLaw.row PySem.Challenge.rw_foreknown_k81_what_is_a_score).prog.main.body) (fun s => xlAt (PySem.W.view (PySem.W.OpenLaw.row PySem.Challenge.rw_foreknown_k81_what_is_a_score).prog [18]) [] s && recOk (PySem.W.OpenLaw.row PySem.Challenge.rw_foreknown_k81_what_is_a_score).toRowW.records s) s.abs)) = some (true, openGood (PySem.W.view (PySem.W.OpenLaw.row PySem.Challenge.rw_foreknown_k81_what_is_a_score).prog [18]) looseL) := by kernel_rfl
theorem run (w : World) : HandSHeadRun.RunEq (PySem.W.OpenLaw.row PySem.Challenge.rw_foreknown_k81_what_is_a_score) (PySem.W.view (PySem.W.OpenLaw.row PySem.Challenge.rw_foreknown_k81_what_is_a_score).prog [18]) hk ob 60000 looseL w := fun os =>
  Ev.run_join (runL w os) (runO0 w os)
end Ev.Law
end
/-! EvA: a small language of data and a total evaluator for it. -/
namespace Ev
open PySem L2

/-- data; ref: the number of a changing object -/
inductive D where
  | non | bl (b : Bool) | int (i : Int) | str (x : Str)
  | tup (xs : List D) | lst (xs : List D) | dK (kvs : List (Key × D)) | dT (kvs : List (List Key × D))
  | ref (a : Nat) | exn (c : Nat) (fs : List (Nat × D))

/-- a changing object -/
inductive O where
  | lst (xs : List D) | dK (kvs : List (Key × D)) | dT (kvs : List (List Key × D)) | ins (c : Nat) (fs : List (Nat × D)) | dead
  /-- a dict of ours, while it is walked -/
  | lk (kvs : List (Key × D))

abbrev Mem := List O
structure Xn where
  cls : Nat
  fs : List (Nat × D)

inductive Res (α : Type) where
  | ok (a : α) (m : Mem) | exc (x : Xn) (m : Mem) | bad
namespace Res
def bind {α β : Type} (r : Res α) (f : α → Mem → Res β) : Res β :=
  match r with
  | .ok a m => f a m
  | .exc x m => .exc x m
  | .bad => .bad
@[simp] theorem bind_ok {α β : Type} (a : α) (m : Mem) (f : α → Mem → Res β) : (Res.ok a m).bind f = f a m := rfl
@[simp] theorem bind_exc {α β : Type} (x : Xn) (m : Mem) (f : α → Mem → Res β) : (Res.exc x m : Res α).bind f = .exc x m := rfl
@[simp] theorem bind_bad {α β : Type} (f : α → Mem → Res β) : (Res.bad : Res α).bind f = .bad := rfl
/-- an answer that is there, else stuck -/
def opt {α : Type} (o : Option α) (m : Mem) : Res α := match o with
  | some a => .ok a m
  | none => .bad
@[simp] theorem opt_some {α : Type} (a : α) (m : Mem) : opt (some a) m = .ok a m := rfl
@[simp] theorem opt_none {α : Type} (m : Mem) : (opt none m : Res α) = .bad := rfl
end Res

/-! ### data -/
mutual
def D.pure : D → Bool
  | .non => true | .bl _ => true | .int _ => true | .str _ => true
  | .tup xs => pureL xs | .lst xs => pureL xs | .dK kvs => pureK kvs | .dT kvs => pureT kvs
  | .ref _ => false | .exn _ _ => false
def pureL : List D → Bool
  | [] => true
  | x :: xs => x.pure && pureL xs
def pureK : List (Key × D) → Bool
  | [] => true
  | (_, x) :: xs => x.pure && pureK xs
def pureT : List (List Key × D) → Bool
  | [] => true
  | (_, x) :: xs => x.pure && pureT xs
end
/- neither list nor dict nor ref within -/
mutual
def D.bare : D → Bool
  | .non => true | .bl _ => true | .int _ => true | .str _ => true
  | .tup xs => bareL xs | _ => false
def bareL : List D → Bool
  | [] => true
  | x :: xs => x.bare && bareL xs
end
mutual
def D.nodict : D → Bool
  | .non => true | .bl _ => true | .int _ => true | .str _ => true
  | .tup xs => nodictL xs | .lst xs => nodictL xs | _ => false
def nodictL : List D → Bool
  | [] => true
  | x :: xs => x.nodict && nodictL xs
end
mutual
/- neither ref nor exception nor dict with tuple keys within -/
def D.eqb : D → Bool
  | .non => true | .bl _ => true | .int _ => true | .str _ => true
  | .tup xs => eqbL xs | .lst xs => eqbL xs | .dK kvs => eqbK kvs | _ => false
def eqbL : List D → Bool
  | [] => true
  | x :: xs => x.eqb && eqbL xs
def eqbK : List (Key × D) → Bool
  | [] => true
  | (_, x) :: xs => x.eqb && eqbK xs
end
mutual
def D.depth : D → Nat
  | .tup xs => depthL xs + 1 | .lst xs => depthL xs + 1 | .dK kvs => depthK kvs + 1
  | _ => 0
def depthL : List D → Nat
  | [] => 0
  | x :: xs => max x.depth (depthL xs)
def depthK : List (Key × D) → Nat
  | [] => 0
  | (_, x) :: xs => max x.depth (depthK xs)
end
def lookK {κ : Type} [DecidableEq κ] (kvs : List (κ × D)) (k : κ) : Option D := match kvs with
  | [] => none
  | (q, x) :: r => if q = k then some x else lookK r k
def putK {κ : Type} [DecidableEq κ] (kvs : List (κ × D)) (k : κ) (v : D) : List (κ × D) :=
  if (kvs.any fun kv => decide (kv.1 = k)) = true then kvs.map (fun kv => if kv.1 = k then (kv.1, v) else kv) else kvs ++ [(k, v)]
def dropK {κ : Type} [DecidableEq κ] (kvs : List (κ × D)) (k : κ) : List (κ × D) := kvs.filter fun kv => decide (kv.1 ≠ k)
/- Python's ==, where it is served -/
mutual
def eqD : D → D → Option Bool
  | .non, .non => some true | .non, .bl _ => some false | .non, .int _ => some false | .non, .str _ => some false | .non, .tup _ => some false | .non, .lst _ => some false
  | .bl _, .non => some false | .bl a, .bl b => some (a == b) | .bl a, .int b => some ((if a then 1 else 0) == b) | .bl _, .str _ => some false | .bl _, .tup _ => some false | .bl _, .lst _ => some false
  | .int _, .non => some false | .int a, .bl b => some (a == (if b then 1 else 0)) | .int a, .int b => some (decide (a = b)) | .int _, .str _ => some false | .int _, .tup _ => some false | .int _, .lst _ => some false
  | .str _, .non => some false | .str _, .bl _ => some false | .str _, .int _ => some false | .str a, .str b => some (decide (a = b)) | .str _, .tup _ => some false | .str _, .lst _ => some false
  | .tup _, .non => some false | .tup _, .bl _ => some false | .tup _, .int _ => some false | .tup _, .str _ => some false | .tup xs, .tup ys => (eqL xs ys).map fun b => b && xs.length == ys.length | .tup _, .lst _ => some false
  | .lst _, .non => some false | .lst _, .bl _ => some false | .lst _, .int _ => some false | .lst _, .str _ => some false | .lst _, .tup _ => some false | .lst xs, .lst ys => if xs.length = ys.length then eqL xs ys else some false
  | .dK xs, .dK ys => (eqK xs ys).map fun b => xs.length == ys.length && b
  | .non, .dK _ => some false | .bl _, .dK _ => some false | .int _, .dK _ => some false | .str _, .dK _ => some false | .tup _, .dK _ => some false | .lst _, .dK _ => some false
  | .dK _, .non => some false | .dK _, .bl _ => some false | .dK _, .int _ => some false | .dK _, .str _ => some false | .dK _, .tup _ => some false | .dK _, .lst _ => some false
  | _, _ => none
def eqL : List D → List D → Option Bool
  | [], _ => some true
  | _ :: _, [] => some true
  | x :: xs, y :: ys => match eqD x y, eqL xs ys with
    | some a, some b => some (a && b)
    | _, _ => none
def eqK : List (Key × D) → List (Key × D) → Option Bool
  | [], _ => some true
  | (k, x) :: xs, ys => match lookK ys k with
    | none => (eqK xs ys).map fun _ => false
    | some y => match eqD x y, eqK xs ys with
      | some a, some b => some (a && b)
      | _, _ => none
end

def toKey : D → Option Key
  | .int i => some (.inl i)
  | .str s => some (.inr s)
  | _ => none
def toKeys : List D → Option (List Key)
  | [] => some []
  | x :: xs => match toKey x, toKeys xs with
    | some k, some ks => some (k :: ks)
    | _, _ => none
def ofKey : Key → D
  | .inl i => .int i
  | .inr s => .str s

/-- what a ref shows now, as data -/
def shown (m : Mem) : D → D
  | .ref a => match m[a]? with
    | some (.lst xs) => .lst xs
    | some (.dK kvs) => .dK kvs
    | some (.dT kvs) => .dT kvs
    | some (.lk kvs) => .dK kvs
    | _ => .ref a
  | d => d

/-- what a def hands back: lists and dicts of its own become data -/
def frz (m : Mem) : Nat → D → Option D
  | 0, d => if d.pure then some d else none
  | n + 1, d => if d.pure then some d else match d with
    | .tup xs => (xs.mapM (frz m n)).map .tup
    | .ref a => match m[a]? with
      | some (.lst xs) => (xs.mapM (frz m n)).map .lst
      | some (.dK kvs) => (kvs.mapM fun p => (frz m n p.2).map fun d => (p.1, d)).map .dK
      | some (.dT kvs) => (kvs.mapM fun p => (frz m n p.2).map fun d => (p.1, d)).map .dT
      | _ => none
    | _ => none

/-! ### the syntax -/
inductive BOp where
  | add | sub | mul | fdiv | mod | pow | shl | shr | band | bor | bxor
inductive COp where
  | eq | ne | lt | le | gt | ge | isIn | notIn
inductive Ty where
  | int | bool | str | tuple | list | dict | own (c : Nat)
inductive Blt where
  | len | int | str | list | tuple | dict | max | min | abs | sum | sorted | any | all | ord
inductive Mth where
  | append | extend | pop | index | get | keys | values | join | split | insert | update | count | upper | isalpha | find | replace | reverse | sindex
/-- what of a dict is walked: it itself, keys(), values() -/
inductive Kd where
  | keys | keysM | vals
inductive Tg where
  | nm (i : Nat) | tup (ts : List Tg)

mutual
inductive SE where
  | var (i : Nat) | cst (d : D) | glb (g : Nat)
  | bin (o : BOp) (a b : SE) | neg (a : SE) | cmp (o : COp) (a b : SE) | chn (o p : COp) (a b c : SE)
  | isn (neg : Bool) (a : SE) | isi (a : SE) (ts : List Ty)
  | and (a b : SE) | or (a b : SE) | not (a : SE) | ife (c a b : SE)
  | tup (es : SEs) | lst (es : SEs) | dnew (t : Bool) | ddis (kvs : SEs)
  | idx (a b : SE) | slc (a : SE) (lo hi : SO)
  | call (f : Nat) (es : SEs) | make (c : Nat) (es : SEs) | omet (m : Nat) (o : SE) (es : SEs) | fld (o : SE) (f : Nat)
  | blt (b : Blt) (es : SEs) | mth (b : Mth) (o : SE) (es : SEs)
  | comp (e : SE) (g : Tg) (it : IT) (c : SO) (own : List Nat)
  | xfld (i f : Nat) | compK (kd : Kd) (e : SE) (g : Tg) (i : Nat) (c : SO) (own : List Nat)
  | isb (neg b : Bool) (a : SE) | rev (a : SE) | revt (a : SE) | stp (a b : SE) | iso (a : SE) (c : Nat) | lvals (o : SE) | lrng (a : SE) | stk
inductive SEs where
  | nil | cons (e : SE) (es : SEs)
inductive SO where
  | no | yes (e : SE)
inductive IT where
  | seq (e : SE) | rng1 (a : SE) | rng2 (a b : SE) | enum (e : SE) | zip (a b : SE) | rev (e : SE) | keys (e : SE) | vals (e : SE) | items (e : SE)
end
mutual
inductive SS where
  | stk | asg (g : Tg) (e : SE) | par (i j : Nat) (a b : SE) | asgI (o i e : SE) | asgF (o : SE) (f : Nat) (e : SE) | expr (e : SE)
  | ret (e : SE) | retN | ite (c : SE) (a b : SSs) | for_ (g : Tg) (it : IT) (b : SSs) | forK (kd : Kd) (g : Tg) (i : Nat) (b : SSs) | whl (c : SE) (b : SSs)
  | raise (c : Nat) (es : SEs) | try_ (b : SSs) (hs : SHs) (el : SSs) | pass | brk | cont
inductive SSs where
  | nil | cons (s : SS) (ss : SSs)
inductive SHs where
  | nil | cons (c : Nat) (as_ : Option Nat) (h : SSs) (hs : SHs)
end

/-! ### primitive operations -/
def fits (n : Nat) : Bool := decide (n ≤ 16777216)
def cutL {α : Type} (xs : List α) (lo hi : Option Int) : List α := (xs.drop (HT.sIx xs.length 0 lo)).take (HT.sIx xs.length xs.length hi - HT.sIx xs.length 0 lo)
/-- a text n times over -/
def repS (z : Str) (n : Nat) : Str := ⟨(List.replicate n z.cps.toList).flatten.toArray⟩
def mulOk (i j : Int) : Bool := decide (i.natAbs < 2 ^ 64) || decide (j.natAbs < 2 ^ 64) || (decide (i.natAbs < 2 ^ 400000) && decide (j.natAbs < 2 ^ 400000))
/-- a new object -/
def new (m : Mem) (o : O) : Res D := .ok (.ref m.length) (m ++ [o])

def binD (o : BOp) (x y : D) (m : Mem) : Res D := match o with
  | .add => match x, y with
    | .int i, .int j => .ok (.int (i + j)) m
    | .str i, .str j => if fits (i.length + j.length) then .ok (.str (i ++ j)) m else .bad
    | .tup xs, .tup ys => if fits (xs.length + ys.length) then .ok (.tup (xs ++ ys)) m else .bad
    | _, _ => match shown m x, shown m y with
      | .lst xs, .lst ys => if fits (xs.length + ys.length) then new m (.lst (xs ++ ys)) else .bad
      | _, _ => .bad
  | .sub => match x, y with
    | .int i, .int j => .ok (.int (i - j)) m
    | _, _ => .bad
  | .mul => match x, y with
    | .int i, .int j => if mulOk i j then .ok (.int (i * j)) m else .bad
    | .str z, .int j => if 0 ≤ j ∧ j < 16777216 ∧ fits (z.length * j.toNat) then .ok (.str (repS z j.toNat)) m else .bad
    | .ref a, .int j => match m[a]? with
      | some (.lst xs) => if 0 ≤ j ∧ j < 16777216 ∧ fits (xs.length * j.toNat) then new m (.lst (List.replicate j.toNat xs).flatten) else .bad
      | _ => .bad
    | _, _ => .bad
  | .fdiv => match x, y with
    | .int i, .int j => if j ≠ 0 ∧ j.natAbs < 2 ^ 9000 then .ok (.int (i.fdiv j)) m else .bad
    | _, _ => .bad
  | .mod => match x, y with
    | .int i, .int j => if j ≠ 0 then .ok (.int (i.fmod j)) m else .bad
    | _, _ => .bad
  | .pow => match x, y with
    | .int i, .int j => if 0 ≤ j ∧ j ≤ 1000000 ∧ i.natAbs < 2 ^ 64 then .ok (.int (i ^ j.toNat)) m else .bad
    | _, _ => .bad
  | .shl => match x, y with
    | .int i, .int j => if 0 ≤ j ∧ j ≤ 1000000 ∧ i.natAbs < 2 ^ 64 then .ok (.int (i * 2 ^ j.toNat)) m else .bad
    | _, _ => .bad
  | .shr => match x, y with
    | .int i, .int j => if 0 ≤ j then .ok (.int (i / 2 ^ j.toNat)) m else .bad
    | _, _ => .bad
  | .band => match x, y with
    | .int i, .int j => .ok (.int (Builtin.bitAnd i j)) m
    | _, _ => .bad
  | .bor => match x, y with
    | .int i, .int j => .ok (.int (Builtin.bitOr i j)) m
    | _, _ => .bad
  | .bxor => match x, y with
    | .int i, .int j => .ok (.int (Builtin.bitXor i j)) m
    | _, _ => .bad
def negD (x : D) (m : Mem) : Res D := match x with
  | .int i => .ok (.int (-i)) m
  | _ => .bad
/-- == of data of bounded depth -/
def eqT (x y : D) : Option Bool := if x.depth ≤ 150 then eqD x y else none
def isTupD : D → Bool
  | .tup _ => true
  | _ => false
/-- .. of data without dicts, or of two tuples -/
def eqN (x y : D) : Option Bool := if x.nodict && y.nodict then eqT x y else if isTupD x && isTupD y then eqT x y else none
/-- .. of an item without dicts and anything -/
def eqM (y x : D) : Option Bool := if y.nodict then eqT y x else none
def anyEq (x : D) : List D → Option Bool
  | [] => some false
  | y :: r => match eqM y x, anyEq x r with
    | some a, some b => some (a || b)
    | _, _ => none
/-- is x among the items of a list -/
def anyEqL (x : D) : List D → Option Bool
  | [] => some false
  | y :: r => match (if y.eqb then eqT y x else none), anyEqL x r with
    | some a, some b => some (a || b)
    | _, _ => none
/-- the first place of x among the items of a list -/
def findI (x : D) : List D → Option Nat
  | [] => none
  | y :: r => match (if y.eqb then eqT y x else none) with
    | some true => some 0
    | some false => (findI x r).map (· + 1)
    | none => none
def strIn (i j : Str) : Bool := match i.cps.toList with
  | [c] => decide (c ∈ j.cps.toList)
  | _ => !(Builtin.Str.occurrences j i 0 j.length 1).isEmpty
def inD (x y : D) (m : Mem) : Option Bool := match shown m y with
  | .str j => match x with
    | .str i => some (strIn i j)
    | _ => none
  | .tup ys => anyEq (shown m x) ys
  | .lst ys => anyEqL (shown m x) ys
  | .dK kvs => (toKey x).map fun k => (lookK kvs k).isSome
  | .dT kvs => match x with
    | .tup xs => (toKeys xs).map fun k => (lookK kvs k).isSome
    | _ => none
  | _ => none
def cmpD (o : COp) (x y : D) (m : Mem) : Option Bool := match o with
  | .eq => eqT (shown m x) (shown m y)
  | .ne => (eqN (shown m x) (shown m y)).map (!·)
  | .lt => match x, y with
    | .int i, .int j => some (decide (i < j))
    | .str i, .str j => some (decide (i.cps.toList < j.cps.toList))
    | _, _ => none
  | .le => match x, y with
    | .int i, .int j => some (decide (i ≤ j))
    | .str i, .str j => some (!decide (j.cps.toList < i.cps.toList))
    | _, _ => none
  | .gt => match x, y with
    | .int i, .int j => some (decide (j < i))
    | .str i, .str j => some (decide (j.cps.toList < i.cps.toList))
    | _, _ => none
  | .ge => match x, y with
    | .int i, .int j => some (decide (j ≤ i))
    | .str i, .str j => some (!decide (i.cps.toList < j.cps.toList))
    | _, _ => none
  | .isIn => inD x y m
  | .notIn => (inD x y m).map (!·)
def truD (x : D) (m : Mem) : Option Bool := match shown m x with
  | .non => some false
  | .bl b => some b
  | .int i => some (i != 0)
  | .str y => if fits y.length then some ((y.length : Int) != 0) else none
  | .tup xs => some (!xs.isEmpty)
  | .lst xs => some (!xs.isEmpty)
  | .dK xs => some (!xs.isEmpty)
  | _ => none
def isnD : D → Option Bool
  | .non => some true
  | _ => some false
def revD (x : D) (m : Mem) : Res D := match shown m x with
  | .lst xs => new m (.lst xs.reverse)
  | _ => .bad
/-- x[::-1] of a list or a tuple -/
def revtD (x : D) (m : Mem) : Res D := match shown m x with
  | .lst xs => new m (.lst xs.reverse)
  | .tup xs => .ok (.tup xs.reverse) m
  | _ => .bad
/-- each s-th one -/
def stepL {α : Type} (xs : List α) (s : Int) : List α := (List.range (PySem.Builtin.Slice.slicePlaces 0 xs.length s)).filterMap fun (m : Nat) => xs[((0 : Int) + (m : Int) * s).toNat]?
/-- x[::s] of a tuple -/
def stpD (x y : D) (m : Mem) : Res D := match x, y with
  | .tup xs, .int s => if 0 < s then .ok (.tup (stepL xs s)) m else .bad
  | _, _ => .bad
/-- list(d.values()) -/
def lvalD (x : D) (m : Mem) : Res D := match shown m x with
  | .dK kvs => new m (.lst (kvs.map fun p => p.2))
  | _ => .bad
def blD : D → Option Bool
  | .bl b => some b
  | _ => none
def idxD (x y : D) (m : Mem) : Option D := match shown m x with
  | .tup xs => match y with
    | .int i => atI xs i
    | _ => none
  | .lst xs => match y with
    | .int i => atI xs i
    | _ => none
  | .str z => match y with
    | .int i => if fits z.length then (atI z.cps.toList i).map fun c => .str ⟨#[c]⟩ else none
    | _ => none
  | .dK kvs => match toKey y with
    | some k => lookK kvs k
    | none => none
  | .dT kvs => match y with
    | .tup ks => match toKeys ks with
      | some k => lookK kvs k
      | none => none
    | _ => none
  | _ => none
def slcD (x : D) (lo hi : Option Int) (m : Mem) : Res D := match shown m x with
  | .tup xs => .ok (.tup (cutL xs lo hi)) m
  | .lst xs => new m (.lst (cutL xs lo hi))
  | .str z => if fits z.length then .ok (.str (cutS z lo hi)) m else .bad
  | _ => .bad
/-- a built-in type -/
inductive Tn where
  | none | bool | int | str | list | tuple | dict
def tnD (x : D) (m : Mem) : Option Tn := match shown m x with
  | .non => some .none
  | .bl _ => some .bool
  | .int _ => some .int
  | .str _ => some .str
  | .tup _ => some .tuple
  | .lst _ => some .list
  | .dK _ => some .dict
  | _ => Option.none
def isTn : Ty → Tn → Option Bool
  | .int, .int => some true | .int, .bool => some true | .bool, .bool => some true | .str, .str => some true | .tuple, .tuple => some true | .list, .list => some true | .dict, .dict => some true
  | .own _, _ => Option.none
  | _, _ => some false
def isTy (T : Ty) (m : Mem) (x : D) : Option Bool := match tnD x m with
  | some t => isTn T t
  | Option.none => Option.none
def intsD : List D → Option (List Int)
  | [] => some []
  | .int i :: r => (intsD r).map (i :: ·)
  | _ :: _ => none
def strs_ : List D → Option (List Str)
  | [] => some []
  | .str i :: r => (strs_ r).map (i :: ·)
  | _ :: _ => none
def bls : List D → Option (List Bool)
  | [] => some []
  | .bl i :: r => (bls r).map (i :: ·)
  | _ :: _ => none
def lenD (x : D) (m : Mem) : Option Nat := match shown m x with
  | .str z => if fits z.length then some z.length else none
  | .tup xs => some xs.length
  | .lst xs => some xs.length
  | .dK xs => some xs.length
  | .dT xs => some xs.length
  | _ => none
def strLe (x y : Str) : Bool := !decide (y.cps.toList < x.cps.toList)
def bltD (b : Blt) (vs : List D) (m : Mem) : Res D := match b with
  | .len => match vs with
    | [x] => Res.opt ((lenD x m).map fun (n : Nat) => D.int (n : Int)) m
    | _ => .bad
  | .int => match vs with
    | [.int i] => .ok (.int i) m
    | [.bl k] => .ok (.int (if k then 1 else 0)) m
    | [.str a] => if a.length ≤ 640 then Res.opt ((PySem.intText? a).map D.int) m else .bad
    | _ => .bad
  | .str => match vs with
    | [.int i] => if i.natAbs.log2 < 1920 then .ok (.str (toString i)) m else .bad
    | _ => .bad
  | .list => match vs with
    | [x] => match shown m x with
      | .tup xs => new m (.lst xs)
      | .lst xs => new m (.lst xs)
      | .dK kvs => new m (.lst (kvs.map fun p => ofKey p.1))
      | _ => .bad
    | _ => .bad
  | .tuple => match vs with
    | [x] => match shown m x with
      | .tup xs => .ok (.tup xs) m
      | .lst xs => .ok (.tup xs) m
      | _ => .bad
    | _ => .bad
  | .dict => match vs with
    | [x] => match shown m x with
      | .dK kvs => new m (.dK kvs)
      | _ => .bad
    | _ => .bad
  | .max => match vs with
    | [.int i, .int j] => .ok (.int (if j > i then j else i)) m
    | [x] => match shown m x with
      | .lst xs => match intsD xs with
        | some (i :: r) => .ok (.int (r.foldl max i)) m
        | _ => .bad
      | _ => .bad
    | _ => .bad
  | .min => match vs with
    | [.int i, .int j] => .ok (.int (if j < i then j else i)) m
    | [x] => match shown m x with
      | .lst xs => match intsD xs with
        | some (i :: r) => .ok (.int (r.foldl min i)) m
        | _ => .bad
      | _ => .bad
    | _ => .bad
  | .abs => match vs with
    | [.int i] => .ok (.int (if i < 0 then -i else i)) m
    | _ => .bad
  | .sum => match vs with
    | [x] => match shown m x with
      | .lst xs => Res.opt ((intsD xs).map fun ns => .int ns.sum) m
      | _ => .bad
    | _ => .bad
  | .sorted => match vs with
    | [x] => match shown m x with
      | .lst xs => match strs_ xs with
        | some zs => if zs.length < 64 then new m (.lst ((zs.mergeSort strLe).map D.str)) else .bad
        | none => .bad
      | .dK kvs => match strs_ (kvs.map fun p => ofKey p.1) with
        | some zs => if zs.length < 64 then new m (.lst ((zs.mergeSort strLe).map D.str)) else .bad
        | none => .bad
      | _ => .bad
    | _ => .bad
  | .any => match vs with
    | [x] => match shown m x with
      | .lst xs => Res.opt ((bls xs).map fun ns => .bl (ns.any id)) m
      | _ => .bad
    | _ => .bad
  | .all => match vs with
    | [x] => match shown m x with
      | .lst xs => Res.opt ((bls xs).map fun ns => .bl (ns.all id)) m
      | _ => .bad
    | _ => .bad
  | .ord => match vs with
    | [.str x] => if x.length = 1 then .ok (.int (x.cps.getD 0 0 : Nat)) m else .bad
    | _ => .bad
def mthD (b : Mth) (x : D) (vs : List D) (m : Mem) : Res D := match b with
  | .append => match x, vs with
    | .ref a, [v] => match m[a]? with
      | some (.lst xs) => if fits (xs.length + 1) then .ok .non (m.set a (.lst (xs ++ [v]))) else .bad
      | _ => .bad
    | _, _ => .bad
  | .extend => match x, vs with
    | .ref a, [v] => match m[a]? with
      | some (.lst xs) => match shown m v with
        | .lst ys => if fits (xs.length + ys.length) then .ok .non (m.set a (.lst (xs ++ ys))) else .bad
        | .tup ys => if fits (xs.length + ys.length) then .ok .non (m.set a (.lst (xs ++ ys))) else .bad
        | _ => .bad
      | _ => .bad
    | _, _ => .bad
  | .pop => match x, vs with
    | .ref a, [] => match m[a]? with
      | some (.lst xs) => match xs.getLast? with
        | some y => .ok y (m.set a (.lst xs.dropLast))
        | none => .bad
      | _ => .bad
    | .ref a, [v] => match m[a]? with
      | some (.lst xs) => match v with
        | .int i => if -(2 ^ 63) ≤ i ∧ i < 2 ^ 63 then match ixN xs.length i with
            | some k => match xs[k]? with
              | some y => .ok y (m.set a (.lst (xs.eraseIdx k)))
              | none => .bad
            | none => .bad
          else .bad
        | _ => .bad
      | _ => .bad
    | _, _ => .bad
  | .join => match x, vs with
    | .str z, [v] => match shown m v with
      | .lst xs => match strs_ xs with
        | some zs => if fits ((zs.map (·.length)).sum + zs.length * z.length) then .ok (.str (Txt.join z zs)) m else .bad
        | none => .bad
      | _ => .bad
    | _, _ => .bad
  | .isalpha => match x, vs with
    | .str z, [] => .ok (.bl (Txt.isalpha z)) m
    | _, _ => .bad
  | .upper => match x, vs with
    | .str z, [] => if z.length ≤ 5592405 then .ok (.str (Txt.upper z)) m else .bad
    | _, _ => .bad
  | .sindex => match x, vs with
    | .str a, [.str b] => match Builtin.Str.occurrences a b 0 a.length 1 with
      | i :: _ => .ok (.int (i : Nat)) m
      | [] => .bad
    | _, _ => .bad
  | .index => match vs with
    | [v] => match shown m x with
      | .lst xs => match findI v xs with
        | some j => .ok (.int (j : Nat)) m
        | none => .bad
      | _ => .bad
    | _ => .bad
  | _ => .bad

/-- the receiver is of the method's type -/
def mthOk (b : Mth) (x : D) (m : Mem) : Bool := match b with
  | .append | .extend | .pop | .insert | .index | .reverse => match shown m x with
    | .lst _ => true
    | _ => false
  | .get => match x with
    | .ref a => match m[a]? with
      | some (.dK _) => true | some (.dT _) => true
      | _ => false
    | _ => false
  | .join | .split | .upper | .isalpha | .find | .replace | .count | .sindex => match x with
    | .str _ => true
    | _ => false
  | _ => false

/-! ### the evaluator -/
abbrev Env := List (Option D)
inductive Flow where
  | nx | rt (d : D) | bk | ct
inductive SR where
  | ok (f : Flow) (env : Env) (m : Mem) | exc (x : Xn) (env : Env) (m : Mem) | bad
def SR.then (r : SR) (f : Env → Mem → SR) : SR := match r with
  | .ok .nx env m => f env m
  | r => r
@[simp] theorem SR.then_nx (env : Env) (m : Mem) (f : Env → Mem → SR) : (SR.ok .nx env m).then f = f env m := rfl
@[simp] theorem SR.then_rt (d : D) (env : Env) (m : Mem) (f : Env → Mem → SR) : (SR.ok (.rt d) env m).then f = .ok (.rt d) env m := rfl
@[simp] theorem SR.then_exc (x : Xn) (env : Env) (m : Mem) (f : Env → Mem → SR) : (SR.exc x env m).then f = .exc x env m := rfl
@[simp] theorem SR.then_bad (f : Env → Mem → SR) : SR.bad.then f = .bad := rfl
/-- an expression's answer, then a statement -/
def Res.st {α : Type} (r : Res α) (env : Env) (f : α → Mem → SR) : SR := match r with
  | .ok a m => f a m
  | .exc x m => .exc x env m
  | .bad => .bad
@[simp] theorem Res.st_ok {α : Type} (a : α) (m : Mem) (env : Env) (f : α → Mem → SR) : (Res.ok a m).st env f = f a m := rfl
@[simp] theorem Res.st_exc {α : Type} (x : Xn) (m : Mem) (env : Env) (f : α → Mem → SR) : (Res.exc x m : Res α).st env f = .exc x env m := rfl
@[simp] theorem Res.st_bad {α : Type} (env : Env) (f : α → Mem → SR) : (Res.bad : Res α).st env f = .bad := rfl

/-- what is known of the text: own classes' parts -/
structure Tab where
  ic : Nat → Bool
  meth : Nat → Nat → Option Nat
  init : Nat → Option Nat
  sub : Nat → Nat → Option Bool
  xm : Nat → Nat → Option Bool
  xi : Nat → Nat → Option Bool
  xfs : Nat → Option (List Nat)
  glob : Nat → D

mutual
def setT : Tg → D → Env → Mem → Option Env
  | .nm i, d, env, _ => if i < env.length then some (env.set i (some d)) else none
  | .tup ts, d, env, m => match shown m d with
    | .tup xs => if ts.length = xs.length then setTs ts xs env m else none
    | .lst xs => if ts.length = xs.length then setTs ts xs env m else none
    | _ => none
def setTs : List Tg → List D → Env → Mem → Option Env
  | [], _, env, _ => some env
  | t :: ts, d :: ds, env, m => match setT t d env m with
    | some env' => setTs ts ds env' m
    | none => none
  | _ :: _, [], _, _ => none
end
/-- what is gone through: all items at once, or one by one -/
inductive Its where
  | all (xs : List D) | by (n : Nat) (get : Mem → Nat → Option (Option D))
/-- the list at a, each item with its place -/
def getE (a : Nat) : Mem → Nat → Option (Option D) := fun m i => match m[a]? with
      | some (.lst xs) => some (xs[i]?.map fun x => .tup [.int (i : Nat), x])
      | _ => none
/-- the list at a, item by item -/
def getL (a : Nat) : Mem → Nat → Option (Option D) := fun m i => match m[a]? with
      | some (.lst xs) => some xs[i]?
      | _ => none
def chars (z : Str) : List D := z.cps.toList.map fun c => D.str ⟨#[c]⟩
def seqI (x : D) (m : Mem) : Option Its := match x with
  | .tup xs => some (.all xs)
  | .lst xs => some (.all xs)
  | .str z => some (.all (chars z))
  | .ref a => match m[a]? with
    | some (.lst xs) => some (.by xs.length (getL a))
    | _ => none
  | _ => none
def enumL : Nat → List D → List D
  | _, [] => []
  | n, x :: r => .tup [.int n, x] :: enumL (n + 1) r
def enuI (x : D) (m : Mem) : Option Its := match x with
  | .tup xs => some (.all (enumL 0 xs))
  | .lst xs => some (.all (enumL 0 xs))
  | .ref a => match m[a]? with
    | some (.lst xs) => some (.by xs.length (getE a))
    | _ => none
  | _ => none
def zipL : List D → List D → List D
  | x :: r, y :: s => .tup [x, y] :: zipL r s
  | _, _ => []
/-- the items of a sequence, as they stand -/
def seqAt (x : D) (m : Mem) : Option (List D) := match x with
  | .tup xs => some xs
  | .lst xs => some xs
  | .ref a => match m[a]? with
    | some (.lst xs) => some xs
    | _ => none
  | _ => none
def isRf : D → Bool
  | .ref _ => true
  | _ => false
/-- two sequences, pair by pair -/
def getZ (x y : D) : Mem → Nat → Option (Option D) := fun m i => match seqAt x m, seqAt y m with
  | some xs, some ys => some (zipL xs ys)[i]?
  | _, _ => none
def zipI (x y : D) (m : Mem) : Option Its := match seqAt x m, seqAt y m with
  | some xs, some ys => some (bif isRf x || isRf y then .by (min xs.length ys.length) (getZ x y) else .all (zipL xs ys))
  | _, _ => none
def rngL (lo : Int) (n : Nat) : List D := (List.range n).map fun i => .int (lo + (i : Nat))
def rngOk (i : Int) : Bool := decide (-(2 ^ 62) ≤ i) && decide (i < 2 ^ 62)
/-- list(range(n)) -/
def lrngD (x : D) (m : Mem) : Res D := match x with
  | .int j => if -(2 ^ 62) ≤ j ∧ j ≤ 16777216 then new m (.lst (rngL 0 j.toNat)) else .bad
  | _ => .bad
/-- a sequence whose items stay, as it stands -/
def data1 : D → Option (List D)
  | .tup xs => some xs
  | .lst xs => some xs
  | _ => none

/-- the list at a, which had n items, from its end -/
def getR (a n : Nat) : Mem → Nat → Option (Option D) := fun m i => if i < n then (match m[a]? with
      | some (.lst xs) => (match xs[n - 1 - i]? with
        | some x => some (some x)
        | none => none)
      | _ => none) else some none
def revI (x : D) (m : Mem) : Option Its := match x with
  | .tup xs => some (.all xs.reverse)
  | .lst xs => some (.all xs.reverse)
  | .ref a => match m[a]? with
    | some (.lst xs) => some (.by xs.length (getR a xs.length))
    | _ => none
  | _ => none
/-- for, over items that stay -/
def forL (body : D → Env → Mem → SR) : List D → Env → Mem → SR
  | [], env, m => .ok .nx env m
  | x :: r, env, m => match body x env m with
    | .ok .nx env' m' => forL body r env' m'
    | .ok .ct env' m' => forL body r env' m'
    | .ok .bk env' m' => .ok .nx env' m'
    | q => q
/-- for, over items asked for one by one; n are left -/
def forB (get : Mem → Nat → Option (Option D)) (body : D → Env → Mem → SR) : Nat → Nat → Env → Mem → SR
  | 0, i, env, m => match get m i with
    | some none => .ok .nx env m
    | _ => .bad
  | n + 1, i, env, m => match get m i with
    | none => .bad
    | some none => .bad
    | some (some x) => match body x env m with
      | .ok .nx env' m' => forB get body n (i + 1) env' m'
      | .ok .ct env' m' => forB get body n (i + 1) env' m'
      | .ok .bk env' m' => .ok .nx env' m'
      | q => q
def compL (elt : D → Mem → Res (Option D)) : List D → List D → Mem → Res (List D)
  | [], acc, m => .ok acc m
  | x :: r, acc, m => match elt x m with
    | .ok (some y) m' => if fits (acc.length + 1) then compL elt r (acc ++ [y]) m' else .bad
    | .ok none m' => compL elt r acc m'
    | _ => .bad
def compB (get : Mem → Nat → Option (Option D)) (elt : D → Mem → Res (Option D)) : Nat → Nat → List D → Mem → Res (List D)
  | 0, i, acc, m => match get m i with
    | some none => .ok acc m
    | _ => .bad
  | n + 1, i, acc, m => match get m i with
    | none => .bad
    | some none => .bad
    | some (some x) => match elt x m with
      | .ok (some y) m' => if fits (acc.length + 1) then compB get elt n (i + 1) (acc ++ [y]) m' else .bad
      | .ok none m' => compB get elt n (i + 1) acc m'
      | _ => .bad
def wipeE (env : Env) : List Nat → Env
  | [] => env
  | i :: r => wipeE (env.set i none) r

/-- what a walk over a dict that is data shows -/
def keysD (kd : Kd) (x : D) : Option (List D) := match x with
  | .dK kvs => match kd with
    | .vals => some (kvs.map fun p => p.2)
    | _ => some (kvs.map fun p => ofKey p.1)
  | .dT kvs => match kd with
    | .keys => some (kvs.map fun p => .tup (p.1.map ofKey))
    | _ => none
  | _ => none
/-- a loop without a count: what it comes to, if it ends -/
def loopN {σ ρ : Type} (f : σ → Sum σ ρ) : Nat → σ → Option ρ
  | 0, _ => none
  | n + 1, s => match f s with
    | .inl s' => loopN f n s'
    | .inr r => some r
open Classical in
noncomputable def loop {σ ρ : Type} (f : σ → Sum σ ρ) (s : σ) : Option ρ :=
  if h : ∃ n, (loopN f n s).isSome then loopN f h.choose s else none
theorem loopN_mono {σ ρ : Type} (f : σ → Sum σ ρ) : ∀ (n k : Nat) (s : σ) (r : ρ), loopN f n s = some r → loopN f (n + k) s = some r
  | 0, _, _, _, h => by cases h
  | n + 1, k, s, r, h => by
    rw [Nat.add_right_comm]
    unfold loopN at h ⊢
    cases e : f s with
    | inl s' => rw [e] at h; exact loopN_mono f n k s' r h
    | inr r' => rw [e] at h; exact h
theorem loop_of {σ ρ : Type} {f : σ → Sum σ ρ} {n : Nat} {s : σ} {r : ρ} (h : loopN f n s = some r) : loop f s = some r := by
  have hx : ∃ n, (loopN f n s).isSome := ⟨n, by rw [h]; rfl⟩
  unfold loop
  rw [dif_pos hx]
  obtain ⟨r', e⟩ := Option.isSome_iff_exists.mp hx.choose_spec
  rw [e]
  have h1 := loopN_mono f _ n _ _ e
  have h2 := loopN_mono f _ hx.choose _ _ h
  rw [Nat.add_comm] at h2
  rw [h1] at h2
  exact h2
theorem of_loop {σ ρ : Type} {f : σ → Sum σ ρ} {s : σ} {r : ρ} (h : loop f s = some r) : ∃ n, loopN f n s = some r := by
  unfold loop at h
  split at h
  · exact ⟨_, h⟩
  · cases h
theorem loop_eq {σ ρ : Type} (f : σ → Sum σ ρ) (s : σ) : loop f s = match f s with
    | .inl s' => loop f s'
    | .inr r => some r := by
  cases e : f s with
  | inr r => exact loop_of (n := 1) (by unfold loopN; rw [e])
  | inl s' =>
    cases q : loop f s' with
    | some r =>
      obtain ⟨n, hn⟩ := of_loop q
      show loop f s = loop f s'
      rw [q]
      exact loop_of (n := n + 1) (show (match f s with | .inl s' => loopN f n s' | .inr r => some r) = some r by rw [e]; exact hn)
    | none =>
      cases q2 : loop f s with
      | none => simp [q]
      | some r =>
        obtain ⟨n, hn⟩ := of_loop q2
        cases n with
        | zero => cases hn
        | succ n =>
          simp only [loopN, e] at hn
          have := loop_of hn
          rw [q] at this
          cases this

abbrev CF := Nat → List D → Mem → Res D
def whlF (c : Env → Mem → Res Bool) (body : Env → Mem → SR) (s : Env × Mem) : Sum (Env × Mem) SR := match c s.1 s.2 with
  | .bad => .inr .bad
  | .exc x m => .inr (.exc x s.1 m)
  | .ok false m => .inr (.ok .nx s.1 m)
  | .ok true m => match body s.1 m with
    | .ok .nx env' m' => .inl (env', m')
    | .ok .ct env' m' => .inl (env', m')
    | .ok .bk env' m' => .inr (.ok .nx env' m')
    | q => .inr q
def fldD (T : Tab) (x : D) (f : Nat) (m : Mem) : Option D := match x with
  | .ref a => match m[a]? with
    | some (.ins c fs) => if T.ic c then fs.lookup f else none
    | _ => none
  | _ => none
def putF (f : Nat) (v : D) : List (Nat × D) → List (Nat × D)
  | [] => [(f, v)]
  | (g, w) :: r => if f = g then (g, v) :: r else (g, w) :: putF f v r
def clsD (x : D) (m : Mem) : Option Nat := match x with
  | .ref a => match m[a]? with
    | some (.ins c _) => some c
    | _ => none
  | _ => none
/-- has an exception of the class c the field f -/
def xfB (T : Tab) (c f : Nat) : Bool := match T.xfs c with
  | some l => l.contains f
  | none => false
/-- is an instance, a caught exception one of the class c -/
def isoD (T : Tab) (c : Nat) (x : D) (m : Mem) : Option Bool := match x with
  | .exn c' _ => T.xi c' c
  | x => match clsD x m with
    | some c' => T.sub c' c
    | none => none
def anyTy (m : Mem) (x : D) : List Ty → Option Bool
  | [] => some false
  | t :: r => match isTy t m x with
    | some true => some true
    | some false => anyTy m x r
    | none => none

variable (T : Tab) (cf : CF)
mutual
def evE : SE → Env → Mem → Res D
  | .var i, env, m => match env[i]? with
    | some (some d) => .ok d m
    | _ => .bad
  | .cst d, _, m => .ok d m
  | .glb g, _, m => .ok (T.glob g) m
  | .bin o a b, env, m => (evE a env m).bind fun x m1 => (evE b env m1).bind fun y m2 => binD o x y m2
  | .neg a, env, m => (evE a env m).bind fun x m1 => negD x m1
  | .cmp o a b, env, m => (evE a env m).bind fun x m1 => (evE b env m1).bind fun y m2 => Res.opt ((cmpD o x y m2).map D.bl) m2
  | .chn o p a b c, env, m => (evE a env m).bind fun x m1 => (evE b env m1).bind fun y m2 => match cmpD o x y m2 with
    | none => .bad
    | some false => .ok (.bl false) m2
    | some true => (evE c env m2).bind fun z m3 => Res.opt ((cmpD p y z m3).map D.bl) m3
  | .isn neg a, env, m => (evE a env m).bind fun x m1 => Res.opt ((isnD x).map fun b => .bl (b != neg)) m1
  | .isb neg b a, env, m => (evE a env m).bind fun x m1 => Res.opt ((blD x).map fun c => .bl ((c == b) != neg)) m1
  | .rev a, env, m => (evE a env m).bind fun x m1 => revD x m1
  | .revt a, env, m => (evE a env m).bind fun x m1 => revtD x m1
  | .stp a b, env, m => (evE a env m).bind fun x m1 => (evE b env m1).bind fun y m2 => stpD x y m2
  | .iso a c, env, m => (evE a env m).bind fun x m1 => Res.opt ((isoD T c x m1).map D.bl) m1
  | .lvals a, env, m => (evE a env m).bind fun x m1 => lvalD x m1
  | .lrng a, env, m => (evE a env m).bind fun x m1 => lrngD x m1
  | .stk, _, _ => .bad
  | .isi a ts, env, m => (evE a env m).bind fun x m1 => Res.opt ((anyTy m1 x ts).map D.bl) m1
  | .and a b, env, m => (evE a env m).bind fun x m1 => match blD x with
    | some true => evE b env m1
    | some false => .ok (.bl false) m1
    | none => .bad
  | .or a b, env, m => (evE a env m).bind fun x m1 => match blD x with
    | some true => .ok (.bl true) m1
    | some false => evE b env m1
    | none => .bad
  | .not a, env, m => (evE a env m).bind fun x m1 => Res.opt ((truD x m1).map fun b => .bl (!b)) m1
  | .ife c a b, env, m => (evT c env m).bind fun t m1 => if t then evE a env m1 else evE b env m1
  | .tup es, env, m => (evEs es env m).bind fun xs m1 => if fits xs.length then .ok (.tup xs) m1 else .bad
  | .lst es, env, m => (evEs es env m).bind fun xs m1 => if fits xs.length then new m1 (.lst xs) else .bad
  | .dnew t, _, m => new m (if t then .dT [] else .dK [])
  | .ddis ks, env, m => (evPs ks env [] (m ++ [.dK []])).bind fun acc m2 => match m2[m.length]? with
    | some (.dK []) => .ok (.ref m.length) (m2.set m.length (.dK acc))
    | _ => .bad
  | .idx a b, env, m => (evE a env m).bind fun x m1 => (evE b env m1).bind fun y m2 => Res.opt (idxD x y m2) m2
  | .slc a lo hi, env, m => (evE a env m).bind fun x m1 => (evO lo env m1).bind fun l m2 => (evO hi env m2).bind fun h m3 => slcD x l h m3
  | .call f es, env, m => (evEs es env m).bind fun xs m1 => cf f xs m1
  | .make c es, env, m => (evEs es env m).bind fun xs m1 => match T.init c with
    | some f => (cf f (.ref m1.length :: xs) (m1 ++ [.ins c []])).bind fun r m2 => match r with
      | .non => .ok (.ref m1.length) m2
      | _ => .bad
    | none => .bad
  | .omet k o es, env, m => (evE o env m).bind fun x m1 => match clsD x m1 with
    | some c => match T.meth c k with
      | some f => (evEs es env m1).bind fun xs m2 => cf f (x :: xs) m2
      | none => .bad
    | none => .bad
  | .fld o f, env, m => (evE o env m).bind fun x m1 => Res.opt (fldD T x f m1) m1
  | .blt b es, env, m => (evEs es env m).bind fun xs m1 => bltD b xs m1
  | .xfld i f, env, m => match env[i]? with
    | some (some (.exn c fs)) => if xfB T c f then Res.opt (fs.lookup f) m else .bad
    | _ => .bad
  | .mth b o es, env, m => (evE o env m).bind fun x m1 => if mthOk b x m1 then (evEs es env m1).bind fun xs m2 => mthD b x xs m2 else .bad
  | .comp e g it c own, env, m => (evI it env m).bind fun its m1 =>
      let elt : D → Mem → Res (Option D) := fun x m => match setT g x (wipeE env own) m with
        | none => .bad
        | some env' => (evC c env' m).bind fun b m2 => if b then (evE e env' m2).bind fun y m3 => .ok (some y) m3 else .ok none m2
      (match its with
        | .all xs => compL elt xs [] m1
        | .by n get => compB get elt n 0 [] m1).bind fun ys m2 => new m2 (.lst ys)
  | .compK kd e g i c own, env, m =>
      let elt : D → Mem → Res (Option D) := fun x m => match setT g x (wipeE env own) m with
        | none => .bad
        | some env' => (evC c env' m).bind fun b m2 => if b then (evE e env' m2).bind fun y m3 => .ok (some y) m3 else .ok none m2
      match env[i]? with
      | some (some x) => (match keysD kd x with
        | some xs => (compL elt xs [] m).bind fun ys m2 => new m2 (.lst ys)
        | none => .bad)
      | _ => .bad
/-- a test -/
def evT : SE → Env → Mem → Res Bool
  | .and a b, env, m => (evT a env m).bind fun x m1 => if x then evT b env m1 else .ok false m1
  | .or a b, env, m => (evT a env m).bind fun x m1 => if x then .ok true m1 else evT b env m1
  | .not a, env, m => (evT a env m).bind fun x m1 => .ok (!x) m1
  | .var i, env, m => match env[i]? with
    | some (some d) => Res.opt (truD d m) m
    | _ => .bad
  | .cst d, env, m => Res.opt (truD d m) m
  | .glb g, env, m => .bad
  | .bin _ _ _, env, m => .bad
  | .neg _, env, m => .bad
  | .cmp o a b, env, m => (evE a env m).bind fun x m1 => (evE b env m1).bind fun y m2 => Res.opt (cmpD o x y m2) m2
  | .chn o p a b c, env, m => (evE a env m).bind fun x m1 => (evE b env m1).bind fun y m2 => match cmpD o x y m2 with
    | none => .bad
    | some false => .ok false m2
    | some true => (evE c env m2).bind fun z m3 => Res.opt (cmpD p y z m3) m3
  | .isn neg a, env, m => (evE a env m).bind fun x m1 => Res.opt ((isnD x).map fun b => b != neg) m1
  | .isb neg b a, env, m => (evE a env m).bind fun x m1 => Res.opt ((blD x).map fun c => (c == b) != neg) m1
  | .rev _, env, m => .bad
  | .revt _, env, m => .bad
  | .stp _ _, env, m => .bad
  | .iso a c, env, m => (evE a env m).bind fun x m1 => Res.opt (isoD T c x m1) m1
  | .lvals _, env, m => .bad
  | .lrng _, env, m => .bad
  | .stk, _, _ => .bad
  | .isi a ts, env, m => (evE a env m).bind fun x m1 => Res.opt (anyTy m1 x ts) m1
  | .ife _ _ _, env, m => .bad
  | .tup _, env, m => .bad
  | .lst _, env, m => .bad
  | .dnew _, env, m => .bad
  | .ddis _, env, m => .bad
  | .idx a b, env, m => (evE a env m).bind fun x m1 => (evE b env m1).bind fun y m2 => Res.opt (idxD x y m2) m2 |>.bind fun d m3 => Res.opt (truD d m3) m3
  | .slc _ _ _, env, m => .bad
  | .call f es, env, m => (evEs es env m).bind fun xs m1 => (cf f xs m1).bind fun d m2 => Res.opt (truD d m2) m2
  | .make _ _, env, m => .bad
  | .omet k o es, env, m => (evE o env m).bind fun x m1 => match clsD x m1 with
    | some c => match T.meth c k with
      | some f => (evEs es env m1).bind fun xs m2 => (cf f (x :: xs) m2).bind fun d m3 => Res.opt (truD d m3) m3
      | none => .bad
    | none => .bad
  | .fld o f, env, m => (evE o env m).bind fun x m1 => Res.opt (fldD T x f m1) m1 |>.bind fun d m3 => Res.opt (truD d m3) m3
  | .blt b es, env, m => (evEs es env m).bind fun xs m1 => (bltD b xs m1).bind fun d m2 => Res.opt (truD d m2) m2
  | .mth b o es, env, m => (evE o env m).bind fun x m1 => if mthOk b x m1 then (evEs es env m1).bind fun xs m2 => (mthD b x xs m2).bind fun d m3 => Res.opt (truD d m3) m3 else .bad
  | .comp _ _ _ _ _, env, m => .bad
  | .compK _ _ _ _ _ _, env, m => .bad
  | .xfld _ _, env, m => .bad
def evEs : SEs → Env → Mem → Res (List D)
  | .nil, _, m => .ok [] m
  | .cons e es, env, m => (evE e env m).bind fun x m1 => (evEs es env m1).bind fun xs m2 => .ok (x :: xs) m2
/-- the pairs of a dict's display: key, value, key, value .. -/
def evPs : SEs → Env → List (Key × D) → Mem → Res (List (Key × D))
  | .nil, _, acc, m => .ok acc m
  | .cons k .nil, _, _, _ => .bad
  | .cons k (.cons v r), env, acc, m => (evE k env m).bind fun x m1 => (evE v env m1).bind fun y m2 => match toKey x with
    | some q => evPs r env (putK acc q y) m2
    | none => .bad
def evO : SO → Env → Mem → Res (Option Int)
  | .no, _, m => .ok none m
  | .yes e, env, m => (evE e env m).bind fun x m1 => match x with
    | .int i => .ok (some i) m1
    | _ => .bad
def evC : SO → Env → Mem → Res Bool
  | .no, _, m => .ok true m
  | .yes e, env, m => evT e env m
def evI : IT → Env → Mem → Res Its
  | .seq e, env, m => (evE e env m).bind fun x m1 => Res.opt (seqI x m1) m1
  | .rng1 a, env, m => (evE a env m).bind fun x m1 => match x with
    | .int j => if rngOk j then .ok (.all (rngL 0 j.toNat)) m1 else .bad
    | _ => .bad
  | .rng2 a b, env, m => (evE a env m).bind fun x m1 => (evE b env m1).bind fun y m2 => match x, y with
    | .int i, .int j => if rngOk i && rngOk j then .ok (.all (rngL i (j - i).toNat)) m2 else .bad
    | _, _ => .bad
  | .enum e, env, m => (evE e env m).bind fun x m1 => Res.opt (enuI x m1) m1
  | .zip a b, env, m => (evE a env m).bind fun x m1 => (evE b env m1).bind fun y m2 => Res.opt (zipI x y m2) m2
  | .rev e, env, m => (evE e env m).bind fun x m1 => Res.opt (revI x m1) m1
  | .keys e, env, m => (evE e env m).bind fun x m1 => match x with
    | .dK kvs => .ok (.all (kvs.map fun p => ofKey p.1)) m1
    | _ => .bad
  | .vals e, env, m => (evE e env m).bind fun x m1 => match x with
    | .dK kvs => .ok (.all (kvs.map fun p => p.2)) m1
    | _ => .bad
  | .items e, env, m => (evE e env m).bind fun x m1 => match x with
    | .dK kvs => .ok (.all (kvs.map fun p => .tup [ofKey p.1, p.2])) m1
    | _ => .bad
end

/-! ### statements -/
def stoD (o i v : D) (m : Mem) : Option Mem := match o with
  | .ref a => match m[a]? with
    | some (.lst xs) => match i with
      | .int k => match ixN xs.length k with
        | some j => some (m.set a (.lst (xs.set j v)))
        | none => none
      | _ => none
    | some (.dK kvs) => match toKey i with
      | some k => if fits (kvs.length + 1) then some (m.set a (.dK (putK kvs k v))) else none
      | none => none
    | some (.dT kvs) => match i with
      | .tup ks => match toKeys ks with
        | some k => if fits (kvs.length + 1) then some (m.set a (.dT (putK kvs k v))) else none
        | none => none
      | _ => none
    | _ => none
  | _ => none
def stoF (T : Tab) (o : D) (f : Nat) (v : D) (m : Mem) : Option Mem := match o with
  | .ref a => match m[a]? with
    | some (.ins c fs) => if fs.length < 900 ∧ T.ic c = true then some (m.set a (.ins c (putF f v fs))) else none
    | _ => none
  | _ => none
def SR.drop (i : Nat) : SR → SR
  | .ok f env m => .ok f (env.set i none) m
  | .exc x env m => .exc x (env.set i none) m
  | .bad => .bad
def optS (o : Option Mem) (env : Env) : SR := match o with
  | some m => .ok .nx env m
  | none => .bad
/-- no exception may leave -/
def unlk (j : Nat) : SR → SR
  | .ok f env m => (match m[j]? with
    | some (.lk kvs) => .ok f env (m.set j (.dK kvs))
    | _ => .bad)
  | _ => .bad
/-- a dict of ours -/
def ownK (m : Mem) (x : D) : Option (Nat × List (Key × D)) := match x with
  | .ref j => (match m[j]? with
    | some (.dK kvs) => some (j, kvs)
    | _ => none)
  | _ => none
def noX : SR → SR
  | .exc _ _ _ => .bad
  | r => r
def optE (o : Option Env) (m : Mem) : SR := match o with
  | some env => .ok .nx env m
  | none => .bad
mutual
noncomputable def evS : SS → Env → Mem → SR
  | .asg g e, env, m => (evE T cf e env m).st env fun d m1 => optE (setT g d env m1) m1
  | .par i j a b, env, m => (evE T cf a env m).st env fun x m1 => (evE T cf b env m1).st env fun y m2 => if i < env.length ∧ j < env.length then .ok .nx ((env.set i (some x)).set j (some y)) m2 else .bad
  | .asgI o i e, env, m => (evE T cf e env m).st env fun v m1 => (evE T cf o env m1).st env fun x m2 => (evE T cf i env m2).st env fun y m3 => optS (stoD x y v m3) env
  | .asgF o f e, env, m => (evE T cf e env m).st env fun v m1 => (evE T cf o env m1).st env fun x m2 => optS (stoF T x f v m2) env
  | .expr e, env, m => (evE T cf e env m).st env fun _ m1 => .ok .nx env m1
  | .ret e, env, m => (evE T cf e env m).st env fun d m1 => .ok (.rt d) env m1
  | .retN, env, m => .ok (.rt .non) env m
  | .ite c a b, env, m => (evT T cf c env m).st env fun t m1 => if t then evSs a env m1 else evSs b env m1
  | .for_ g it b, env, m => (evI T cf it env m).st env fun its m1 => match its with
    | .all xs => forL (fun x env m => match setT g x env m with
      | some env' => evSs b env' m
      | none => .bad) xs env m1
    | .by n get => forB get (fun x env m => match setT g x env m with
      | some env' => evSs b env' m
      | none => .bad) n 0 env m1
  | .forK kd g i b, env, m => match env[i]? with
    | some (some x) => (match keysD kd x with
      | some xs => noX (forL (fun x env m => match setT g x env m with
        | some env' => evSs b env' m
        | none => .bad) xs env m)
      | none => (match ownK m x with
        | some (j, kvs) => (match keysD kd (.dK kvs) with
          | some xs => unlk j (forL (fun x env m => match setT g x env m with
            | some env' => evSs b env' m
            | none => .bad) xs env (m.set j (.lk kvs)))
          | none => .bad)
        | none => .bad))
    | _ => .bad
  | .whl c b, env, m => match loop (whlF (evT T cf c) (evSs b)) (env, m) with
    | some r => r
    | none => .bad
  | .raise c es, env, m => (evEs T cf es env m).st env fun xs m1 => match T.xfs c with
    | some fs => if fs.length = xs.length then .exc ⟨c, (fs.zip xs).reverse⟩ env m1 else .bad
    | none => .bad
  | .try_ b hs el, env, m => match evSs b env m with
    | .exc x env1 m1 => evHs hs x env1 m1
    | .ok .nx env1 m1 => evSs el env1 m1
    | r => r
  | .stk, _, _ => .bad
  | .pass, env, m => .ok .nx env m
  | .brk, env, m => .ok .bk env m
  | .cont, env, m => .ok .ct env m
noncomputable def evSs : SSs → Env → Mem → SR
  | .nil, env, m => .ok .nx env m
  | .cons s ss, env, m => (evS s env m).then fun env1 m1 => evSs ss env1 m1
noncomputable def evHs : SHs → Xn → Env → Mem → SR
  | .nil, x, env, m => .exc x env m
  | .cons c as_ h hs, x, env, m => match T.xm x.cls c with
    | some true => (match as_ with
      | none => evSs h env m
      | some i => if i < env.length then (evSs h (env.set i (some (.exn x.cls x.fs))) m).drop i else .bad)
    | some false => evHs hs x env m
    | none => .bad
end

/-! ### defs -/
/-- plain: over the caller's objects; pure: over none but its own; melt: over the caller's objects, its new ones become data -/
inductive Mode where
  | pure | plain | melt
structure FD where
  np : Nat
  ns : Nat
  mode : Mode
  body : SSs
/-- an argument of a pure def: data, or an object lent -/
def lend (m : Mem) (d : D) : Option D := if d.pure then some d else if (shown m d).pure then some (shown m d) else frz m 200 d
def lendAll (m : Mem) : List D → Option (List D)
  | [] => some []
  | d :: r => match lend m d, lendAll m r with
    | some x, some xs => some (x :: xs)
    | _, _ => none
def startE (n : Nat) (ds : List D) : Env := ds.map some ++ List.replicate (n - ds.length) none
/-- what a body's end hands back -/
def SR.res : SR → Res D
  | .ok .nx _ m => .ok .non m
  | .ok (.rt d) _ m => .ok d m
  | .exc x _ m => .exc x m
  | _ => .bad

noncomputable def runB (fd : FD) (args : List D) (m : Mem) : Res D := (evSs T cf fd.body (startE fd.ns args) m).res
/-! kinds of objects within data, in the memory -/
mutual
def D.hasL : D → Bool
  | .lst _ => true
  | .tup xs => hasLL xs | .dK kvs => hasLK kvs | .dT kvs => hasLT kvs | _ => false
def hasLL : List D → Bool
  | [] => false
  | x :: xs => x.hasL || hasLL xs
def hasLK : List (Key × D) → Bool
  | [] => false
  | (_, x) :: xs => x.hasL || hasLK xs
def hasLT : List (List Key × D) → Bool
  | [] => false
  | (_, x) :: xs => x.hasL || hasLT xs
end
def isLstO : O → Bool
  | .lst _ => true | .ins _ _ => true | _ => false
/-- data without lists, where the caller's own objects are lists (and instances) alone -/
def apartD (m : Mem) (x : D) : Bool := x.pure && (!x.hasL && m.all isLstO)
/-- behind a pure def: its answer as data, the caller's objects as they were; lent: was an object lent -/
def backP (m : Mem) (lent : Bool) : Res D → Res D
  | .ok d m1 => match frz m1 200 d with
    | some x => if lent && !(x.bare || apartD m x) then .bad else .ok x m
    | none => .bad
  | .exc x _ => if x.fs.all (fun p => p.2.bare) then .exc x m else .bad
  | .bad => .bad
/-- data, or a list of data -/
def lstArg (m : Mem) (d : D) : Bool := d.pure || (match d with
  | .ref a => match m[a]? with
    | some (.lst xs) => pureL xs
    | _ => false
  | _ => false)
def lstArgs (m : Mem) : List D → Bool
  | [] => true
  | d :: r => lstArg m d && lstArgs m r
/-- behind a pure def that was lent lists of data alone: its answer may hold dicts, but no list -/
def backL (m : Mem) : Res D → Res D
  | .ok d m1 => match frz m1 200 d with
    | some x => if x.bare || (x.pure && !x.hasL) then .ok x m else .bad
    | none => .bad
  | .exc x _ => if x.fs.all (fun p => p.2.bare) then .exc x m else .bad
  | .bad => .bad
def backQ (m : Mem) (args : List D) (r : Res D) : Res D := if (!pureL args && lstArgs m args) = true then backL m r else backP m (!pureL args) r
theorem backQ_pure {m : Mem} {args : List D} {r : Res D} (h : pureL args = true) : backQ m args r = backP m (!true) r := by
  unfold backQ
  rw [h]
  rfl
/- no object from n on is within -/
mutual
def D.low (n : Nat) : D → Bool
  | .ref i => decide (i < n)
  | .tup xs => lowoL n xs | .lst xs => lowoL n xs | .dK kvs => lowoK n kvs | .dT kvs => lowoT n kvs
  | .exn _ fs => lowoF n fs
  | _ => true
def lowoL (n : Nat) : List D → Bool
  | [] => true
  | x :: xs => x.low n && lowoL n xs
def lowoK (n : Nat) : List (Key × D) → Bool
  | [] => true
  | (_, x) :: xs => x.low n && lowoK n xs
def lowoT (n : Nat) : List (List Key × D) → Bool
  | [] => true
  | (_, x) :: xs => x.low n && lowoT n xs
def lowoF (n : Nat) : List (Nat × D) → Bool
  | [] => true
  | (_, x) :: xs => x.low n && lowoF n xs
end
def O.low (n : Nat) : O → Bool
  | .lst xs => lowoL n xs | .dK kvs => lowoK n kvs | .dT kvs => lowoT n kvs | .ins _ fs => lowoF n fs | .dead => true | .lk kvs => lowoK n kvs
/-- as frz, of the objects from lo on -/
def frzN (lo : Nat) (m : Mem) : Nat → D → Option D
  | 0, d => if d.pure then some d else none
  | n + 1, d => if d.pure then some d else match d with
    | .tup xs => (xs.mapM (frzN lo m n)).map .tup
    | .ref a => if lo ≤ a then (match m[a]? with
      | some (.lst xs) => (xs.mapM (frzN lo m n)).map .lst
      | some (.dK kvs) => (kvs.mapM fun p => (frzN lo m n p.2).map fun d => (p.1, d)).map .dK
      | some (.dT kvs) => (kvs.mapM fun p => (frzN lo m n p.2).map fun d => (p.1, d)).map .dT
      | _ => none) else none
    | _ => none
/-- the caller's own objects hold none of the new ones -/
def Kept (m m1 : Mem) : Prop := ∀ (i : Nat) (o : O), i < m.length → m1[i]? = some o → m[i]? = some o ∨ o.low m.length = true
open Classical in
/-- behind a def whose new objects become data -/
noncomputable def backM (m : Mem) : Res D → Res D
  | .ok d m1 => if Kept m m1 then (match frzN m.length m1 200 d with
    | some x => .ok x (m1.take m.length)
    | none => .bad) else .bad
  | .exc x m1 => if Kept m m1 ∧ x.fs.all (fun p => p.2.bare) = true then .exc x (m1.take m.length) else .bad
  | .bad => .bad
noncomputable def callF (T : Tab) (F : Nat → Option FD) : Nat → CF
  | 0 => fun _ _ _ => .bad
  | k + 1 => fun f args m => match F f with
    | none => .bad
    | some fd => if args.length = fd.np then (match fd.mode with
        | .plain => runB T (callF T F k) fd args m
        | .melt => backM m (runB T (callF T F k) fd args m)
        | .pure => match lendAll m args with
          | some xs => backQ m args (runB T (callF T F k) fd xs [])
          | none => .bad) else .bad
end Ev
/-! EvB: data and values: the relation; how it is kept. -/
namespace Ev
open PySem L2

/-- the addresses of own classes, the fields' names -/
structure Nm where
  cl : Nat → Addr
  fn : Nat → Str
  fi : ∀ i j, fn i = fn j → i = j

/-- an exception that was caught: it stays as it is -/
def xM : HO := .ext fun _ => True
mutual
def RelD (N : Nm) (F : Addr → Prop) (r : List Addr) (H : Hp) : D → V → Prop
  | .non, v => v = .non
  | .bl b, v => v = .bl b
  | .int i, v => v = .int i
  | .str s, v => v = .str s
  | .tup xs, v => ∃ a vs, v = .ref a ∧ H a = some (.tup vs) ∧ RelL N F r H xs vs
  | .lst xs, v => ∃ a vs, v = .ref a ∧ F a ∧ Rd H a (.lst vs) ∧ RelL N F r H xs vs
  | .dK kvs, v => ∃ a ws, v = .ref a ∧ F a ∧ Rd H a (.dK ws) ∧ RelK N F r H kvs ws
  | .dT kvs, v => ∃ a ws, v = .ref a ∧ F a ∧ Rd H a (.dT ws) ∧ RelT N F r H kvs ws
  | .ref i, v => ∃ a, r[i]? = some a ∧ v = .ref a
  | .exn c fs, v => ∃ a oe, v = .ref a ∧ H a = some (.frz oe xM) ∧ oe.cls = .ref (N.cl c) ∧ (∃ vs, oe.data = .fields vs) ∧ ((fs = [] ∧ oe.dict = none) ∨ ∃ dd ws, oe.dict = some dd ∧ H dd = some (.xd ws) ∧ RelF N F r H fs ws)
def RelL (N : Nm) (F : Addr → Prop) (r : List Addr) (H : Hp) : List D → List V → Prop
  | [], vs => vs = []
  | x :: xs, vs => ∃ v ws, vs = v :: ws ∧ RelD N F r H x v ∧ RelL N F r H xs ws
def RelK (N : Nm) (F : Addr → Prop) (r : List Addr) (H : Hp) : List (Key × D) → List (Key × V) → Prop
  | [], vs => vs = []
  | (k, x) :: xs, vs => ∃ v ws, vs = (k, v) :: ws ∧ RelD N F r H x v ∧ RelK N F r H xs ws
def RelT (N : Nm) (F : Addr → Prop) (r : List Addr) (H : Hp) : List (List Key × D) → List (List Key × V) → Prop
  | [], vs => vs = []
  | (k, x) :: xs, vs => ∃ v ws, vs = (k, v) :: ws ∧ RelD N F r H x v ∧ RelT N F r H xs ws
def RelF (N : Nm) (F : Addr → Prop) (r : List Addr) (H : Hp) : List (Nat × D) → List (Str × V) → Prop
  | [], vs => vs = []
  | (k, x) :: xs, vs => ∃ v ws, vs = (N.fn k, v) :: ws ∧ RelD N F r H x v ∧ RelF N F r H xs ws
end
section
variable (K : PySem.W.Frag) (N : Nm)
def RelO (F : Addr → Prop) (r : List Addr) (H : Hp) : O → Addr → Prop
  | .lst xs, a => ∃ vs, H a = some (.lst vs) ∧ RelL N F r H xs vs
  | .dK kvs, a => ∃ ws, H a = some (.dK ws) ∧ RelK N F r H kvs ws
  | .dT kvs, a => ∃ ws, H a = some (.dT ws) ∧ RelT N F r H kvs ws
  | .ins c fs, a => ∃ dx ws, H a = some (.ins (N.cl c) dx ws) ∧ RelF N F r H fs ws
  | .dead, _ => False
  | .lk kvs, a => ∃ ws o, H a = some (.frz o (.dK ws)) ∧ RelK N F r H kvs ws
end

/-- what stays from one state to a later one -/
structure Ext (F : Addr → Prop) (r : List Addr) (H : Hp) (F' : Addr → Prop) (r' : List Addr) (H' : Hp) : Prop where
  keep : ∀ a o, a ∉ r → H a = some o → H' a = some o
  keepF : ∀ a o, F a → H a = some o → H' a = some o
  tups : ∀ a xs, H a = some (.tup xs) → H' a = some (.tup xs)
  frzs : ∀ a o u, H a = some (.frz o u) → H' a = some (.frz o u)
  xds : ∀ a ws, H a = some (.xd ws) → H' a = some (.xd ws)
  mono : ∀ a, F a → F' a
  pre : ∃ t, r' = r ++ t
  newF : ∀ a, F' a → F a ∨ a ∈ r ∨ H a = none
  newR : ∀ a, a ∈ r' → a ∈ r ∨ H a = none
theorem Ext.refl (F : Addr → Prop) (r : List Addr) (H : Hp) : Ext F r H F r H := ⟨fun _ _ _ h => h, fun _ _ _ h => h, fun _ _ h => h, fun _ _ _ h => h, fun _ _ h => h, fun _ h => h, ⟨[], by simp⟩, fun _ h => .inl h, fun _ h => .inl h⟩
section
variable {K : PySem.W.Frag} {N : Nm} {F F1 F2 : Addr → Prop} {r r1 r2 : List Addr} {H H1 H2 : Hp}
theorem Ext.trans (a : Ext F r H F1 r1 H1) (b : Ext F1 r1 H1 F2 r2 H2) : Ext F r H F2 r2 H2 := by
  refine ⟨fun x o hx e => b.keep x o (fun z => ?_) (a.keep x o hx e), fun x o hx e => b.keepF x o (a.mono x hx) (a.keepF x o hx e), fun x xs e => b.tups x xs (a.tups x xs e), fun x o u e => b.frzs x o u (a.frzs x o u e), fun x u e => b.xds x u (a.xds x u e), fun x h => b.mono x (a.mono x h), ?_, fun x h => ?_, fun x h => ?_⟩
  · rcases a.newR x z with q | q
    · exact hx q
    · rw [q] at e; cases e
  · obtain ⟨t, e⟩ := a.pre
    obtain ⟨u, e'⟩ := b.pre
    exact ⟨t ++ u, by rw [e', e, List.append_assoc]⟩
  · rcases b.newF x h with q | q | q
    · exact a.newF x q
    · rcases a.newR x q with z | z
      · exact .inr (.inl z)
      · exact .inr (.inr z)
    · by_cases hx : x ∈ r
      · exact .inr (.inl hx)
      · cases e : H x with
        | none => exact .inr (.inr rfl)
        | some o =>
          rw [a.keep x o hx e] at q
          cases q
  · rcases b.newR x h with q | q
    · exact a.newR x q
    · by_cases hx : x ∈ r
      · exact .inl hx
      · cases e : H x with
        | none => exact .inr rfl
        | some o =>
          rw [a.keep x o hx e] at q
          cases q
theorem Ext.sqT (x : Ext F r H F1 r1 H1) {a : Addr} {vs : List V} (h : SqT K H a vs) : SqT K H1 a vs := by
  rcases h with (h | ⟨o, h⟩) | h
  · exact .inl (.inl (x.tups _ _ h))
  · exact .inl (.inr ⟨o, x.frzs _ _ _ h⟩)
  · exact .inr h
/-- what the relation rests on -/
structure Ex0 (F : Addr → Prop) (r : List Addr) (H : Hp) (F' : Addr → Prop) (r' : List Addr) (H' : Hp) : Prop where
  keepF : ∀ a o, F a → H a = some o → H' a = some o
  tups : ∀ a xs, H a = some (.tup xs) → H' a = some (.tup xs)
  frzs : ∀ a o u, H a = some (.frz o u) → H' a = some (.frz o u)
  xds : ∀ a ws, H a = some (.xd ws) → H' a = some (.xd ws)
  mono : ∀ a, F a → F' a
  pre : ∃ t, r' = r ++ t
theorem Ext.ex0 (x : Ext F r H F1 r1 H1) : Ex0 F r H F1 r1 H1 := ⟨x.keepF, x.tups, x.frzs, x.xds, x.mono, x.pre⟩
theorem Ex0.rd (x : Ex0 F r H F1 r1 H1) {a : Addr} {u : HO} (hF : F a) (h : Rd H a u) : Rd H1 a u := by
  rcases h with h | ⟨o, h⟩
  · exact .inl (x.keepF _ _ hF h)
  · exact .inr ⟨o, x.frzs _ _ _ h⟩
theorem Ex0.get (x : Ex0 F r H F1 r1 H1) {i : Nat} {a : Addr} (h : r[i]? = some a) : r1[i]? = some a := by
  obtain ⟨t, e⟩ := x.pre
  rw [e, List.getElem?_append_left (List.getElem?_eq_some_iff.mp h).1]
  exact h
mutual
theorem RelD.ext0 (x : Ex0 F r H F1 r1 H1) : ∀ {d : D} {v : V}, RelD N F r H d v → RelD N F1 r1 H1 d v
  | .non, _, h => h
  | .bl _, _, h => h
  | .int _, _, h => h
  | .str _, _, h => h
  | .tup xs, _, h => by
    obtain ⟨a, vs, e, s, l⟩ := h
    exact ⟨a, vs, e, x.tups _ _ s, RelL.ext0 x l⟩
  | .lst xs, _, h => by
    obtain ⟨a, vs, e, f, s, l⟩ := h
    exact ⟨a, vs, e, x.mono _ f, x.rd f s, RelL.ext0 x l⟩
  | .dK xs, _, h => by
    obtain ⟨a, vs, e, f, s, l⟩ := h
    exact ⟨a, vs, e, x.mono _ f, x.rd f s, RelK.ext0 x l⟩
  | .dT xs, _, h => by
    obtain ⟨a, vs, e, f, s, l⟩ := h
    exact ⟨a, vs, e, x.mono _ f, x.rd f s, RelT.ext0 x l⟩
  | .ref i, _, h => by
    obtain ⟨a, e, q⟩ := h
    exact ⟨a, x.get e, q⟩
  | .exn c fs, _, h => by
    obtain ⟨a, oe, e, s, h1, h2, h3⟩ := h
    refine ⟨a, oe, e, x.frzs _ _ _ s, h1, h2, ?_⟩
    rcases h3 with h3 | ⟨dd, ws, e2, s2, l⟩
    · exact .inl h3
    · exact .inr ⟨dd, ws, e2, x.xds _ _ s2, RelF.ext0 x l⟩
theorem RelL.ext0 (x : Ex0 F r H F1 r1 H1) : ∀ {d : List D} {v : List V}, RelL N F r H d v → RelL N F1 r1 H1 d v
  | [], _, h => h
  | d :: ds, _, h => by
    obtain ⟨v, ws, e, a, b⟩ := h
    exact ⟨v, ws, e, RelD.ext0 x a, RelL.ext0 x b⟩
theorem RelK.ext0 (x : Ex0 F r H F1 r1 H1) : ∀ {d : List (Key × D)} {v : List (Key × V)}, RelK N F r H d v → RelK N F1 r1 H1 d v
  | [], _, h => h
  | (k, d) :: ds, _, h => by
    obtain ⟨v, ws, e, a, b⟩ := h
    exact ⟨v, ws, e, RelD.ext0 x a, RelK.ext0 x b⟩
theorem RelT.ext0 (x : Ex0 F r H F1 r1 H1) : ∀ {d : List (List Key × D)} {v : List (List Key × V)}, RelT N F r H d v → RelT N F1 r1 H1 d v
  | [], _, h => h
  | (k, d) :: ds, _, h => by
    obtain ⟨v, ws, e, a, b⟩ := h
    exact ⟨v, ws, e, RelD.ext0 x a, RelT.ext0 x b⟩
theorem RelF.ext0 (x : Ex0 F r H F1 r1 H1) : ∀ {d : List (Nat × D)} {v : List (Str × V)}, RelF N F r H d v → RelF N F1 r1 H1 d v
  | [], _, h => h
  | (k, d) :: ds, _, h => by
    obtain ⟨v, ws, e, a, b⟩ := h
    exact ⟨v, ws, e, RelD.ext0 x a, RelF.ext0 x b⟩
end

theorem Ext.rd (x : Ext F r H F1 r1 H1) {a : Addr} {u : HO} (hF : F a) (h : Rd H a u) : Rd H1 a u := x.ex0.rd hF h
theorem Ext.get (x : Ext F r H F1 r1 H1) {i : Nat} {a : Addr} (h : r[i]? = some a) : r1[i]? = some a := x.ex0.get h
theorem RelD.ext (x : Ext F r H F1 r1 H1) {d : D} {v : V} (h : RelD N F r H d v) : RelD N F1 r1 H1 d v := RelD.ext0 x.ex0 h
theorem RelL.ext (x : Ext F r H F1 r1 H1) {d : List D} {v : List V} (h : RelL N F r H d v) : RelL N F1 r1 H1 d v := RelL.ext0 x.ex0 h
theorem RelK.ext (x : Ext F r H F1 r1 H1) {d : List (Key × D)} {v : List (Key × V)} (h : RelK N F r H d v) : RelK N F1 r1 H1 d v := RelK.ext0 x.ex0 h
theorem RelT.ext (x : Ext F r H F1 r1 H1) {d : List (List Key × D)} {v : List (List Key × V)} (h : RelT N F r H d v) : RelT N F1 r1 H1 d v := RelT.ext0 x.ex0 h
theorem RelF.ext (x : Ext F r H F1 r1 H1) {d : List (Nat × D)} {v : List (Str × V)} (h : RelF N F r H d v) : RelF N F1 r1 H1 d v := RelF.ext0 x.ex0 h

/-! ### lists of related things -/
theorem RelL.length : ∀ {d : List D} {v : List V}, RelL N F r H d v → d.length = v.length
  | [], _, h => by cases (show _ = _ from h); rfl
  | d :: ds, _, h => by
    obtain ⟨v, ws, rfl, a, b⟩ := h
    simp [RelL.length b]
theorem RelK.length : ∀ {d : List (Key × D)} {v : List (Key × V)}, RelK N F r H d v → d.length = v.length
  | [], _, h => by cases (show _ = _ from h); rfl
  | (k, d) :: ds, _, h => by
    obtain ⟨v, ws, rfl, a, b⟩ := h
    simp [RelK.length b]
theorem RelT.length : ∀ {d : List (List Key × D)} {v : List (List Key × V)}, RelT N F r H d v → d.length = v.length
  | [], _, h => by cases (show _ = _ from h); rfl
  | (k, d) :: ds, _, h => by
    obtain ⟨v, ws, rfl, a, b⟩ := h
    simp [RelT.length b]
theorem RelF.length : ∀ {d : List (Nat × D)} {v : List (Str × V)}, RelF N F r H d v → d.length = v.length
  | [], _, h => by cases (show _ = _ from h); rfl
  | (k, d) :: ds, _, h => by
    obtain ⟨v, ws, rfl, a, b⟩ := h
    simp [RelF.length b]
theorem RelL.get : ∀ {d : List D} {v : List V} {i : Nat} {x : D}, RelL N F r H d v → d[i]? = some x → ∃ u, v[i]? = some u ∧ RelD N F r H x u
  | [], _, _, _, _, e => by simp at e
  | d :: ds, _, 0, x, h, e => by
    obtain ⟨v, ws, rfl, a, b⟩ := h
    simp at e; subst e
    exact ⟨v, rfl, a⟩
  | d :: ds, _, i + 1, x, h, e => by
    obtain ⟨v, ws, rfl, a, b⟩ := h
    obtain ⟨u, h1, h2⟩ := RelL.get (i := i) b (by simpa using e)
    exact ⟨u, by simpa using h1, h2⟩
theorem RelL.back : ∀ {d : List D} {v : List V} {i : Nat} {u : V}, RelL N F r H d v → v[i]? = some u → ∃ x, d[i]? = some x ∧ RelD N F r H x u := fun {d v i u} h e => by
  have hi : i < v.length := (List.getElem?_eq_some_iff.mp e).1
  have hd : i < d.length := by rw [h.length]; exact hi
  obtain ⟨u', h1, h2⟩ := h.get (List.getElem?_eq_getElem hd)
  rw [e] at h1; cases h1
  exact ⟨_, List.getElem?_eq_getElem hd, h2⟩
theorem RelL.append : ∀ {d e : List D} {v w : List V}, RelL N F r H d v → RelL N F r H e w → RelL N F r H (d ++ e) (v ++ w)
  | [], _, _, _, h, g => by cases (show _ = _ from h); exact g
  | d :: ds, _, _, _, h, g => by
    obtain ⟨v, ws, rfl, a, b⟩ := h
    exact ⟨v, _, rfl, a, RelL.append b g⟩
theorem RelL.one {d : D} {v : V} (h : RelD N F r H d v) : RelL N F r H [d] [v] := ⟨v, [], rfl, h, rfl⟩
theorem RelL.take : ∀ {d : List D} {v : List V} (n : Nat), RelL N F r H d v → RelL N F r H (d.take n) (v.take n)
  | _, _, 0, _ => by simp; rfl
  | [], _, n + 1, h => by cases (show _ = _ from h); simp; rfl
  | d :: ds, _, n + 1, h => by
    obtain ⟨v, ws, rfl, a, b⟩ := h
    exact ⟨v, _, rfl, a, RelL.take n b⟩
theorem RelL.drop : ∀ {d : List D} {v : List V} (n : Nat), RelL N F r H d v → RelL N F r H (d.drop n) (v.drop n)
  | _, _, 0, h => h
  | [], _, n + 1, h => by cases (show _ = _ from h); simp; rfl
  | d :: ds, _, n + 1, h => by
    obtain ⟨v, ws, rfl, a, b⟩ := h
    exact RelL.drop n b
theorem RelL.set : ∀ {d : List D} {v : List V} (i : Nat) {x : D} {u : V}, RelL N F r H d v → RelD N F r H x u → RelL N F r H (d.set i x) (v.set i u)
  | [], _, _, _, _, h, _ => by cases (show _ = _ from h); simp; rfl
  | d :: ds, _, 0, _, _, h, g => by
    obtain ⟨v, ws, rfl, a, b⟩ := h
    exact ⟨_, _, rfl, g, b⟩
  | d :: ds, _, i + 1, _, _, h, g => by
    obtain ⟨v, ws, rfl, a, b⟩ := h
    exact ⟨_, _, rfl, a, RelL.set i b g⟩
theorem RelL.erase : ∀ {d : List D} {v : List V} (i : Nat), RelL N F r H d v → RelL N F r H (d.eraseIdx i) (v.eraseIdx i)
  | [], _, _, h => by cases (show _ = _ from h); simp; rfl
  | d :: ds, _, 0, h => by
    obtain ⟨v, ws, rfl, a, b⟩ := h
    exact b
  | d :: ds, _, i + 1, h => by
    obtain ⟨v, ws, rfl, a, b⟩ := h
    exact ⟨_, _, rfl, a, RelL.erase i b⟩
theorem RelL.dropLast {d : List D} {v : List V} (h : RelL N F r H d v) : RelL N F r H d.dropLast v.dropLast := by
  rw [List.dropLast_eq_take, List.dropLast_eq_take, h.length]
  exact h.take _
theorem RelL.reverse : ∀ {d : List D} {v : List V}, RelL N F r H d v → RelL N F r H d.reverse v.reverse
  | [], _, h => by cases (show _ = _ from h); simp; rfl
  | d :: ds, _, h => by
    obtain ⟨v, ws, rfl, a, b⟩ := h
    rw [List.reverse_cons, List.reverse_cons]
    exact (RelL.reverse b).append (RelL.one a)
theorem RelL.nil_iff {d : List D} {v : List V} (h : RelL N F r H d v) : d = [] ↔ v = [] := by
  have e := h.length
  constructor
  · intro q; subst q; exact List.length_eq_zero_iff.mp e.symm
  · intro q; subst q; exact List.length_eq_zero_iff.mp e
/-- pairs of one kind of key, related -/
def RelP {κ : Type} (N : Nm) (F : Addr → Prop) (r : List Addr) (H : Hp) : List (κ × D) → List (κ × V) → Prop
  | [], vs => vs = []
  | (k, x) :: xs, vs => ∃ v ws, vs = (k, v) :: ws ∧ RelD N F r H x v ∧ RelP N F r H xs ws
theorem relK_P : ∀ {d : List (Key × D)} {v : List (Key × V)}, RelK N F r H d v ↔ RelP N F r H d v
  | [], _ => Iff.rfl
  | (k, d) :: ds, _ => by
    constructor
    · rintro ⟨v, ws, e, a, b⟩; exact ⟨v, ws, e, a, relK_P.mp b⟩
    · rintro ⟨v, ws, e, a, b⟩; exact ⟨v, ws, e, a, relK_P.mpr b⟩
theorem relT_P : ∀ {d : List (List Key × D)} {v : List (List Key × V)}, RelT N F r H d v ↔ RelP N F r H d v
  | [], _ => Iff.rfl
  | (k, d) :: ds, _ => by
    constructor
    · rintro ⟨v, ws, e, a, b⟩; exact ⟨v, ws, e, a, relT_P.mp b⟩
    · rintro ⟨v, ws, e, a, b⟩; exact ⟨v, ws, e, a, relT_P.mpr b⟩
section
variable {κ : Type} [DecidableEq κ]
theorem RelP.length : ∀ {d : List (κ × D)} {v : List (κ × V)}, RelP N F r H d v → d.length = v.length
  | [], _, h => by cases (show _ = _ from h); rfl
  | (k, d) :: ds, _, h => by
    obtain ⟨v, ws, rfl, a, b⟩ := h
    simp [RelP.length b]
theorem RelP.look : ∀ {d : List (κ × D)} {v : List (κ × V)} (k : κ), RelP N F r H d v → (lookK d k = none ∧ valV v k = none) ∨ ∃ x u, lookK d k = some x ∧ valV v k = some u ∧ RelD N F r H x u
  | [], _, k, h => by cases (show _ = _ from h); exact .inl ⟨rfl, rfl⟩
  | (q, d) :: ds, _, k, h => by
    obtain ⟨v, ws, rfl, a, b⟩ := h
    by_cases e : q = k
    · refine .inr ⟨d, v, ?_, valV_pos e, a⟩
      unfold lookK; rw [if_pos e]
    · have e1 : lookK ((q, d) :: ds) k = lookK ds k := by
        conv => lhs; unfold lookK; rw [if_neg e]
      rw [e1, valV_neg (p := (q, v)) e]
      exact RelP.look k b
theorem RelP.look_some {d : List (κ × D)} {v : List (κ × V)} {k : κ} {x : D} (h : RelP N F r H d v) (e : lookK d k = some x) : ∃ u, valV v k = some u ∧ RelD N F r H x u := by
  rcases h.look k with ⟨q, _⟩ | ⟨y, u, q, hu, hr⟩
  · rw [e] at q; cases q
  · rw [e] at q; cases q; exact ⟨u, hu, hr⟩
theorem RelP.isSome {d : List (κ × D)} {v : List (κ × V)} (k : κ) (h : RelP N F r H d v) : (valV v k).isSome = (lookK d k).isSome := by
  rcases h.look k with ⟨q, e⟩ | ⟨y, u, q, hu, hr⟩
  · rw [q, e] <;> rfl
  · rw [q, hu] <;> rfl
theorem RelP.any {k : κ} : ∀ {d : List (κ × D)} {v : List (κ × V)}, RelP N F r H d v → (v.any fun kv => decide (kv.1 = k)) = (d.any fun kv => decide (kv.1 = k))
  | [], _, h => by cases (show _ = _ from h); rfl
  | (q, d) :: ds, _, h => by
    obtain ⟨v, ws, rfl, a, b⟩ := h
    simp [RelP.any (k := k) b]
theorem RelP.mapPut {k : κ} {x : D} {u : V} (g : RelD N F r H x u) : ∀ {d : List (κ × D)} {v : List (κ × V)}, RelP N F r H d v →
    RelP N F r H (d.map fun kv => if kv.1 = k then (kv.1, x) else kv) (v.map fun kv => if kv.1 = k then (kv.1, u) else kv)
  | [], _, h => by cases (show _ = _ from h); rfl
  | (q, d) :: ds, _, h => by
    obtain ⟨v, ws, rfl, a, b⟩ := h
    by_cases e : q = k
    · simp only [List.map_cons, if_pos e]
      exact ⟨_, _, rfl, g, RelP.mapPut g b⟩
    · simp only [List.map_cons, if_neg e]
      exact ⟨_, _, rfl, a, RelP.mapPut g b⟩
theorem RelP.snoc {k : κ} {x : D} {u : V} (g : RelD N F r H x u) : ∀ {d : List (κ × D)} {v : List (κ × V)}, RelP N F r H d v → RelP N F r H (d ++ [(k, x)]) (v ++ [(k, u)])
  | [], _, h => by cases (show _ = _ from h); exact ⟨u, [], rfl, g, rfl⟩
  | (q, d) :: ds, _, h => by
    obtain ⟨v, ws, rfl, a, b⟩ := h
    exact ⟨_, _, rfl, a, RelP.snoc g b⟩
theorem RelP.put {d : List (κ × D)} {v : List (κ × V)} {k : κ} {x : D} {u : V} (h : RelP N F r H d v) (g : RelD N F r H x u) : RelP N F r H (putK d k x) (L2.putK v k u) := by
  unfold putK L2.putK
  rw [h.any]
  split
  · exact h.mapPut g
  · exact h.snoc g
theorem RelP.drop {k : κ} : ∀ {d : List (κ × D)} {v : List (κ × V)}, RelP N F r H d v → RelP N F r H (dropK d k) (L2.dropK v k)
  | [], _, h => by cases (show _ = _ from h); rfl
  | (q, d) :: ds, _, h => by
    obtain ⟨v, ws, rfl, a, b⟩ := h
    have ih := RelP.drop (k := k) b
    unfold dropK L2.dropK at ih ⊢
    by_cases e : q = k
    · simp [List.filter_cons, e]
      simpa using ih
    · simp [List.filter_cons, e]
      exact ⟨_, _, rfl, a, by simpa using ih⟩
theorem RelP.keys : ∀ {d : List (κ × D)} {v : List (κ × V)}, RelP N F r H d v → v.map (·.1) = d.map (·.1)
  | [], _, h => by cases (show _ = _ from h); rfl
  | (q, d) :: ds, _, h => by
    obtain ⟨v, ws, rfl, a, b⟩ := h
    simp [RelP.keys b]
theorem RelP.vals : ∀ {d : List (κ × D)} {v : List (κ × V)}, RelP N F r H d v → RelL N F r H (d.map (·.2)) (v.map (·.2))
  | [], _, h => by cases (show _ = _ from h); rfl
  | (q, d) :: ds, _, h => by
    obtain ⟨v, ws, rfl, a, b⟩ := h
    exact ⟨_, _, rfl, a, RelP.vals b⟩
end

/-! ### the state -/
/-- the changing objects m stand at r -/
structure Sim (K : PySem.W.Frag) (N : Nm) (F : Addr → Prop) (r : List Addr) (m : Mem) (H : Hp) : Prop where
  nd : r.Nodup
  len : r.length = m.length
  nf : ∀ a ∈ r, ¬ F a
  fh : ∀ a, F a → H a ≠ none
  ob : ∀ (i : Nat) (o : O), m[i]? = some o → ∃ a, r[i]? = some a ∧ RelO N F r H o a
/-- the slots -/
structure SimE (N : Nm) (F : Addr → Prop) (r : List Addr) (H : Hp) (env : Env) (s : St) : Prop where
  len : env.length = s.length
  at_ : ∀ (i : Nat) (d : D), env[i]? = some (some d) → ∃ v, s[i]? = some (some v) ∧ RelD N F r H d v
theorem RelO.some {o : O} {a : Addr} (h : RelO N F r H o a) : ∃ u, H a = some u ∧ (∀ xs, u ≠ .tup xs) := by
  cases o with
  | lst xs => obtain ⟨vs, e, _⟩ := h; exact ⟨_, e, (fun _ z => nomatch z)⟩
  | dK xs => obtain ⟨vs, e, _⟩ := h; exact ⟨_, e, (fun _ z => nomatch z)⟩
  | dT xs => obtain ⟨vs, e, _⟩ := h; exact ⟨_, e, (fun _ z => nomatch z)⟩
  | ins c fs => obtain ⟨dx, vs, e, _⟩ := h; exact ⟨_, e, (fun _ z => nomatch z)⟩
  | dead => exact h.elim
  | lk xs => obtain ⟨vs, o, e, _⟩ := h; exact ⟨_, e, (fun _ z => nomatch z)⟩
theorem RelO.ext (x : Ext F r H F1 r1 H1) {o : O} {a : Addr} (he : H1 a = H a) (h : RelO N F r H o a) : RelO N F1 r1 H1 o a := by
  cases o with
  | lst xs => obtain ⟨vs, e, l⟩ := h; exact ⟨vs, he.trans e, l.ext x⟩
  | dK xs => obtain ⟨vs, e, l⟩ := h; exact ⟨vs, he.trans e, l.ext x⟩
  | dT xs => obtain ⟨vs, e, l⟩ := h; exact ⟨vs, he.trans e, l.ext x⟩
  | ins c fs => obtain ⟨dx, vs, e, l⟩ := h; exact ⟨dx, vs, he.trans e, l.ext x⟩
  | dead => exact h.elim
  | lk xs => obtain ⟨vs, o, e, l⟩ := h; exact ⟨vs, o, he.trans e, l.ext x⟩
theorem SimE.ext (x : Ext F r H F1 r1 H1) {env : Env} {s : St} (h : SimE N F r H env s) : SimE N F1 r1 H1 env s :=
  ⟨h.len, fun i d e => let ⟨v, a, b⟩ := h.at_ i d e; ⟨v, a, b.ext x⟩⟩
theorem Sim.here {m : Mem} (S : Sim K N F r m H) {a : Addr} (h : a ∈ r) : ∃ u, H a = some u ∧ (∀ xs, u ≠ .tup xs) := by
  obtain ⟨i, hi, e⟩ := List.getElem_of_mem h
  have hm : i < m.length := by rw [← S.len]; exact hi
  obtain ⟨b, hb, ro⟩ := S.ob i m[i] (List.getElem?_eq_getElem hm)
  rw [List.getElem?_eq_getElem hi, e] at hb
  cases hb
  exact ro.some
theorem Sim.fresh {m : Mem} (S : Sim K N F r m H) {p : Addr} (h : H p = none) : p ∉ r ∧ ¬ F p := by
  refine ⟨fun z => ?_, fun z => S.fh p z h⟩
  obtain ⟨u, e, _⟩ := S.here z
  rw [h] at e; cases e
/-- a new object that is not ours to change (a tuple, ..) -/
theorem Ext.fresh {m : Mem} (S : Sim K N F r m H) {p : Addr} {o : HO} (h : H p = none) : Ext F r H F r (upd H p o) :=
  ⟨fun a u _ e => by rw [upd_ne (ne_of_none e h)]; exact e, fun a u _ e => by rw [upd_ne (ne_of_none e h)]; exact e, fun a u e => by rw [upd_ne (ne_of_none e h)]; exact e, fun a u w e => by rw [upd_ne (ne_of_none e h)]; exact e, fun a w e => by rw [upd_ne (ne_of_none e h)]; exact e, fun _ h => h, ⟨[], by simp⟩, fun _ h => .inl h, fun _ h => .inl h⟩
theorem Sim.grow {m : Mem} (S : Sim K N F r m H) (x : Ext F r H F r H1) (hk : ∀ a ∈ r, H1 a = H a) : Sim K N F r m H1 := by
  refine ⟨S.nd, S.len, S.nf, fun a h z => ?_, fun i o e => ?_⟩
  · cases e : H a with
    | none => exact S.fh a h e
    | some u => rw [x.keepF a u h e] at z; cases z
  · obtain ⟨a, ha, ro⟩ := S.ob i o e
    exact ⟨a, ha, ro.ext x (hk a (List.mem_of_getElem? ha))⟩
theorem Sim.fresh_ {m : Mem} (S : Sim K N F r m H) {p : Addr} {o : HO} (h : H p = none) : Sim K N F r m (upd H p o) :=
  S.grow (Ext.fresh S h) fun a ha => upd_ne fun z => (S.fresh h).1 (z ▸ ha)
/-- a new object of ours -/
theorem Ext.new {m : Mem} (S : Sim K N F r m H) {p : Addr} {o : HO} (h : H p = none) : Ext F r H F (r ++ [p]) (upd H p o) :=
  ⟨fun a u _ e => by rw [upd_ne (ne_of_none e h)]; exact e, fun a u _ e => by rw [upd_ne (ne_of_none e h)]; exact e, fun a u e => by rw [upd_ne (ne_of_none e h)]; exact e, fun a u w e => by rw [upd_ne (ne_of_none e h)]; exact e, fun a w e => by rw [upd_ne (ne_of_none e h)]; exact e, fun _ h => h, ⟨[p], rfl⟩, fun _ h => .inl h, fun a z => by
    rcases List.mem_append.mp z with z | z
    · exact .inl z
    · rw [List.mem_singleton.mp z]; exact .inr h⟩
theorem Sim.new {m : Mem} (S : Sim K N F r m H) {p : Addr} {o : HO} {ob : O} (h : H p = none) (ho : RelO N F (r ++ [p]) (upd H p o) ob p) : Sim K N F (r ++ [p]) (m ++ [ob]) (upd H p o) := by
  obtain ⟨h1, h2⟩ := S.fresh h
  have x : Ext F r H F (r ++ [p]) (upd H p o) := Ext.new S h
  refine ⟨List.nodup_append.mpr ⟨S.nd, by simp, fun a ha b hb => ?_⟩, by simp [S.len], fun a ha => ?_, fun a hF z => ?_, fun i q e => ?_⟩
  · rw [List.mem_singleton.mp hb]
    exact fun z => h1 (z ▸ ha)
  · rcases List.mem_append.mp ha with z | z
    · exact S.nf a z
    · rw [List.mem_singleton.mp z]; exact h2
  · cases e : H a with
    | none => exact S.fh a hF e
    | some u => rw [x.keepF a u hF e] at z; cases z
  · by_cases hi : i < m.length
    · rw [List.getElem?_append_left hi] at e
      obtain ⟨a, ha, ro⟩ := S.ob i q e
      refine ⟨a, x.get ha, ro.ext x (upd_ne fun z => h1 (z ▸ List.mem_of_getElem? ha))⟩
    · have hi' : i = m.length := by
        have := (List.getElem?_eq_some_iff.mp e).1
        simp at this
        omega
      subst hi'
      simp at e
      subst e
      exact ⟨p, by rw [← S.len]; simp, ho⟩
/-- an object of ours is changed -/
theorem Ext.set {m : Mem} (S : Sim K N F r m H) {a : Addr} {o z : HO} (h : a ∈ r) (e : H a = some z) (hm : Mut (some z) := by trivial) : Ext F r H F r (upd H a o) := by
  have h1 : ∀ xs, z ≠ .tup xs := fun xs w => by rw [w] at hm; exact hm
  have h2 : ∀ x y, z ≠ .frz x y := fun x y w => by rw [w] at hm; exact hm
  have h3 := hm
  refine ⟨fun b w hb q => ?_, fun b w hb q => ?_, fun b xs q => ?_, fun b x y q => ?_, fun b ws q => ?_, fun _ h => h, ⟨[], by simp⟩, fun _ h => .inl h, fun _ h => .inl h⟩
  · rw [upd_ne (a := a) (b := b) (fun z => hb (by rw [z]; exact h))]; exact q
  · rw [upd_ne (a := a) (b := b) (fun z => S.nf a h (by rw [← z]; exact hb))]; exact q
  · rw [upd_ne (fun z => by subst z; rw [e] at q; cases q; exact h1 _ rfl)]; exact q
  · rw [upd_ne (fun z => by subst z; rw [e] at q; cases q; exact h2 _ _ rfl)]; exact q
  · rw [upd_ne (fun z => by subst z; rw [e] at q; cases q; exact h3)]; exact q
theorem Sim.set {m : Mem} (S : Sim K N F r m H) {i : Nat} {a : Addr} {o z : HO} {ob : O} (hi : r[i]? = some a) (hz : H a = some z) (ho : RelO N F r (upd H a o) ob a) (hm : Mut (some z) := by trivial) : Sim K N F r (m.set i ob) (upd H a o) := by
  have ha := List.mem_of_getElem? hi
  have x : Ext F r H F r (upd H a o) := Ext.set S ha hz hm
  refine ⟨S.nd, by simp [S.len], S.nf, fun b hF z => ?_, fun j q e => ?_⟩
  · cases e : H b with
    | none => exact S.fh b hF e
    | some u => rw [x.keepF b u hF e] at z; cases z
  · by_cases hj : j = i
    · subst hj
      have hl : j < m.length := by rw [← S.len]; exact (List.getElem?_eq_some_iff.mp hi).1
      rw [List.getElem?_set_self hl] at e
      cases e
      exact ⟨a, hi, ho⟩
    · rw [List.getElem?_set_ne (Ne.symm hj)] at e
      obtain ⟨b, hb, ro⟩ := S.ob j q e
      refine ⟨b, hb, ro.ext x (upd_ne fun z => hj ?_)⟩
      subst z
      obtain ⟨l1, e1⟩ := List.getElem?_eq_some_iff.mp hi
      obtain ⟨l2, e2⟩ := List.getElem?_eq_some_iff.mp hb
      exact (List.getElem_inj S.nd).mp (e2.trans e1.symm)
theorem Sim.ref {m : Mem} (S : Sim K N F r m H) {i : Nat} {a : Addr} {o : O} (e : m[i]? = some o) (hi : r[i]? = some a) : RelO N F r H o a := by
  obtain ⟨b, hb, ro⟩ := S.ob i o e
  rw [hi] at hb; cases hb
  exact ro
end
end Ev
/-! EvC: what the evaluator's primitive operations are, on values. -/
namespace Ev
open PySem L2

section
variable (K : PySem.W.Frag) (N : Nm)
/-- an exception -/
def RelX (F : Addr → Prop) (r : List Addr) (x : Xn) (cls : Value) (d : Option Addr) (H : Hp) : Prop :=
  cls = .ref (N.cl x.cls) ∧ ((x.fs = [] ∧ d = none) ∨ ∃ dd ws, d = some dd ∧ H dd = some (.xd ws) ∧ RelF N F r H x.fs ws)
/-- what a result makes sure of -/
def RP {α β : Type} (R : (Addr → Prop) → List Addr → Hp → α → β → Prop) (W : XK) (F : Addr → Prop) (r : List Addr) (H : Hp) (Q : β → Hp → Prop) : Res α → Prop
  | .ok d m => ∀ F' r' H' v, Ext F r H F' r' H' → Sim K N F' r' m H' → R F' r' H' d v → Q v H'
  | .exc x m => ∀ F' r' H' cls dd, Ext F r H F' r' H' → Sim K N F' r' m H' → RelX N F' r' x cls dd H' → W cls dd H'
  | .bad => False
/-- a reading by the evaluator -/
def tE {α β : Type} (R : (Addr → Prop) → List Addr → Hp → α → β → Prop) (W : WX) (f : Env → Mem → Res α) : L2.St → Hp → (β → Hp → Prop) → Prop := fun σ H Q =>
  ∃ F r env m, Sim K N F r m H ∧ SimE N F r H env σ ∧ RP K N R (WE W σ) F r H Q (f env m)
/-- a two-place operation -/
def rB (W : XK) (f : D → D → Mem → Res D) : R2 := fun x y H Q => ∃ F r m dx dy, Sim K N F r m H ∧ RelD N F r H dx x ∧ RelD N F r H dy y ∧ RP K N (RelD N) W F r H Q (f dx dy m)
def rU1 (W : XK) (f : D → Mem → Res D) : V → Hp → VK → Prop := fun x H Q => ∃ F r m dx, Sim K N F r m H ∧ RelD N F r H dx x ∧ RP K N (RelD N) W F r H Q (f dx m)
def rCl (W : XK) (f : List D → Mem → Res D) : List V → Hp → VK → Prop := fun xs H Q => ∃ F r m ds, Sim K N F r m H ∧ RelL N F r H ds xs ∧ RP K N (RelD N) W F r H Q (f ds m)
def rMt (W : XK) (f : D → List D → Mem → Res D) : V → List V → Hp → VK → Prop := fun x xs H Q => ∃ F r m dx ds, Sim K N F r m H ∧ RelD N F r H dx x ∧ RelL N F r H ds xs ∧ RP K N (RelD N) W F r H Q (f dx ds m)
end

section
variable {K : PySem.W.Frag} {N : Nm} {F F1 : Addr → Prop} {r r1 : List Addr} {H H1 : Hp} {m : Mem}
theorem RP.ext {α β : Type} {R : (Addr → Prop) → List Addr → Hp → α → β → Prop} {W : XK} {Q : β → Hp → Prop} {x : Res α} (h : RP K N R W F r H Q x) (e : Ext F r H F1 r1 H1) : RP K N R W F1 r1 H1 Q x := by
  cases x with
  | ok d m => exact fun F' r' H' v e' S q => h F' r' H' v (e.trans e') S q
  | exc x m => exact fun F' r' H' c d e' S q => h F' r' H' c d (e.trans e') S q
  | bad => exact h
/-- the first of two steps -/
theorem RP.split {α β γ δ : Type} {R : (Addr → Prop) → List Addr → Hp → α → β → Prop} {R' : (Addr → Prop) → List Addr → Hp → γ → δ → Prop} {W : WX} {σ : L2.St} {Q : δ → Hp → Prop} {P : β → Hp → Prop} {env : Env} {f : Env → Mem → Res α} {g : α → Mem → Res γ}
    (S : Sim K N F r m H) (SE : SimE N F r H env σ) (h : RP K N R' (WE W σ) F r H Q ((f env m).bind g))
    (k : ∀ F1 r1 H1 m1 d v, Ext F r H F1 r1 H1 → Sim K N F1 r1 m1 H1 → R F1 r1 H1 d v → RP K N R' (WE W σ) F1 r1 H1 Q (g d m1) → P v H1) : tE K N R W f σ H P := by
  refine ⟨F, r, env, m, S, SE, ?_⟩
  cases e : f env m with
  | ok d m1 =>
    rw [e] at h
    exact fun F' r' H' v x S' q => k F' r' H' m1 d v x S' q (RP.ext h x)
  | exc x m1 =>
    rw [e] at h
    exact h
  | bad =>
    rw [e] at h
    exact h
theorem RP.here {α β : Type} {R : (Addr → Prop) → List Addr → Hp → α → β → Prop} {W : XK} {Q : β → Hp → Prop} {d : α} {v : β} (S : Sim K N F r m H) (h : RP K N R W F r H Q (.ok d m)) (q : R F r H d v) : Q v H := h F r H v (Ext.refl F r H) S q
/-- a new object of ours -/
theorem RP.new {W : XK} {Q : VK} {o : O} {ob : HO} {p : Addr} (S : Sim K N F r m H) (h : RP K N (RelD N) W F r H Q (Ev.new m o)) (hp : H p = none) (ho : RelO N F (r ++ [p]) (upd H p ob) o p) : Q (.ref p) (upd H p ob) :=
  h F (r ++ [p]) (upd H p ob) (.ref p) (Ext.new S hp) (S.new hp ho) ⟨p, by rw [← S.len]; simp, rfl⟩
/-- a new tuple -/
theorem RP.tup {W : XK} {Q : VK} {xs : List D} {vs : List V} {p : Addr} (S : Sim K N F r m H) (h : RP K N (RelD N) W F r H Q (.ok (.tup xs) m)) (hp : H p = none) (hv : RelL N F r H xs vs) : Q (.ref p) (upd H p (.tup vs)) :=
  h F r (upd H p (.tup vs)) (.ref p) (Ext.fresh S hp) (S.fresh_ hp) ⟨p, vs, rfl, upd_same, hv.ext (Ext.fresh S hp)⟩

/-! ### what a datum is -/
theorem relD_int {i : Int} {v : V} (h : RelD N F r H (.int i) v) : v = .int i := h
theorem relD_str {i : Str} {v : V} (h : RelD N F r H (.str i) v) : v = .str i := h
theorem shown_cases (m : Mem) (x : D) : shown m x = x ∨ ∃ a, x = .ref a ∧ ((∃ xs, m[a]? = some (.lst xs) ∧ shown m x = .lst xs) ∨ (∃ xs, (m[a]? = some (.dK xs) ∨ m[a]? = some (.lk xs)) ∧ shown m x = .dK xs) ∨ ∃ xs, m[a]? = some (.dT xs) ∧ shown m x = .dT xs) := by
  cases x with
  | ref a =>
    cases e : m[a]? with
    | none => exact .inl (by simp only [shown, e])
    | some o =>
      cases o with
      | lst xs => exact .inr ⟨a, rfl, .inl ⟨xs, e, by simp only [shown, e]⟩⟩
      | dK xs => exact .inr ⟨a, rfl, .inr (.inl ⟨xs, .inl e, by simp only [shown, e]⟩)⟩
      | lk xs => exact .inr ⟨a, rfl, .inr (.inl ⟨xs, .inr e, by simp only [shown, e]⟩)⟩
      | dT xs => exact .inr ⟨a, rfl, .inr (.inr ⟨xs, e, by simp only [shown, e]⟩)⟩
      | ins c fs => exact .inl (by simp only [shown, e])
      | dead => exact .inl (by simp only [shown, e])
  | _ => exact .inl rfl
/-- a list, shown -/
theorem shown_lst (S : Sim K N F r m H) {x : D} {v : V} {xs : List D} (e : shown m x = .lst xs) (h : RelD N F r H x v) : ∃ a vs, v = .ref a ∧ Rd H a (.lst vs) ∧ RelL N F r H xs vs := by
  rcases shown_cases m x with q | ⟨i, rfl, ⟨ys, hm, q⟩ | ⟨ys, hm, q⟩ | ⟨ys, hm, q⟩⟩
  · rw [q] at e; subst e
    obtain ⟨a, vs, e, _, q, l⟩ := h
    exact ⟨a, vs, e, q, l⟩
  · rw [q] at e; cases e
    obtain ⟨a, hi, rfl⟩ := h
    obtain ⟨vs, q, l⟩ := S.ref hm hi
    exact ⟨a, vs, rfl, .inl q, l⟩
  · rw [q] at e; cases e
  · rw [q] at e; cases e
theorem shown_dK (S : Sim K N F r m H) {x : D} {v : V} {xs : List (Key × D)} (e : shown m x = .dK xs) (h : RelD N F r H x v) : ∃ a vs, v = .ref a ∧ Rd H a (.dK vs) ∧ RelP N F r H xs vs := by
  rcases shown_cases m x with q | ⟨i, rfl, ⟨ys, hm, q⟩ | ⟨ys, hm, q⟩ | ⟨ys, hm, q⟩⟩
  · rw [q] at e; subst e
    obtain ⟨a, vs, e, _, q, l⟩ := h
    exact ⟨a, vs, e, q, relK_P.mp l⟩
  · rw [q] at e; cases e
  · rw [q] at e; cases e
    obtain ⟨a, hi, rfl⟩ := h
    rcases hm with hm | hm
    · obtain ⟨vs, q, l⟩ := S.ref hm hi
      exact ⟨a, vs, rfl, .inl q, relK_P.mp l⟩
    · obtain ⟨vs, o, q, l⟩ := S.ref hm hi
      exact ⟨a, vs, rfl, .inr ⟨o, q⟩, relK_P.mp l⟩
  · rw [q] at e; cases e
theorem shown_dT (S : Sim K N F r m H) {x : D} {v : V} {xs : List (List Key × D)} (e : shown m x = .dT xs) (h : RelD N F r H x v) : ∃ a vs, v = .ref a ∧ Rd H a (.dT vs) ∧ RelP N F r H xs vs := by
  rcases shown_cases m x with q | ⟨i, rfl, ⟨ys, hm, q⟩ | ⟨ys, hm, q⟩ | ⟨ys, hm, q⟩⟩
  · rw [q] at e; subst e
    obtain ⟨a, vs, e, _, q, l⟩ := h
    exact ⟨a, vs, e, q, relT_P.mp l⟩
  · rw [q] at e; cases e
  · rw [q] at e; cases e
  · rw [q] at e; cases e
    obtain ⟨a, hi, rfl⟩ := h
    obtain ⟨vs, q, l⟩ := S.ref hm hi
    exact ⟨a, vs, rfl, .inl q, relT_P.mp l⟩
theorem shown_tup {x : D} {z : List D} (e : shown m x = .tup z) : x = .tup z := by
  rcases shown_cases m x with q | ⟨i, rfl, ⟨ys, hm, q⟩ | ⟨ys, hm, q⟩ | ⟨ys, hm, q⟩⟩
  · rw [q] at e; exact e
  all_goals (rw [q] at e; cases e)
theorem shown_str {x : D} {z : Str} (e : shown m x = .str z) : x = .str z := by
  rcases shown_cases m x with q | ⟨i, rfl, ⟨ys, hm, q⟩ | ⟨ys, hm, q⟩ | ⟨ys, hm, q⟩⟩
  · rw [q] at e; exact e
  all_goals (rw [q] at e; cases e)
theorem shown_int {x : D} {z : Int} (e : shown m x = .int z) : x = .int z := by
  rcases shown_cases m x with q | ⟨i, rfl, ⟨ys, hm, q⟩ | ⟨ys, hm, q⟩ | ⟨ys, hm, q⟩⟩
  · rw [q] at e; exact e
  all_goals (rw [q] at e; cases e)
theorem shown_bl {x : D} {z : Bool} (e : shown m x = .bl z) : x = .bl z := by
  rcases shown_cases m x with q | ⟨i, rfl, ⟨ys, hm, q⟩ | ⟨ys, hm, q⟩ | ⟨ys, hm, q⟩⟩
  · rw [q] at e; exact e
  all_goals (rw [q] at e; cases e)
theorem shown_non {x : D} (e : shown m x = .non) : x = .non := by
  rcases shown_cases m x with q | ⟨i, rfl, ⟨ys, hm, q⟩ | ⟨ys, hm, q⟩ | ⟨ys, hm, q⟩⟩
  · rw [q] at e; exact e
  all_goals (rw [q] at e; cases e)
theorem fits_le {n : Nat} (h : fits n = true) : n ≤ sizeLine := by
  rw [sizeLine_eq]
  exact of_decide_eq_true h
theorem toKey_rel {d : D} {k : Key} {v : V} (e : toKey d = some k) (h : RelD N F r H d v) : v = kV k := by
  cases d with
  | int i => cases e; exact h
  | str s => cases e; exact h
  | _ => cases e
theorem toKeys_rel : ∀ {ds : List D} {ks : List Key} {vs : List V}, toKeys ds = some ks → RelL N F r H ds vs → vs = ks.map kV
  | [], _, _, e, h => by cases e; exact h
  | d :: ds, ks, _, e, h => by
    obtain ⟨v, ws, rfl, a, b⟩ := h
    unfold toKeys at e
    cases h1 : toKey d with
    | none => rw [h1] at e; cases e
    | some k =>
      cases h2 : toKeys ds with
      | none => rw [h1, h2] at e; cases e
      | some q =>
        rw [h1, h2] at e
        cases e
        rw [toKey_rel h1 a, toKeys_rel h2 b] <;> rfl
end

/-! ### operators -/
section
variable {X : Cx} {N : Nm} {W : XK}
theorem lstR {pins : List (Addr × Obj)} {σ : L2.St} {H : Hp} {s : Shared} {l : Addr} {xs : List V} (I : Inv X pins σ H s) (h : Rd H l (.lst xs)) : xs.length ≤ sizeLine ∧ ∃ (its : List Value) (n : Nat), Vals xs its ∧ s.heap.get? l = some { cls := .type "list", data := .seq its.toArray n } := by
  obtain ⟨z, its, n, r, e⟩ := h.ok I.hok
  exact ⟨z, its, n, r, e⟩
/-- list + list, of any that can be read -/
theorem op_catR : OpR X (binaryOp .Add) (fun x y H Q => ∃ l b xs zs, x = .ref l ∧ y = .ref b ∧ Rd H l (.lst xs) ∧ Rd H b (.lst zs) ∧ xs.length + zs.length ≤ sizeLine ∧ ∀ p, H p = none → Q (.ref p) (upd H p (.lst (xs ++ zs)))) := by
  intro pins s σ H x y v u Q I rx ry h
  obtain ⟨l, b, xs, zs, rfl, rfl, hH, hB, hz, q⟩ := h
  cases rx
  cases ry
  obtain ⟨z, its, n, r, e⟩ := lstR I hH
  obtain ⟨z2, its2, n2, r2, e2⟩ := lstR I hB
  have hl := r.length
  have hl2 := r2.length
  refine PySem.P.add_list e e2 ?_ (by rw [List.size_toArray, List.size_toArray]; omega)
  have ea : its.toArray ++ its2.toArray = (its ++ its2).toArray := by simp
  rw [ea]
  exact ⟨.ref _, _, I.lnew (t' := s.toks) (r.append r2) (by rw [List.length_append]; omega), rfl, q _ I.fresh⟩
end
end Ev
/-! EvD: operators, subscripts, slices. -/
namespace Ev
open PySem L2
section
variable {X : Cx} {N : Nm} {W : XK}
theorem opr_add : OpR X (binaryOp .Add) (rB X.K N W (binD .add)) := by
  intro pins s σ H x y v u Q I rx ry h
  obtain ⟨F, r, m, dx, dy, S, hx, hy, h⟩ := h
  simp only [binD] at h
  split at h
  · cases (relD_int hx); cases (relD_int hy)
    exact op_add pins s σ H _ _ v u Q I rx ry ⟨_, _, rfl, rfl, RP.here S h rfl⟩
  · cases (relD_str hx); cases (relD_str hy)
    split at h
    · rename_i hf
      exact op_add_str pins s σ H _ _ v u Q I rx ry ⟨_, _, rfl, rfl, fits_le hf, RP.here S h rfl⟩
    · exact h.elim
  · split at h
    · rename_i xs ys hf
      obtain ⟨a, vs, rfl, ha, la⟩ := hx
      obtain ⟨b, ws, rfl, hb, lb⟩ := hy
      refine op_catA pins s σ H _ _ v u Q I rx ry ⟨a, b, vs, ws, rfl, rfl, SqT.of ha, SqT.of hb, ?_, fun e => ?_, fun _ e => ?_, fun _ _ p hp => ?_⟩
      · have := fits_le hf
        rw [la.length, lb.length] at this
        exact this
      · refine RP.here S h ⟨b, ws, rfl, hb, ?_⟩
        have q := la.append lb
        rw [e, List.nil_append] at q
        exact q
      · refine RP.here S h ⟨a, vs, rfl, ha, ?_⟩
        have q := la.append lb
        rw [e, List.append_nil] at q
        exact q
      · exact RP.tup S h hp (la.append lb)
    · exact h.elim
  · split at h
    · rename_i xs ys e1 e2
      split at h
      · rename_i hf
        obtain ⟨a, vs, rfl, ha, la⟩ := shown_lst S e1 hx
        obtain ⟨b, ws, rfl, hb, lb⟩ := shown_lst S e2 hy
        have := fits_le hf
        rw [la.length, lb.length] at this
        exact op_catR pins s σ H _ _ v u Q I rx ry ⟨a, b, vs, ws, rfl, rfl, ha, hb, this, fun p hp => RP.new S h hp ⟨_, upd_same, (la.append lb).ext (Ext.new S hp)⟩⟩
      · exact h.elim
    · exact h.elim
theorem opr_sub : OpR X (binaryOp .Sub) (rB X.K N W (binD .sub)) := by
  intro pins s σ H x y v u Q I rx ry h
  obtain ⟨F, r, m, dx, dy, S, hx, hy, h⟩ := h
  simp only [binD] at h
  split at h
  · cases (relD_int hx); cases (relD_int hy)
    exact op_sub pins s σ H _ _ v u Q I rx ry ⟨_, _, rfl, rfl, RP.here S h rfl⟩
  · exact h.elim
theorem mulOk_of {i j : Int} (h : mulOk i j = true) : CMul i j ∨ CMulW i j := by
  unfold mulOk at h
  simp only [Bool.or_eq_true, Bool.and_eq_true, decide_eq_true_eq] at h
  rcases h with (h | h) | ⟨h1, h2⟩
  · exact .inl (.inl (by omega))
  · exact .inl (.inr (by omega))
  · exact .inr (wide_mul h1 h2 (by decide) (by decide) (by decide))
theorem foldl_app (z : Array Nat) : ∀ (n : Nat) (acc : Array Nat), (List.replicate n z).foldl (· ++ ·) acc = acc ++ (List.replicate n z.toList).flatten.toArray
  | 0, acc => by simp
  | n + 1, acc => by
    rw [List.replicate_succ, List.replicate_succ, List.foldl_cons, foldl_app z n, List.flatten_cons]
    apply Array.ext'
    simp
theorem repS_len (z : Str) (n : Nat) : (repS z n).length = z.length * n := by
  show (repS z n).cps.size = z.cps.size * n
  simp [repS, Nat.mul_comm]
theorem op_mulS : OpR X (binaryOp .Mult) (fun x y H Q => ∃ z j, x = .str z ∧ y = .int j ∧ 0 ≤ j ∧ j < 16777216 ∧ z.length * j.toNat ≤ sizeLine ∧ Q (.str (repS z j.toNat)) H) := by
  intro pins s σ H x y v u Q I rx ry h
  obtain ⟨z, j, rfl, rfl, h1, h2, hz, q⟩ := h
  obtain ⟨t, rfl⟩ := rx
  obtain ⟨t', rfl⟩ := ry
  have hs : sizeLine = 16777216 := sizeLine_eq
  have hz2 : z.length * j.toNat ≤ 16777216 := by rw [← hs]; exact hz
  refine PySem.P.mul_str ?_ ?_ ?_ ?_
  · have a : ¬ j < -(2 ^ 63 : Int) := by omega
    have b : ¬ j ≥ 2 ^ 63 := by omega
    rw [decide_eq_false a, decide_eq_false b]; rfl
  · intro hj _ hc
    have hj' : 1 ≤ j := by omega
    obtain ⟨n, rfl⟩ := Int.eq_ofNat_of_zero_le h1
    have h3 : z.length ≤ 16777216 := by
      have h4 : z.length * 1 ≤ z.length * n := Nat.mul_le_mul_left _ (by omega)
      have h5 : z.length * n ≤ 16777216 := hz2
      omega
    have h6 : (z.length : Int) ≤ (2 ^ 63 - 1) / (n : Int) := by
      rw [Int.le_ediv_iff_mul_le (by omega)]
      have h8 : (z.length : Int) * (n : Int) ≤ 16777216 := by
        have h5 : z.length * n ≤ 16777216 := hz2
        have h9 := Int.ofNat_le.mpr h5
        rw [Int.natCast_mul] at h9
        exact h9
      omega
    exact absurd h6 (by omega)
  · intro _ _
    exact decide_eq_false (by omega)
  · have fin : ∀ w : Str, w = repS z j.toNat → ∀ k, EP X pins σ Q (.str w k) { s with toks := s.toks + 1 } := fun w e k => ⟨.str w, H, I.tok _, ⟨_, rfl⟩, by rw [e]; exact q⟩
    split
    · rename_i hj
      have e0 : j = 0 := by omega
      subst e0
      exact ⟨by decide, fin _ (by rfl) _⟩
    · split
      · rename_i hj hk
        have e2 : repS z j.toNat = z := by
          rcases Bool.or_eq_true _ _ ▸ hk with e | e
          · have : j = 1 := by simpa using e
            subst this
            show (⟨_⟩ : Str) = z
            simp [repS]
          · have : z.cps.size = 0 := beq_iff_eq.mp e
            have e3 : z.cps = #[] := Array.eq_empty_of_size_eq_zero this
            cases z
            simp at e3
            subst e3
            simp [repS]
        rw [e2] at q
        exact ⟨.str z, H, I, ⟨_, rfl⟩, q⟩
      · refine ⟨?_, fin _ ?_ _⟩
        · have := repS_len z j.toNat
          rw [foldl_app]
          simp [repS, Str.length] at this ⊢
          rw [hs]
          rw [Nat.mul_comm]
          exact hz2
        · rw [foldl_app]
          simp [repS]
theorem relL_rep {F : Addr → Prop} {r : List Addr} {H : Hp} {xs : List D} {vs : List V} : ∀ n : Nat, RelL N F r H xs vs → RelL N F r H (List.replicate n xs).flatten (List.replicate n vs).flatten
  | 0, _ => rfl
  | n + 1, l => by
    rw [List.replicate_succ, List.replicate_succ, List.flatten_cons, List.flatten_cons]
    exact l.append (relL_rep n l)
theorem opr_mul : OpR X (binaryOp .Mult) (rB X.K N W (binD .mul)) := by
  intro pins s σ H x y v u Q I rx ry h
  obtain ⟨F, r, m, dx, dy, S, hx, hy, h⟩ := h
  simp only [binD] at h
  split at h
  · split at h
    · rename_i hm
      cases (relD_int hx); cases (relD_int hy)
      rcases mulOk_of hm with c | c
      · exact op_mul pins s σ H _ _ v u Q I rx ry ⟨_, _, rfl, rfl, c, RP.here S h rfl⟩
      · exact op_mulW pins s σ H _ _ v u Q I rx ry ⟨_, _, rfl, rfl, c, RP.here S h rfl⟩
    · exact h.elim
  · split at h
    · rename_i hm
      cases (relD_str hx); cases (relD_int hy)
      exact op_mulS pins s σ H _ _ v u Q I rx ry ⟨_, _, rfl, rfl, hm.1, hm.2.1, fits_le hm.2.2, RP.here S h rfl⟩
    · exact h.elim
  · split at h
    · rename_i xs em
      split at h
      · rename_i hm
        cases (relD_int hy)
        obtain ⟨ad, hi, rfl⟩ := hx
        obtain ⟨vs, eH, l⟩ := S.ref em hi
        refine op_rep pins s σ H _ _ v u Q I rx ry ⟨ad, _, vs, rfl, rfl, eH, by omega, by omega, by rw [← l.length]; exact fits_le hm.2.2, fun p hp => RP.new S h hp ⟨_, upd_same, (relL_rep _ l).ext (Ext.new S hp)⟩⟩
      · exact h.elim
    · exact h.elim
  · exact h.elim
theorem op_fdivA : OpR X (binaryOp .FloorDiv) (rI (fun _ j => j ≠ 0 ∧ j.natAbs < 2 ^ 9000) fun i j => .int (i.fdiv j)) := opI fun _ _ _ _ _ _ _ hc q =>
  PyProof.Rows.floordiv_int hc.1 q (.inl (PyProof.noPylong_of_log2 (PySem.Flt.log2_lt_of (by decide) hc.2)))
theorem opr_fdiv : OpR X (binaryOp .FloorDiv) (rB X.K N W (binD .fdiv)) := by
  intro pins s σ H x y v u Q I rx ry h
  obtain ⟨F, r, m, dx, dy, S, hx, hy, h⟩ := h
  simp only [binD] at h
  split at h
  · split at h
    · rename_i hm
      cases (relD_int hx); cases (relD_int hy)
      exact op_fdivA pins s σ H _ _ v u Q I rx ry ⟨_, _, rfl, rfl, hm, RP.here S h rfl⟩
    · exact h.elim
  · exact h.elim
theorem opr_mod : OpR X (binaryOp .Mod) (rB X.K N W (binD .mod)) := by
  intro pins s σ H x y v u Q I rx ry h
  obtain ⟨F, r, m, dx, dy, S, hx, hy, h⟩ := h
  simp only [binD] at h
  split at h
  · split at h
    · rename_i hm
      cases (relD_int hx); cases (relD_int hy)
      exact op_modN pins s σ H _ _ v u Q I rx ry ⟨_, _, rfl, rfl, hm, RP.here S h rfl⟩
    · exact h.elim
  · exact h.elim
theorem opr_pow : OpR X (binaryOp .Pow) (rB X.K N W (binD .pow)) := by
  intro pins s σ H x y v u Q I rx ry h
  obtain ⟨F, r, m, dx, dy, S, hx, hy, h⟩ := h
  simp only [binD] at h
  split at h
  · split at h
    · rename_i hm
      cases (relD_int hx); cases (relD_int hy)
      exact op_pow pins s σ H _ _ v u Q I rx ry ⟨_, _, rfl, rfl, hm, RP.here S h rfl⟩
    · exact h.elim
  · exact h.elim
theorem opr_shl : OpR X (binaryOp .LShift) (rB X.K N W (binD .shl)) := by
  intro pins s σ H x y v u Q I rx ry h
  obtain ⟨F, r, m, dx, dy, S, hx, hy, h⟩ := h
  simp only [binD] at h
  split at h
  · split at h
    · rename_i hm
      cases (relD_int hx); cases (relD_int hy)
      exact op_shl pins s σ H _ _ v u Q I rx ry ⟨_, _, rfl, rfl, hm, RP.here S h rfl⟩
    · exact h.elim
  · exact h.elim
theorem opr_shr : OpR X (binaryOp .RShift) (rB X.K N W (binD .shr)) := by
  intro pins s σ H x y v u Q I rx ry h
  obtain ⟨F, r, m, dx, dy, S, hx, hy, h⟩ := h
  simp only [binD] at h
  split at h
  · split at h
    · rename_i hm
      cases (relD_int hx); cases (relD_int hy)
      exact op_shr pins s σ H _ _ v u Q I rx ry ⟨_, _, rfl, rfl, hm, RP.here S h rfl⟩
    · exact h.elim
  · exact h.elim
theorem opr_band : OpR X (binaryOp .BitAnd) (rB X.K N W (binD .band)) := by
  intro pins s σ H x y v u Q I rx ry h
  obtain ⟨F, r, m, dx, dy, S, hx, hy, h⟩ := h
  simp only [binD] at h
  split at h
  · cases (relD_int hx); cases (relD_int hy)
    exact op_and pins s σ H _ _ v u Q I rx ry ⟨_, _, rfl, rfl, RP.here S h rfl⟩
  · exact h.elim
theorem opr_bor : OpR X (binaryOp .BitOr) (rB X.K N W (binD .bor)) := by
  intro pins s σ H x y v u Q I rx ry h
  obtain ⟨F, r, m, dx, dy, S, hx, hy, h⟩ := h
  simp only [binD] at h
  split at h
  · cases (relD_int hx); cases (relD_int hy)
    exact op_or pins s σ H _ _ v u Q I rx ry ⟨_, _, rfl, rfl, RP.here S h rfl⟩
  · exact h.elim
theorem opr_bxor : OpR X (binaryOp .BitXor) (rB X.K N W (binD .bxor)) := by
  intro pins s σ H x y v u Q I rx ry h
  obtain ⟨F, r, m, dx, dy, S, hx, hy, h⟩ := h
  simp only [binD] at h
  split at h
  · cases (relD_int hx); cases (relD_int hy)
    exact op_xor pins s σ H _ _ v u Q I rx ry ⟨_, _, rfl, rfl, RP.here S h rfl⟩
  · exact h.elim
/-- the text's operator -/
def bop : BOp → Operator
  | .add => .Add | .sub => .Sub | .mul => .Mult | .fdiv => .FloorDiv | .mod => .Mod | .pow => .Pow | .shl => .LShift | .shr => .RShift | .band => .BitAnd | .bor => .BitOr | .bxor => .BitXor
theorem opr_bin (o : BOp) : OpR X (binaryOp (bop o)) (rB X.K N W (binD o)) := by
  cases o
  · exact opr_add
  · exact opr_sub
  · exact opr_mul
  · exact opr_fdiv
  · exact opr_mod
  · exact opr_pow
  · exact opr_shl
  · exact opr_shr
  · exact opr_band
  · exact opr_bor
  · exact opr_bxor
theorem unr_neg : UnR X (unaryOp .USub) (rU1 X.K N W negD) := by
  intro pins s σ H x v Q I rx h
  obtain ⟨F, r, m, dx, S, hx, h⟩ := h
  unfold negD at h
  split at h
  · cases (relD_int hx)
    exact un_neg pins s σ H _ v Q I rx ⟨_, rfl, RP.here S h rfl⟩
  · exact h.elim

/-! ### a[i] -/
theorem atI_rel {F : Addr → Prop} {r : List Addr} {H : Hp} {xs : List D} {vs : List V} {i : Int} {d : D} (l : RelL N F r H xs vs) (e : atI xs i = some d) : ∃ v, atI vs i = some v ∧ RelD N F r H d v := by
  unfold atI at e ⊢
  rw [← l.length]
  cases q : ixN xs.length i with
  | none => rw [q] at e; cases e
  | some j =>
    rw [q] at e
    exact l.get e
theorem RP.opt_some {α β : Type} {K : PySem.W.Frag} {R : (Addr → Prop) → List Addr → Hp → α → β → Prop} {W : XK} {F : Addr → Prop} {r : List Addr} {H : Hp} {m : Mem} {Q : β → Hp → Prop} {o : Option α} (h : RP K N R W F r H Q (Res.opt o m)) : ∃ a, o = some a ∧ RP K N R W F r H Q (.ok a m) := by
  cases o with
  | none => exact h.elim
  | some a => exact ⟨a, rfl, h⟩
theorem lookT_of {kvs : List (List Key × D)} {y d : D} (h : (match y with | .tup ks => (match toKeys ks with | some k => lookK kvs k | none => none) | _ => none) = some d) : ∃ ks k, y = .tup ks ∧ toKeys ks = some k ∧ lookK kvs k = some d := by
  split at h
  · rename_i ks
    split at h
    · rename_i k e
      exact ⟨ks, k, rfl, e, h⟩
    · cases h
  · cases h
theorem ix_dget (hu : X.A.units + 1 < cLine) : IxR X (fun x y H Q => ∃ a v, x = .ref a ∧ DGet H a y (some v) ∧ Q v H) := by
  intro value slice pins s σ H x y v u Q I rx ry h hs
  obtain ⟨a, w, rfl, g, q⟩ := h
  obtain rfl : v = Value.ref a := rx
  exact PyProof.Rows.tail_any (dict_typeIs I g) PySem.F.slot_dict_getitem.lookup (d_getItem hu I g ry fun w' s3 I3 rw' => ⟨w, H, I3, rw', q⟩) hs
theorem dgetK {H : Hp} {a : Addr} {kvs : List (Key × V)} {k : Key} (e : Rd H a (.dK kvs)) : DGet H a (kV k) (valV kvs k) := .inl ⟨kvs, k, e, rfl, rfl⟩
theorem dgetT {H : Hp} {a b : Addr} {kvs : List (List Key × V)} {k : List Key} (e : Rd H a (.dT kvs)) (eb : H b = some (.tup (k.map kV))) : DGet H a (.ref b) (valV kvs k) := .inr ⟨kvs, k, b, e, rfl, eb, rfl⟩
theorem ixr_idx (hu : X.A.units + 1 < cLine) : IxR X (rB X.K N W fun x y m => Res.opt (idxD x y m) m) := by
  intro value slice pins s σ H x y v u Q I rx ry h hs
  obtain ⟨F, r, m, dx, dy, S, hx, hy, h0⟩ := h
  obtain ⟨d, e, h⟩ := RP.opt_some h0
  clear h0
  unfold idxD at e
  split at e
  · rename_i xs e1
    split at e
    · rename_i i
      have e1 := shown_tup e1
      subst e1
      cases (relD_int hy)
      obtain ⟨a, vs, rfl, ha, la⟩ := hx
      obtain ⟨w, hw, rw⟩ := atI_rel la e
      exact ix_tup value slice pins s σ H _ _ v u Q I rx ry ⟨a, vs, i, w, rfl, rfl, SqT.of ha, hw, RP.here S h rw⟩ hs
    · cases e
  · rename_i xs e1
    split at e
    · rename_i i
      cases (relD_int hy)
      obtain ⟨a, vs, rfl, ha, la⟩ := shown_lst S e1 hx
      obtain ⟨w, hw, rw⟩ := atI_rel la e
      exact ix_list value slice pins s σ H _ _ v u Q I rx ry ⟨a, vs, i, w, rfl, rfl, .inl ha, hw, RP.here S h rw⟩ hs
    · cases e
  · rename_i z e1
    split at e
    · rename_i i
      split at e
      · rename_i hf
        have e1 := shown_str e1
        subst e1
        cases (relD_int hy); cases (relD_str hx)
        obtain ⟨c, hc, rfl⟩ := Option.map_eq_some_iff.mp e
        exact ix_str value slice pins s σ H _ _ v u Q I rx ry ⟨z, i, c, rfl, rfl, fits_le hf, hc, RP.here S h rfl⟩ hs
      · cases e
    · cases e
  · rename_i kvs e1
    split at e
    · rename_i k ek
      obtain ⟨a, vs, rfl, ha, la⟩ := shown_dK S e1 hx
      have ey := toKey_rel ek hy
      subst ey
      obtain ⟨w, hw, rw⟩ := la.look_some e
      refine ix_dget hu value slice pins s σ H _ _ v u Q I rx ry ⟨a, w, rfl, ?_, RP.here S h rw⟩ hs
      rw [← hw]
      exact dgetK ha
    · cases e
  · rename_i kvs e1
    split at e
    · rename_i ks
      split at e
      · rename_i k ek
        obtain ⟨a, vs, rfl, ha, la⟩ := shown_dT S e1 hx
        obtain ⟨b, ws, rfl, hb, lb⟩ := hy
        have ey := toKeys_rel ek lb
        subst ey
        obtain ⟨w, hw, rw⟩ := la.look_some e
        refine ix_dget hu value slice pins s σ H _ _ v u Q I rx ry ⟨a, w, rfl, ?_, RP.here S h rw⟩ hs
        rw [← hw]
        exact dgetT ha hb
      · cases e
    · cases e
  · cases e

/-! ### a[lo:hi] -/
theorem cutL_rel {F : Addr → Prop} {r : List Addr} {H : Hp} {xs : List D} {vs : List V} {lo hi : Option Int} (l : RelL N F r H xs vs) : RelL N F r H (cutL xs lo hi) (cutV vs lo hi) := by
  unfold cutL cutV
  rw [l.length]
  exact (l.drop _).take _
theorem cut_whole {α : Type} {xs : List α} {lo hi : Option Int} (h : HT.sIx xs.length 0 lo = 0 ∧ HT.sIx xs.length xs.length hi = xs.length) : cutL xs lo hi = xs := by
  unfold cutL
  rw [h.1, h.2]
  simp
theorem slr_slc : SlR X (fun x lo hi H Q => ∃ F r m dx, Sim X.K N F r m H ∧ RelD N F r H dx x ∧ RP X.K N (RelD N) W F r H Q (slcD dx lo hi m)) := by
  intro pins s σ H x v vl vu lo hi sl Q I rx hs pl pu h
  obtain ⟨F, r, m, dx, S, hx, h⟩ := h
  unfold slcD at h
  split at h
  · rename_i xs e1
    have e1 := shown_tup e1
    subst e1
    obtain ⟨a, vs, rfl, ha, la⟩ := hx
    refine sl_tupA pins s σ H _ v vl vu lo hi sl Q I rx hs pl pu ⟨a, vs, rfl, SqT.of ha, fun hw => ?_, fun _ p hp => RP.tup S h hp (cutL_rel la)⟩
    rw [← la.length] at hw
    rw [cut_whole hw] at h
    exact RP.here S h ⟨a, vs, rfl, ha, la⟩
  · rename_i xs e1
    obtain ⟨a, vs, rfl, ha, la⟩ := shown_lst S e1 hx
    exact sl_list pins s σ H _ v vl vu lo hi sl Q I rx hs pl pu ⟨a, vs, rfl, .inl ha, fun p hp => RP.new S h hp ⟨_, upd_same, (cutL_rel la).ext (Ext.new S hp)⟩⟩
  · rename_i z e1
    have e1 := shown_str e1
    subst e1
    split at h
    · rename_i hf
      cases (relD_str hx)
      exact sl_str pins s σ H _ v vl vu lo hi sl Q I rx hs pl pu ⟨z, rfl, fits_le hf, RP.here S h rfl⟩
    · exact h.elim
  · exact h.elim

/-! ### truth -/
theorem tru_rel {F : Addr → Prop} {r : List Addr} {H : Hp} {K : PySem.W.Frag} {m : Mem} {d : D} {v : V} {b : Bool} (S : Sim K N F r m H) (h : RelD N F r H d v) (e : truD d m = some b) : (∃ kvs, ∃ a, v = .ref a ∧ Rd H a (.dK kvs) ∧ b = !kvs.isEmpty) ∨ TruV K v H b := by
  unfold truD at e
  split at e
  · rename_i e1
    have e1 := shown_non e1
    subst e1
    cases (show v = .non from h)
    cases e
    exact .inr rfl
  · rename_i z e1
    have e1 := shown_bl e1
    subst e1
    cases (show v = .bl z from h)
    cases e
    exact .inr rfl
  · rename_i z e1
    have e1 := shown_int e1
    subst e1
    cases (show v = .int z from h)
    cases e
    exact .inr rfl
  · rename_i z e1
    have e1 := shown_str e1
    subst e1
    cases (show v = .str z from h)
    split at e
    · rename_i hf
      cases e
      exact .inr ⟨fits_le hf, rfl⟩
    · cases e
  · rename_i xs e1
    have e1 := shown_tup e1
    subst e1
    obtain ⟨a, vs, rfl, ha, la⟩ := h
    cases e
    refine .inr (.inr (.inl ⟨vs, SqT.of ha, ?_⟩))
    have := la.length
    cases xs <;> cases vs <;> simp at this ⊢
  · rename_i xs e1
    obtain ⟨a, vs, rfl, ha, la⟩ := shown_lst S e1 h
    cases e
    refine .inr (.inl ⟨vs, .inl ha, ?_⟩)
    have := la.length
    cases xs <;> cases vs <;> simp at this ⊢
  · rename_i xs e1
    obtain ⟨a, vs, rfl, ha, la⟩ := shown_dK S e1 h
    cases e
    refine .inl ⟨vs, a, rfl, ha, ?_⟩
    have := la.length
    cases xs <;> cases vs <;> simp at this ⊢
  · cases e
end
end Ev
/-! EvE0: == of a dict and a thing of another kind (printed by gen/eq0.py). -/
namespace PySem.SeqAt
open AutoSeq1 (wpAny_loadPart')
open MeetsSeq
/-- a dict stands at d -/
def IsDct (h : Heap) (d : Addr) : Prop := ∃ o : Obj, h.get? d = some o ∧ o.cls = .type "dict" ∧ ∃ es n, o.data = .dict es n
theorem dict_eq_declines_none (l : Addr) (es : Array DictEntry) (n : Nat) (dd : Option Addr) (sl : Array (Option Value)) :
    Meets (Builtin.«dict.__eq__» ⟨[.ref l, .none], []⟩) (fun _ R s => s.heap.get? l = some { cls := .type "dict", dict := dd, data := .dict es n, slots := sl } ∧ R (.ok (.ret .notImplemented)) s) :=
  .of_wp fun prog w A R s h => by obtain ⟨hp, g, d, tk, os⟩ := s; obtain ⟨hl, h⟩ := h; have f1 := F.sub_NoneType_dict; wp_walk using wpAny_loadPart' hl; exact ⟨_, rfl, h⟩
theorem dict_eq_declines_bool (l : Addr) (es : Array DictEntry) (n : Nat) (dd : Option Addr) (sl : Array (Option Value)) (b : Bool) :
    Meets (Builtin.«dict.__eq__» ⟨[.ref l, .bool b], []⟩) (fun _ R s => s.heap.get? l = some { cls := .type "dict", dict := dd, data := .dict es n, slots := sl } ∧ R (.ok (.ret .notImplemented)) s) :=
  .of_wp fun prog w A R s h => by obtain ⟨hp, g, d, tk, os⟩ := s; obtain ⟨hl, h⟩ := h; have f1 := F.sub_bool_dict; wp_walk using wpAny_loadPart' hl; exact ⟨_, rfl, h⟩
theorem dict_eq_declines_int (l : Addr) (es : Array DictEntry) (n : Nat) (dd : Option Addr) (sl : Array (Option Value)) (b : Int) (u : Tok) :
    Meets (Builtin.«dict.__eq__» ⟨[.ref l, .int b u], []⟩) (fun _ R s => s.heap.get? l = some { cls := .type "dict", dict := dd, data := .dict es n, slots := sl } ∧ R (.ok (.ret .notImplemented)) s) :=
  .of_wp fun prog w A R s h => by obtain ⟨hp, g, d, tk, os⟩ := s; obtain ⟨hl, h⟩ := h; have f1 := F.sub_int_dict; wp_walk using wpAny_loadPart' hl; exact ⟨_, rfl, h⟩
theorem dict_eq_declines_str (l : Addr) (es : Array DictEntry) (n : Nat) (dd : Option Addr) (sl : Array (Option Value)) (b : Str) (u : Tok) :
    Meets (Builtin.«dict.__eq__» ⟨[.ref l, .str b u], []⟩) (fun _ R s => s.heap.get? l = some { cls := .type "dict", dict := dd, data := .dict es n, slots := sl } ∧ R (.ok (.ret .notImplemented)) s) :=
  .of_wp fun prog w A R s h => by obtain ⟨hp, g, d, tk, os⟩ := s; obtain ⟨hl, h⟩ := h; have f1 := F.sub_str_dict; wp_walk using wpAny_loadPart' hl; exact ⟨_, rfl, h⟩
theorem int_eq_declines_dict_bool (b : Bool) (l : Addr) (c : Value) (es : Array DictEntry) (n : Nat) (dd : Option Addr) (sl : Array (Option Value)) :
    Meets (Builtin.«int.__eq__» ⟨[.bool b, .ref l], []⟩) (fun _ R s => s.heap.get? l = some { cls := c, dict := dd, data := .dict es n, slots := sl } ∧ R (.ok (.ret .notImplemented)) s) :=
  .of_wp fun prog w A R s h => by obtain ⟨hp, g, d, tk, os⟩ := s; obtain ⟨hl, h⟩ := h; wp_walk using wpAny_loadPart' hl, wpAny_load hl; exact ⟨_, rfl, h⟩
theorem int_eq_declines_dict_int (b : Int) (u : Tok) (l : Addr) (c : Value) (es : Array DictEntry) (n : Nat) (dd : Option Addr) (sl : Array (Option Value)) :
    Meets (Builtin.«int.__eq__» ⟨[.int b u, .ref l], []⟩) (fun _ R s => s.heap.get? l = some { cls := c, dict := dd, data := .dict es n, slots := sl } ∧ R (.ok (.ret .notImplemented)) s) :=
  .of_wp fun prog w A R s h => by obtain ⟨hp, g, d, tk, os⟩ := s; obtain ⟨hl, h⟩ := h; wp_walk using wpAny_loadPart' hl, wpAny_load hl; exact ⟨_, rfl, h⟩
theorem str_eq_declines_dict_str (b : Str) (u : Tok) (l : Addr) (c : Value) (es : Array DictEntry) (n : Nat) (dd : Option Addr) (sl : Array (Option Value)) :
    Meets (Builtin.«str.__eq__» ⟨[.str b u, .ref l], []⟩) (fun _ R s => s.heap.get? l = some { cls := c, dict := dd, data := .dict es n, slots := sl } ∧ R (.ok (.ret .notImplemented)) s) :=
  .of_wp fun prog w A R s h => by obtain ⟨hp, g, d, tk, os⟩ := s; obtain ⟨hl, h⟩ := h; wp_walk using wpAny_loadPart' hl, wpAny_load hl; exact ⟨_, rfl, h⟩
section
variable {A : Around} {s : Shared}
theorem RcAt.dict_none {l : Addr} (hl : IsDct s.heap l) (hu : A.units < cLine) : RcAt A s (.ref l) .none false := fun prog w E Q h => by
  obtain ⟨⟨cls, dd, data, sl⟩, ho, hc, es, n, hd⟩ := id hl
  simp only at hc hd
  subst hc hd
  exact rc_eq_decline_or (k := false) ⟨_, ho, rfl⟩ rfl (by decide) F.sub_NoneType_dict F.slot_dict_eq F.slot_NoneType_eq_refl
    (fun _ hq => call_meets F.slot_dict_eq ⟨_, ho, rfl⟩ F.entry_dict_eq (F.args_dict_eq_2 _ _) (dict_eq_declines_none l es n dd sl ) ⟨ho, hq⟩)
    (fun _ hq => call_gives F.slot_NoneType_eq_refl rfl F.entry_NoneType_eq (F.args_NoneType_eq_2 _ _) (NoneType___eq___none_ref_0 l) hq)
    (fun _ hq => wpAny_of_eq (rfl : isSame (.ref l) .none = pure false) hq) (.inr hu) h
theorem RcAt.none_dict {l : Addr} (hl : IsDct s.heap l) (hu : A.units < cLine) : RcAt A s .none (.ref l) false := fun prog w E Q h => by
  obtain ⟨⟨cls, dd, data, sl⟩, ho, hc, es, n, hd⟩ := id hl
  simp only at hc hd
  subst hc hd
  exact rc_eq_decline_or (k := false) rfl ⟨_, ho, rfl⟩ (by decide) F.sub_dict_NoneType F.slot_NoneType_eq F.slot_dict_eq_refl
    (fun _ hq => call_gives F.slot_NoneType_eq rfl F.entry_NoneType_eq (F.args_NoneType_eq_2 _ _) (NoneType___eq___none_ref_0 l) hq)
    (fun _ hq => call_meets F.slot_dict_eq_refl ⟨_, ho, rfl⟩ F.entry_dict_eq (F.args_dict_eq_2 _ _) (dict_eq_declines_none l es n dd sl ) ⟨ho, hq⟩)
    (fun _ hq => wpAny_of_eq (rfl : isSame .none (.ref l) = pure false) hq) (.inr hu) h
theorem EqAt.dict_none {l : Addr} (hl : IsDct s.heap l) (hu : A.units < cLine) : EqAt A s (.ref l) .none false := fun prog w E Q h => by
  unfold eqBool
  refine wpAny_holding ?_
  refine wpAny_ite_split (fun hab => absurd (eq_of_beq hab) nofun) (fun _ => ?_)
  exact wpAny_bind (RcAt.dict_none hl hu prog w E _ (wpAny_truthy_bool h))
theorem EqAt.none_dict {l : Addr} (hl : IsDct s.heap l) (hu : A.units < cLine) : EqAt A s .none (.ref l) false := fun prog w E Q h => by
  unfold eqBool
  refine wpAny_holding ?_
  refine wpAny_ite_split (fun hab => absurd (eq_of_beq hab) nofun) (fun _ => ?_)
  exact wpAny_bind (RcAt.none_dict hl hu prog w E _ (wpAny_truthy_bool h))
theorem RcAt.dict_bool {l : Addr} (b : Bool) (hl : IsDct s.heap l) (hu : A.units < cLine) : RcAt A s (.ref l) (.bool b) false := fun prog w E Q h => by
  obtain ⟨⟨cls, dd, data, sl⟩, ho, hc, es, n, hd⟩ := id hl
  simp only at hc hd
  subst hc hd
  exact rc_eq_decline_or (k := false) ⟨_, ho, rfl⟩ rfl (by decide) F.sub_bool_dict F.slot_dict_eq F.slot_bool_eq_refl
    (fun _ hq => call_meets F.slot_dict_eq ⟨_, ho, rfl⟩ F.entry_dict_eq (F.args_dict_eq_2 _ _) (dict_eq_declines_bool l es n dd sl b ) ⟨ho, hq⟩)
    (fun _ hq => call_meets F.slot_bool_eq_refl rfl F.entry_int_eq (F.args_int_eq_2 _ _) (int_eq_declines_dict_bool b l (.type "dict") es n dd sl) ⟨ho, hq⟩)
    (fun _ hq => wpAny_of_eq (rfl : isSame (.ref l) (.bool b) = pure false) hq) (.inr hu) h
theorem RcAt.bool_dict {l : Addr} (b : Bool) (hl : IsDct s.heap l) (hu : A.units < cLine) : RcAt A s (.bool b) (.ref l) false := fun prog w E Q h => by
  obtain ⟨⟨cls, dd, data, sl⟩, ho, hc, es, n, hd⟩ := id hl
  simp only at hc hd
  subst hc hd
  exact rc_eq_decline_or (k := false) rfl ⟨_, ho, rfl⟩ (by decide) F.sub_dict_bool F.slot_bool_eq F.slot_dict_eq_refl
    (fun _ hq => call_meets F.slot_bool_eq rfl F.entry_int_eq (F.args_int_eq_2 _ _) (int_eq_declines_dict_bool b l (.type "dict") es n dd sl) ⟨ho, hq⟩)
    (fun _ hq => call_meets F.slot_dict_eq_refl ⟨_, ho, rfl⟩ F.entry_dict_eq (F.args_dict_eq_2 _ _) (dict_eq_declines_bool l es n dd sl b ) ⟨ho, hq⟩)
    (fun _ hq => wpAny_of_eq (rfl : isSame (.bool b) (.ref l) = pure false) hq) (.inr hu) h
theorem EqAt.dict_bool {l : Addr} (b : Bool) (hl : IsDct s.heap l) (hu : A.units < cLine) : EqAt A s (.ref l) (.bool b) false := fun prog w E Q h => by
  unfold eqBool
  refine wpAny_holding ?_
  refine wpAny_ite_split (fun hab => absurd (eq_of_beq hab) nofun) (fun _ => ?_)
  exact wpAny_bind (RcAt.dict_bool b hl hu prog w E _ (wpAny_truthy_bool h))
theorem EqAt.bool_dict {l : Addr} (b : Bool) (hl : IsDct s.heap l) (hu : A.units < cLine) : EqAt A s (.bool b) (.ref l) false := fun prog w E Q h => by
  unfold eqBool
  refine wpAny_holding ?_
  refine wpAny_ite_split (fun hab => absurd (eq_of_beq hab) nofun) (fun _ => ?_)
  exact wpAny_bind (RcAt.bool_dict b hl hu prog w E _ (wpAny_truthy_bool h))
theorem RcAt.dict_int {l : Addr} (b : Int) (u : Tok) (hl : IsDct s.heap l) (hu : A.units < cLine) : RcAt A s (.ref l) (.int b u) false := fun prog w E Q h => by
  obtain ⟨⟨cls, dd, data, sl⟩, ho, hc, es, n, hd⟩ := id hl
  simp only at hc hd
  subst hc hd
  exact rc_eq_decline_or (k := false) ⟨_, ho, rfl⟩ (typeIs_int s b u) (by decide) F.sub_int_dict F.slot_dict_eq F.slot_int_eq_refl
    (fun _ hq => call_meets F.slot_dict_eq ⟨_, ho, rfl⟩ F.entry_dict_eq (F.args_dict_eq_2 _ _) (dict_eq_declines_int l es n dd sl b u ) ⟨ho, hq⟩)
    (fun _ hq => call_meets F.slot_int_eq_refl (typeIs_int s b u) F.entry_int_eq (F.args_int_eq_2 _ _) (int_eq_declines_dict_int b u l (.type "dict") es n dd sl) ⟨ho, hq⟩)
    (fun _ hq => wpAny_of_eq (rfl : isSame (.ref l) (.int b u) = pure false) hq) (.inr hu) h
theorem RcAt.int_dict {l : Addr} (b : Int) (u : Tok) (hl : IsDct s.heap l) (hu : A.units < cLine) : RcAt A s (.int b u) (.ref l) false := fun prog w E Q h => by
  obtain ⟨⟨cls, dd, data, sl⟩, ho, hc, es, n, hd⟩ := id hl
  simp only at hc hd
  subst hc hd
  exact rc_eq_decline_or (k := false) (typeIs_int s b u) ⟨_, ho, rfl⟩ (by decide) F.sub_dict_int F.slot_int_eq F.slot_dict_eq_refl
    (fun _ hq => call_meets F.slot_int_eq (typeIs_int s b u) F.entry_int_eq (F.args_int_eq_2 _ _) (int_eq_declines_dict_int b u l (.type "dict") es n dd sl) ⟨ho, hq⟩)
    (fun _ hq => call_meets F.slot_dict_eq_refl ⟨_, ho, rfl⟩ F.entry_dict_eq (F.args_dict_eq_2 _ _) (dict_eq_declines_int l es n dd sl b u ) ⟨ho, hq⟩)
    (fun _ hq => wpAny_of_eq (rfl : isSame (.int b u) (.ref l) = pure false) hq) (.inr hu) h
theorem EqAt.dict_int {l : Addr} (b : Int) (u : Tok) (hl : IsDct s.heap l) (hu : A.units < cLine) : EqAt A s (.ref l) (.int b u) false := fun prog w E Q h => by
  unfold eqBool
  refine wpAny_holding ?_
  refine wpAny_ite_split (fun hab => absurd (eq_of_beq hab) nofun) (fun _ => ?_)
  exact wpAny_bind (RcAt.dict_int b u hl hu prog w E _ (wpAny_truthy_bool h))
theorem EqAt.int_dict {l : Addr} (b : Int) (u : Tok) (hl : IsDct s.heap l) (hu : A.units < cLine) : EqAt A s (.int b u) (.ref l) false := fun prog w E Q h => by
  unfold eqBool
  refine wpAny_holding ?_
  refine wpAny_ite_split (fun hab => absurd (eq_of_beq hab) nofun) (fun _ => ?_)
  exact wpAny_bind (RcAt.int_dict b u hl hu prog w E _ (wpAny_truthy_bool h))
theorem RcAt.dict_str {l : Addr} (b : Str) (u : Tok) (hl : IsDct s.heap l) (hu : A.units < cLine) : RcAt A s (.ref l) (.str b u) false := fun prog w E Q h => by
  obtain ⟨⟨cls, dd, data, sl⟩, ho, hc, es, n, hd⟩ := id hl
  simp only at hc hd
  subst hc hd
  exact rc_eq_decline_or (k := false) ⟨_, ho, rfl⟩ (typeIs_str s b u) (by decide) F.sub_str_dict F.slot_dict_eq F.slot_str_eq_refl
    (fun _ hq => call_meets F.slot_dict_eq ⟨_, ho, rfl⟩ F.entry_dict_eq (F.args_dict_eq_2 _ _) (dict_eq_declines_str l es n dd sl b u ) ⟨ho, hq⟩)
    (fun _ hq => call_meets F.slot_str_eq_refl (typeIs_str s b u) F.entry_str_eq (F.args_str_eq_2 _ _) (str_eq_declines_dict_str b u l (.type "dict") es n dd sl) ⟨ho, hq⟩)
    (fun _ hq => wpAny_of_eq (rfl : isSame (.ref l) (.str b u) = pure false) hq) (.inr hu) h
theorem RcAt.str_dict {l : Addr} (b : Str) (u : Tok) (hl : IsDct s.heap l) (hu : A.units < cLine) : RcAt A s (.str b u) (.ref l) false := fun prog w E Q h => by
  obtain ⟨⟨cls, dd, data, sl⟩, ho, hc, es, n, hd⟩ := id hl
  simp only at hc hd
  subst hc hd
  exact rc_eq_decline_or (k := false) (typeIs_str s b u) ⟨_, ho, rfl⟩ (by decide) F.sub_dict_str F.slot_str_eq F.slot_dict_eq_refl
    (fun _ hq => call_meets F.slot_str_eq (typeIs_str s b u) F.entry_str_eq (F.args_str_eq_2 _ _) (str_eq_declines_dict_str b u l (.type "dict") es n dd sl) ⟨ho, hq⟩)
    (fun _ hq => call_meets F.slot_dict_eq_refl ⟨_, ho, rfl⟩ F.entry_dict_eq (F.args_dict_eq_2 _ _) (dict_eq_declines_str l es n dd sl b u ) ⟨ho, hq⟩)
    (fun _ hq => wpAny_of_eq (rfl : isSame (.str b u) (.ref l) = pure false) hq) (.inr hu) h
theorem EqAt.dict_str {l : Addr} (b : Str) (u : Tok) (hl : IsDct s.heap l) (hu : A.units < cLine) : EqAt A s (.ref l) (.str b u) false := fun prog w E Q h => by
  unfold eqBool
  refine wpAny_holding ?_
  refine wpAny_ite_split (fun hab => absurd (eq_of_beq hab) nofun) (fun _ => ?_)
  exact wpAny_bind (RcAt.dict_str b u hl hu prog w E _ (wpAny_truthy_bool h))
theorem EqAt.str_dict {l : Addr} (b : Str) (u : Tok) (hl : IsDct s.heap l) (hu : A.units < cLine) : EqAt A s (.str b u) (.ref l) false := fun prog w E Q h => by
  unfold eqBool
  refine wpAny_holding ?_
  refine wpAny_ite_split (fun hab => absurd (eq_of_beq hab) nofun) (fun _ => ?_)
  exact wpAny_bind (RcAt.str_dict b u hl hu prog w E _ (wpAny_truthy_bool h))
end
theorem dict_eq_declines_list (l b : Addr) (es : Array DictEntry) (items2 : Array Value) (n n2 : Nat) (dd dd2 : Option Addr) (sl sl2 : Array (Option Value)) :
    Meets (Builtin.«dict.__eq__» ⟨[.ref l, .ref b], []⟩) (fun _ R s => s.heap.get? l = some { cls := .type "dict", dict := dd, data := .dict es n, slots := sl } ∧ s.heap.get? b = some { cls := .type "list", dict := dd2, data := .seq items2 n2, slots := sl2 } ∧ R (.ok (.ret .notImplemented)) s) :=
  .of_wp fun prog w A R s h => by obtain ⟨hp, g, d, tk, os⟩ := s; obtain ⟨hl, hb, h⟩ := h; have f1 := F.sub_list_dict; wp_walk using wpAny_loadPart' hl, wpAny_loadPart' hb; exact ⟨_, rfl, h⟩
theorem list_eq_declines_dict (l b : Addr) (items : Array Value) (es : Array DictEntry) (n n2 : Nat) (dd dd2 : Option Addr) (sl sl2 : Array (Option Value)) :
    Meets (Builtin.«list.__eq__» ⟨[.ref l, .ref b], []⟩) (fun _ R s => s.heap.get? l = some { cls := .type "list", dict := dd, data := .seq items n, slots := sl } ∧ s.heap.get? b = some { cls := .type "dict", dict := dd2, data := .dict es n2, slots := sl2 } ∧ R (.ok (.ret .notImplemented)) s) :=
  .of_wp fun prog w A R s h => by obtain ⟨hp, g, d, tk, os⟩ := s; obtain ⟨hl, hb, h⟩ := h; have f1 := F.sub_dict_list; wp_walk using wpAny_loadPart' hl, wpAny_loadPart' hb; exact ⟨_, rfl, h⟩
theorem dict_eq_declines_tuple (l b : Addr) (es : Array DictEntry) (items2 : Array Value) (n n2 : Nat) (dd dd2 : Option Addr) (sl sl2 : Array (Option Value)) :
    Meets (Builtin.«dict.__eq__» ⟨[.ref l, .ref b], []⟩) (fun _ R s => s.heap.get? l = some { cls := .type "dict", dict := dd, data := .dict es n, slots := sl } ∧ s.heap.get? b = some { cls := .type "tuple", dict := dd2, data := .seq items2 n2, slots := sl2 } ∧ R (.ok (.ret .notImplemented)) s) :=
  .of_wp fun prog w A R s h => by obtain ⟨hp, g, d, tk, os⟩ := s; obtain ⟨hl, hb, h⟩ := h; have f1 := F.sub_tuple_dict; wp_walk using wpAny_loadPart' hl, wpAny_loadPart' hb; exact ⟨_, rfl, h⟩
theorem tuple_eq_declines_dict (l b : Addr) (items : Array Value) (es : Array DictEntry) (n n2 : Nat) (dd dd2 : Option Addr) (sl sl2 : Array (Option Value)) :
    Meets (Builtin.«tuple.__eq__» ⟨[.ref l, .ref b], []⟩) (fun _ R s => s.heap.get? l = some { cls := .type "tuple", dict := dd, data := .seq items n, slots := sl } ∧ s.heap.get? b = some { cls := .type "dict", dict := dd2, data := .dict es n2, slots := sl2 } ∧ R (.ok (.ret .notImplemented)) s) :=
  .of_wp fun prog w A R s h => by obtain ⟨hp, g, d, tk, os⟩ := s; obtain ⟨hl, hb, h⟩ := h; have f1 := F.sub_dict_tuple; wp_walk using wpAny_loadPart' hl, wpAny_loadPart' hb; exact ⟨_, rfl, h⟩
section
variable {A : Around} {s : Shared}
theorem ne_of_dict_list {l b : Addr} {items2 : Array Value} (hl : IsDct s.heap l) (hb : s.heap.IsList b items2) : l ≠ b := fun e => by
  subst e
  obtain ⟨o, ho, hc, _⟩ := hl
  obtain ⟨o2, ho2, hc2, _⟩ := hb
  rw [ho] at ho2
  cases ho2
  rw [hc] at hc2
  exact absurd hc2 (by simp)
theorem RcAt.dict_list {l b : Addr} {items2 : Array Value} (hl : IsDct s.heap l) (hb : s.heap.IsList b items2) (hu : A.units < cLine) : RcAt A s (.ref l) (.ref b) false := fun prog w E Q h => by
  have hne := ne_of_dict_list hl hb
  obtain ⟨⟨cls, dd, data, sl⟩, ho, hc, es, n, hd⟩ := id hl
  obtain ⟨⟨cls2, dd2, data2, sl2⟩, ho2, hc2, n2, hd2⟩ := id hb
  simp only at hc hd hc2 hd2
  subst hc hd hc2 hd2
  exact (rc_eq_decline_or (k := false) ⟨_, ho, rfl⟩ ⟨_, ho2, rfl⟩ (by decide) F.sub_list_dict F.slot_dict_eq F.slot_list_eq_refl
    (fun _ hq => call_meets F.slot_dict_eq ⟨_, ho, rfl⟩ F.entry_dict_eq (F.args_dict_eq_2 _ _) (dict_eq_declines_list l b es items2 n n2 dd dd2 sl sl2) ⟨ho, ho2, hq⟩)
    (fun _ hq => call_meets F.slot_list_eq_refl ⟨_, ho2, rfl⟩ F.entry_list_eq (F.args_list_eq_2 _ _) (list_eq_declines_dict b l items2 es n2 n dd2 dd sl2 sl) ⟨ho2, ho, hq⟩)
    (fun _ hq => wpAny_isSame_ref_other hne ho ho2 (by simp) hq) (.inr hu) h)
theorem RcAt.list_dict {l b : Addr} {items : Array Value} (hl : s.heap.IsList l items) (hb : IsDct s.heap b) (hu : A.units < cLine) : RcAt A s (.ref l) (.ref b) false := fun prog w E Q h => by
  have hne : l ≠ b := (ne_of_dict_list hb hl).symm
  obtain ⟨⟨cls, dd, data, sl⟩, ho, hc, n, hd⟩ := id hl
  obtain ⟨⟨cls2, dd2, data2, sl2⟩, ho2, hc2, es, n2, hd2⟩ := id hb
  simp only at hc hd hc2 hd2
  subst hc hd hc2 hd2
  exact (rc_eq_decline_or (k := false) ⟨_, ho, rfl⟩ ⟨_, ho2, rfl⟩ (by decide) F.sub_dict_list F.slot_list_eq F.slot_dict_eq_refl
    (fun _ hq => call_meets F.slot_list_eq ⟨_, ho, rfl⟩ F.entry_list_eq (F.args_list_eq_2 _ _) (list_eq_declines_dict l b items es n n2 dd dd2 sl sl2) ⟨ho, ho2, hq⟩)
    (fun _ hq => call_meets F.slot_dict_eq_refl ⟨_, ho2, rfl⟩ F.entry_dict_eq (F.args_dict_eq_2 _ _) (dict_eq_declines_list b l es items n2 n dd2 dd sl2 sl) ⟨ho2, ho, hq⟩)
    (fun _ hq => wpAny_isSame_ref_other' hne ho ho2 (by simp) hq) (.inr hu) h)
theorem EqAt.dict_list {l b : Addr} {items2 : Array Value} (hl : IsDct s.heap l) (hb : s.heap.IsList b items2) (hu : A.units < cLine) : EqAt A s (.ref l) (.ref b) false := .of_refs (ne_of_dict_list hl hb) (.dict_list hl hb hu)
theorem EqAt.list_dict {l b : Addr} {items : Array Value} (hl : s.heap.IsList l items) (hb : IsDct s.heap b) (hu : A.units < cLine) : EqAt A s (.ref l) (.ref b) false := .of_refs (ne_of_dict_list hb hl).symm (.list_dict hl hb hu)
theorem ne_of_dict_tuple {l b : Addr} {items2 : Array Value} (hl : IsDct s.heap l) (hb : s.heap.IsTuple b items2) : l ≠ b := fun e => by
  subst e
  obtain ⟨o, ho, hc, _⟩ := hl
  obtain ⟨o2, ho2, hc2, _⟩ := hb
  rw [ho] at ho2
  cases ho2
  rw [hc] at hc2
  exact absurd hc2 (by simp)
theorem RcAt.dict_tuple {l b : Addr} {items2 : Array Value} (hl : IsDct s.heap l) (hb : s.heap.IsTuple b items2) (hu : A.units < cLine) : RcAt A s (.ref l) (.ref b) false := fun prog w E Q h => by
  have hne := ne_of_dict_tuple hl hb
  obtain ⟨⟨cls, dd, data, sl⟩, ho, hc, es, n, hd⟩ := id hl
  obtain ⟨⟨cls2, dd2, data2, sl2⟩, ho2, hc2, n2, hd2⟩ := id hb
  simp only at hc hd hc2 hd2
  subst hc hd hc2 hd2
  exact (rc_eq_decline_or (k := false) ⟨_, ho, rfl⟩ ⟨_, ho2, rfl⟩ (by decide) F.sub_tuple_dict F.slot_dict_eq F.slot_tuple_eq_refl
    (fun _ hq => call_meets F.slot_dict_eq ⟨_, ho, rfl⟩ F.entry_dict_eq (F.args_dict_eq_2 _ _) (dict_eq_declines_tuple l b es items2 n n2 dd dd2 sl sl2) ⟨ho, ho2, hq⟩)
    (fun _ hq => call_meets F.slot_tuple_eq_refl ⟨_, ho2, rfl⟩ F.entry_tuple_eq (F.args_tuple_eq_2 _ _) (tuple_eq_declines_dict b l items2 es n2 n dd2 dd sl2 sl) ⟨ho2, ho, hq⟩)
    (fun _ hq => wpAny_isSame_ref_other hne ho ho2 (by simp) hq) (.inr hu) h)
theorem RcAt.tuple_dict {l b : Addr} {items : Array Value} (hl : s.heap.IsTuple l items) (hb : IsDct s.heap b) (hu : A.units < cLine) : RcAt A s (.ref l) (.ref b) false := fun prog w E Q h => by
  have hne : l ≠ b := (ne_of_dict_tuple hb hl).symm
  obtain ⟨⟨cls, dd, data, sl⟩, ho, hc, n, hd⟩ := id hl
  obtain ⟨⟨cls2, dd2, data2, sl2⟩, ho2, hc2, es, n2, hd2⟩ := id hb
  simp only at hc hd hc2 hd2
  subst hc hd hc2 hd2
  exact (rc_eq_decline_or (k := false) ⟨_, ho, rfl⟩ ⟨_, ho2, rfl⟩ (by decide) F.sub_dict_tuple F.slot_tuple_eq F.slot_dict_eq_refl
    (fun _ hq => call_meets F.slot_tuple_eq ⟨_, ho, rfl⟩ F.entry_tuple_eq (F.args_tuple_eq_2 _ _) (tuple_eq_declines_dict l b items es n n2 dd dd2 sl sl2) ⟨ho, ho2, hq⟩)
    (fun _ hq => call_meets F.slot_dict_eq_refl ⟨_, ho2, rfl⟩ F.entry_dict_eq (F.args_dict_eq_2 _ _) (dict_eq_declines_tuple b l es items n2 n dd2 dd sl2 sl) ⟨ho2, ho, hq⟩)
    (fun _ hq => wpAny_isSame_ref_other' hne ho ho2 (by simp) hq) (.inr hu) h)
theorem EqAt.dict_tuple {l b : Addr} {items2 : Array Value} (hl : IsDct s.heap l) (hb : s.heap.IsTuple b items2) (hu : A.units < cLine) : EqAt A s (.ref l) (.ref b) false := .of_refs (ne_of_dict_tuple hl hb) (.dict_tuple hl hb hu)
theorem EqAt.tuple_dict {l b : Addr} {items : Array Value} (hl : s.heap.IsTuple l items) (hb : IsDct s.heap b) (hu : A.units < cLine) : EqAt A s (.ref l) (.ref b) false := .of_refs (ne_of_dict_tuple hb hl).symm (.tuple_dict hl hb hu)
end
end PySem.SeqAt
/-! EvE: == and in. -/
namespace Ev
open PySem L2
section
variable {K : PySem.W.Frag} {N : Nm} {F : Addr → Prop} {r : List Addr} {H : Hp} {m : Mem}
/-- with our own objects too -/
def plusF (F : Addr → Prop) (r : List Addr) : Addr → Prop := fun a => F a ∨ a ∈ r
theorem Ext.plus : Ext F r H (plusF F r) r H := ⟨fun _ _ _ h => h, fun _ _ _ h => h, fun _ _ h => h, fun _ _ _ h => h, fun _ _ h => h, fun _ h => .inl h, ⟨[], by simp⟩, fun _ h => h.elim .inl fun z => .inr (.inl z), fun _ h => .inl h⟩
theorem shown_rel (S : Sim K N F r m H) {x : D} {v : V} (h : RelD N F r H x v) : RelD N (plusF F r) r H (shown m x) v := by
  rcases shown_cases m x with q | ⟨i, rfl, ⟨ys, hm, q⟩ | ⟨ys, hm, q⟩ | ⟨ys, hm, q⟩⟩
  · rw [q]; exact h.ext Ext.plus
  · rw [q]
    obtain ⟨a, hi, rfl⟩ := h
    obtain ⟨vs, e, l⟩ := S.ref hm hi
    exact ⟨a, vs, rfl, .inr (List.mem_of_getElem? hi), .inl e, l.ext Ext.plus⟩
  · rw [q]
    obtain ⟨a, hi, rfl⟩ := h
    rcases hm with hm | hm
    · obtain ⟨vs, e, l⟩ := S.ref hm hi
      exact ⟨a, vs, rfl, .inr (List.mem_of_getElem? hi), .inl e, l.ext Ext.plus⟩
    · obtain ⟨vs, o, e, l⟩ := S.ref hm hi
      exact ⟨a, vs, rfl, .inr (List.mem_of_getElem? hi), .inr ⟨o, e⟩, l.ext Ext.plus⟩
  · rw [q]
    obtain ⟨a, hi, rfl⟩ := h
    obtain ⟨vs, e, l⟩ := S.ref hm hi
    exact ⟨a, vs, rfl, .inr (List.mem_of_getElem? hi), .inl e, l.ext Ext.plus⟩
theorem rd_inj {a : Addr} {u w : HO} (h : Rd H a u) (g : Rd H a w) (hu : ∀ x y, u ≠ .frz x y) (hw : ∀ x y, w ≠ .frz x y) : u = w := by
  rcases h with h | ⟨o, h⟩
  · rcases g with g | ⟨p, g⟩
    · rw [h] at g; cases g; rfl
    · rw [h] at g; cases g; exact (hu _ _ rfl).elim
  · rcases g with g | ⟨p, g⟩
    · rw [h] at g; cases g; exact (hw _ _ rfl).elim
    · rw [h] at g; cases g; rfl
theorem opt_map_some {α β : Type} {o : Option α} {f : α → β} {b : β} (h : o.map f = some b) : ∃ a, o = some a ∧ f a = b := Option.map_eq_some_iff.mp h
theorem eqL_cons {x y : D} {xs ys : List D} {b : Bool} (h : eqL (x :: xs) (y :: ys) = some b) : ∃ p q, eqD x y = some p ∧ eqL xs ys = some q ∧ b = (p && q) := by
  unfold eqL at h
  split at h
  · rename_i p q e1 e2
    cases h
    exact ⟨p, q, e1, e2, rfl⟩
  · cases h
theorem eqK_cons {k : Key} {x : D} {xs ys : List (Key × D)} {b : Bool} (h : eqK ((k, x) :: xs) ys = some b) : (lookK ys k = none ∧ b = false ∧ ∃ q, eqK xs ys = some q) ∨ ∃ y p q, lookK ys k = some y ∧ eqD x y = some p ∧ eqK xs ys = some q ∧ b = (p && q) := by
  unfold eqK at h
  cases e : lookK ys k with
  | none =>
    rw [e] at h
    obtain ⟨q, h1, h2⟩ := opt_map_some h
    exact .inl ⟨rfl, h2.symm, q, h1⟩
  | some y =>
    rw [e] at h
    dsimp only at h
    split at h
    · rename_i p q e1 e2
      cases h
      exact .inr ⟨y, p, q, rfl, e1, e2, rfl⟩
    · cases h
theorem valV_of_mem {κ : Type} [DecidableEq κ] {k : κ} {v : V} : ∀ {kvs : List (κ × V)}, (kvs.map (·.1)).Nodup → (k, v) ∈ kvs → valV kvs k = some v
  | [], _, h => nomatch h
  | (q, w) :: rr, nd, h => by
    rcases List.mem_cons.mp h with e | h
    · cases e; exact valV_pos rfl
    · have e : ¬ q = k := fun z => by
        rw [List.map_cons, List.nodup_cons] at nd
        exact nd.1 (List.mem_map.mpr ⟨(k, v), h, z.symm⟩)
      rw [valV_neg (p := (q, w)) e]
      rw [List.map_cons, List.nodup_cons] at nd
      exact valV_of_mem nd.2 h
/- two data of one value -/
mutual
theorem eq_one (nd : ∀ a ws, Rd H a (.dK ws) → (ws.map (·.1)).Nodup) : ∀ {d e : D} {v : V} {b : Bool}, RelD N F r H d v → RelD N F r H e v → eqD d e = some b → b = true
  | .non, e, _, b, h, g, q => by cases h; cases e <;> simp_all [RelD, eqD]
  | .bl a, e, _, b, h, g, q => by cases h; cases e <;> simp_all [RelD, eqD]
  | .int a, e, _, b, h, g, q => by cases h; cases e <;> simp_all [RelD, eqD]
  | .str a, e, _, b, h, g, q => by cases h; cases e <;> simp_all [RelD, eqD]
  | .tup xs, e, _, b, h, g, q => by
    obtain ⟨a, vs, rfl, ha, la⟩ := h
    cases e with
    | tup ys =>
      obtain ⟨a', ws, e1, hb, lb⟩ := g
      cases e1
      rw [ha] at hb; cases hb
      obtain ⟨p, h1, h2⟩ := opt_map_some (show (eqL xs ys).map _ = some b from q)
      have e2 := eqL_one nd la lb h1
      have e3 : (xs.length == ys.length) = true := by rw [la.length, lb.length]; simp
      rw [← h2, e2, e3] <;> rfl
    | lst ys =>
      obtain ⟨a', ws, e1, _, hb, lb⟩ := g
      cases e1
      rcases hb with hb | ⟨o, hb⟩ <;> rw [ha] at hb <;> cases hb
    | dK ys =>
      obtain ⟨a', ws, e1, _, hb, lb⟩ := g
      cases e1
      rcases hb with hb | ⟨o, hb⟩ <;> rw [ha] at hb <;> cases hb
    | _ => simp_all [RelD, eqD]
  | .lst xs, e, _, b, h, g, q => by
    obtain ⟨a, vs, rfl, hF, ha, la⟩ := h
    cases e with
    | lst ys =>
      obtain ⟨a', ws, e1, _, hb, lb⟩ := g
      cases e1
      have e2 := rd_inj ha hb (fun _ _ z => nomatch z) (fun _ _ z => nomatch z)
      cases e2
      have q : (if xs.length = ys.length then eqL xs ys else some false) = some b := q
      rw [if_pos (by rw [la.length, lb.length])] at q
      exact eqL_one nd la lb q
    | tup ys =>
      obtain ⟨a', ws, e1, hb, lb⟩ := g
      cases e1
      rcases ha with ha | ⟨o, ha⟩ <;> rw [ha] at hb <;> cases hb
    | dK ys =>
      obtain ⟨a', ws, e1, _, hb, lb⟩ := g
      cases e1
      cases rd_inj ha hb (fun _ _ z => nomatch z) (fun _ _ z => nomatch z)
    | _ => simp_all [RelD, eqD]
  | .dK xs, e, _, b, h, g, q => by
    obtain ⟨a, vs, rfl, hF, ha, la⟩ := h
    cases e with
    | dK ys =>
      obtain ⟨a', ws, e1, _, hb, lb⟩ := g
      cases e1
      have e2 := rd_inj ha hb (fun _ _ z => nomatch z) (fun _ _ z => nomatch z)
      cases e2
      obtain ⟨p, h1, h2⟩ := opt_map_some (show (eqK xs ys).map _ = some b from q)
      have n := nd _ _ ha
      have e2 := eqK_one nd (relK_P.mp la) (relK_P.mp lb) (fun k v hm => by
        have : valV vs k = some v := valV_of_mem n hm
        exact this) h1
      have e3 : (xs.length == ys.length) = true := by rw [la.length, lb.length]; simp
      rw [← h2, e2, e3] <;> rfl
    | tup ys =>
      obtain ⟨a', ws, e1, hb, lb⟩ := g
      cases e1
      rcases ha with ha | ⟨o, ha⟩ <;> rw [ha] at hb <;> cases hb
    | lst ys =>
      obtain ⟨a', ws, e1, _, hb, lb⟩ := g
      cases e1
      cases rd_inj ha hb (fun _ _ z => nomatch z) (fun _ _ z => nomatch z)
    | _ => simp_all [RelD, eqD]
  | .dT xs, e, _, b, h, g, q => by cases e <;> simp [eqD] at q
  | .ref i, e, _, b, h, g, q => by cases e <;> simp [eqD] at q
  | .exn c fs, e, _, b, h, g, q => by cases e <;> simp [eqD] at q
theorem eqL_one (nd : ∀ a ws, Rd H a (.dK ws) → (ws.map (·.1)).Nodup) : ∀ {d e : List D} {v : List V} {b : Bool}, RelL N F r H d v → RelL N F r H e v → eqL d e = some b → b = true
  | [], e, _, b, h, g, q => by cases e <;> simp_all [eqL]
  | d :: ds, [], _, b, h, g, q => by simp_all [eqL]
  | d :: ds, e :: es, _, b, h, g, q => by
    obtain ⟨v, ws, rfl, a1, b1⟩ := h
    obtain ⟨v', ws', e1, a2, b2⟩ := g
    cases e1
    obtain ⟨p, p', h1, h2, rfl⟩ := eqL_cons q
    rw [eq_one nd a1 a2 h1, eqL_one nd b1 b2 h2] <;> rfl
theorem eqK_one (nd : ∀ a ws, Rd H a (.dK ws) → (ws.map (·.1)).Nodup) : ∀ {ks ls : List (Key × D)} {ws vs : List (Key × V)} {b : Bool}, RelP N F r H ks ws → RelP N F r H ls vs → (∀ k v, (k, v) ∈ ws → valV vs k = some v) → eqK ks ls = some b → b = true
  | [], ls, _, _, b, h, g, hm, q => by simp_all [eqK]
  | (k, d) :: ds, ls, _, vs, b, h, g, hm, q => by
    obtain ⟨v, ws, rfl, a1, b1⟩ := h
    have hv := hm k v List.mem_cons_self
    rcases eqK_cons q with ⟨h1, _⟩ | ⟨y, p, p', h1, h2, h3, rfl⟩
    · have := g.isSome k
      rw [hv, h1] at this
      cases this
    · obtain ⟨u, hu, ru⟩ := g.look_some h1
      rw [hv] at hu; cases hu
      rw [eq_one nd a1 ru h2, eqK_one nd b1 g (fun k' v' hm' => hm k' v' (List.mem_cons_of_mem _ hm')) h3] <;> rfl
end
end
section
variable {X : Cx} {pins : List (Addr × Obj)} {σ : L2.St} {s : Shared} {N : Nm} {F : Addr → Prop} {r : List Addr} {H : Hp} {m : Mem}
theorem dk_nodup (I : Inv X pins σ H s) : ∀ a ws, Rd H a (.dK ws) → (ws.map (·.1)).Nodup := fun a ws h => by
  obtain ⟨_, _, vs, rel, o, es, ep, _, _, _, _, _, nd⟩ := dk_rd I.hok h
  have e : ws.map (·.1) = vs.map (·.1) := by
    have all : ∀ {l : List (Key × V)} {q : List (Key × Value)}, KV l q → l.map (·.1) = q.map (·.1) := by
      intro l q h
      unfold KV at h
      induction h with
      | nil => rfl
      | cons h _ ih => rw [List.map_cons, List.map_cons, h.1, ih]
    exact all rel
  rw [e]; exact nd
theorem is_dct (I : Inv X pins σ H s) {a : Addr} {ws : List (Key × V)} (h : Rd H a (.dK ws)) : SeqAt.IsDct s.heap a := by
  obtain ⟨_, _, vs, rel, o, es, ep, h1, h2, h3, _⟩ := dk_rd I.hok h
  exact ⟨o, h1, h2.1, es, ep, h3⟩
open PySem.W in
mutual
theorem eq_tree (I : Inv X pins σ H s) : ∀ (d e : D) (n : Nat) {v u : V} {x y : Value} {b : Bool}, d.depth ≤ n → RelD N F r H d v → RelD N F r H e u → RelV v x → RelV u y → eqD d e = some b → EqTree X.prog X.w s n x y b
  | .non, e, n, v, u, x, y, b, hn, h, g, rx, ry, q => by
    cases h; cases rx
    cases e with
    | non => cases g; cases ry; cases q; exact .same
    | bl c => cases g; cases ry; cases q; exact .leaf fun _ _ => SeqAt.EqAt.none_bool c
    | int c => cases g; obtain ⟨t, rfl⟩ := ry; cases q; exact .leaf fun _ _ => SeqAt.EqAt.none_int c t
    | str c => cases g; obtain ⟨t, rfl⟩ := ry; cases q; exact .leaf fun _ _ => SeqAt.EqAt.none_str c t
    | tup c => obtain ⟨a, vs, rfl, ha, _⟩ := g; cases ry; cases q; obtain ⟨its, _, p, _⟩ := I.tuple (SqT.of ha); exact .leaf fun _ hu => SeqAt.EqAt.none_tuple p (by omega)
    | lst c => obtain ⟨a, vs, rfl, _, ha, _⟩ := g; cases ry; cases q; obtain ⟨its, _, p, _⟩ := I.list (.inl ha); exact .leaf fun _ hu => SeqAt.EqAt.none_list p.isList (by omega)
    | dK c => obtain ⟨a', ws, rfl, _, hb, _⟩ := g; cases ry; cases q; exact .leaf fun _ hu => SeqAt.EqAt.none_dict (is_dct I hb) (by omega)
    | _ => cases q
  | .bl a, e, n, v, u, x, y, b, hn, h, g, rx, ry, q => by
    cases h; cases rx
    cases e with
    | non => cases g; cases ry; cases q; exact .leaf fun _ _ => SeqAt.EqAt.bool_none a
    | bl c => cases g; cases ry; cases q; exact .leaf fun _ _ => SeqAt.EqAt.bool_bool a c
    | int c => cases g; obtain ⟨t, rfl⟩ := ry; cases q; exact .leaf fun _ _ => SeqAt.EqAt.bool_int a c t
    | str c => cases g; obtain ⟨t, rfl⟩ := ry; cases q; exact .leaf fun _ _ => SeqAt.EqAt.bool_str a c t
    | tup c => obtain ⟨a', vs, rfl, ha, _⟩ := g; cases ry; cases q; obtain ⟨its, _, p, _⟩ := I.tuple (SqT.of ha); exact .leaf fun _ hu => SeqAt.EqAt.bool_tuple a p (by omega)
    | lst c => obtain ⟨a', vs, rfl, _, ha, _⟩ := g; cases ry; cases q; obtain ⟨its, _, p, _⟩ := I.list (.inl ha); exact .leaf fun _ hu => SeqAt.EqAt.bool_list a p.isList (by omega)
    | dK c => obtain ⟨a', ws, rfl, _, hb, _⟩ := g; cases ry; cases q; exact .leaf fun _ hu => SeqAt.EqAt.bool_dict a (is_dct I hb) (by omega)
    | _ => cases q
  | .int a, e, n, v, u, x, y, b, hn, h, g, rx, ry, q => by
    cases h; obtain ⟨t, rfl⟩ := rx
    cases e with
    | non => cases g; cases ry; cases q; exact .leaf fun _ _ => SeqAt.EqAt.int_none a t
    | bl c => cases g; cases ry; cases q; exact .leaf fun _ _ => SeqAt.EqAt.int_bool a t c
    | int c => cases g; obtain ⟨t', rfl⟩ := ry; cases q; exact .leaf fun _ _ => by have z := SeqAt.EqAt.int_int (A := ‹_›) (s := s) a t c t'; rw [Bool.beq_eq_decide_eq] at z; exact z
    | str c => cases g; obtain ⟨t', rfl⟩ := ry; cases q; exact .leaf fun _ _ => SeqAt.EqAt.int_str a t c t'
    | tup c => obtain ⟨a', vs, rfl, ha, _⟩ := g; cases ry; cases q; obtain ⟨its, _, p, _⟩ := I.tuple (SqT.of ha); exact .leaf fun _ hu => SeqAt.EqAt.int_tuple a t p (by omega)
    | lst c => obtain ⟨a', vs, rfl, _, ha, _⟩ := g; cases ry; cases q; obtain ⟨its, _, p, _⟩ := I.list (.inl ha); exact .leaf fun _ hu => SeqAt.EqAt.int_list a t p.isList (by omega)
    | dK c => obtain ⟨a', ws, rfl, _, hb, _⟩ := g; cases ry; cases q; exact .leaf fun _ hu => SeqAt.EqAt.int_dict a t (is_dct I hb) (by omega)
    | _ => cases q
  | .str a, e, n, v, u, x, y, b, hn, h, g, rx, ry, q => by
    cases h; obtain ⟨t, rfl⟩ := rx
    cases e with
    | non => cases g; cases ry; cases q; exact .leaf fun _ _ => SeqAt.EqAt.str_none a t
    | bl c => cases g; cases ry; cases q; exact .leaf fun _ _ => SeqAt.EqAt.str_bool a t c
    | int c => cases g; obtain ⟨t', rfl⟩ := ry; cases q; exact .leaf fun _ _ => SeqAt.EqAt.str_int a t c t'
    | str c => cases g; obtain ⟨t', rfl⟩ := ry; cases q; exact .leaf fun _ _ => by have z := SeqAt.EqAt.str_str (A := ‹_›) (s := s) a t c t'; rw [Bool.beq_eq_decide_eq] at z; exact z
    | tup c => obtain ⟨a', vs, rfl, ha, _⟩ := g; cases ry; cases q; obtain ⟨its, _, p, _⟩ := I.tuple (SqT.of ha); exact .leaf fun _ hu => SeqAt.EqAt.str_tuple a t p (by omega)
    | lst c => obtain ⟨a', vs, rfl, _, ha, _⟩ := g; cases ry; cases q; obtain ⟨its, _, p, _⟩ := I.list (.inl ha); exact .leaf fun _ hu => SeqAt.EqAt.str_list a t p.isList (by omega)
    | dK c => obtain ⟨a', ws, rfl, _, hb, _⟩ := g; cases ry; cases q; exact .leaf fun _ hu => SeqAt.EqAt.str_dict a t (is_dct I hb) (by omega)
    | _ => cases q
  | .tup xs, e, n, v, u, x, y, b, hn, h, g, rx, ry, q => by
    have h' := h
    obtain ⟨a, vs, rfl, ha, la⟩ := h; cases rx
    obtain ⟨its, rv, p, _⟩ := I.tuple (SqT.of ha)
    cases e with
    | non => cases g; cases ry; cases q; exact .leaf fun _ hu => SeqAt.EqAt.tuple_none p (by omega)
    | bl c => cases g; cases ry; cases q; exact .leaf fun _ hu => SeqAt.EqAt.tuple_bool c p (by omega)
    | int c => cases g; obtain ⟨t', rfl⟩ := ry; cases q; exact .leaf fun _ hu => SeqAt.EqAt.tuple_int c t' p (by omega)
    | str c => cases g; obtain ⟨t', rfl⟩ := ry; cases q; exact .leaf fun _ hu => SeqAt.EqAt.tuple_str c t' p (by omega)
    | lst c => obtain ⟨a', ws, rfl, _, hb, _⟩ := g; cases ry; cases q; obtain ⟨its2, _, p2, _⟩ := I.list (.inl hb); exact .leaf fun _ hu => SeqAt.EqAt.tuple_list p p2.isList (by omega)
    | tup ys =>
      have g' := g
      obtain ⟨a', ws, rfl, hb, lb⟩ := g; cases ry
      obtain ⟨its2, rv2, p2, _⟩ := I.tuple (SqT.of hb)
      by_cases hab : a = a'
      · subst hab
        rw [eq_one (dk_nodup I) h' g' q]
        exact .same
      · obtain ⟨c, h1, rfl⟩ := opt_map_some (show (eqL xs ys).map _ = some b from q)
        cases n with
        | zero => simp [D.depth] at hn
        | succ n =>
          have t := eq_treeL I xs ys n (by simp [D.depth] at hn; omega) la lb rv rv2 h1
          obtain ⟨f, hf, ht⟩ := t
          have e2 : (its.toArray.size == its2.toArray.size) = (xs.length == ys.length) := by
            rw [List.size_toArray, List.size_toArray, ← rv.length, ← rv2.length, ← la.length, ← lb.length]
          have e3 : (List.range (min its.toArray.size its2.toArray.size)).all f = c := by
            rw [List.size_toArray, List.size_toArray, ← rv.length, ← rv2.length, ← la.length, ← lb.length]; exact hf
          rw [← e3, ← e2]
          exact EqTree.tuples hab p p2 (fun j h1 h2 => by simpa using ht j (by simpa using h1) (by simpa using h2))
    | dK c => obtain ⟨a', ws, rfl, _, hb, _⟩ := g; cases ry; cases q; exact .leaf fun _ hu => SeqAt.EqAt.tuple_dict p (is_dct I hb) (by omega)
    | _ => cases q
  | .lst xs, e, n, v, u, x, y, b, hn, h, g, rx, ry, q => by
    have h' := h
    obtain ⟨a, vs, rfl, hF, ha, la⟩ := h; cases rx
    obtain ⟨its, rv, p, _⟩ := I.list (.inl ha)
    cases e with
    | non => cases g; cases ry; cases q; exact .leaf fun _ hu => SeqAt.EqAt.list_none p.isList (by omega)
    | bl c => cases g; cases ry; cases q; exact .leaf fun _ hu => SeqAt.EqAt.list_bool c p.isList (by omega)
    | int c => cases g; obtain ⟨t', rfl⟩ := ry; cases q; exact .leaf fun _ hu => SeqAt.EqAt.list_int c t' p.isList (by omega)
    | str c => cases g; obtain ⟨t', rfl⟩ := ry; cases q; exact .leaf fun _ hu => SeqAt.EqAt.list_str c t' p.isList (by omega)
    | tup c => obtain ⟨a', ws, rfl, hb, _⟩ := g; cases ry; cases q; obtain ⟨its2, _, p2, _⟩ := I.tuple (SqT.of hb); exact .leaf fun _ hu => SeqAt.EqAt.list_tuple p.isList p2 (by omega)
    | lst ys =>
      have g' := g
      obtain ⟨a', ws, rfl, _, hb, lb⟩ := g; cases ry
      obtain ⟨its2, rv2, p2, _⟩ := I.list (.inl hb)
      by_cases hab : a = a'
      · subst hab
        rw [eq_one (dk_nodup I) h' g' q]
        exact .same
      · have q : (if xs.length = ys.length then eqL xs ys else some false) = some b := q
        cases n with
        | zero => simp [D.depth] at hn
        | succ n =>
          have e2 : (its.toArray.size = its2.toArray.size) ↔ (xs.length = ys.length) := by
            rw [List.size_toArray, List.size_toArray, ← rv.length, ← rv2.length, ← la.length, ← lb.length]
          by_cases hl : xs.length = ys.length
          · rw [if_pos hl] at q
            have t := eq_treeL I xs ys n (by simp [D.depth] at hn; omega) la lb rv rv2 q
            obtain ⟨f, hf, ht⟩ := t
            have e3 : (List.range its.toArray.size).all f = b := by
              rw [List.size_toArray, ← rv.length, ← la.length]
              rw [← hl, Nat.min_self] at hf
              exact hf
            rw [← e3]
            exact EqTree.lists hab p.isList p2.isList (e2.mpr hl) (fun j h1 h2 => by simpa using ht j (by simpa using h1) (by simpa using h2))
          · rw [if_neg hl] at q
            cases q
            exact EqTree.listsLen hab p.isList p2.isList (by simpa using fun z => hl (e2.mp (by simpa using z)))
    | dK c => obtain ⟨a', ws, rfl, _, hb, _⟩ := g; cases ry; cases q; exact .leaf fun _ hu => SeqAt.EqAt.list_dict p.isList (is_dct I hb) (by omega)
    | _ => cases q
  | .dK xs, e, n, v, u, x, y, b, hn, h, g, rx, ry, q => by
    have h' := h
    obtain ⟨a, vs, rfl, hF, ha, la⟩ := h; cases rx
    cases e with
    | dK ys =>
      have g' := g
      obtain ⟨a', ws, rfl, _, hb, lb⟩ := g; cases ry
      by_cases hab : a = a'
      · subst hab
        rw [eq_one (dk_nodup I) h' g' q]
        exact .same
      · obtain ⟨c, h1, rfl⟩ := opt_map_some (show (eqK xs ys).map _ = some b from q)
        cases n with
        | zero => simp [D.depth] at hn
        | succ n =>
          obtain ⟨_, ya, va, ra, da⟩ := dk_rd I.hok ha
          obtain ⟨_, yb, vb, rb, db⟩ := dk_rd I.hok hb
          have nd : (va.map (·.1)).Nodup := by
            obtain ⟨o, es, ep, _, _, _, _, _, nd⟩ := da
            exact nd
          have t := eq_treeK I xs ys n (by simp [D.depth] at hn; omega) (relK_P.mp la) (relK_P.mp lb) ra rb nd h1
          obtain ⟨f, hf, ht⟩ := t
          have e2 : (xs.length == ys.length) = (va.length == vb.length) := by
            rw [la.length, lb.length, ra.length, rb.length]
          rw [e2, ← hf]
          exact EqTree.dicts (knd := mixKind X.prog X.w) hab ya yb da db ht
    | non => cases g; cases ry; cases q; exact .leaf fun _ hu => SeqAt.EqAt.dict_none (is_dct I ha) (by omega)
    | bl c => cases g; cases ry; cases q; exact .leaf fun _ hu => SeqAt.EqAt.dict_bool c (is_dct I ha) (by omega)
    | int c => cases g; obtain ⟨t', rfl⟩ := ry; cases q; exact .leaf fun _ hu => SeqAt.EqAt.dict_int c t' (is_dct I ha) (by omega)
    | str c => cases g; obtain ⟨t', rfl⟩ := ry; cases q; exact .leaf fun _ hu => SeqAt.EqAt.dict_str c t' (is_dct I ha) (by omega)
    | tup c => obtain ⟨a', ws, rfl, hb, _⟩ := g; cases ry; cases q; obtain ⟨its2, _, p2, _⟩ := I.tuple (SqT.of hb); exact .leaf fun _ hu => SeqAt.EqAt.dict_tuple (is_dct I ha) p2 (by omega)
    | lst c => obtain ⟨a', ws, rfl, _, hb, _⟩ := g; cases ry; cases q; obtain ⟨its2, _, p2, _⟩ := I.list (.inl hb); exact .leaf fun _ hu => SeqAt.EqAt.dict_list (is_dct I ha) p2.isList (by omega)
    | _ => cases q
  | .dT xs, e, n, v, u, x, y, b, hn, h, g, rx, ry, q => by cases e <;> simp [eqD] at q
  | .ref i, e, n, v, u, x, y, b, hn, h, g, rx, ry, q => by cases e <;> simp [eqD] at q
  | .exn c fs, e, n, v, u, x, y, b, hn, h, g, rx, ry, q => by cases e <;> simp [eqD] at q
theorem eq_treeL (I : Inv X pins σ H s) : ∀ (ds es : List D) (n : Nat) {vs us : List V} {xs ys : List Value} {b : Bool}, depthL ds ≤ n → RelL N F r H ds vs → RelL N F r H es us → Vals vs xs → Vals us ys → eqL ds es = some b →
    ∃ f : Nat → Bool, (List.range (min ds.length es.length)).all f = b ∧ ∀ j (h1 : j < xs.length) (h2 : j < ys.length), EqTree X.prog X.w s n xs[j] ys[j] (f j)
  | [], es, n, vs, us, xs, ys, b, hn, h, g, rx, ry, q => by
    cases h; cases rx
    refine ⟨fun _ => true, ?_, fun j h1 => absurd h1 (by simp)⟩
    have q : some true = some b := q
    cases q
    simp
  | d :: ds, [], n, vs, us, xs, ys, b, hn, h, g, rx, ry, q => by
    cases g; cases ry
    refine ⟨fun _ => true, ?_, fun j h1 h2 => absurd h2 (by simp)⟩
    have q : some true = some b := q
    cases q
    simp
  | d :: ds, e :: es, n, vs, us, xs, ys, b, hn, h, g, rx, ry, q => by
    obtain ⟨v, vs, rfl, a1, b1⟩ := h
    obtain ⟨u, us, rfl, a2, b2⟩ := g
    cases rx with
    | cons r1 rs1 =>
      cases ry with
      | cons r2 rs2 =>
        obtain ⟨p, p', h1, h2, rfl⟩ := eqL_cons q
        have hd : max d.depth (depthL ds) ≤ n := hn
        have t1 := eq_tree I d e n (Nat.le_trans (Nat.le_max_left _ _) hd) a1 a2 r1 r2 h1
        obtain ⟨f, hf, ht⟩ := eq_treeL I ds es n (Nat.le_trans (Nat.le_max_right _ _) hd) b1 b2 rs1 rs2 h2
        refine ⟨fun j => match j with | 0 => p | j + 1 => f j, ?_, fun j h1 h2 => ?_⟩
        · rw [List.length_cons, List.length_cons, Nat.succ_min_succ, List.range_succ_eq_map, List.all_cons, List.all_map]
          show (p && (List.range (min ds.length es.length)).all f) = (p && p')
          rw [hf]
        · cases j with
          | zero => exact t1
          | succ j => exact ht j (by simpa using h1) (by simpa using h2)
theorem eq_treeK (I : Inv X pins σ H s) : ∀ (ds es : List (Key × D)) (n : Nat) {vs us : List (Key × V)} {xs ys : List (Key × Value)} {b : Bool}, depthK ds ≤ n → RelP N F r H ds vs → RelP N F r H es us → KV vs xs → KV us ys → (xs.map (·.1)).Nodup → eqK ds es = some b →
    ∃ f : Key → Bool, (xs.all fun p => (valueAt ys p.1).isSome && f p.1) = b ∧ ∀ k v y, (k, v) ∈ xs → valueAt ys k = some y → EqTree X.prog X.w s n v y (f k)
  | [], es, n, vs, us, xs, ys, b, hn, h, g, rx, ry, nd, q => by
    cases h; cases rx
    have q : some true = some b := q
    cases q
    exact ⟨fun _ => true, rfl, fun k v y hm => nomatch hm⟩
  | (k, d) :: ds, es, n, vs, us, xs, ys, b, hn, h, g, rx, ry, nd, q => by
    obtain ⟨v, vs, rfl, a1, b1⟩ := h
    cases rx with
    | cons r1 rs1 =>
      rename_i z zs
      obtain ⟨kz, vz⟩ := z
      obtain ⟨ek, rz⟩ := r1
      have ek : k = kz := ek
      subst ek
      have rz : RelV v vz := rz
      have hd : max d.depth (depthK ds) ≤ n := hn
      rw [List.map_cons, List.nodup_cons] at nd
      have notin : ∀ v', (k, v') ∉ zs := fun v' hm => nd.1 (List.mem_map.mpr ⟨_, hm, rfl⟩)
      rcases eqK_cons q with ⟨h1, rfl, p', h3⟩ | ⟨e, p, p', h1, h2, h3, rfl⟩
      · obtain ⟨f, hf, ht⟩ := eq_treeK I ds es n (Nat.le_trans (Nat.le_max_right _ _) hd) b1 g rs1 ry nd.2 h3
        have hno : valueAt ys k = none := by
          have e1 : valV us k = none := by
            rcases g.look k with ⟨_, q⟩ | ⟨_, _, q, _⟩
            · exact q
            · rw [h1] at q; cases q
          have := ry.val k
          rw [e1] at this
          exact this.none_of
        refine ⟨f, by simp [hno], fun k' v' y hm hy => ?_⟩
        rcases List.mem_cons.mp hm with e | hm
        · cases e
          rw [hno] at hy; cases hy
        · exact ht k' v' y hm hy
      · obtain ⟨f, hf, ht⟩ := eq_treeK I ds es n (Nat.le_trans (Nat.le_max_right _ _) hd) b1 g rs1 ry nd.2 h3
        obtain ⟨u, hu, ru⟩ := g.look_some h1
        have := ry.val k
        rw [hu] at this
        obtain ⟨y, hy, rvy⟩ := this.some_of
        have t1 := eq_tree I d e n (Nat.le_trans (Nat.le_max_left _ _) hd) a1 ru rz rvy h2
        refine ⟨fun k' => if k' = k then p else f k', ?_, fun k' v' y' hm hy' => ?_⟩
        · rw [List.all_cons]
          simp only [if_true, hy]
          have : (zs.all fun q => (valueAt ys q.1).isSome && if q.1 = k then p else f q.1) = zs.all fun q => (valueAt ys q.1).isSome && f q.1 := by
            apply Bool.eq_iff_iff.mpr
            simp only [List.all_eq_true]
            constructor
            · intro hh q hq
              have z := hh q hq
              rw [if_neg (fun e => notin q.2 (by rw [← e]; exact hq))] at z
              exact z
            · intro hh q hq
              rw [if_neg (fun e => notin q.2 (by rw [← e]; exact hq))]
              exact hh q hq
          rw [this, hf]
          simp
        · rcases List.mem_cons.mp hm with e | hm
          · cases e
            rw [hy] at hy'; cases hy'
            simp only [if_true]
            exact t1
          · have hk : ¬ k' = k := fun e => notin v' (by rw [← e]; exact hm)
            simp only [if_neg hk]
            exact ht k' v' y' hm hy'
end
mutual
theorem eq_at (I : Inv X pins σ H s) : ∀ (d e : D) (n : Nat) (A : Around) {v u : V} {x y : Value} {b : Bool}, d.depth ≤ n → A.units + n < cLine → d.nodict = true → RelD N F r H d v → RelD N F r H e u → RelV v x → RelV u y → eqD d e = some b → SeqAt.EqAt A s x y b
  | .non, e, n, A, v, u, x, y, b, hn, hu, hd, h, g, rx, ry, q => by
    cases h; cases rx
    cases e with
    | non => cases g; cases ry; cases q; exact SeqAt.EqAt.same _
    | bl c => cases g; cases ry; cases q; exact SeqAt.EqAt.none_bool c
    | int c => cases g; obtain ⟨t, rfl⟩ := ry; cases q; exact SeqAt.EqAt.none_int c t
    | str c => cases g; obtain ⟨t, rfl⟩ := ry; cases q; exact SeqAt.EqAt.none_str c t
    | tup c => obtain ⟨a, vs, rfl, ha, _⟩ := g; cases ry; cases q; obtain ⟨its, _, p, _⟩ := I.tuple (SqT.of ha); exact SeqAt.EqAt.none_tuple p (by omega)
    | lst c => obtain ⟨a, vs, rfl, _, ha, _⟩ := g; cases ry; cases q; obtain ⟨its, _, p, _⟩ := I.list (.inl ha); exact SeqAt.EqAt.none_list p.isList (by omega)
    | dK c => obtain ⟨a', ws, rfl, _, hb, _⟩ := g; cases ry; cases q; exact SeqAt.EqAt.none_dict (is_dct I hb) (by omega)
    | _ => cases q
  | .bl a, e, n, A, v, u, x, y, b, hn, hu, hd, h, g, rx, ry, q => by
    cases h; cases rx
    cases e with
    | non => cases g; cases ry; cases q; exact SeqAt.EqAt.bool_none a
    | bl c => cases g; cases ry; cases q; exact SeqAt.EqAt.bool_bool a c
    | int c => cases g; obtain ⟨t, rfl⟩ := ry; cases q; exact SeqAt.EqAt.bool_int a c t
    | str c => cases g; obtain ⟨t, rfl⟩ := ry; cases q; exact SeqAt.EqAt.bool_str a c t
    | tup c => obtain ⟨a', vs, rfl, ha, _⟩ := g; cases ry; cases q; obtain ⟨its, _, p, _⟩ := I.tuple (SqT.of ha); exact SeqAt.EqAt.bool_tuple a p (by omega)
    | lst c => obtain ⟨a', vs, rfl, _, ha, _⟩ := g; cases ry; cases q; obtain ⟨its, _, p, _⟩ := I.list (.inl ha); exact SeqAt.EqAt.bool_list a p.isList (by omega)
    | dK c => obtain ⟨a', ws, rfl, _, hb, _⟩ := g; cases ry; cases q; exact SeqAt.EqAt.bool_dict a (is_dct I hb) (by omega)
    | _ => cases q
  | .int a, e, n, A, v, u, x, y, b, hn, hu, hd, h, g, rx, ry, q => by
    cases h; obtain ⟨t, rfl⟩ := rx
    cases e with
    | non => cases g; cases ry; cases q; exact SeqAt.EqAt.int_none a t
    | bl c => cases g; cases ry; cases q; exact SeqAt.EqAt.int_bool a t c
    | int c => cases g; obtain ⟨t', rfl⟩ := ry; cases q; have z := SeqAt.EqAt.int_int (A := A) (s := s) a t c t'; rw [Bool.beq_eq_decide_eq] at z; exact z
    | str c => cases g; obtain ⟨t', rfl⟩ := ry; cases q; exact SeqAt.EqAt.int_str a t c t'
    | tup c => obtain ⟨a', vs, rfl, ha, _⟩ := g; cases ry; cases q; obtain ⟨its, _, p, _⟩ := I.tuple (SqT.of ha); exact SeqAt.EqAt.int_tuple a t p (by omega)
    | lst c => obtain ⟨a', vs, rfl, _, ha, _⟩ := g; cases ry; cases q; obtain ⟨its, _, p, _⟩ := I.list (.inl ha); exact SeqAt.EqAt.int_list a t p.isList (by omega)
    | dK c => obtain ⟨a', ws, rfl, _, hb, _⟩ := g; cases ry; cases q; exact SeqAt.EqAt.int_dict a t (is_dct I hb) (by omega)
    | _ => cases q
  | .str a, e, n, A, v, u, x, y, b, hn, hu, hd, h, g, rx, ry, q => by
    cases h; obtain ⟨t, rfl⟩ := rx
    cases e with
    | non => cases g; cases ry; cases q; exact SeqAt.EqAt.str_none a t
    | bl c => cases g; cases ry; cases q; exact SeqAt.EqAt.str_bool a t c
    | int c => cases g; obtain ⟨t', rfl⟩ := ry; cases q; exact SeqAt.EqAt.str_int a t c t'
    | str c => cases g; obtain ⟨t', rfl⟩ := ry; cases q; have z := SeqAt.EqAt.str_str (A := A) (s := s) a t c t'; rw [Bool.beq_eq_decide_eq] at z; exact z
    | tup c => obtain ⟨a', vs, rfl, ha, _⟩ := g; cases ry; cases q; obtain ⟨its, _, p, _⟩ := I.tuple (SqT.of ha); exact SeqAt.EqAt.str_tuple a t p (by omega)
    | lst c => obtain ⟨a', vs, rfl, _, ha, _⟩ := g; cases ry; cases q; obtain ⟨its, _, p, _⟩ := I.list (.inl ha); exact SeqAt.EqAt.str_list a t p.isList (by omega)
    | dK c => obtain ⟨a', ws, rfl, _, hb, _⟩ := g; cases ry; cases q; exact SeqAt.EqAt.str_dict a t (is_dct I hb) (by omega)
    | _ => cases q
  | .tup xs, e, n, A, v, u, x, y, b, hn, hu, hd, h, g, rx, ry, q => by
    have h' := h
    obtain ⟨a, vs, rfl, ha, la⟩ := h; cases rx
    obtain ⟨its, rv, p, _⟩ := I.tuple (SqT.of ha)
    cases e with
    | non => cases g; cases ry; cases q; exact SeqAt.EqAt.tuple_none p (by omega)
    | bl c => cases g; cases ry; cases q; exact SeqAt.EqAt.tuple_bool c p (by omega)
    | int c => cases g; obtain ⟨t', rfl⟩ := ry; cases q; exact SeqAt.EqAt.tuple_int c t' p (by omega)
    | str c => cases g; obtain ⟨t', rfl⟩ := ry; cases q; exact SeqAt.EqAt.tuple_str c t' p (by omega)
    | lst c => obtain ⟨a', ws, rfl, _, hb, _⟩ := g; cases ry; cases q; obtain ⟨its2, _, p2, _⟩ := I.list (.inl hb); exact SeqAt.EqAt.tuple_list p p2.isList (by omega)
    | tup ys =>
      have g' := g
      obtain ⟨a', ws, rfl, hb, lb⟩ := g; cases ry
      obtain ⟨its2, rv2, p2, _⟩ := I.tuple (SqT.of hb)
      by_cases hab : a = a'
      · subst hab
        rw [eq_one (dk_nodup I) h' g' q]
        exact SeqAt.EqAt.same _
      · obtain ⟨c, h1, rfl⟩ := opt_map_some (show (eqL xs ys).map _ = some b from q)
        cases n with
        | zero => simp [D.depth] at hn
        | succ n =>
          have t := eq_atL I xs ys n A.in1 (by simp [D.depth] at hn; omega) (by show A.units + 1 + n < cLine; omega) hd la lb rv rv2 h1
          obtain ⟨f, hf, ht⟩ := t
          have e2 : (its.toArray.size == its2.toArray.size) = (xs.length == ys.length) := by
            rw [List.size_toArray, List.size_toArray, ← rv.length, ← rv2.length, ← la.length, ← lb.length]
          have e3 : (List.range (min its.toArray.size its2.toArray.size)).all f = c := by
            rw [List.size_toArray, List.size_toArray, ← rv.length, ← rv2.length, ← la.length, ← lb.length]; exact hf
          rw [← e3, ← e2]
          exact SeqAt.EqAt.of_refs hab (SeqAt.RcAt.tuples p p2 (by omega) fun j h1 h2 => by simpa using ht j (by simpa using h1) (by simpa using h2))
    | dK c => obtain ⟨a', ws, rfl, _, hb, _⟩ := g; cases ry; cases q; exact SeqAt.EqAt.tuple_dict p (is_dct I hb) (by omega)
    | _ => cases q
  | .lst xs, e, n, A, v, u, x, y, b, hn, hu, hd, h, g, rx, ry, q => by
    have h' := h
    obtain ⟨a, vs, rfl, hF, ha, la⟩ := h; cases rx
    obtain ⟨its, rv, p, _⟩ := I.list (.inl ha)
    cases e with
    | non => cases g; cases ry; cases q; exact SeqAt.EqAt.list_none p.isList (by omega)
    | bl c => cases g; cases ry; cases q; exact SeqAt.EqAt.list_bool c p.isList (by omega)
    | int c => cases g; obtain ⟨t', rfl⟩ := ry; cases q; exact SeqAt.EqAt.list_int c t' p.isList (by omega)
    | str c => cases g; obtain ⟨t', rfl⟩ := ry; cases q; exact SeqAt.EqAt.list_str c t' p.isList (by omega)
    | tup c => obtain ⟨a', ws, rfl, hb, _⟩ := g; cases ry; cases q; obtain ⟨its2, _, p2, _⟩ := I.tuple (SqT.of hb); exact SeqAt.EqAt.list_tuple p.isList p2 (by omega)
    | lst ys =>
      have g' := g
      obtain ⟨a', ws, rfl, _, hb, lb⟩ := g; cases ry
      obtain ⟨its2, rv2, p2, _⟩ := I.list (.inl hb)
      by_cases hab : a = a'
      · subst hab
        rw [eq_one (dk_nodup I) h' g' q]
        exact SeqAt.EqAt.same _
      · have q : (if xs.length = ys.length then eqL xs ys else some false) = some b := q
        cases n with
        | zero => simp [D.depth] at hn
        | succ n =>
          have e2 : (its.toArray.size = its2.toArray.size) ↔ (xs.length = ys.length) := by
            rw [List.size_toArray, List.size_toArray, ← rv.length, ← rv2.length, ← la.length, ← lb.length]
          by_cases hl : xs.length = ys.length
          · rw [if_pos hl] at q
            have t := eq_atL I xs ys n A.in1 (by simp [D.depth] at hn; omega) (by show A.units + 1 + n < cLine; omega) hd la lb rv rv2 q
            obtain ⟨f, hf, ht⟩ := t
            have e3 : (List.range its.toArray.size).all f = b := by
              rw [List.size_toArray, ← rv.length, ← la.length]
              rw [← hl, Nat.min_self] at hf
              exact hf
            rw [← e3]
            exact SeqAt.EqAt.of_refs hab (SeqAt.RcAt.lists p.isList p2.isList (e2.mpr hl) (by omega) fun j h1 h2 => by simpa using ht j (by simpa using h1) (by simpa using h2))
          · rw [if_neg hl] at q
            cases q
            exact SeqAt.EqAt.of_refs hab (SeqAt.RcAt.lists_lengths p.isList p2.isList (by simpa using fun z => hl (e2.mp (by simpa using z))) (by omega))
    | dK c => obtain ⟨a', ws, rfl, _, hb, _⟩ := g; cases ry; cases q; exact SeqAt.EqAt.list_dict p.isList (is_dct I hb) (by omega)
    | _ => cases q
  | .dK xs, e, n, A, v, u, x, y, b, hn, hu, hd, h, g, rx, ry, q => by cases hd
  | .dT xs, e, n, A, v, u, x, y, b, hn, hu, hd, h, g, rx, ry, q => by cases e <;> simp [eqD] at q
  | .ref i, e, n, A, v, u, x, y, b, hn, hu, hd, h, g, rx, ry, q => by cases e <;> simp [eqD] at q
  | .exn c fs, e, n, A, v, u, x, y, b, hn, hu, hd, h, g, rx, ry, q => by cases e <;> simp [eqD] at q
theorem eq_atL (I : Inv X pins σ H s) : ∀ (ds es : List D) (n : Nat) (A : Around) {vs us : List V} {xs ys : List Value} {b : Bool}, depthL ds ≤ n → A.units + n < cLine → nodictL ds = true → RelL N F r H ds vs → RelL N F r H es us → Vals vs xs → Vals us ys → eqL ds es = some b →
    ∃ f : Nat → Bool, (List.range (min ds.length es.length)).all f = b ∧ ∀ j (h1 : j < xs.length) (h2 : j < ys.length), SeqAt.EqAt A s xs[j] ys[j] (f j)
  | [], es, n, A, vs, us, xs, ys, b, hn, hu, hd, h, g, rx, ry, q => by
    cases h; cases rx
    refine ⟨fun _ => true, ?_, fun j h1 => absurd h1 (by simp)⟩
    have q : some true = some b := q
    cases q
    simp
  | d :: ds, [], n, A, vs, us, xs, ys, b, hn, hu, hd, h, g, rx, ry, q => by
    cases g; cases ry
    refine ⟨fun _ => true, ?_, fun j h1 h2 => absurd h2 (by simp)⟩
    have q : some true = some b := q
    cases q
    simp
  | d :: ds, e :: es, n, A, vs, us, xs, ys, b, hn, hu, hd, h, g, rx, ry, q => by
    obtain ⟨v, vs, rfl, a1, b1⟩ := h
    obtain ⟨u, us, rfl, a2, b2⟩ := g
    cases rx with
    | cons r1 rs1 =>
      cases ry with
      | cons r2 rs2 =>
        obtain ⟨p, p', h1, h2, rfl⟩ := eqL_cons q
        have hm : max d.depth (depthL ds) ≤ n := hn
        have hd : d.nodict = true ∧ nodictL ds = true := by simpa [nodictL] using hd
        have t1 := eq_at I d e n A (Nat.le_trans (Nat.le_max_left _ _) hm) hu hd.1 a1 a2 r1 r2 h1
        obtain ⟨f, hf, ht⟩ := eq_atL I ds es n A (Nat.le_trans (Nat.le_max_right _ _) hm) hu hd.2 b1 b2 rs1 rs2 h2
        refine ⟨fun j => match j with | 0 => p | j + 1 => f j, ?_, fun j h1 h2 => ?_⟩
        · rw [List.length_cons, List.length_cons, Nat.succ_min_succ, List.range_succ_eq_map, List.all_cons, List.all_map]
          show (p && (List.range (min ds.length es.length)).all f) = (p && p')
          rw [hf]
        · cases j with
          | zero => exact t1
          | succ j => exact ht j (by simpa using h1) (by simpa using h2)
end
end
end Ev
/-! EvE1: != of two tuples, in one program and world (its items are told by trees). -/
namespace PySem.SeqAt
open AutoSeq1 (wpAny_loadPart')
open MeetsSeq MeetsSeq2 MeetsSeq3 SeqRoads2
/-- what the items from a place on tell of two tuples' != -/
def neFrom (e : Nat → Bool) (xs ys : Array Value) (i : Nat) : Bool := !(((List.range (min xs.size ys.size)).drop i).all e && xs.size == ys.size)
theorem neFrom_on {e : Nat → Bool} {xs ys : Array Value} {i : Nat} (h : i < min xs.size ys.size) : neFrom e xs ys i = !(e i && (((List.range (min xs.size ys.size)).drop (i + 1)).all e) && xs.size == ys.size) := by
  unfold neFrom
  rw [show (List.range (min xs.size ys.size)).drop i = i :: (List.range (min xs.size ys.size)).drop (i + 1) by simp [List.drop_eq_getElem_cons, h], List.all_cons]
theorem neFrom_end {e : Nat → Bool} {xs ys : Array Value} {i : Nat} (h : min xs.size ys.size ≤ i) : neFrom e xs ys i = !(xs.size == ys.size) := by
  unfold neFrom
  rw [List.drop_of_length_le (by simpa using h)]
  rfl
section
variable {prog : Program} {w : World}
theorem ne_tupIn (l b : Addr) (xs ys : Array Value) (n n2 : Nat) (dd dd2 : Option Addr) (sl sl2 : Array (Option Value)) (e : Nat → Bool) :
    MeetsIn prog w (Builtin.«tuple.__ne__» ⟨[.ref l, .ref b], []⟩)
      (fun A R s => s.heap.get? l = some { cls := .type "tuple", dict := dd, data := .seq xs n, slots := sl } ∧ s.heap.get? b = some { cls := .type "tuple", dict := dd2, data := .seq ys n2, slots := sl2 } ∧
        (∀ j (h1 : j < xs.size) (h2 : j < ys.size), EqIn prog w A.in1 s xs[j] ys[j] (e j)) ∧ R (.ok (.ret (.bool (neFrom e xs ys 0)))) s) :=
  .of_wp fun A R s h => by
    obtain ⟨hp, g, d, tk, os⟩ := s
    obtain ⟨hl, hb, he, h⟩ := h
    have sub := AutoSeq1.sub_tuple_tuple
    have hZ : (xs.toList.zip ys.toList).length = min xs.size ys.size := by simp
    wp_walk using wpAny_loadPart' hl, wpAny_loadPart' hb, wpAny_forIn_list _ (fun rest c s' => c.1 = none ∧ s' = ⟨hp, g, d, tk, os⟩ ∧ ∃ i, rest = (xs.toList.zip ys.toList).drop i ∧ R (.ok (.ret (.bool (neFrom e xs ys i)))) ⟨hp, g, d, tk, os⟩) _
    case turn =>
      rintro ⟨y, x⟩ rest c s' ⟨hc, rfl, i, hz, hR⟩
      have hi : i < min xs.size ys.size := by
        rcases Nat.lt_or_ge i (min xs.size ys.size) with h' | h'
        · exact h'
        · rw [List.drop_of_length_le (by rw [hZ]; exact h')] at hz
          cases hz
      have h1 : i < xs.size := Nat.lt_of_lt_of_le hi (Nat.min_le_left _ _)
      have h2 : i < ys.size := Nat.lt_of_lt_of_le hi (Nat.min_le_right _ _)
      rw [List.drop_eq_getElem_cons (hZ ▸ hi)] at hz
      injection hz with hyx hrest
      have hy : y = xs[i] := by have := congrArg Prod.fst hyx; simpa using this
      have hx : x = ys[i] := by have := congrArg Prod.snd hyx; simpa using this
      subst hy hx
      rw [neFrom_on hi] at hR
      refine wpAny_bind (he i h1 h2 _ _ ?_)
      cases hei : e i with
      | true =>
        rw [hei, Bool.true_and] at hR
        wp_walk
        exact ⟨rfl, rfl, i + 1, hrest, hR⟩
      | false =>
        rw [hei] at hR
        wp_walk
        exact ⟨_, rfl, by simpa using hR⟩
    case fin =>
      rintro ⟨c1, c2⟩ s' ⟨hc, rfl, i, hz, hR⟩
      simp only at hc
      subst hc
      have hi : min xs.size ys.size ≤ i := by
        rcases Nat.lt_or_ge i (min xs.size ys.size) with h' | h'
        · rw [List.drop_eq_getElem_cons (hZ ▸ h')] at hz
          cases hz
        · exact h'
      rw [neFrom_end hi] at hR
      wp_walk
      exact ⟨_, rfl, by simpa [Builtin.Tuple.tupleCompareSizes, bne] using hR⟩
    case h => exact ⟨rfl, rfl, 0, rfl, h⟩
end
section
variable {prog : Program} {w : World} {A : Around} {s : Shared}
theorem rcNeIn_tuples {E : Value → Shared → Prop} {l b : Addr} {xs ys : Array Value} {e : Nat → Bool} {Q : Value → Shared → Prop} (hl : s.heap.IsTuple l xs) (hb : s.heap.IsTuple b ys) (hu : A.units < cLine)
    (he : ∀ j (h1 : j < xs.size) (h2 : j < ys.size), EqIn prog w A.in1 s xs[j] ys[j] (e j)) (h : Q (.bool (!((List.range (min xs.size ys.size)).all e && xs.size == ys.size))) s) :
    wpAny (model prog w) A (richCompare .NotEq (.ref l) (.ref b)) Q E s := by
  obtain ⟨⟨cls, dd, data, sl⟩, ho, hc, n, hd⟩ := id hl
  obtain ⟨⟨cls2, dd2, data2, sl2⟩, ho2, hc2, n2, hd2⟩ := id hb
  simp only at hc hd hc2 hd2
  subst hc hd hc2 hd2
  have h0 : Q (.bool (neFrom e xs ys 0)) s := h
  exact wpAny_richCompare_same_room (T := "tuple") (op := .NotEq) ⟨_, ho, rfl⟩ ⟨_, ho2, rfl⟩ F.slot_tuple_ne (call_meetsIn F.slot_tuple_ne ⟨_, ho, rfl⟩ F.entry_tuple_ne (F.args_tuple_ne_2 _ _) (ne_tupIn l b xs ys n n2 dd dd2 sl sl2 e)
    ⟨ho, ho2, he, show Value.bool (neFrom e xs ys 0) ≠ Value.notImplemented ∧ Q (.bool (neFrom e xs ys 0)) s from ⟨(fun x => nomatch x), h0⟩⟩) hu
end
end PySem.SeqAt
/-! EvF0: x in a list, where == of the items is known for this program alone (lists and dicts within). -/
namespace PySem.SeqAt
open AutoSeq1 (wpAny_loadPart')
open MeetsSeq MeetsSeq2 MeetsSeq3 SeqRoads2
/-- what is known of a list and of == of its items with x -/
def ListEq (prog : Program) (w : World) (l : Addr) (items : Array Value) (x : Value) (e : Value → Bool) (A : Around) (s : Shared) : Prop :=
  (∃ n dd sl, s.heap.get? l = some { cls := .type "list", dict := dd, data := .seq items n, slots := sl }) ∧ ∀ y, y ∈ items → EqIn prog w A.in1 s y x (e y)
theorem has_loop {prog : Program} {w : World} {l : Addr} {items : Array Value} {x : Value} {e : Value → Bool} (k : Nat) : ∀ i : Nat, items.size - i = k →
    MeetsIn prog w (Builtin.«list.__contains__.loop» ⟨[.ref l, x, rawInt i], []⟩) (fun A R s => ListEq prog w l items x e A s ∧ R (.ok (.ret (.bool ((items.toList.drop i).any e)))) s) := by
  induction k with
  | zero =>
    rintro i hk A R ⟨hp, g, d, tk, os⟩ ⟨⟨⟨n, dd, sl, hl⟩, _⟩, h⟩
    rw [show items.toList.drop i = [] by simp; omega] at h
    wp_walk using wpAny_loadPart' hl
    rw [show items[((i : Nat) : Int).toNat]? = none by simp; omega]
    wp_walk
    exact h
  | succ k ih =>
    rintro i hk A R ⟨hp, g, d, tk, os⟩ ⟨⟨⟨n, dd, sl, hl⟩, he⟩, h⟩
    have hlt : i < items.size := by omega
    rw [show items.toList.drop i = items[i] :: items.toList.drop (i + 1) by simp [List.drop_eq_getElem_cons, hlt], List.any_cons] at h
    wp_walk using wpAny_loadPart' hl
    rw [show items[((i : Nat) : Int).toNat]? = some items[i] by simp [hlt]]
    refine wpAny_bind (he _ (Array.getElem_mem hlt) _ _ ?_)
    cases hv : e items[i] with
    | true =>
      rw [hv] at h
      wp_walk
      exact h
    | false =>
      rw [hv] at h
      wp_walk
      rw [show ((i : Int) + 1) = ((i + 1 : Nat) : Int) by push_cast; rfl]
      refine ⟨plainId_quiet plain_contains_loop _, codeAny_builtin entry_contains_loop ?_⟩
      rw [Around.under_plainId plain_contains_loop _]
      exact ih (i + 1) (by omega) A R _ ⟨⟨⟨n, dd, sl, hl⟩, he⟩, by simpa using h⟩
theorem has_list {prog : Program} {w : World} {l : Addr} {items : Array Value} {x : Value} {e : Value → Bool} :
    MeetsIn prog w (Builtin.«list.__contains__» ⟨[.ref l, x], []⟩) (fun A R s => ListEq prog w l items x e A s ∧ R (.ok (.ret (.bool (items.any e)))) s) := by
  rintro A R ⟨hp, g, d, tk, os⟩ ⟨⟨⟨n, dd, sl, hl⟩, he⟩, h⟩
  wp_walk using wpAny_loadPart' hl
  refine ⟨plainId_quiet plain_contains_loop _, codeAny_builtin entry_contains_loop ?_⟩
  rw [Around.under_plainId plain_contains_loop _]
  exact has_loop _ 0 rfl A R _ ⟨⟨⟨n, dd, sl, hl⟩, he⟩, by simpa using h⟩
/-- l.index(x): the items ahead of place j are other ones, the one there is not -/
theorem idx_loop {prog : Program} {w : World} {l : Addr} {items : Array Value} {x : Value} {n : Nat} {dd : Option Addr} {sl : Array (Option Value)} {j : Nat} (hj : j < items.size) {upto : Int} (hu : (j : Int) < upto) :
    ∀ k i : Nat, i + k = j → MeetsIn prog w (Builtin.«list.index.loop» ⟨[.ref l, x, rawInt i, rawInt upto], []⟩) (fun A R s => (s.heap.get? l = some { cls := .type "list", dict := dd, data := .seq items n, slots := sl } ∧
      (∀ m (hm : m < items.size), m < j → EqIn prog w A.in1 s items[m] x false) ∧ EqIn prog w A.in1 s items[j] x true) ∧ R (.ok (.ret (.int j s.toks))) { s with toks := s.toks + 1 }) := by
  intro k
  induction k with
  | zero =>
    rintro i hk A R ⟨hp, g, d, tk, os⟩ ⟨⟨hl, hno, hit⟩, h⟩
    obtain rfl : i = j := by omega
    wp_walk using wpAny_loadPart' hl
    rw [show (if (i : Int) < upto then items[((i : Nat) : Int).toNat]? else none) = some items[i] by simp [hu, hj]]
    refine wpAny_bind (hit _ _ ?_)
    wp_walk
    exact h
  | succ k ih =>
    rintro i hk A R ⟨hp, g, d, tk, os⟩ ⟨⟨hl, hno, hit⟩, h⟩
    have hi : i < items.size := by omega
    wp_walk using wpAny_loadPart' hl
    rw [show (if (i : Int) < upto then items[((i : Nat) : Int).toNat]? else none) = some items[i] by simp [show (i : Int) < upto by omega, hi]]
    refine wpAny_bind (hno i hi (by omega) _ _ ?_)
    wp_walk
    rw [show ((i : Int) + 1) = ((i + 1 : Nat) : Int) by push_cast; rfl]
    refine ⟨plainId_quiet plain_index_loop _, codeAny_builtin entry_index_loop ?_⟩
    rw [Around.under_plainId plain_index_loop _]
    exact ih (i + 1) (by omega) A R _ ⟨⟨hl, hno, hit⟩, h⟩
theorem idx_list {prog : Program} {w : World} {l : Addr} {items : Array Value} {x : Value} {n : Nat} {dd : Option Addr} {sl : Array (Option Value)} {j : Nat} (hj : j < items.size) (hs : (j : Int) < 2 ^ 63 - 1) :
    MeetsIn prog w (Builtin.«list.index» ⟨[.ref l, x], []⟩) (fun A R s => (s.heap.get? l = some { cls := .type "list", dict := dd, data := .seq items n, slots := sl } ∧
      (∀ m (hm : m < items.size), m < j → EqIn prog w A.in1 s items[m] x false) ∧ EqIn prog w A.in1 s items[j] x true) ∧ R (.ok (.ret (.int j s.toks))) { s with toks := s.toks + 1 }) := by
  rintro A R ⟨hp, g, d, tk, os⟩ ⟨⟨hl, hno, hit⟩, h⟩
  wp_walk using wpAny_loadPart' hl
  rw [show ((fun i : Int => if i < 0 then max 0 (i + (items.size : Int)) else i) ((none : Option Int).getD 0)) = ((0 : Nat) : Int) by simp, show ((fun i : Int => if i < 0 then max 0 (i + (items.size : Int)) else i) ((none : Option Int).getD (2 ^ 63 - 1))) = 2 ^ 63 - 1 by simp]
  refine ⟨plainId_quiet plain_index_loop _, codeAny_builtin entry_index_loop ?_⟩
  rw [Around.under_plainId plain_index_loop _]
  exact idx_loop hj hs j 0 (by omega) A R _ ⟨⟨hl, hno, hit⟩, h⟩
section
variable {prog : Program} {w : World} {A : Around} {E : Value → Shared → Prop} {s : Shared} {l : Addr} {items : Array Value} {x : Value} {e : Value → Bool}
theorem has_asked {Q : Bool → Shared → Prop} (hl : s.heap.IsList l items) (he : ∀ y, y ∈ items → EqIn prog w A.in1 s y x (e y)) (h : Q (items.any e) s) : wpAny (model prog w) A (contains (.ref l) x) Q E s := by
  obtain ⟨⟨cls, dd, data, sl⟩, ho, hc, n, hd⟩ := id hl
  simp only at hc hd
  subst hc hd
  refine wpAny_contains_slot ⟨_, ho, rfl⟩ F.slot_list_contains (wpAny_mono (call_meetsIn (Q := fun v s' => ∃ b, v = .bool b ∧ Q b s') F.slot_list_contains ⟨_, ho, rfl⟩ F.entry_list_contains (F.args_list_contains_2 _ _) (has_list (e := e)) ⟨⟨⟨n, dd, sl, ho⟩, he⟩, ⟨_, rfl, h⟩⟩) (fun v s' hv => ?_) fun _ _ z => z)
  obtain ⟨b, rfl, hq⟩ := hv
  exact wpAny_truthy_bool hq
theorem in_listIn {Q : Value → Shared → Prop} (hl : s.heap.IsList l items) (he : ∀ y, y ∈ items → EqIn prog w A.in1 s y x (e y)) (h : Q (.bool (items.any e)) s) : wpAny (model prog w) A (compareOp .In x (.ref l)) Q E s := by
  show wpAny _ A (do return .bool (← contains (.ref l) x)) Q E s
  exact wpAny_bind (has_asked hl he (wpAny_pure h))
theorem notIn_listIn {Q : Value → Shared → Prop} (hl : s.heap.IsList l items) (he : ∀ y, y ∈ items → EqIn prog w A.in1 s y x (e y)) (h : Q (.bool (!items.any e)) s) : wpAny (model prog w) A (compareOp .NotIn x (.ref l)) Q E s := by
  show wpAny _ A (do return .bool (!(← contains (.ref l) x))) Q E s
  exact wpAny_bind (has_asked hl he (wpAny_pure h))
end
end PySem.SeqAt
/-! EvF: == and !=, in and not in, as operators. -/
namespace Ev
open PySem L2
section
variable {X : Cx} {pins : List (Addr × Obj)} {σ : L2.St} {s : Shared} {N : Nm} {F : Addr → Prop} {r : List Addr} {H : Hp} {m : Mem}
theorem rcNe_top (I : Inv X pins σ H s) : ∀ (d e : D) (n : Nat) (A : Around) {v u : V} {x y : Value} {b : Bool}, d.depth ≤ n → A.units + n < cLine → d.nodict = true → e.nodict = true → RelD N F r H d v → RelD N F r H e u → RelV v x → RelV u y → eqD d e = some b → SeqAt.RcNeAt A s x y (!b)
  | .non, e, n, A, v, u, x, y, b, hn, hu, hd, he0, h, g, rx, ry, q => by
    cases h; cases rx
    cases e with
    | non => cases g; cases ry; cases q; exact SeqAt.RcNeAt.none_none
    | bl c => cases g; cases ry; cases q; exact SeqAt.RcNeAt.none_bool c
    | int c => cases g; obtain ⟨t, rfl⟩ := ry; cases q; exact SeqAt.RcNeAt.none_int c t
    | str c => cases g; obtain ⟨t, rfl⟩ := ry; cases q; exact SeqAt.RcNeAt.none_str c t
    | tup c => obtain ⟨a, vs, rfl, ha, _⟩ := g; cases ry; cases q; obtain ⟨its, _, p, _⟩ := I.tuple (SqT.of ha); exact SeqAt.RcNeAt.none_tuple p (by omega)
    | lst c => obtain ⟨a, vs, rfl, _, ha, _⟩ := g; cases ry; cases q; obtain ⟨its, _, p, _⟩ := I.list (.inl ha); exact SeqAt.RcNeAt.none_list p.isList (by omega)
    | dK _ => cases he0
    | _ => cases q
  | .bl a, e, n, A, v, u, x, y, b, hn, hu, hd, he0, h, g, rx, ry, q => by
    cases h; cases rx
    cases e with
    | non => cases g; cases ry; cases q; exact SeqAt.RcNeAt.bool_none a
    | bl c => cases g; cases ry; cases q; exact SeqAt.RcNeAt.bool_bool a c
    | int c => cases g; obtain ⟨t, rfl⟩ := ry; cases q; exact SeqAt.RcNeAt.bool_int a c t
    | str c => cases g; obtain ⟨t, rfl⟩ := ry; cases q; exact SeqAt.RcNeAt.bool_str a c t
    | tup c => obtain ⟨a', vs, rfl, ha, _⟩ := g; cases ry; cases q; obtain ⟨its, _, p, _⟩ := I.tuple (SqT.of ha); exact SeqAt.RcNeAt.bool_tuple a p (by omega)
    | lst c => obtain ⟨a', vs, rfl, _, ha, _⟩ := g; cases ry; cases q; obtain ⟨its, _, p, _⟩ := I.list (.inl ha); exact SeqAt.RcNeAt.bool_list a p.isList (by omega)
    | dK _ => cases he0
    | _ => cases q
  | .int a, e, n, A, v, u, x, y, b, hn, hu, hd, he0, h, g, rx, ry, q => by
    cases h; obtain ⟨t, rfl⟩ := rx
    cases e with
    | non => cases g; cases ry; cases q; exact SeqAt.RcNeAt.int_none a t
    | bl c => cases g; cases ry; cases q; exact SeqAt.RcNeAt.int_bool a t c
    | int c => cases g; obtain ⟨t', rfl⟩ := ry; cases q; have z := SeqAt.RcNeAt.int_int (A := A) (s := s) a t c t'; rw [Bool.beq_eq_decide_eq] at z; exact z
    | str c => cases g; obtain ⟨t', rfl⟩ := ry; cases q; exact SeqAt.RcNeAt.int_str a t c t'
    | tup c => obtain ⟨a', vs, rfl, ha, _⟩ := g; cases ry; cases q; obtain ⟨its, _, p, _⟩ := I.tuple (SqT.of ha); exact SeqAt.RcNeAt.int_tuple a t p (by omega)
    | lst c => obtain ⟨a', vs, rfl, _, ha, _⟩ := g; cases ry; cases q; obtain ⟨its, _, p, _⟩ := I.list (.inl ha); exact SeqAt.RcNeAt.int_list a t p.isList (by omega)
    | dK _ => cases he0
    | _ => cases q
  | .str a, e, n, A, v, u, x, y, b, hn, hu, hd, he0, h, g, rx, ry, q => by
    cases h; obtain ⟨t, rfl⟩ := rx
    cases e with
    | non => cases g; cases ry; cases q; exact SeqAt.RcNeAt.str_none a t
    | bl c => cases g; cases ry; cases q; exact SeqAt.RcNeAt.str_bool a t c
    | int c => cases g; obtain ⟨t', rfl⟩ := ry; cases q; exact SeqAt.RcNeAt.str_int a t c t'
    | str c => cases g; obtain ⟨t', rfl⟩ := ry; cases q; have z := SeqAt.RcNeAt.str_str (A := A) (s := s) a t c t'; rw [Bool.beq_eq_decide_eq] at z; exact z
    | tup c => obtain ⟨a', vs, rfl, ha, _⟩ := g; cases ry; cases q; obtain ⟨its, _, p, _⟩ := I.tuple (SqT.of ha); exact SeqAt.RcNeAt.str_tuple a t p (by omega)
    | lst c => obtain ⟨a', vs, rfl, _, ha, _⟩ := g; cases ry; cases q; obtain ⟨its, _, p, _⟩ := I.list (.inl ha); exact SeqAt.RcNeAt.str_list a t p.isList (by omega)
    | dK _ => cases he0
    | _ => cases q
  | .tup xs, e, n, A, v, u, x, y, b, hn, hu, hd, he0, h, g, rx, ry, q => by
    have h' := h
    obtain ⟨a, vs, rfl, ha, la⟩ := h; cases rx
    obtain ⟨its, rv, p, _⟩ := I.tuple (SqT.of ha)
    cases e with
    | non => cases g; cases ry; cases q; exact SeqAt.RcNeAt.tuple_none p (by omega)
    | bl c => cases g; cases ry; cases q; exact SeqAt.RcNeAt.tuple_bool c p (by omega)
    | int c => cases g; obtain ⟨t', rfl⟩ := ry; cases q; exact SeqAt.RcNeAt.tuple_int c t' p (by omega)
    | str c => cases g; obtain ⟨t', rfl⟩ := ry; cases q; exact SeqAt.RcNeAt.tuple_str c t' p (by omega)
    | lst c => obtain ⟨a', ws, rfl, _, hb, _⟩ := g; cases ry; cases q; obtain ⟨its2, _, p2, _⟩ := I.list (.inl hb); exact SeqAt.RcNeAt.tuple_list p p2.isList (by omega)
    | tup ys =>
      have g' := g
      obtain ⟨a', ws, rfl, hb, lb⟩ := g; cases ry
      obtain ⟨its2, rv2, p2, _⟩ := I.tuple (SqT.of hb)
      · obtain ⟨c, h1, rfl⟩ := opt_map_some (show (eqL xs ys).map _ = some b from q)
        cases n with
        | zero => simp [D.depth] at hn
        | succ n =>
          have t := eq_atL I xs ys n A.in1 (by simp [D.depth] at hn; omega) (by show A.units + 1 + n < cLine; omega) hd la lb rv rv2 h1
          obtain ⟨f, hf, ht⟩ := t
          have e2 : (its.toArray.size == its2.toArray.size) = (xs.length == ys.length) := by
            rw [List.size_toArray, List.size_toArray, ← rv.length, ← rv2.length, ← la.length, ← lb.length]
          have e3 : (List.range (min its.toArray.size its2.toArray.size)).all f = c := by
            rw [List.size_toArray, List.size_toArray, ← rv.length, ← rv2.length, ← la.length, ← lb.length]; exact hf
          rw [← e3, ← e2]
          exact (SeqAt.RcNeAt.tuples p p2 (by omega) fun j h1 h2 => by simpa using ht j (by simpa using h1) (by simpa using h2))
    | dK _ => cases he0
    | _ => cases q
  | .lst xs, e, n, A, v, u, x, y, b, hn, hu, hd, he0, h, g, rx, ry, q => by
    have h' := h
    obtain ⟨a, vs, rfl, hF, ha, la⟩ := h; cases rx
    obtain ⟨its, rv, p, _⟩ := I.list (.inl ha)
    cases e with
    | non => cases g; cases ry; cases q; exact SeqAt.RcNeAt.list_none p.isList (by omega)
    | bl c => cases g; cases ry; cases q; exact SeqAt.RcNeAt.list_bool c p.isList (by omega)
    | int c => cases g; obtain ⟨t', rfl⟩ := ry; cases q; exact SeqAt.RcNeAt.list_int c t' p.isList (by omega)
    | str c => cases g; obtain ⟨t', rfl⟩ := ry; cases q; exact SeqAt.RcNeAt.list_str c t' p.isList (by omega)
    | tup c => obtain ⟨a', ws, rfl, hb, _⟩ := g; cases ry; cases q; obtain ⟨its2, _, p2, _⟩ := I.tuple (SqT.of hb); exact SeqAt.RcNeAt.list_tuple p.isList p2 (by omega)
    | lst ys =>
      have g' := g
      obtain ⟨a', ws, rfl, _, hb, lb⟩ := g; cases ry
      obtain ⟨its2, rv2, p2, _⟩ := I.list (.inl hb)
      · have q : (if xs.length = ys.length then eqL xs ys else some false) = some b := q
        cases n with
        | zero => simp [D.depth] at hn
        | succ n =>
          have e2 : (its.toArray.size = its2.toArray.size) ↔ (xs.length = ys.length) := by
            rw [List.size_toArray, List.size_toArray, ← rv.length, ← rv2.length, ← la.length, ← lb.length]
          by_cases hl : xs.length = ys.length
          · rw [if_pos hl] at q
            have t := eq_atL I xs ys n A.in1 (by simp [D.depth] at hn; omega) (by show A.units + 1 + n < cLine; omega) hd la lb rv rv2 q
            obtain ⟨f, hf, ht⟩ := t
            have e3 : (List.range its.toArray.size).all f = b := by
              rw [List.size_toArray, ← rv.length, ← la.length]
              rw [← hl, Nat.min_self] at hf
              exact hf
            rw [← e3]
            exact (SeqAt.RcNeAt.lists p.isList p2.isList (e2.mpr hl) (by omega) fun j h1 h2 => by simpa using ht j (by simpa using h1) (by simpa using h2))
          · rw [if_neg hl] at q
            cases q
            exact (SeqAt.RcNeAt.lists_lengths p.isList p2.isList (by simpa using fun z => hl (e2.mp (by simpa using z))) (by omega))
    | dK _ => cases he0
    | _ => cases q
  | .dK xs, e, n, A, v, u, x, y, b, hn, hu, hd, he0, h, g, rx, ry, q => by cases hd
  | .dT xs, e, n, A, v, u, x, y, b, hn, hu, hd, he0, h, g, rx, ry, q => by cases e <;> simp [eqD] at q
  | .ref i, e, n, A, v, u, x, y, b, hn, hu, hd, he0, h, g, rx, ry, q => by cases e <;> simp [eqD] at q
  | .exn c fs, e, n, A, v, u, x, y, b, hn, hu, hd, he0, h, g, rx, ry, q => by cases e <;> simp [eqD] at q
theorem rcEq_top (I : Inv X pins σ H s) : ∀ (d e : D) (n : Nat) (A : Around) {v u : V} {x y : Value} {b : Bool}, d.depth ≤ n → A.units + n < cLine → RelD N F r H d v → RelD N F r H e u → RelV v x → RelV u y → eqD d e = some b → ∀ (E Q : Value → Shared → Prop), Q (.bool b) s → wpAny (model X.prog X.w) A (compareOp .Eq x y) Q E s
  | .non, e, n, A, v, u, x, y, b, hn, hu, h, g, rx, ry, q => by
    cases h; cases rx
    cases e with
    | non => cases g; cases ry; cases q; exact fun E Q hq => SeqAt.RcAt.none_none X.prog X.w E Q hq
    | bl c => cases g; cases ry; cases q; exact fun E Q hq => SeqAt.RcAt.none_bool c X.prog X.w E Q hq
    | int c => cases g; obtain ⟨t, rfl⟩ := ry; cases q; exact fun E Q hq => SeqAt.RcAt.none_int c t X.prog X.w E Q hq
    | str c => cases g; obtain ⟨t, rfl⟩ := ry; cases q; exact fun E Q hq => SeqAt.RcAt.none_str c t X.prog X.w E Q hq
    | tup c => obtain ⟨a, vs, rfl, ha, _⟩ := g; cases ry; cases q; obtain ⟨its, _, p, _⟩ := I.tuple (SqT.of ha); exact fun E Q hq => SeqAt.RcAt.none_tuple p (by omega) X.prog X.w E Q hq
    | lst c => obtain ⟨a, vs, rfl, _, ha, _⟩ := g; cases ry; cases q; obtain ⟨its, _, p, _⟩ := I.list (.inl ha); exact fun E Q hq => SeqAt.RcAt.none_list p.isList (by omega) X.prog X.w E Q hq
    | dK c => obtain ⟨a', ws, rfl, _, hb, _⟩ := g; cases ry; cases q; exact fun E Q hq => SeqAt.RcAt.none_dict (is_dct I hb) (by omega) X.prog X.w E Q hq
    | _ => cases q
  | .bl a, e, n, A, v, u, x, y, b, hn, hu, h, g, rx, ry, q => by
    cases h; cases rx
    cases e with
    | non => cases g; cases ry; cases q; exact fun E Q hq => SeqAt.RcAt.bool_none a X.prog X.w E Q hq
    | bl c => cases g; cases ry; cases q; exact fun E Q hq => SeqAt.RcAt.bool_bool a c X.prog X.w E Q hq
    | int c => cases g; obtain ⟨t, rfl⟩ := ry; cases q; exact fun E Q hq => SeqAt.RcAt.bool_int a c t X.prog X.w E Q hq
    | str c => cases g; obtain ⟨t, rfl⟩ := ry; cases q; exact fun E Q hq => SeqAt.RcAt.bool_str a c t X.prog X.w E Q hq
    | tup c => obtain ⟨a', vs, rfl, ha, _⟩ := g; cases ry; cases q; obtain ⟨its, _, p, _⟩ := I.tuple (SqT.of ha); exact fun E Q hq => SeqAt.RcAt.bool_tuple a p (by omega) X.prog X.w E Q hq
    | lst c => obtain ⟨a', vs, rfl, _, ha, _⟩ := g; cases ry; cases q; obtain ⟨its, _, p, _⟩ := I.list (.inl ha); exact fun E Q hq => SeqAt.RcAt.bool_list a p.isList (by omega) X.prog X.w E Q hq
    | dK c => obtain ⟨a', ws, rfl, _, hb, _⟩ := g; cases ry; cases q; exact fun E Q hq => SeqAt.RcAt.bool_dict a (is_dct I hb) (by omega) X.prog X.w E Q hq
    | _ => cases q
  | .int a, e, n, A, v, u, x, y, b, hn, hu, h, g, rx, ry, q => by
    cases h; obtain ⟨t, rfl⟩ := rx
    cases e with
    | non => cases g; cases ry; cases q; exact fun E Q hq => SeqAt.RcAt.int_none a t X.prog X.w E Q hq
    | bl c => cases g; cases ry; cases q; exact fun E Q hq => SeqAt.RcAt.int_bool a t c X.prog X.w E Q hq
    | int c => cases g; obtain ⟨t', rfl⟩ := ry; cases q; have z := SeqAt.RcAt.int_int (A := A) (s := s) a t c t'; rw [Bool.beq_eq_decide_eq] at z; exact fun E Q hq => z X.prog X.w E Q hq
    | str c => cases g; obtain ⟨t', rfl⟩ := ry; cases q; exact fun E Q hq => SeqAt.RcAt.int_str a t c t' X.prog X.w E Q hq
    | tup c => obtain ⟨a', vs, rfl, ha, _⟩ := g; cases ry; cases q; obtain ⟨its, _, p, _⟩ := I.tuple (SqT.of ha); exact fun E Q hq => SeqAt.RcAt.int_tuple a t p (by omega) X.prog X.w E Q hq
    | lst c => obtain ⟨a', vs, rfl, _, ha, _⟩ := g; cases ry; cases q; obtain ⟨its, _, p, _⟩ := I.list (.inl ha); exact fun E Q hq => SeqAt.RcAt.int_list a t p.isList (by omega) X.prog X.w E Q hq
    | dK c => obtain ⟨a', ws, rfl, _, hb, _⟩ := g; cases ry; cases q; exact fun E Q hq => SeqAt.RcAt.int_dict a t (is_dct I hb) (by omega) X.prog X.w E Q hq
    | _ => cases q
  | .str a, e, n, A, v, u, x, y, b, hn, hu, h, g, rx, ry, q => by
    cases h; obtain ⟨t, rfl⟩ := rx
    cases e with
    | non => cases g; cases ry; cases q; exact fun E Q hq => SeqAt.RcAt.str_none a t X.prog X.w E Q hq
    | bl c => cases g; cases ry; cases q; exact fun E Q hq => SeqAt.RcAt.str_bool a t c X.prog X.w E Q hq
    | int c => cases g; obtain ⟨t', rfl⟩ := ry; cases q; exact fun E Q hq => SeqAt.RcAt.str_int a t c t' X.prog X.w E Q hq
    | str c => cases g; obtain ⟨t', rfl⟩ := ry; cases q; have z := SeqAt.RcAt.str_str (A := A) (s := s) a t c t'; rw [Bool.beq_eq_decide_eq] at z; exact fun E Q hq => z X.prog X.w E Q hq
    | tup c => obtain ⟨a', vs, rfl, ha, _⟩ := g; cases ry; cases q; obtain ⟨its, _, p, _⟩ := I.tuple (SqT.of ha); exact fun E Q hq => SeqAt.RcAt.str_tuple a t p (by omega) X.prog X.w E Q hq
    | lst c => obtain ⟨a', vs, rfl, _, ha, _⟩ := g; cases ry; cases q; obtain ⟨its, _, p, _⟩ := I.list (.inl ha); exact fun E Q hq => SeqAt.RcAt.str_list a t p.isList (by omega) X.prog X.w E Q hq
    | dK c => obtain ⟨a', ws, rfl, _, hb, _⟩ := g; cases ry; cases q; exact fun E Q hq => SeqAt.RcAt.str_dict a t (is_dct I hb) (by omega) X.prog X.w E Q hq
    | _ => cases q
  | .tup xs, e, n, A, v, u, x, y, b, hn, hu, h, g, rx, ry, q => by
    have h' := h
    obtain ⟨a, vs, rfl, ha, la⟩ := h; cases rx
    obtain ⟨its, rv, p, _⟩ := I.tuple (SqT.of ha)
    cases e with
    | non => cases g; cases ry; cases q; exact fun E Q hq => SeqAt.RcAt.tuple_none p (by omega) X.prog X.w E Q hq
    | bl c => cases g; cases ry; cases q; exact fun E Q hq => SeqAt.RcAt.tuple_bool c p (by omega) X.prog X.w E Q hq
    | int c => cases g; obtain ⟨t', rfl⟩ := ry; cases q; exact fun E Q hq => SeqAt.RcAt.tuple_int c t' p (by omega) X.prog X.w E Q hq
    | str c => cases g; obtain ⟨t', rfl⟩ := ry; cases q; exact fun E Q hq => SeqAt.RcAt.tuple_str c t' p (by omega) X.prog X.w E Q hq
    | lst c => obtain ⟨a', ws, rfl, _, hb, _⟩ := g; cases ry; cases q; obtain ⟨its2, _, p2, _⟩ := I.list (.inl hb); exact fun E Q hq => SeqAt.RcAt.tuple_list p p2.isList (by omega) X.prog X.w E Q hq
    | tup ys =>
      have g' := g
      obtain ⟨a', ws, rfl, hb, lb⟩ := g; cases ry
      obtain ⟨its2, rv2, p2, _⟩ := I.tuple (SqT.of hb)
      · obtain ⟨c, h1, rfl⟩ := opt_map_some (show (eqL xs ys).map _ = some b from q)
        cases n with
        | zero => simp [D.depth] at hn
        | succ n =>
          have t := eq_treeL I xs ys n (by simp [D.depth] at hn; omega) la lb rv rv2 h1
          obtain ⟨f, hf, ht⟩ := t
          have e2 : (its.toArray.size == its2.toArray.size) = (xs.length == ys.length) := by
            rw [List.size_toArray, List.size_toArray, ← rv.length, ← rv2.length, ← la.length, ← lb.length]
          have e3 : (List.range (min its.toArray.size its2.toArray.size)).all f = c := by
            rw [List.size_toArray, List.size_toArray, ← rv.length, ← rv2.length, ← la.length, ← lb.length]; exact hf
          rw [← e3, ← e2]
          exact fun E Q hq => PySem.W.eq_tuplesT p p2 (fun j h1 h2 => by simpa using ht j (by simpa using h1) (by simpa using h2)) hu hq
    | dK c => obtain ⟨a', ws, rfl, _, hb, _⟩ := g; cases ry; cases q; exact fun E Q hq => SeqAt.RcAt.tuple_dict p (is_dct I hb) (by omega) X.prog X.w E Q hq
    | _ => cases q
  | .lst xs, e, n, A, v, u, x, y, b, hn, hu, h, g, rx, ry, q => by
    have h' := h
    obtain ⟨a, vs, rfl, hF, ha, la⟩ := h; cases rx
    obtain ⟨its, rv, p, _⟩ := I.list (.inl ha)
    cases e with
    | non => cases g; cases ry; cases q; exact fun E Q hq => SeqAt.RcAt.list_none p.isList (by omega) X.prog X.w E Q hq
    | bl c => cases g; cases ry; cases q; exact fun E Q hq => SeqAt.RcAt.list_bool c p.isList (by omega) X.prog X.w E Q hq
    | int c => cases g; obtain ⟨t', rfl⟩ := ry; cases q; exact fun E Q hq => SeqAt.RcAt.list_int c t' p.isList (by omega) X.prog X.w E Q hq
    | str c => cases g; obtain ⟨t', rfl⟩ := ry; cases q; exact fun E Q hq => SeqAt.RcAt.list_str c t' p.isList (by omega) X.prog X.w E Q hq
    | tup c => obtain ⟨a', ws, rfl, hb, _⟩ := g; cases ry; cases q; obtain ⟨its2, _, p2, _⟩ := I.tuple (SqT.of hb); exact fun E Q hq => SeqAt.RcAt.list_tuple p.isList p2 (by omega) X.prog X.w E Q hq
    | lst ys =>
      have g' := g
      obtain ⟨a', ws, rfl, _, hb, lb⟩ := g; cases ry
      obtain ⟨its2, rv2, p2, _⟩ := I.list (.inl hb)
      · have q : (if xs.length = ys.length then eqL xs ys else some false) = some b := q
        cases n with
        | zero => simp [D.depth] at hn
        | succ n =>
          have e2 : (its.toArray.size = its2.toArray.size) ↔ (xs.length = ys.length) := by
            rw [List.size_toArray, List.size_toArray, ← rv.length, ← rv2.length, ← la.length, ← lb.length]
          by_cases hl : xs.length = ys.length
          · rw [if_pos hl] at q
            have t := eq_treeL I xs ys n (by simp [D.depth] at hn; omega) la lb rv rv2 q
            obtain ⟨f, hf, ht⟩ := t
            have e3 : (List.range its.toArray.size).all f = b := by
              rw [List.size_toArray, ← rv.length, ← la.length]
              rw [← hl, Nat.min_self] at hf
              exact hf
            rw [← e3]
            exact fun E Q hq => PySem.W.eq_listsT p.isList p2.isList (e2.mpr hl) (fun j h1 h2 => by simpa using ht j (by simpa using h1) (by simpa using h2)) hu hq
          · rw [if_neg hl] at q
            cases q
            exact fun E Q hq => SeqAt.RcAt.lists_lengths p.isList p2.isList (by simpa using fun z => hl (e2.mp (by simpa using z))) (by omega) X.prog X.w E Q hq
    | dK c => obtain ⟨a', ws, rfl, _, hb, _⟩ := g; cases ry; cases q; exact fun E Q hq => SeqAt.RcAt.list_dict p.isList (is_dct I hb) (by omega) X.prog X.w E Q hq
    | _ => cases q
  | .dK xs, e, n, A, v, u, x, y, b, hn, hu, h, g, rx, ry, q => by
    obtain ⟨a, vs, rfl, hF, ha, la⟩ := h; cases rx
    cases e with
    | dK ys =>
      obtain ⟨a', ws, rfl, _, hb, lb⟩ := g; cases ry
      obtain ⟨c, h1, rfl⟩ := opt_map_some (show (eqK xs ys).map _ = some b from q)
      cases n with
      | zero => simp [D.depth] at hn
      | succ n =>
        obtain ⟨_, ya, va, ra, da⟩ := dk_rd I.hok ha
        obtain ⟨_, yb, vb, rb, db⟩ := dk_rd I.hok hb
        have nd : (va.map (·.1)).Nodup := by
          obtain ⟨o, es, ep, _, _, _, _, _, nd⟩ := da
          exact nd
        obtain ⟨f, hf, ht⟩ := eq_treeK I xs ys n (by simp [D.depth] at hn; omega) (relK_P.mp la) (relK_P.mp lb) ra rb nd h1
        have e2 : (xs.length == ys.length) = (va.length == vb.length) := by
          rw [la.length, lb.length, ra.length, rb.length]
        intro E Q hq
        rw [e2, ← hf] at hq
        exact PySem.W.eq_dictsT (knd := mixKind X.prog X.w) ya yb da db ht hu hq
    | non => cases g; cases ry; cases q; exact fun E Q hq => SeqAt.RcAt.dict_none (is_dct I ha) (by omega) X.prog X.w E Q hq
    | bl c => cases g; cases ry; cases q; exact fun E Q hq => SeqAt.RcAt.dict_bool c (is_dct I ha) (by omega) X.prog X.w E Q hq
    | int c => cases g; obtain ⟨t', rfl⟩ := ry; cases q; exact fun E Q hq => SeqAt.RcAt.dict_int c t' (is_dct I ha) (by omega) X.prog X.w E Q hq
    | str c => cases g; obtain ⟨t', rfl⟩ := ry; cases q; exact fun E Q hq => SeqAt.RcAt.dict_str c t' (is_dct I ha) (by omega) X.prog X.w E Q hq
    | tup c => obtain ⟨a', ws, rfl, hb, _⟩ := g; cases ry; cases q; obtain ⟨its2, _, p2, _⟩ := I.tuple (SqT.of hb); exact fun E Q hq => SeqAt.RcAt.dict_tuple (is_dct I ha) p2 (by omega) X.prog X.w E Q hq
    | lst c => obtain ⟨a', ws, rfl, _, hb, _⟩ := g; cases ry; cases q; obtain ⟨its2, _, p2, _⟩ := I.list (.inl hb); exact fun E Q hq => SeqAt.RcAt.dict_list (is_dct I ha) p2.isList (by omega) X.prog X.w E Q hq
    | _ => cases q
  | .dT xs, e, n, A, v, u, x, y, b, hn, hu, h, g, rx, ry, q => by cases e <;> simp [eqD] at q
  | .ref i, e, n, A, v, u, x, y, b, hn, hu, h, g, rx, ry, q => by cases e <;> simp [eqD] at q
  | .exn c fs, e, n, A, v, u, x, y, b, hn, hu, h, g, rx, ry, q => by cases e <;> simp [eqD] at q
end
section
variable {X : Cx} {N : Nm} {W : XK}
theorem eqT_some {x y : D} {b : Bool} (h : eqT x y = some b) : x.depth ≤ 150 ∧ eqD x y = some b := by
  unfold eqT at h
  split at h
  · rename_i q; exact ⟨q, h⟩
  · cases h
theorem eqN_some {x y : D} {b : Bool} (h : eqN x y = some b) : ((x.nodict = true ∧ y.nodict = true) ∨ isTupD x = true ∧ isTupD y = true) ∧ x.depth ≤ 150 ∧ eqD x y = some b := by
  unfold eqN at h
  split at h
  · rename_i q
    exact ⟨.inl (Bool.and_eq_true_iff.mp q), eqT_some h⟩
  · split at h
    · rename_i q
      exact ⟨.inr (Bool.and_eq_true_iff.mp q), eqT_some h⟩
    · cases h
/-- != of two tuples -/
theorem rcNe_tups (I : Inv X pins σ H s) {xs ys : List D} {n : Nat} {A : Around} {v u : V} {x y : Value} {b : Bool} (hn : (D.tup xs).depth ≤ n) (hu : A.units + n < cLine) (h : RelD N F r H (.tup xs) v) (g : RelD N F r H (.tup ys) u) (rx : RelV v x) (ry : RelV u y) (q : eqD (.tup xs) (.tup ys) = some b) (E Q : Value → Shared → Prop) (hq : Q (.bool (!b)) s) :
    wpAny (model X.prog X.w) A (richCompare .NotEq x y) Q E s := by
  obtain ⟨a, vs, rfl, ha, la⟩ := h
  cases rx
  obtain ⟨its, rv, p, _⟩ := I.tuple (SqT.of ha)
  obtain ⟨a', ws, rfl, hb, lb⟩ := g
  cases ry
  obtain ⟨its2, rv2, p2, _⟩ := I.tuple (SqT.of hb)
  obtain ⟨c, h1, rfl⟩ := opt_map_some (show (eqL xs ys).map _ = some b from q)
  cases n with
  | zero => simp [D.depth] at hn
  | succ n =>
    obtain ⟨f, hf, ht⟩ := eq_treeL I xs ys n (by simp [D.depth] at hn; omega) la lb rv rv2 h1
    have e2 : (its.toArray.size == its2.toArray.size) = (xs.length == ys.length) := by
      rw [List.size_toArray, List.size_toArray, ← rv.length, ← rv2.length, ← la.length, ← lb.length]
    have e3 : (List.range (min its.toArray.size its2.toArray.size)).all f = c := by
      rw [List.size_toArray, List.size_toArray, ← rv.length, ← rv2.length, ← la.length, ← lb.length]; exact hf
    rw [← e3, ← e2] at hq
    exact SeqAt.rcNeIn_tuples p p2 (by omega) (fun j h1 h2 => (show PySem.W.EqTree X.prog X.w s n its.toArray[j] its2.toArray[j] (f j) by simpa using ht j (by simpa using h1) (by simpa using h2)).at A.in1 (by show A.units + 1 + n < cLine; omega)) hq
theorem eqM_some {x y : D} {b : Bool} (h : eqM x y = some b) : x.nodict = true ∧ x.depth ≤ 150 ∧ eqD x y = some b := by
  unfold eqM at h
  split at h
  · rename_i q
    exact ⟨q, eqT_some h⟩
  · cases h
theorem RP.opt_map {α β γ : Type} {K : PySem.W.Frag} {R : (Addr → Prop) → List Addr → Hp → α → β → Prop} {W : XK} {F : Addr → Prop} {r : List Addr} {H : Hp} {m : Mem} {Q : β → Hp → Prop} {o : Option γ} {f : γ → α} (h : RP K N R W F r H Q (Res.opt (o.map f) m)) : ∃ a, o = some a ∧ RP K N R W F r H Q (.ok (f a) m) := by
  obtain ⟨d, e, h⟩ := RP.opt_some h
  obtain ⟨a, e1, e2⟩ := opt_map_some e
  exact ⟨a, e1, by rw [e2]; exact h⟩
/-- a comparison's answer -/
def rBb (K : PySem.W.Frag) (N : Nm) (W : XK) (f : D → D → Mem → Option Bool) : R2 := fun x y H Q => ∃ F r m dx dy b, Sim K N F r m H ∧ RelD N F r H dx x ∧ RelD N F r H dy y ∧ f dx dy m = some b ∧ Q (.bl b) H
theorem opr_eq (hu : X.A.units + 160 < cLine) : OpR X (compareOp .Eq) (rBb X.K N W (cmpD .eq)) := by
  intro pins s σ H x y v u Q I rx ry h
  obtain ⟨F, r, m, dx, dy, b, S, hx, hy, e, q⟩ := h
  obtain ⟨hd, he⟩ := eqT_some e
  exact rcEq_top I (shown m dx) (shown m dy) 150 X.A hd (by omega) (shown_rel S hx) (shown_rel S hy) rx ry he _ _ ⟨.bl b, H, I, rfl, q⟩
theorem opr_ne (hu : X.A.units + 160 < cLine) : OpR X (compareOp .NotEq) (rBb X.K N W (cmpD .ne)) := by
  intro pins s σ H x y v u Q I rx ry h
  obtain ⟨F, r, m, dx, dy, b, S, hx, hy, e, q⟩ := h
  obtain ⟨c, e1, rfl⟩ := opt_map_some e
  obtain ⟨nn, hd, he⟩ := eqN_some e1
  rcases nn with ⟨n1, n2⟩ | ⟨n1, n2⟩
  · exact rcNe_top I (shown m dx) (shown m dy) 150 X.A hd (by omega) n1 n2 (shown_rel S hx) (shown_rel S hy) rx ry he X.prog X.w _ _ ⟨.bl (!c), H, I, rfl, q⟩
  · have hx' := shown_rel S hx
    have hy' := shown_rel S hy
    cases ex : shown m dx with
    | tup xs =>
      cases ey : shown m dy with
      | tup ys =>
        rw [ex] at hx' hd he
        rw [ey] at hy' he
        exact rcNe_tups I hd (by omega) hx' hy' rx ry he _ _ ⟨.bl (!c), H, I, rfl, q⟩
      | _ => rw [ey] at n2; cases n2
    | _ => rw [ex] at n1; cases n1
theorem opr_lt : OpR X (compareOp .Lt) (rBb X.K N W (cmpD .lt)) := by
  intro pins s σ H x y v u Q I rx ry h
  obtain ⟨F, r, m, dx, dy, b, S, hx, hy, e, q⟩ := h
  simp only [cmpD] at e
  split at e
  · cases (relD_int hx); cases (relD_int hy); cases e
    exact op_lt pins s σ H _ _ v u Q I rx ry ⟨_, _, rfl, rfl, q⟩
  · cases (relD_str hx); cases (relD_str hy); cases e
    exact op_lt_str pins s σ H _ _ v u Q I rx ry ⟨_, _, rfl, rfl, q⟩
  · cases e
theorem opr_le : OpR X (compareOp .LtE) (rBb X.K N W (cmpD .le)) := by
  intro pins s σ H x y v u Q I rx ry h
  obtain ⟨F, r, m, dx, dy, b, S, hx, hy, e, q⟩ := h
  simp only [cmpD] at e
  split at e
  · cases (relD_int hx); cases (relD_int hy); cases e
    exact op_le pins s σ H _ _ v u Q I rx ry ⟨_, _, rfl, rfl, q⟩
  · cases (relD_str hx); cases (relD_str hy); cases e
    exact op_le_str pins s σ H _ _ v u Q I rx ry ⟨_, _, rfl, rfl, q⟩
  · cases e
theorem opr_gt : OpR X (compareOp .Gt) (rBb X.K N W (cmpD .gt)) := by
  intro pins s σ H x y v u Q I rx ry h
  obtain ⟨F, r, m, dx, dy, b, S, hx, hy, e, q⟩ := h
  simp only [cmpD] at e
  split at e
  · cases (relD_int hx); cases (relD_int hy); cases e
    exact op_gt pins s σ H _ _ v u Q I rx ry ⟨_, _, rfl, rfl, q⟩
  · cases (relD_str hx); cases (relD_str hy); cases e
    exact op_gt_str pins s σ H _ _ v u Q I rx ry ⟨_, _, rfl, rfl, q⟩
  · cases e
theorem opr_ge : OpR X (compareOp .GtE) (rBb X.K N W (cmpD .ge)) := by
  intro pins s σ H x y v u Q I rx ry h
  obtain ⟨F, r, m, dx, dy, b, S, hx, hy, e, q⟩ := h
  simp only [cmpD] at e
  split at e
  · cases (relD_int hx); cases (relD_int hy); cases e
    exact op_ge pins s σ H _ _ v u Q I rx ry ⟨_, _, rfl, rfl, q⟩
  · cases (relD_str hx); cases (relD_str hy); cases e
    exact op_ge_str pins s σ H _ _ v u Q I rx ry ⟨_, _, rfl, rfl, q⟩
  · cases e
/-! in -/
theorem strIn_sign {c : Nat} {j : Str} : strIn ⟨#[c]⟩ j = decide (c ∈ j.cps.toList) := rfl
theorem strIn_other {i j : Str} (h : ∀ c, i ≠ ⟨#[c]⟩) : strIn i j = !(Builtin.Str.occurrences j i 0 j.length 1).isEmpty := by
  unfold strIn
  split
  · rename_i c e
    exact (h c (by cases i; simp at e; simp [← e])).elim
  · rfl
theorem anyEq_spec {d : D} : ∀ {ys : List D} {b : Bool}, anyEq d ys = some b → (∀ y ∈ ys, ∃ c, eqM y d = some c) ∧ b = ys.any fun y => decide (eqD y d = some true)
  | [], _, e => by cases (show some false = _ from e); exact ⟨fun _ h => (nomatch h), rfl⟩
  | y :: ys, b, e => by
    unfold anyEq at e
    split at e
    · rename_i p p' e1 e2
      cases e
      obtain ⟨h1, h2⟩ := anyEq_spec e2
      refine ⟨fun z hz => ?_, ?_⟩
      · rcases List.mem_cons.mp hz with q | q
        · subst q; exact ⟨_, e1⟩
        · exact h1 z q
      · rw [List.any_cons, ← h2, (eqM_some e1).2.2]
        cases p <;> simp
    · cases e
mutual
theorem rel_inj {F : Addr → Prop} {r : List Addr} {H : Hp} : ∀ {d e : D} {v : V}, d.nodict = true → e.nodict = true → RelD N F r H d v → RelD N F r H e v → d = e
  | .non, e, _, _, n, h, g => by cases h; cases e <;> simp_all [RelD, D.nodict]
  | .bl a, e, _, _, n, h, g => by cases h; cases e <;> simp_all [RelD, D.nodict]
  | .int a, e, _, _, n, h, g => by cases h; cases e <;> simp_all [RelD, D.nodict]
  | .str a, e, _, _, n, h, g => by cases h; cases e <;> simp_all [RelD, D.nodict]
  | .tup xs, e, _, m, n, h, g => by
    obtain ⟨a, vs, rfl, ha, la⟩ := h
    cases e with
    | tup ys =>
      obtain ⟨a', ws, e1, hb, lb⟩ := g
      cases e1
      rw [ha] at hb; cases hb
      rw [relL_inj (by simpa [D.nodict] using m) (by simpa [D.nodict] using n) la lb]
    | lst ys =>
      obtain ⟨a', ws, e1, _, hb, lb⟩ := g
      cases e1
      rcases hb with hb | ⟨o, hb⟩ <;> rw [ha] at hb <;> cases hb
    | _ => simp_all [RelD, D.nodict]
  | .lst xs, e, _, m, n, h, g => by
    obtain ⟨a, vs, rfl, _, ha, la⟩ := h
    cases e with
    | lst ys =>
      obtain ⟨a', ws, e1, _, hb, lb⟩ := g
      cases e1
      cases rd_inj ha hb (fun _ _ z => nomatch z) (fun _ _ z => nomatch z)
      rw [relL_inj (by simpa [D.nodict] using m) (by simpa [D.nodict] using n) la lb]
    | tup ys =>
      obtain ⟨a', ws, e1, hb, lb⟩ := g
      cases e1
      rcases ha with ha | ⟨o, ha⟩ <;> rw [ha] at hb <;> cases hb
    | _ => simp_all [RelD, D.nodict]
  | .dK _, _, _, m, _, _, _ => by cases m
  | .dT _, _, _, m, _, _, _ => by cases m
  | .ref _, _, _, m, _, _, _ => by cases m
  | .exn _ _, _, _, m, _, _, _ => by cases m
theorem relL_inj {F : Addr → Prop} {r : List Addr} {H : Hp} : ∀ {d e : List D} {v : List V}, nodictL d = true → nodictL e = true → RelL N F r H d v → RelL N F r H e v → d = e
  | [], e, _, _, _, h, g => by cases h; cases e with
    | nil => rfl
    | cons _ _ => obtain ⟨_, _, z, _⟩ := g; cases z
  | d :: ds, [], _, _, _, h, g => by cases g; obtain ⟨_, _, z, _⟩ := h; cases z
  | d :: ds, e :: es, _, m, n, h, g => by
    obtain ⟨v, ws, rfl, a1, b1⟩ := h
    obtain ⟨v', ws', e1, a2, b2⟩ := g
    cases e1
    have m' : d.nodict = true ∧ nodictL ds = true := by simpa [nodictL] using m
    have n' : e.nodict = true ∧ nodictL es = true := by simpa [nodictL] using n
    rw [rel_inj m'.1 n'.1 a1 a2, relL_inj m'.2 n'.2 b1 b2]
end
mutual
theorem rel_inj2 {F : Addr → Prop} {r : List Addr} {H : Hp} : ∀ {d e : D} {v : V}, d.eqb = true → e.eqb = true → RelD N F r H d v → RelD N F r H e v → d = e
  | .non, e, _, _, n, h, g => by cases h; cases e <;> simp_all [RelD, D.eqb]
  | .bl a, e, _, _, n, h, g => by cases h; cases e <;> simp_all [RelD, D.eqb]
  | .int a, e, _, _, n, h, g => by cases h; cases e <;> simp_all [RelD, D.eqb]
  | .str a, e, _, _, n, h, g => by cases h; cases e <;> simp_all [RelD, D.eqb]
  | .tup xs, e, _, m, n, h, g => by
    obtain ⟨a, vs, rfl, ha, la⟩ := h
    cases e with
    | tup ys =>
      obtain ⟨a', ws, e1, hb, lb⟩ := g
      cases e1
      rw [ha] at hb; cases hb
      rw [rel_inj2L (by simpa [D.eqb] using m) (by simpa [D.eqb] using n) la lb]
    | lst ys =>
      obtain ⟨a', ws, e1, _, hb, lb⟩ := g
      cases e1
      rcases hb with hb | ⟨o, hb⟩ <;> rw [ha] at hb <;> cases hb
    | dK ys =>
      obtain ⟨a', ws, e1, _, hb, lb⟩ := g
      cases e1
      rcases hb with hb | ⟨o, hb⟩ <;> rw [ha] at hb <;> cases hb
    | _ => simp_all [RelD, D.eqb]
  | .lst xs, e, _, m, n, h, g => by
    obtain ⟨a, vs, rfl, _, ha, la⟩ := h
    cases e with
    | lst ys =>
      obtain ⟨a', ws, e1, _, hb, lb⟩ := g
      cases e1
      cases rd_inj ha hb (fun _ _ z => nomatch z) (fun _ _ z => nomatch z)
      rw [rel_inj2L (by simpa [D.eqb] using m) (by simpa [D.eqb] using n) la lb]
    | tup ys =>
      obtain ⟨a', ws, e1, hb, lb⟩ := g
      cases e1
      rcases ha with ha | ⟨o, ha⟩ <;> rw [ha] at hb <;> cases hb
    | dK ys =>
      obtain ⟨a', ws, e1, _, hb, lb⟩ := g
      cases e1
      cases rd_inj ha hb (fun _ _ z => nomatch z) (fun _ _ z => nomatch z)
    | _ => simp_all [RelD, D.eqb]
  | .dK xs, e, _, m, n, h, g => by
    obtain ⟨a, vs, rfl, _, ha, la⟩ := h
    cases e with
    | dK ys =>
      obtain ⟨a', ws, e1, _, hb, lb⟩ := g
      cases e1
      cases rd_inj ha hb (fun _ _ z => nomatch z) (fun _ _ z => nomatch z)
      rw [rel_inj2K (by simpa [D.eqb] using m) (by simpa [D.eqb] using n) la lb]
    | tup ys =>
      obtain ⟨a', ws, e1, hb, lb⟩ := g
      cases e1
      rcases ha with ha | ⟨o, ha⟩ <;> rw [ha] at hb <;> cases hb
    | lst ys =>
      obtain ⟨a', ws, e1, _, hb, lb⟩ := g
      cases e1
      cases rd_inj ha hb (fun _ _ z => nomatch z) (fun _ _ z => nomatch z)
    | _ => simp_all [RelD, D.eqb]
  | .dT _, _, _, m, _, _, _ => by cases m
  | .ref _, _, _, m, _, _, _ => by cases m
  | .exn _ _, _, _, m, _, _, _ => by cases m
theorem rel_inj2L {F : Addr → Prop} {r : List Addr} {H : Hp} : ∀ {d e : List D} {v : List V}, eqbL d = true → eqbL e = true → RelL N F r H d v → RelL N F r H e v → d = e
  | [], e, _, _, _, h, g => by cases h; cases e with
    | nil => rfl
    | cons _ _ => obtain ⟨_, _, z, _⟩ := g; cases z
  | d :: ds, [], _, _, _, h, g => by cases g; obtain ⟨_, _, z, _⟩ := h; cases z
  | d :: ds, e :: es, _, m, n, h, g => by
    obtain ⟨v, ws, rfl, a1, b1⟩ := h
    obtain ⟨v', ws', e1, a2, b2⟩ := g
    cases e1
    have m' : d.eqb = true ∧ eqbL ds = true := by simpa [eqbL] using m
    have n' : e.eqb = true ∧ eqbL es = true := by simpa [eqbL] using n
    rw [rel_inj2 m'.1 n'.1 a1 a2, rel_inj2L m'.2 n'.2 b1 b2]
theorem rel_inj2K {F : Addr → Prop} {r : List Addr} {H : Hp} : ∀ {d e : List (Key × D)} {v : List (Key × V)}, eqbK d = true → eqbK e = true → RelK N F r H d v → RelK N F r H e v → d = e
  | [], e, _, _, _, h, g => by cases h; cases e with
    | nil => rfl
    | cons p _ => obtain ⟨k, d⟩ := p; obtain ⟨_, _, z, _⟩ := g; cases z
  | (k, d) :: ds, [], _, _, _, h, g => by cases g; obtain ⟨_, _, z, _⟩ := h; cases z
  | (k, d) :: ds, (k', e) :: es, _, m, n, h, g => by
    obtain ⟨v, ws, rfl, a1, b1⟩ := h
    obtain ⟨v', ws', e1, a2, b2⟩ := g
    cases e1
    have m' : d.eqb = true ∧ eqbK ds = true := by simpa [eqbK] using m
    have n' : e.eqb = true ∧ eqbK es = true := by simpa [eqbK] using n
    rw [rel_inj2 m'.1 n'.1 a1 a2, rel_inj2K m'.2 n'.2 b1 b2]
end
/-- an item's answer, in a list -/
def itemEq2 (N : Nm) (F : Addr → Prop) (r : List Addr) (H : Hp) (d : D) (u : Value) : Prop := ∃ v y, RelV v u ∧ RelD N F r H y v ∧ y.eqb = true ∧ eqD y d = some true
theorem anyEqL_spec {d : D} : ∀ {ys : List D} {b : Bool}, anyEqL d ys = some b → (∀ y ∈ ys, y.eqb = true ∧ y.depth ≤ 150 ∧ ∃ c, eqD y d = some c) ∧ b = ys.any fun y => decide (eqD y d = some true)
  | [], _, e => by cases (show some false = _ from e); exact ⟨fun _ h => (nomatch h), rfl⟩
  | y :: ys, b, e => by
    unfold anyEqL at e
    by_cases hy : y.eqb = true
    · rw [if_pos hy] at e
      split at e
      · rename_i p p' e1 e2
        cases e
        obtain ⟨h1, h2⟩ := anyEqL_spec e2
        obtain ⟨z1, z2⟩ := eqT_some e1
        refine ⟨fun z hz => ?_, ?_⟩
        · rcases List.mem_cons.mp hz with q | q
          · subst q; exact ⟨hy, z1, _, z2⟩
          · exact h1 z q
        · rw [List.any_cons, ← h2, z2]
          cases p <;> simp
      · cases e
    · rw [if_neg hy] at e
      cases e
open Classical in
theorem any_items2 {pins : List (Addr × Obj)} {σ : L2.St} {s : Shared} {F : Addr → Prop} {r : List Addr} {H : Hp} {A : Around} {d : D} {x : V} {u : Value} {ys : List D} {vs : List V} {us : List Value} {b : Bool} (I : Inv X pins σ H s) (hu : A.units + 151 < cLine)
    (hx : RelD N F r H d x) (rx : RelV x u) (h : RelL N F r H ys vs) (rv : Vals vs us) (e : anyEqL d ys = some b) :
    (∀ y ∈ us, SeqAt.EqIn X.prog X.w A.in1 s y u (decide (itemEq2 N F r H d y))) ∧ b = us.any fun y => decide (itemEq2 N F r H d y) := by
  obtain ⟨h1, h2⟩ := anyEqL_spec e
  have key : ∀ (i : Nat) (y : D) (v : V) (w : Value), ys[i]? = some y → vs[i]? = some v → us[i]? = some w → RelD N F r H y v → RelV v w → decide (itemEq2 N F r H d w) = decide (eqD y d = some true) ∧ SeqAt.EqIn X.prog X.w A.in1 s w u (decide (eqD y d = some true)) := fun i y v w hy hv hw ry rw_ => by
    obtain ⟨n1, hd, c, he⟩ := h1 y (List.mem_of_getElem? hy)
    refine ⟨?_, ?_⟩
    · apply Bool.eq_iff_iff.mpr
      simp only [decide_eq_true_eq]
      constructor
      · rintro ⟨v', y', r1, r2, n, q⟩
        have ev : v' = v := r1.inj rw_
        subst ev
        rw [rel_inj2 n n1 r2 ry] at q
        exact q
      · intro q
        exact ⟨v, y, rw_, ry, n1, q⟩
    · have z := (eq_tree I y d 150 hd ry hx rw_ rx he).at A.in1 (by show A.units + 1 + 150 < cLine; omega)
      rw [he]
      cases c <;> simpa using z
  have all : ∀ i (hi : i < us.length), ∃ y v, ys[i]? = some y ∧ vs[i]? = some v ∧ RelD N F r H y v ∧ RelV v us[i] := fun i hi => by
    have hv : i < vs.length := by rw [rv.length]; exact hi
    obtain ⟨y, hy, ry⟩ := h.back (List.getElem?_eq_getElem hv)
    obtain ⟨w, hw, rw_⟩ := rv.get (List.getElem?_eq_getElem hv)
    rw [List.getElem?_eq_getElem hi] at hw; cases hw
    exact ⟨y, _, hy, List.getElem?_eq_getElem hv, ry, rw_⟩
  refine ⟨fun w hw => ?_, ?_⟩
  · obtain ⟨i, hi, rfl⟩ := List.getElem_of_mem hw
    obtain ⟨y, v, hy, hv, ry, rw_⟩ := all i hi
    obtain ⟨k1, k2⟩ := key i y v _ hy hv (List.getElem?_eq_getElem hi) ry rw_
    rw [k1]; exact k2
  · rw [h2]
    apply Bool.eq_iff_iff.mpr
    simp only [List.any_eq_true]
    constructor
    · rintro ⟨y, hm, q⟩
      obtain ⟨i, hi, rfl⟩ := List.getElem_of_mem hm
      have hiu : i < us.length := by rw [← rv.length, ← h.length]; exact hi
      obtain ⟨y, v, hy, hv, ry, rw_⟩ := all i hiu
      rw [List.getElem?_eq_getElem hi] at hy
      cases hy
      obtain ⟨k1, _⟩ := key i _ v _ (List.getElem?_eq_getElem hi) hv (List.getElem?_eq_getElem hiu) ry rw_
      exact ⟨_, List.getElem_mem hiu, by rw [k1]; exact q⟩
    · rintro ⟨w, hm, q⟩
      obtain ⟨i, hi, rfl⟩ := List.getElem_of_mem hm
      obtain ⟨y, v, hy, hv, ry, rw_⟩ := all i hi
      obtain ⟨k1, _⟩ := key i y v _ hy hv (List.getElem?_eq_getElem hi) ry rw_
      exact ⟨y, List.mem_of_getElem? hy, by rw [← k1]; exact q⟩
/-- an item's answer -/
def itemEq (N : Nm) (F : Addr → Prop) (r : List Addr) (H : Hp) (d : D) (u : Value) : Prop := ∃ v y, RelV v u ∧ RelD N F r H y v ∧ y.nodict = true ∧ eqD y d = some true
open Classical in
theorem any_items {pins : List (Addr × Obj)} {σ : L2.St} {s : Shared} {F : Addr → Prop} {r : List Addr} {H : Hp} {A : Around} {d : D} {x : V} {u : Value} {ys : List D} {vs : List V} {us : List Value} {b : Bool} (I : Inv X pins σ H s) (hu : A.units + 151 < cLine)
    (hx : RelD N F r H d x) (rx : RelV x u) (h : RelL N F r H ys vs) (rv : Vals vs us) (e : anyEq d ys = some b) :
    (∀ y ∈ us, SeqAt.EqAt A.in1 s y u (decide (itemEq N F r H d y))) ∧ b = us.any fun y => decide (itemEq N F r H d y) := by
  obtain ⟨h1, h2⟩ := anyEq_spec e
  have key : ∀ (i : Nat) (y : D) (v : V) (w : Value), ys[i]? = some y → vs[i]? = some v → us[i]? = some w → RelD N F r H y v → RelV v w → decide (itemEq N F r H d w) = decide (eqD y d = some true) ∧ SeqAt.EqAt A.in1 s w u (decide (eqD y d = some true)) := fun i y v w hy hv hw ry rw_ => by
    obtain ⟨c, hc⟩ := h1 y (List.mem_of_getElem? hy)
    obtain ⟨n1, hd, he⟩ := eqM_some hc
    refine ⟨?_, ?_⟩
    · apply Bool.eq_iff_iff.mpr
      simp only [decide_eq_true_eq]
      constructor
      · rintro ⟨v', y', r1, r2, n, q⟩
        have ev : v' = v := r1.inj rw_
        subst ev
        rw [rel_inj n n1 r2 ry] at q
        exact q
      · intro q
        exact ⟨v, y, rw_, ry, n1, q⟩
    · have z := eq_at I y d 150 A.in1 hd (by show A.units + 1 + 150 < cLine; omega) n1 ry hx rw_ rx he
      rw [he]
      cases c <;> simpa using z
  have all : ∀ i (hi : i < us.length), ∃ y v, ys[i]? = some y ∧ vs[i]? = some v ∧ RelD N F r H y v ∧ RelV v us[i] := fun i hi => by
    have hv : i < vs.length := by rw [rv.length]; exact hi
    obtain ⟨y, hy, ry⟩ := h.back (List.getElem?_eq_getElem hv)
    obtain ⟨w, hw, rw_⟩ := rv.get (List.getElem?_eq_getElem hv)
    rw [List.getElem?_eq_getElem hi] at hw; cases hw
    exact ⟨y, _, hy, List.getElem?_eq_getElem hv, ry, rw_⟩
  refine ⟨fun w hw => ?_, ?_⟩
  · obtain ⟨i, hi, rfl⟩ := List.getElem_of_mem hw
    obtain ⟨y, v, hy, hv, ry, rw_⟩ := all i hi
    obtain ⟨k1, k2⟩ := key i y v _ hy hv (List.getElem?_eq_getElem hi) ry rw_
    rw [k1]; exact k2
  · rw [h2]
    apply Bool.eq_iff_iff.mpr
    simp only [List.any_eq_true]
    constructor
    · rintro ⟨y, hm, q⟩
      obtain ⟨i, hi, rfl⟩ := List.getElem_of_mem hm
      have hiu : i < us.length := by rw [← rv.length, ← h.length]; exact hi
      obtain ⟨y, v, hy, hv, ry, rw_⟩ := all i hiu
      rw [List.getElem?_eq_getElem hi] at hy
      cases hy
      obtain ⟨k1, _⟩ := key i _ v _ (List.getElem?_eq_getElem hi) hv (List.getElem?_eq_getElem hiu) ry rw_
      exact ⟨_, List.getElem_mem hiu, by rw [k1]; exact q⟩
    · rintro ⟨w, hm, q⟩
      obtain ⟨i, hi, rfl⟩ := List.getElem_of_mem hm
      obtain ⟨y, v, hy, hv, ry, rw_⟩ := all i hi
      obtain ⟨k1, _⟩ := key i y v _ hy hv (List.getElem?_eq_getElem hi) ry rw_
      exact ⟨y, List.mem_of_getElem? hy, by rw [← k1]; exact q⟩
open Classical in
theorem opr_in (hu : X.A.units + 160 < cLine) : OpR X (compareOp .In) (rBb X.K N W (cmpD .isIn)) := by
  intro pins s σ H x y v u Q I rx ry h
  obtain ⟨F, r, m, dx, dy, b, S, hx, hy, e, q⟩ := h
  simp only [cmpD, inD] at e
  split at e
  · rename_i j e1
    have e1 := shown_str e1
    subst e1
    split at e
    · rename_i i
      cases (relD_str hx); cases (relD_str hy); cases e
      by_cases hs : ∃ c, i = ⟨#[c]⟩
      · obtain ⟨c, rfl⟩ := hs
        exact op_in_sign pins s σ H _ _ v u Q I rx ry ⟨c, j, rfl, rfl, q⟩
      · rw [strIn_other (fun c z => hs ⟨c, z⟩)] at q
        exact op_in_str pins s σ H _ _ v u Q I rx ry ⟨i, j, rfl, rfl, q⟩
    · cases e
  · rename_i ys e1
    have e1 := shown_tup e1
    subst e1
    obtain ⟨a, vs, rfl, ha, la⟩ := hy
    cases ry
    obtain ⟨us, rv, p, _⟩ := I.tuple (SqT.of ha)
    obtain ⟨k1, k2⟩ := any_items (A := X.A) I (by omega) (shown_rel S hx) rx (la.ext Ext.plus) rv e
    refine SeqAt.in_tupleAt _ p (fun y hm => k1 y (by simpa using hm)) ?_
    rw [show (us.toArray.any fun y => decide (itemEq N (plusF F r) r H (shown m dx) y)) = b by rw [k2]; simp]
    exact ⟨.bl b, H, I, rfl, q⟩
  · rename_i ys e1
    obtain ⟨a, vs, rfl, ha, la⟩ := shown_lst S e1 hy
    cases ry
    obtain ⟨us, rv, p, _⟩ := I.list (.inl ha)
    obtain ⟨k1, k2⟩ := any_items2 (A := X.A) I (by omega) (shown_rel S hx) rx (la.ext Ext.plus) rv e
    refine SeqAt.in_listIn p.isList (fun y hm => k1 y (by simpa using hm)) ?_
    rw [show (us.toArray.any fun y => decide (itemEq2 N (plusF F r) r H (shown m dx) y)) = b by rw [k2]; simp]
    exact ⟨.bl b, H, I, rfl, q⟩
  · rename_i kvs e1
    obtain ⟨a, vs, rfl, ha, la⟩ := shown_dK S e1 hy
    obtain ⟨k, hk, rfl⟩ := opt_map_some e
    have ex := toKey_rel hk hx
    subst ex
    obtain rfl : u = Value.ref a := ry
    rw [← la.isSome] at q
    exact d_in (by omega) I (dgetK ha) rx fun s3 I3 => ⟨.bl _, H, I3, rfl, q⟩
  · rename_i kvs e1
    split at e
    · rename_i ks
      obtain ⟨a, vs, rfl, ha, la⟩ := shown_dT S e1 hy
      obtain ⟨k, hk, rfl⟩ := opt_map_some e
      obtain ⟨b, ws, rfl, hb, lb⟩ := hx
      have ex := toKeys_rel hk lb
      subst ex
      obtain rfl : u = Value.ref a := ry
      rw [← la.isSome] at q
      exact d_in (by omega) I (dgetT ha hb) rx fun s3 I3 => ⟨.bl _, H, I3, rfl, q⟩
    · cases e
  · cases e
open Classical in
theorem opr_notIn (hu : X.A.units + 160 < cLine) : OpR X (compareOp .NotIn) (rBb X.K N W (cmpD .notIn)) := by
  intro pins s σ H x y v u Q I rx ry h
  obtain ⟨F, r, m, dx, dy, b0, S, hx, hy, e0, q⟩ := h
  obtain ⟨b, e, rfl⟩ := opt_map_some (show (inD dx dy m).map (!·) = some b0 from e0)
  clear e0
  unfold inD at e
  split at e
  · rename_i j e1
    have e1 := shown_str e1
    subst e1
    split at e
    · rename_i i
      cases (relD_str hx); cases (relD_str hy); cases e
      by_cases hs : ∃ c, i = ⟨#[c]⟩
      · obtain ⟨c, rfl⟩ := hs
        exact op_notIn_sign pins s σ H _ _ v u Q I rx ry ⟨c, j, rfl, rfl, q⟩
      · rw [strIn_other (fun c z => hs ⟨c, z⟩)] at q
        exact op_notIn_str pins s σ H _ _ v u Q I rx ry ⟨i, j, rfl, rfl, q⟩
    · cases e
  · rename_i ys e1
    have e1 := shown_tup e1
    subst e1
    obtain ⟨a, vs, rfl, ha, la⟩ := hy
    cases ry
    obtain ⟨us, rv, p, _⟩ := I.tuple (SqT.of ha)
    obtain ⟨k1, k2⟩ := any_items (A := X.A) I (by omega) (shown_rel S hx) rx (la.ext Ext.plus) rv e
    refine SeqAt.notIn_tupleAt _ p (fun y hm => k1 y (by simpa using hm)) ?_
    rw [show (us.toArray.any fun y => decide (itemEq N (plusF F r) r H (shown m dx) y)) = b by rw [k2]; simp]
    exact ⟨.bl (!b), H, I, rfl, q⟩
  · rename_i ys e1
    obtain ⟨a, vs, rfl, ha, la⟩ := shown_lst S e1 hy
    cases ry
    obtain ⟨us, rv, p, _⟩ := I.list (.inl ha)
    obtain ⟨k1, k2⟩ := any_items2 (A := X.A) I (by omega) (shown_rel S hx) rx (la.ext Ext.plus) rv e
    refine SeqAt.notIn_listIn p.isList (fun y hm => k1 y (by simpa using hm)) ?_
    rw [show (us.toArray.any fun y => decide (itemEq2 N (plusF F r) r H (shown m dx) y)) = b by rw [k2]; simp]
    exact ⟨.bl (!b), H, I, rfl, q⟩
  · rename_i kvs e1
    obtain ⟨a, vs, rfl, ha, la⟩ := shown_dK S e1 hy
    obtain ⟨k, hk, rfl⟩ := opt_map_some e
    have ex := toKey_rel hk hx
    subst ex
    obtain rfl : u = Value.ref a := ry
    rw [← la.isSome] at q
    exact d_notIn (by omega) I (dgetK ha) rx fun s3 I3 => ⟨.bl _, H, I3, rfl, q⟩
  · rename_i kvs e1
    split at e
    · rename_i ks
      obtain ⟨a, vs, rfl, ha, la⟩ := shown_dT S e1 hy
      obtain ⟨k, hk, rfl⟩ := opt_map_some e
      obtain ⟨b, ws, rfl, hb, lb⟩ := hx
      have ex := toKeys_rel hk lb
      subst ex
      obtain rfl : u = Value.ref a := ry
      rw [← la.isSome] at q
      exact d_notIn (by omega) I (dgetT ha hb) rx fun s3 I3 => ⟨.bl _, H, I3, rfl, q⟩
    · cases e
  · cases e
def cop : COp → CmpOp
  | .eq => .Eq | .ne => .NotEq | .lt => .Lt | .le => .LtE | .gt => .Gt | .ge => .GtE | .isIn => .In | .notIn => .NotIn
theorem opr_cmp (hu : X.A.units + 160 < cLine) (o : COp) : OpR X (compareOp (cop o)) (rBb X.K N W (cmpD o)) := by
  cases o
  · exact opr_eq hu
  · exact opr_ne hu
  · exact opr_lt
  · exact opr_le
  · exact opr_gt
  · exact opr_ge
  · exact opr_in hu
  · exact opr_notIn hu
end
end Ev
/-! EvG: built-in functions and methods. -/
namespace Ev
open PySem L2
section
variable {K : PySem.W.Frag} {N : Nm} {F : Addr → Prop} {r : List Addr} {H : Hp} {m : Mem}
/-! ### types -/
def tnName : Tn → String
  | .none => "NoneType" | .bool => "bool" | .int => "int" | .str => "str" | .list => "list" | .tuple => "tuple" | .dict => "dict"
theorem tn_rel (S : Sim K N F r m H) {x : D} {v : V} {t : Tn} (h : RelD N F r H x v) (e : tnD x m = some t) : TyX K H v (.type (tnName t)) := by
  unfold tnD at e
  split at e
  · rename_i e1; cases e
    have e1 := shown_non e1
    subst e1; cases h; exact .base .non
  · rename_i e1; cases e
    have e1 := shown_bl e1
    subst e1; cases h; exact .base (.bl _)
  · rename_i e1; cases e
    have e1 := shown_int e1
    subst e1; cases h; exact .base (.int _)
  · rename_i e1; cases e
    have e1 := shown_str e1
    subst e1; cases h; exact .base (.str _)
  · rename_i e1; cases e
    have e1 := shown_tup e1
    subst e1
    obtain ⟨a, vs, rfl, ha, _⟩ := h
    exact .base (.tup ha)
  · rename_i e1; cases e
    obtain ⟨a, vs, rfl, ha | ⟨o, ha⟩, _⟩ := shown_lst S e1 h
    · exact .base (.lst ha)
    · exact .base (.frz ha)
  · rename_i e1; cases e
    obtain ⟨a, vs, rfl, ha | ⟨o, ha⟩, _⟩ := shown_dK S e1 h
    · exact .base (.dK ha)
    · exact .fDict ha
  · cases e
/-- the classes that may be asked -/
def tyVal : Ty → Value
  | .int => .type "int" | .bool => .type "bool" | .str => .type "str" | .tuple => .type "tuple" | .list => .type "list" | .dict => .type "dict" | .own _ => .none
def tyV_ : Ty → V
  | .int => .ty "int" | .bool => .ty "bool" | .str => .ty "str" | .tuple => .ty "tuple" | .list => .ty "list" | .dict => .ty "dict" | .own _ => .non
theorem tn_kit {T : Ty} {t : Tn} {b : Bool} (e : isTn T t = some b) : PySem.W.kitOne K (.type (tnName t)) (tyVal T) = some b := by
  cases T <;> cases t <;> cases e <;> exact kit_ty (by decide +kernel)
theorem tn_cls {T : Ty} {t : Tn} {b : Bool} (e : isTn T t = some b) : ClsV (tyV_ T) (tyVal T) := by
  cases T <;> first | exact .ty _ | (cases t <;> cases e)
theorem isTy_rel (S : Sim K N F r m H) {T : Ty} {x : D} {v : V} {b : Bool} (h : RelD N F r H x v) (e : isTy T m x = some b) : ∃ t, TyX K H v t ∧ PySem.W.kitOne K t (tyVal T) = some b ∧ ClsV (tyV_ T) (tyVal T) := by
  unfold isTy at e
  split at e
  · rename_i t e1
    exact ⟨_, tn_rel S h e1, tn_kit e, tn_cls e⟩
  · cases e
theorem anyTy_rel (S : Sim K N F r m H) {x : D} {v : V} (h : RelD N F r H x v) : ∀ {ts : List Ty} {b : Bool}, ts ≠ [] → anyTy m x ts = some b → ∃ t, TyX K H v t ∧ PySem.W.kitAny K t (ts.map tyVal) = some b ∧ ∀ T ∈ ts, (∃ c, isTy T m x = some c) ∨ b = true
  | [], _, hn, _ => absurd rfl hn
  | [T], b, _, e => by
    simp only [anyTy] at e
    cases e1 : isTy T m x with
    | none => rw [e1] at e; cases e
    | some c =>
      rw [e1] at e
      obtain ⟨t, k1, k2, k3⟩ := isTy_rel S h e1
      have ec : c = b := by cases c <;> simpa using e
      subst ec
      refine ⟨t, k1, kitAny_cons k2 (fun z => by rw [z]; exact kitAny_nil) (fun z => z), fun T' hm => ?_⟩
      have : T' = T := by simpa using hm
      subst this
      exact .inl ⟨_, e1⟩
  | T :: T2 :: ts, b, _, e => by
    simp only [anyTy] at e
    cases e1 : isTy T m x with
    | none => rw [e1] at e; cases e
    | some c =>
      rw [e1] at e
      have e2 := e1
      unfold isTy at e2
      split at e2
      · rename_i tn ht
        have k1 := tn_rel S h ht
        have k2 := tn_kit (K := K) e2
        cases c with
        | true =>
          have e : some true = some b := e
          cases e
          exact ⟨_, k1, kitAny_cons k2 (fun z => nomatch z) (fun _ => rfl), fun _ _ => .inr rfl⟩
        | false =>
          have e : anyTy m x (T2 :: ts) = some b := by simp only [anyTy]; exact e
          -- the same type stands for all
          have all : ∀ {us : List Ty} {b : Bool}, anyTy m x us = some b → PySem.W.kitAny K (.type (tnName tn)) (us.map tyVal) = some b ∧ ∀ T ∈ us, (∃ c, isTy T m x = some c) ∨ b = true := by
            intro us
            induction us with
            | nil => intro b e; cases (show some false = some b from e); exact ⟨rfl, fun _ h => nomatch h⟩
            | cons U us ih =>
              intro b e
              simp only [anyTy] at e
              cases q : isTy U m x with
              | none => rw [q] at e; cases e
              | some c =>
                rw [q] at e
                have q2 := q
                unfold isTy at q2
                rw [ht] at q2
                have k := tn_kit (K := K) q2
                cases c with
                | true =>
                  have e : some true = some b := e
                  cases e
                  exact ⟨kitAny_cons k (fun z => nomatch z) (fun _ => rfl), fun _ _ => .inr rfl⟩
                | false =>
                  have e : anyTy m x us = some b := e
                  obtain ⟨i1, i2⟩ := ih e
                  refine ⟨kitAny_cons k (fun _ => i1) (fun z => nomatch z), fun T' hm => ?_⟩
                  rcases List.mem_cons.mp hm with z | z
                  · subst z; exact .inl ⟨_, q⟩
                  · exact i2 T' z
          obtain ⟨i1, i2⟩ := all e
          refine ⟨_, k1, kitAny_cons k2 (fun _ => i1) (fun z => nomatch z), fun T' hm => ?_⟩
          rcases List.mem_cons.mp hm with z | z
          · subst z; exact .inl ⟨_, e1⟩
          · exact i2 T' z
      · cases e2
end

section
variable {X : Cx} {N : Nm} {W : XK}
/-! ### functions -/
theorem RelL.one_of {F : Addr → Prop} {r : List Addr} {H : Hp} {x : D} {vs : List V} (h : RelL N F r H [x] vs) : ∃ v, vs = [v] ∧ RelD N F r H x v := by
  obtain ⟨v, ws, rfl, a, b⟩ := h
  cases (show _ = _ from b)
  exact ⟨v, rfl, a⟩
theorem RelL.two_of {F : Addr → Prop} {r : List Addr} {H : Hp} {x y : D} {vs : List V} (h : RelL N F r H [x, y] vs) : ∃ v w, vs = [v, w] ∧ RelD N F r H x v ∧ RelD N F r H y w := by
  obtain ⟨v, ws, rfl, a, b⟩ := h
  obtain ⟨w, rfl, c⟩ := RelL.one_of b
  exact ⟨v, w, rfl, a, c⟩
theorem ofKey_rel {F : Addr → Prop} {r : List Addr} {H : Hp} : ∀ {d : List (Key × D)} {v : List (Key × V)}, RelP N F r H d v → RelL N F r H (d.map fun p => ofKey p.1) (v.map fun p => kV p.1)
  | [], _, h => by cases (show _ = _ from h); rfl
  | (k, d) :: ds, _, h => by
    obtain ⟨v, ws, rfl, a, b⟩ := h
    refine ⟨_, _, rfl, ?_, ofKey_rel b⟩
    cases k <;> rfl
/-- len of a dict that may be locked -/
theorem lenK_any : CallR X (.builtin "len") (fun xs H Q => ∃ a kvs, xs = [V.ref a] ∧ Rd H a (.dK kvs) ∧ Q (.int (kvs.length : Nat)) H) := by
  rintro pins s σ H xs us Q I rv ⟨a, kvs, rfl, hd, hq⟩
  obtain ⟨w, rfl, rw_⟩ := vals1 rv
  cases rw_
  exact d_len I hd fun tk s1 J => ⟨.int (kvs.length : Nat), H, J, ⟨tk, rfl⟩, hq⟩
theorem lenT_any : CallR X (.builtin "len") (fun xs H Q => ∃ a kvs, xs = [V.ref a] ∧ Rd H a (.dT kvs) ∧ Q (.int (kvs.length : Nat)) H) := by
  rintro pins s σ H xs us Q I rv ⟨a, kvs, rfl, hd, hq⟩
  obtain ⟨w, rfl, rw_⟩ := vals1 rv
  cases rw_
  obtain ⟨hz, hm, ys, rel, dd⟩ := dt_rd I.hok hd
  have e : kvs.length = ys.length := Paired.length rel
  rw [sizeLine_eq] at hz
  refine call_len_dictH hm dd (by omega) ?_
  rw [← e]
  exact ⟨.int (kvs.length : Nat), H, I.tok _, ⟨_, rfl⟩, hq⟩
theorem clr_len : CallR X (.builtin "len") (rCl X.K N W (bltD .len)) := by
  intro pins s σ H xs us Q I rv h
  obtain ⟨F, r, m, ds, S, hx, h⟩ := h
  simp only [bltD] at h
  split at h
  · rename_i x
    obtain ⟨v, rfl, hv⟩ := RelL.one_of hx
    have h0 := h
    clear h
    obtain ⟨n, e, h⟩ := RP.opt_map h0
    clear h0
    unfold lenD at e
    split at e
    · rename_i z e1
      split at e
      · rename_i hf
        cases e
        have e1 := shown_str e1
        subst e1; cases hv
        exact call_len pins s σ H _ us Q I rv ⟨_, _, rfl, ⟨fits_le hf, rfl⟩, RP.here (R := RelD N) S h rfl⟩
      · cases e
    · rename_i ys e1
      cases e
      have e1 := shown_tup e1
      subst e1
      obtain ⟨a, vs, rfl, ha, la⟩ := hv
      exact call_len pins s σ H _ us Q I rv ⟨_, _, rfl, .inr ⟨vs, SqT.of ha, rfl⟩, by rw [← la.length]; exact RP.here S h rfl⟩
    · rename_i ys e1
      cases e
      obtain ⟨a, vs, rfl, ha, la⟩ := shown_lst S e1 hv
      exact call_len pins s σ H _ us Q I rv ⟨_, _, rfl, .inl ⟨vs, .inl ha, rfl⟩, by rw [← la.length]; exact RP.here S h rfl⟩
    · rename_i ys e1
      cases e
      obtain ⟨a, vs, rfl, ha, la⟩ := shown_dK S e1 hv
      exact lenK_any pins s σ H _ us Q I rv ⟨a, vs, rfl, ha, by rw [← la.length]; exact RP.here S h rfl⟩
    · rename_i ys e1
      cases e
      obtain ⟨a, vs, rfl, ha, la⟩ := shown_dT S e1 hv
      exact lenT_any pins s σ H _ us Q I rv ⟨a, vs, rfl, ha, by rw [← la.length]; exact RP.here S h rfl⟩
    · cases e
  · exact h.elim
theorem clr_int : CallR X (.type "int") (rCl X.K N W (bltD .int)) := by
  intro pins s σ H xs us Q I rv h
  obtain ⟨F, r, m, ds, S, hx, h⟩ := h
  simp only [bltD] at h
  split at h
  · obtain ⟨v, rfl, hv⟩ := RelL.one_of hx
    cases hv
    exact call_int1 pins s σ H _ us Q I rv (.inl ⟨_, rfl, RP.here S h rfl⟩)
  · obtain ⟨v, rfl, hv⟩ := RelL.one_of hx
    cases hv
    exact call_int1 pins s σ H _ us Q I rv (.inr ⟨_, rfl, RP.here S h rfl⟩)
  · obtain ⟨v, rfl, hv⟩ := RelL.one_of hx
    cases hv
    split at h
    · rename_i hl
      obtain ⟨n, e, h⟩ := RP.opt_map h
      exact call_int_str pins s σ H _ us Q I rv ⟨_, n, rfl, e, hl, RP.here S h rfl⟩
    · exact h.elim
  · exact h.elim
theorem clr_str : CallR X (.type "str") (rCl X.K N W (bltD .str)) := by
  intro pins s σ H xs us Q I rv h
  obtain ⟨F, r, m, ds, S, hx, h⟩ := h
  simp only [bltD] at h
  split at h
  · obtain ⟨v, rfl, hv⟩ := RelL.one_of hx
    cases hv
    split at h
    · rename_i hl
      exact call_str_int pins s σ H _ us Q I rv ⟨_, rfl, hl, RP.here S h rfl⟩
    · exact h.elim
  · exact h.elim
theorem clr_list (hc : X.calm = true) : CallR X (.type "list") (rCl X.K N W (bltD .list)) := by
  intro pins s σ H xs us Q I rv h
  obtain ⟨F, r, m, ds, S, hx, h⟩ := h
  simp only [bltD] at h
  split at h
  · rename_i x
    obtain ⟨v, rfl, hv⟩ := RelL.one_of hx
    split at h
    · rename_i ys e1
      have e1 := shown_tup e1
      subst e1
      obtain ⟨a, vs, rfl, ha, la⟩ := hv
      exact call_list_of pins s σ H _ us Q I rv ⟨a, vs, rfl, .inr (SqT.of ha), fun p hp => RP.new S h hp ⟨vs, upd_same, la.ext (Ext.new S hp)⟩⟩
    · rename_i ys e1
      obtain ⟨a, vs, rfl, ha, la⟩ := shown_lst S e1 hv
      exact call_list_of pins s σ H _ us Q I rv ⟨a, vs, rfl, .inl (.inl ha), fun p hp => RP.new S h hp ⟨vs, upd_same, la.ext (Ext.new S hp)⟩⟩
    · rename_i ys e1
      obtain ⟨a, vs, rfl, ha, la⟩ := shown_dK S e1 hv
      exact call_listD hc pins s σ H _ us Q I rv ⟨a, vs, rfl, ha, fun p hp => RP.new S h hp ⟨_, upd_same, (ofKey_rel la).ext (Ext.new S hp)⟩⟩
    · exact h.elim
  · exact h.elim
theorem clr_tuple : CallR X (.type "tuple") (rCl X.K N W (bltD .tuple)) := by
  intro pins s σ H xs us Q I rv h
  obtain ⟨F, r, m, ds, S, hx, h⟩ := h
  simp only [bltD] at h
  split at h
  · rename_i x
    obtain ⟨v, rfl, hv⟩ := RelL.one_of hx
    split at h
    · rename_i ys e1
      have e1 := shown_tup e1
      subst e1
      obtain ⟨a, vs, rfl, ha, la⟩ := hv
      exact call_tuple_of pins s σ H _ us Q I rv ⟨a, vs, rfl, .inr ⟨SqT.of ha, RP.here S h ⟨a, vs, rfl, ha, la⟩⟩⟩
    · rename_i ys e1
      obtain ⟨a, vs, rfl, ha, la⟩ := shown_lst S e1 hv
      exact call_tuple_of pins s σ H _ us Q I rv ⟨a, vs, rfl, .inl ⟨.inl ha, fun p hp => RP.tup S h hp la⟩⟩
    · exact h.elim
  · exact h.elim
theorem clr_dict : CallR X (.type "dict") (rCl X.K N W (bltD .dict)) := by
  intro pins s σ H xs us Q I rv h
  obtain ⟨F, r, m, ds, S, hx, h⟩ := h
  simp only [bltD] at h
  split at h
  · rename_i x
    obtain ⟨v, rfl, hv⟩ := RelL.one_of hx
    split at h
    · rename_i ys e1
      obtain ⟨a, vs, rfl, ha, la⟩ := shown_dK S e1 hv
      exact call_dictD pins s σ H _ us Q I rv ⟨a, vs, rfl, ha, fun p hp => RP.new S h hp ⟨vs, upd_same, (relK_P.mpr la).ext (Ext.new S hp)⟩⟩
    · exact h.elim
  · exact h.elim
theorem intsD_rel {F : Addr → Prop} {r : List Addr} {H : Hp} : ∀ {ds : List D} {ns : List Int} {vs : List V}, intsD ds = some ns → RelL N F r H ds vs → vs = ns.map V.int
  | [], _, _, e, h => by cases (show some [] = _ from e); exact h
  | d :: ds, ns, _, e, h => by
    obtain ⟨v, ws, rfl, a, b⟩ := h
    cases d with
    | int i =>
      obtain ⟨q, h1, rfl⟩ := opt_map_some (show (intsD ds).map (i :: ·) = some ns from e)
      cases (relD_int a)
      rw [intsD_rel h1 b] <;> rfl
    | _ => cases e
theorem strs_rel {F : Addr → Prop} {r : List Addr} {H : Hp} : ∀ {ds : List D} {ns : List Str} {vs : List V}, strs_ ds = some ns → RelL N F r H ds vs → vs = ns.map V.str
  | [], _, _, e, h => by cases (show some [] = _ from e); exact h
  | d :: ds, ns, _, e, h => by
    obtain ⟨v, ws, rfl, a, b⟩ := h
    cases d with
    | str i =>
      obtain ⟨q, h1, rfl⟩ := opt_map_some (show (strs_ ds).map (i :: ·) = some ns from e)
      cases (relD_str a)
      rw [strs_rel h1 b] <;> rfl
    | _ => cases e
theorem bls_rel {F : Addr → Prop} {r : List Addr} {H : Hp} : ∀ {ds : List D} {ns : List Bool} {vs : List V}, bls ds = some ns → RelL N F r H ds vs → vs = ns.map V.bl
  | [], _, _, e, h => by cases (show some [] = _ from e); exact h
  | d :: ds, ns, _, e, h => by
    obtain ⟨v, ws, rfl, a, b⟩ := h
    cases d with
    | bl i =>
      obtain ⟨q, h1, rfl⟩ := opt_map_some (show (bls ds).map (i :: ·) = some ns from e)
      cases (show v = .bl i from a)
      rw [bls_rel h1 b] <;> rfl
    | _ => cases e
theorem foldl_max (ns : List Int) : ∀ i : Int, (∀ y ∈ i :: ns, y ≤ ns.foldl max i) ∧ ns.foldl max i ∈ i :: ns := by
  induction ns with
  | nil => intro i; exact ⟨fun y h => by simp at h; subst h; exact Int.le_refl _, by simp⟩
  | cons n ns ih =>
    intro i
    obtain ⟨h1, h2⟩ := ih (max i n)
    refine ⟨fun y h => ?_, ?_⟩
    · rw [List.foldl_cons]
      have hm := h1 (max i n) List.mem_cons_self
      rcases List.mem_cons.mp h with e | h
      · subst e; omega
      · rcases List.mem_cons.mp h with e | h
        · subst e; omega
        · exact h1 y (List.mem_cons_of_mem _ h)
    · rw [List.foldl_cons]
      rcases List.mem_cons.mp h2 with e | h
      · rw [e]
        by_cases hc : i ≤ n
        · rw [Int.max_eq_right hc]; simp
        · rw [Int.max_eq_left (by omega)]; simp
      · exact List.mem_cons_of_mem _ (List.mem_cons_of_mem _ h)
theorem foldl_min (ns : List Int) : ∀ i : Int, (∀ y ∈ i :: ns, ns.foldl min i ≤ y) ∧ ns.foldl min i ∈ i :: ns := by
  induction ns with
  | nil => intro i; exact ⟨fun y h => by simp at h; subst h; exact Int.le_refl _, by simp⟩
  | cons n ns ih =>
    intro i
    obtain ⟨h1, h2⟩ := ih (min i n)
    refine ⟨fun y h => ?_, ?_⟩
    · rw [List.foldl_cons]
      have hm := h1 (min i n) List.mem_cons_self
      rcases List.mem_cons.mp h with e | h
      · subst e; omega
      · rcases List.mem_cons.mp h with e | h
        · subst e; omega
        · exact h1 y (List.mem_cons_of_mem _ h)
    · rw [List.foldl_cons]
      rcases List.mem_cons.mp h2 with e | h
      · rw [e]
        by_cases hc : i ≤ n
        · rw [Int.min_eq_left hc]; simp
        · rw [Int.min_eq_right (by omega)]; simp
      · exact List.mem_cons_of_mem _ (List.mem_cons_of_mem _ h)
theorem clr_max (hc : X.calm = true) : CallR X (.builtin "max") (rCl X.K N W (bltD .max)) := by
  intro pins s σ H xs us Q I rv h
  obtain ⟨F, r, m, ds, S, hx, h⟩ := h
  simp only [bltD] at h
  split at h
  · obtain ⟨v, w, rfl, h1, h2⟩ := RelL.two_of hx
    cases h1; cases h2
    exact call_max2 hc pins s σ H _ us Q I rv ⟨_, _, rfl, RP.here S h rfl⟩
  · obtain ⟨v, rfl, hv⟩ := RelL.one_of hx
    split at h
    · rename_i ys e1
      obtain ⟨a, vs, rfl, ha, la⟩ := shown_lst S e1 hv
      split at h
      · rename_i i ns e2
        have ev := intsD_rel e2 la
        subst ev
        refine cr_max hc pins s σ H _ us Q I rv ⟨a, i :: ns, rfl, .inl ha, by simp, fun k hk1 hk2 => ?_⟩
        obtain ⟨g1, g2⟩ := foldl_max ns i
        have : k = ns.foldl max i := Int.le_antisymm (g1 k hk1) (hk2 _ g2)
        rw [this]
        exact RP.here S h rfl
      · exact h.elim
    · exact h.elim
  · exact h.elim
theorem clr_min (hc : X.calm = true) : CallR X (.builtin "min") (rCl X.K N W (bltD .min)) := by
  intro pins s σ H xs us Q I rv h
  obtain ⟨F, r, m, ds, S, hx, h⟩ := h
  simp only [bltD] at h
  split at h
  · obtain ⟨v, w, rfl, h1, h2⟩ := RelL.two_of hx
    cases h1; cases h2
    exact call_min2 hc pins s σ H _ us Q I rv ⟨_, _, rfl, RP.here S h rfl⟩
  · obtain ⟨v, rfl, hv⟩ := RelL.one_of hx
    split at h
    · rename_i ys e1
      obtain ⟨a, vs, rfl, ha, la⟩ := shown_lst S e1 hv
      split at h
      · rename_i i ns e2
        have ev := intsD_rel e2 la
        subst ev
        refine cr_min hc pins s σ H _ us Q I rv ⟨a, i :: ns, rfl, .inl ha, by simp, fun k hk1 hk2 => ?_⟩
        obtain ⟨g1, g2⟩ := foldl_min ns i
        have : k = ns.foldl min i := Int.le_antisymm (hk2 _ g2) (g1 k hk1)
        rw [this]
        exact RP.here S h rfl
      · exact h.elim
    · exact h.elim
  · exact h.elim
theorem clr_abs : CallR X (.builtin "abs") (rCl X.K N W (bltD .abs)) := by
  intro pins s σ H xs us Q I rv h
  obtain ⟨F, r, m, ds, S, hx, h⟩ := h
  simp only [bltD] at h
  split at h
  · obtain ⟨v, rfl, hv⟩ := RelL.one_of hx
    cases hv
    exact call_abs pins s σ H _ us Q I rv ⟨_, rfl, RP.here S h rfl⟩
  · exact h.elim
theorem clr_sum (hc : X.calm = true) : CallR X (.builtin "sum") (rCl X.K N W (bltD .sum)) := by
  intro pins s σ H xs us Q I rv h
  obtain ⟨F, r, m, ds, S, hx, h⟩ := h
  simp only [bltD] at h
  split at h
  · obtain ⟨v, rfl, hv⟩ := RelL.one_of hx
    split at h
    · rename_i ys e1
      obtain ⟨a, vs, rfl, ha, la⟩ := shown_lst S e1 hv
      obtain ⟨ns, e2, h⟩ := RP.opt_map h
      have ev := intsD_rel e2 la
      subst ev
      exact cr_sum hc pins s σ H _ us Q I rv ⟨a, ns, rfl, .inl ha, RP.here S h rfl⟩
    · exact h.elim
  · exact h.elim
theorem strs_map {F : Addr → Prop} {r : List Addr} {H : Hp} : ∀ zs : List Str, RelL N F r H (zs.map D.str) (zs.map V.str)
  | [] => rfl
  | z :: zs => ⟨_, _, rfl, rfl, strs_map zs⟩
theorem clr_any (hc : X.calm = true) : CallR X (.builtin "any") (rCl X.K N W (bltD .any)) := by
  intro pins s σ H xs us Q I rv h
  obtain ⟨F, r, m, ds, S, hx, h⟩ := h
  simp only [bltD] at h
  split at h
  · obtain ⟨v, rfl, hv⟩ := RelL.one_of hx
    split at h
    · rename_i ys e1
      obtain ⟨a, vs, rfl, ha, la⟩ := shown_lst S e1 hv
      obtain ⟨ns, e2, h⟩ := RP.opt_map h
      have ev := bls_rel e2 la
      subst ev
      exact cr_any hc pins s σ H _ us Q I rv ⟨a, ns, rfl, .inl ha, RP.here S h rfl⟩
    · exact h.elim
  · exact h.elim
theorem clr_all (hc : X.calm = true) : CallR X (.builtin "all") (rCl X.K N W (bltD .all)) := by
  intro pins s σ H xs us Q I rv h
  obtain ⟨F, r, m, ds, S, hx, h⟩ := h
  simp only [bltD] at h
  split at h
  · obtain ⟨v, rfl, hv⟩ := RelL.one_of hx
    split at h
    · rename_i ys e1
      obtain ⟨a, vs, rfl, ha, la⟩ := shown_lst S e1 hv
      obtain ⟨ns, e2, h⟩ := RP.opt_map h
      have ev := bls_rel e2 la
      subst ev
      exact cr_all hc pins s σ H _ us Q I rv ⟨a, ns, rfl, .inl ha, RP.here S h rfl⟩
    · exact h.elim
  · exact h.elim
theorem ltCps_iff : ∀ {a b : List Nat}, PySem.Spec.ltCps a b = decide (a < b)
  | [], [] => rfl
  | [], _ :: _ => rfl
  | _ :: _, [] => rfl
  | x :: a, y :: b => by
    unfold PySem.Spec.ltCps
    rw [ltCps_iff (a := a) (b := b)]
    have e : decide (x :: a < y :: b) = decide (x < y ∨ x = y ∧ a < b) := decide_eq_decide.mpr List.cons_lt_cons_iff
    rw [e]
    by_cases h : x < y
    · simp [h]
    · by_cases h2 : x = y
      · subst h2; simp
      · simp [h, h2]
theorem strLe_trans (a b c : Str) (h1 : strLe a b = true) (h2 : strLe b c = true) : strLe a c = true := by
  unfold strLe at *
  simp at h1 h2 ⊢
  exact List.le_trans h1 h2
theorem strLe_total (a b : Str) : (strLe a b || strLe b a) = true := by
  unfold strLe
  simp
  exact List.le_total _ _
theorem strLe_anti (a b : Str) (h1 : strLe a b = true) (h2 : strLe b a = true) : a = b := by
  unfold strLe at *
  simp at h1 h2
  have := List.le_antisymm h1 h2
  cases a; cases b
  simp at this
  simpa using this
theorem risingS_pw : ∀ {x : Str} {r : List Str}, PyProof.Rows.risingS x r = true → (x :: r).Pairwise (fun a b => strLe a b = true)
  | x, [], _ => by simp
  | x, y :: r, h => by
    rw [PyProof.Rows.risingS.eq_2] at h
    obtain ⟨h1, h2⟩ := Bool.and_eq_true_iff.mp h
    have ih := risingS_pw h2
    have h1 : strLe x y = true := by
      rw [ltCps_iff] at h1
      exact h1
    refine List.pairwise_cons.mpr ⟨fun z hz => ?_, ih⟩
    rcases List.mem_cons.mp hz with rfl | hz
    · exact h1
    · exact strLe_trans _ _ _ h1 ((List.pairwise_cons.mp ih).1 z hz)
theorem sortedS_eq {ys zs : List Str} (hp : ys.Perm zs) (hs : PyProof.Rows.sortedS ys = true) : ys = zs.mergeSort strLe := by
  have h1 : ys.Pairwise (fun a b => strLe a b = true) := by
    cases ys with
    | nil => simp
    | cons x r => exact risingS_pw hs
  exact List.Perm.eq_of_pairwise (fun a b _ _ => strLe_anti a b) h1 (List.pairwise_mergeSort strLe_trans strLe_total zs) (hp.trans (List.mergeSort_perm zs strLe).symm)
theorem strs_keys {κ : Type} : ∀ {kvs : List (Key × κ)} {zs : List Str}, strs_ (kvs.map fun p => ofKey p.1) = some zs → kvs.map (·.1) = zs.map Sum.inr
  | [], zs, h => by cases (show some [] = some zs from h); rfl
  | (.inl i, x) :: kvs, zs, h => by cases (show none = some zs from h)
  | (.inr s, x) :: kvs, zs, h => by
    obtain ⟨q, h1, rfl⟩ := opt_map_some (show (strs_ (kvs.map fun p => ofKey p.1)).map (s :: ·) = some zs from h)
    rw [List.map_cons, List.map_cons, strs_keys h1]
theorem clr_sorted (hc : X.calm = true) : CallR X (.builtin "sorted") (rCl X.K N W (bltD .sorted)) := by
  intro pins s σ H xs us Q I rv h
  obtain ⟨F, r, m, ds, S, hx, h⟩ := h
  simp only [bltD] at h
  split at h
  · obtain ⟨v, rfl, hv⟩ := RelL.one_of hx
    split at h
    · rename_i ys e1
      obtain ⟨a, vs, rfl, ha, la⟩ := shown_lst S e1 hv
      split at h
      · rename_i zs e2
        have ev := strs_rel e2 la
        subst ev
        split at h
        · rename_i hl
          refine cr_sortedS pins s σ H _ us Q I rv ⟨a, zs, rfl, .inl ha, hl, fun qs p hq hs hp => ?_⟩
          rw [sortedS_eq hq hs]
          exact RP.new S h hp ⟨_, upd_same, (strs_map _).ext (Ext.new S hp)⟩
        · exact h.elim
      · exact h.elim
    · rename_i kvs e1
      obtain ⟨a, vs, rfl, ha, la⟩ := shown_dK S e1 hv
      split at h
      · rename_i zs e2
        split at h
        · rename_i hl
          refine call_sortedD hc pins s σ H _ us Q I rv ⟨a, vs, zs, rfl, ha, (la.keys).trans (strs_keys e2), hl, fun qs p hq hs hp => ?_⟩
          rw [sortedS_eq hq hs]
          exact RP.new S h hp ⟨_, upd_same, (strs_map _).ext (Ext.new S hp)⟩
        · exact h.elim
      · exact h.elim
    · exact h.elim
  · exact h.elim
theorem clr_ord : CallR X (.builtin "ord") (rCl X.K N W (bltD .ord)) := by
  intro pins s σ H xs us Q I rv h
  obtain ⟨F, r, m, ds, S, hx, h⟩ := h
  simp only [bltD] at h
  split at h
  · obtain ⟨v, rfl, hv⟩ := RelL.one_of hx
    cases hv
    split at h
    · rename_i hl
      exact call_ord pins s σ H _ us Q I rv ⟨_, rfl, hl, RP.here S h rfl⟩
    · exact h.elim
  · exact h.elim
end
end Ev
/-! EvH: methods of lists and texts. -/
namespace PySem
open MeetsSeq MeetsSeq2 MeetsSeq3 SeqRoads2 AutoSeq1
/-- xs.extend(a tuple), the tuple's record as it may be -/
theorem ev_extend_tup (l : Addr) (xs : Array Value) (n : Nat) (b : Addr) (ys : Array Value) (k : Nat) (dd : Option Addr) (sl : Array (Option Value))
    (h1 : ¬(!xs.isEmpty && Builtin.List.listTooLong (xs.size + ys.size)) = true) (h2 : xs.size ≤ sizeLine) (h3 : (xs ++ ys).size ≤ sizeLine + 1) :
    Meets (Builtin.«list.extend» ⟨[.ref l, .ref b], []⟩) (fun _ R s => s.heap.get? l = some { cls := .type "list", dict := none, data := .seq xs n, slots := #[] } ∧
      s.heap.get? b = some { cls := .type "tuple", dict := dd, data := .seq ys k, slots := sl } ∧ R (.ok (.ret Value.none)) { s with heap := s.heap.update l (Obj.mapSeq fun x => x ++ ys), toks := s.toks }) :=
  .of_wp fun prog w A R s q => by
    obtain ⟨hp, g, d, tk, os⟩ := s
    obtain ⟨q1, q2, q3⟩ := q
    have t1 := sub_tuple_tuple
    have t2 := sub_list_list
    have t3 := sub_tuple_list
    have t4 := sub_list_tuple
    wp_walk using (wpAny_updateSeq q1 rfl (hz := h2) (_hz' := h3)), wpAny_loadPart' q1, wpAny_loadPart' q2
    exact ⟨_, rfl, q3⟩
end PySem
namespace Ev
open PySem L2
section
variable {X : Cx} {N : Nm} {W : XK}
theorem mtx_extendL : MtR X "list.extend" (fun x vs H Q => ∃ l b xs zs, x = .ref l ∧ vs = [.ref b] ∧ H l = some (.lst xs) ∧ Rd H b (.lst zs) ∧ xs.length + zs.length ≤ sizeLine ∧ Q .non (upd H l (.lst (xs ++ zs)))) := by
  rintro pins s σ H x vs v us Q I rx rv ⟨l, b, xs, zs, rfl, rfl, hl, hb, hz, q⟩
  cases rx
  obtain ⟨w, rfl, rw_⟩ := rv.one
  cases rw_
  obtain ⟨_, xi, n, rxi, _, e⟩ := I.lstM hl
  obtain ⟨_, zi, k, rzi, e2⟩ := lstR I hb
  have l1 := rxi.length
  have l2 := rzi.length
  have sz : xi.toArray.size + zi.toArray.size ≤ sizeLine := by simp only [List.size_toArray]; omega
  have nt : ¬ (!xi.toArray.isEmpty && Builtin.List.listTooLong (xi.toArray.size + zi.toArray.size)) = true := by
    rw [notLongL sz]; simp
  refine PySem.call_meets F.slot_list_extend ⟨_, e, rfl⟩ F.entry_list_extend (F.args_list_extend_2 _ _) (AutoSeq1.list_extend_list_list_0 l _ n b _ k nt (by omega) (by omega)) ⟨e, e2, ?_⟩
  exact ⟨.non, _, I.lset (its' := xi ++ zi) hl e (by simp) (rxi.append rzi) (by rw [List.length_append]; omega), rfl, q⟩
theorem mtx_extendT : MtR X "list.extend" (fun x vs H Q => ∃ l b xs zs, x = .ref l ∧ vs = [.ref b] ∧ H l = some (.lst xs) ∧ H b = some (.tup zs) ∧ xs.length + zs.length ≤ sizeLine ∧ Q .non (upd H l (.lst (xs ++ zs)))) := by
  rintro pins s σ H x vs v us Q I rx rv ⟨l, b, xs, zs, rfl, rfl, hl, hb, hz, q⟩
  cases rx
  obtain ⟨w, rfl, rw_⟩ := rv.one
  cases rw_
  obtain ⟨_, xi, n, rxi, _, e⟩ := I.lstM hl
  obtain ⟨zi, rzi, p, _⟩ := I.tuple (SqT.of hb)
  obtain ⟨⟨cls, dd, data, sl⟩, e2, hc, k, hd⟩ := p
  simp only at hc hd
  subst hc hd
  have l1 := rxi.length
  have l2 := rzi.length
  have sz : xi.toArray.size + zi.toArray.size ≤ sizeLine := by simp only [List.size_toArray]; omega
  have nt : ¬ (!xi.toArray.isEmpty && Builtin.List.listTooLong (xi.toArray.size + zi.toArray.size)) = true := by
    rw [notLongL sz]; simp
  refine PySem.call_meets F.slot_list_extend ⟨_, e, rfl⟩ F.entry_list_extend (F.args_list_extend_2 _ _) (PySem.ev_extend_tup l _ n b _ k dd sl nt (by omega) (by rw [Array.size_append]; omega)) ⟨e, e2, ?_⟩
  exact ⟨.non, _, I.lset (its' := xi ++ zi) hl e (by simp) (rxi.append rzi) (by rw [List.length_append]; omega), rfl, q⟩
/-- a list of ours, changed -/
theorem RP.chg {K : PySem.W.Frag} {W : XK} {F : Addr → Prop} {r : List Addr} {H : Hp} {m : Mem} {Q : VK} {i : Nat} {a : Addr} {o : O} {ob : HO} {d : D} {v : V} (S : Sim K N F r m H) (h : RP K N (RelD N) W F r H Q (.ok d (m.set i o))) (hi : r[i]? = some a)
    {z : HO} (he : H a = some z) (ho : RelO N F r (upd H a ob) o a) (hd : RelD N F r (upd H a ob) d v) (hm : Mut (some z) := by trivial) : Q v (upd H a ob) :=
  h F r (upd H a ob) v (Ext.set S (List.mem_of_getElem? hi) he hm) (S.set hi he ho hm) hd
theorem mtr_append : MtR X "list.append" (rMt X.K N W (mthD .append)) := by
  intro pins s σ H x xs v us Q I rx rv h
  obtain ⟨F, r, m, dx, ds, S, hx, hs, h⟩ := h
  simp only [mthD] at h
  split at h
  · rename_i a d
    split at h
    · rename_i ys hm
      split at h
      · rename_i hf
        obtain ⟨p, hp, rfl⟩ := hx
        obtain ⟨w, rfl, hw⟩ := RelL.one_of hs
        obtain ⟨vs, hv, la⟩ := S.ref hm hp
        have := fits_le hf
        have e := la.length
        have x : Ext F r H F r (upd H p (.lst (vs ++ [w]))) := Ext.set S (List.mem_of_getElem? hp) hv
        exact mt_append pins s σ H _ _ v us Q I rx rv ⟨p, vs, w, rfl, rfl, hv, by omega, RP.chg S h hp hv ⟨_, upd_same, (la.append (RelL.one hw)).ext x⟩ rfl⟩
      · exact h.elim
    · exact h.elim
  · exact h.elim
theorem mtr_extend : MtR X "list.extend" (rMt X.K N W (mthD .extend)) := by
  intro pins s σ H x xs v us Q I rx rv h
  obtain ⟨F, r, m, dx, ds, S, hx, hs, h⟩ := h
  simp only [mthD] at h
  split at h
  · rename_i a d
    split at h
    · rename_i ys hm
      obtain ⟨p, hp, rfl⟩ := hx
      obtain ⟨w, rfl, hw⟩ := RelL.one_of hs
      obtain ⟨vs, hv, la⟩ := S.ref hm hp
      split at h
      · rename_i zs e1
        split at h
        · rename_i hf
          obtain ⟨b, ws, rfl, hb, lb⟩ := shown_lst S e1 hw
          have := fits_le hf
          rw [la.length, lb.length] at this
          have x : Ext F r H F r (upd H p (.lst (vs ++ ws))) := Ext.set S (List.mem_of_getElem? hp) hv
          exact mtx_extendL pins s σ H _ _ v us Q I rx rv ⟨p, b, vs, ws, rfl, rfl, hv, hb, this, RP.chg S h hp hv ⟨_, upd_same, (la.append lb).ext x⟩ rfl⟩
        · exact h.elim
      · rename_i zs e1
        split at h
        · rename_i hf
          have e1 := shown_tup e1
          subst e1
          obtain ⟨b, ws, rfl, hb, lb⟩ := hw
          have := fits_le hf
          rw [la.length, lb.length] at this
          have x : Ext F r H F r (upd H p (.lst (vs ++ ws))) := Ext.set S (List.mem_of_getElem? hp) hv
          exact mtx_extendT pins s σ H _ _ v us Q I rx rv ⟨p, b, vs, ws, rfl, rfl, hv, hb, this, RP.chg S h hp hv ⟨_, upd_same, (la.append lb).ext x⟩ rfl⟩
        · exact h.elim
      · exact h.elim
    · exact h.elim
  · exact h.elim
theorem getLast_ix {α : Type} : ∀ {xs : List α} {y : α}, xs.getLast? = some y → xs[xs.length - 1]? = some y := fun {xs y} h => by
  rw [List.getLast?_eq_getElem?] at h; exact h
theorem mtr_pop : MtR X "list.pop" (rMt X.K N W (mthD .pop)) := by
  intro pins s σ H x xs v us Q I rx rv h
  obtain ⟨F, r, m, dx, ds, S, hx, hs, h⟩ := h
  simp only [mthD] at h
  split at h
  · rename_i a
    split at h
    · rename_i ys hm
      split at h
      · rename_i y hy
        obtain ⟨p, hp, rfl⟩ := hx
        cases hs
        obtain ⟨vs, hv, la⟩ := S.ref hm hp
        obtain ⟨w, hw, rw_⟩ := la.get (getLast_ix hy)
        rw [la.length] at hw
        have x : Ext F r H F r (upd H p (.lst vs.dropLast)) := Ext.set S (List.mem_of_getElem? hp) hv
        exact mt_pop pins s σ H _ _ v us Q I rx rv ⟨p, vs, w, rfl, rfl, hv, hw, RP.chg S h hp hv ⟨_, upd_same, la.dropLast.ext x⟩ (rw_.ext x)⟩
      · exact h.elim
    · exact h.elim
  · rename_i a d
    split at h
    · rename_i ys hm
      split at h
      · rename_i i
        split at h
        · rename_i hi
          split at h
          · rename_i k hk
            split at h
            · rename_i y hy
              obtain ⟨p, hp, rfl⟩ := hx
              obtain ⟨w0, rfl, hw0⟩ := RelL.one_of hs
              cases (relD_int hw0)
              obtain ⟨vs, hv, la⟩ := S.ref hm hp
              obtain ⟨w, hw, rw_⟩ := la.get hy
              rw [la.length] at hk
              have x : Ext F r H F r (upd H p (.lst (vs.eraseIdx k))) := Ext.set S (List.mem_of_getElem? hp) hv
              exact mt_popAt pins s σ H _ _ v us Q I rx rv ⟨p, vs, i, k, w, rfl, rfl, hv, hi.1, hi.2, (ixN_seq hk).1, hw, RP.chg S h hp hv ⟨_, upd_same, (la.erase k).ext x⟩ (rw_.ext x)⟩
            · exact h.elim
          · exact h.elim
        · exact h.elim
      · exact h.elim
    · exact h.elim
  · exact h.elim
theorem mtr_join : MtR X "str.join" (rMt X.K N W (mthD .join)) := by
  intro pins s σ H x xs v us Q I rx rv h
  obtain ⟨F, r, m, dx, ds, S, hx, hs, h⟩ := h
  simp only [mthD] at h
  split at h
  · rename_i z d
    split at h
    · rename_i ys e1
      split at h
      · rename_i zs e2
        split at h
        · rename_i hf
          cases (relD_str hx)
          obtain ⟨w, rfl, hw⟩ := RelL.one_of hs
          obtain ⟨b, ws, rfl, hb, lb⟩ := shown_lst S e1 hw
          have ev := strs_rel e2 lb
          subst ev
          exact mt_join pins s σ H _ _ v us Q I rx rv ⟨z, b, zs, rfl, rfl, .inl (.inl hb), of_decide_eq_true hf, RP.here S h rfl⟩
        · exact h.elim
      · exact h.elim
    · exact h.elim
  · exact h.elim
theorem mtr_isalpha : MtR X "str.isalpha" (rMt X.K N W (mthD .isalpha)) := by
  intro pins s σ H x xs v us Q I rx rs h
  obtain ⟨F, r, m, dx, ds, S, hx, hs, h⟩ := h
  simp only [mthD] at h
  split at h
  · cases (relD_str hx)
    cases (show xs = [] from hs)
    exact mt_isalpha pins s σ H _ _ v us Q I rx rs ⟨_, rfl, rfl, trivial, RP.here S h rfl⟩
  · exact h.elim
theorem mtr_upper : MtR X "str.upper" (rMt X.K N W (mthD .upper)) := by
  intro pins s σ H x xs v us Q I rx rs h
  obtain ⟨F, r, m, dx, ds, S, hx, hs, h⟩ := h
  simp only [mthD] at h
  split at h
  · cases (relD_str hx)
    cases (show xs = [] from hs)
    split at h
    · rename_i hz
      exact mt_upper pins s σ H _ _ v us Q I rx rs ⟨_, rfl, rfl, hz, RP.here S h rfl⟩
    · exact h.elim
  · exact h.elim
theorem mtr_sindex : MtR X "str.index" (rMt X.K N W (mthD .sindex)) := by
  intro pins s σ H x xs v us Q I rx rs h
  obtain ⟨F, r, m, dx, ds, S, hx, hs, h⟩ := h
  simp only [mthD] at h
  split at h
  · rename_i a b
    split at h
    · rename_i i rest ho
      cases (relD_str hx)
      obtain ⟨w, rfl, hw⟩ := RelL.one_of hs
      cases (relD_str hw)
      exact mt_sindex pins s σ H _ _ v us Q I rx rs ⟨_, _, i, rest, rfl, rfl, ho, RP.here S h rfl⟩
    · exact h.elim
  · exact h.elim
theorem findI_spec {d : D} : ∀ {ys : List D} {j : Nat}, findI d ys = some j → (∃ y, ys[j]? = some y ∧ y.depth ≤ 150 ∧ eqD y d = some true) ∧ ∀ k, k < j → ∃ y, ys[k]? = some y ∧ y.depth ≤ 150 ∧ eqD y d = some false
  | [], _, e => by cases (show (none : Option Nat) = _ from e)
  | y :: ys, j, e => by
    unfold findI at e
    by_cases hy : y.eqb = true
    · rw [if_pos hy] at e
      split at e
      · rename_i e1
        cases e
        obtain ⟨z1, z2⟩ := eqT_some e1
        exact ⟨⟨y, rfl, z1, z2⟩, fun k hk => absurd hk (by omega)⟩
      · rename_i e1
        obtain ⟨z1, z2⟩ := eqT_some e1
        cases e2 : findI d ys with
        | none => rw [e2] at e; cases e
        | some i =>
          rw [e2] at e
          cases e
          obtain ⟨⟨y1, h1, h2⟩, h3⟩ := findI_spec e2
          refine ⟨⟨y1, h1, h2⟩, fun k hk => ?_⟩
          cases k with
          | zero => exact ⟨y, rfl, z1, z2⟩
          | succ k => exact h3 k (by have : k + 1 < i + 1 := hk; omega)
      · cases e
    · rw [if_neg hy] at e
      cases e
theorem mtr_index (hu : X.A.units + 160 < cLine) : MtR X "list.index" (rMt X.K N W (mthD .index)) := by
  intro pins s σ H x xs v us Q I rx rs h
  obtain ⟨F, r, m, dx, ds, S, hx, hs, h⟩ := h
  simp only [mthD] at h
  split at h
  · rename_i d
    split at h
    · rename_i ys e1
      split at h
      · rename_i j e2
        obtain ⟨w, rfl, hw⟩ := RelL.one_of hs
        obtain ⟨l, vs, rfl, hl, la⟩ := shown_lst S e1 hx
        cases rx
        cases rs with
        | cons ry rt =>
          rename_i uy ut
          cases rt
          obtain ⟨its, rv, ⟨⟨cls, dd, data, sl⟩, n, ho, hc, hdn, hd⟩, hlen⟩ := I.list (.inl hl)
          simp only at hc hd
          subst hc hd
          obtain ⟨⟨y, hy, hyd, hye⟩, hno⟩ := findI_spec e2
          have at_ : ∀ (k : Nat) (y : D) (b : Bool) (hk : k < its.toArray.size), ys[k]? = some y → y.depth ≤ 150 → eqD y d = some b → SeqAt.EqIn X.prog X.w X.A.in1 s its.toArray[k] uy b := fun k y b hk h1 h2 h3 => by
            obtain ⟨v1, hv1, rv1⟩ := la.get h1
            obtain ⟨u1, hu1, ru1⟩ := rv.get hv1
            have e3 : its.toArray[k] = u1 := by
              have hk' : k < its.length := by simpa using hk
              rw [List.getElem?_eq_getElem hk'] at hu1
              have := Option.some.inj hu1
              simpa using this
            rw [e3]
            exact (eq_tree I y d 150 h2 rv1 hw ru1 ry h3).at X.A.in1 (by show X.A.units + 1 + 150 < cLine; omega)
          have l1 := la.length
          have l2 := rv.length
          have hj : j < its.toArray.size := by
            have := (List.getElem?_eq_some_iff.mp hy).1
            simp
            omega
          have hsl := sizeLine_eq
          refine call_meetsIn PySem.F.slot_list_index ⟨_, ho, rfl⟩ PySem.F.entry_list_index (PySem.F.args_list_index_2 _ _) (SeqAt.idx_list hj (by simp at hj; omega)) ⟨⟨ho, fun k hk hkj => ?_, at_ j y true hj hy hyd hye⟩, ?_⟩
          · obtain ⟨y2, g1, g2, g3⟩ := hno k hkj
            exact at_ k y2 false hk g1 g2 g3
          · exact ⟨.int (j : Nat), H, I.tok _, ⟨_, rfl⟩, RP.here S h rfl⟩
      · exact h.elim
    · exact h.elim
  · exact h.elim
end
end Ev
/-! EvI: each form of expression keeps the reading by the evaluator. -/
namespace Ev
open PySem L2

section
variable {X : Cx} {N : Nm} {K : PySem.W.Frag} {W : WX} {F : Addr → Prop} {r : List Addr} {H : Hp} {m : Mem}
def WT : XK := fun _ _ _ => True
theorem RP.weak {α β : Type} {R : (Addr → Prop) → List Addr → Hp → α → β → Prop} {W : XK} {Q : β → Hp → Prop} {x : Res α} (h : RP K N R W F r H Q x) : RP K N R WT F r H Q x := by
  cases x with
  | ok d m => exact h
  | exc x m => exact fun _ _ _ _ _ _ _ _ => trivial
  | bad => exact h
theorem pe_imp {e : Expr} {t t' : TE} (h : PE X e t) (i : ∀ σ H Q, t' σ H Q → t σ H Q) : PE X e t' := ⟨fun pins s σ H Q I q => h.run pins s σ H Q I (i σ H Q q)⟩
theorem pt_imp {e : Expr} {t t' : TT} (h : PT X e t) (i : ∀ σ H Q, t' σ H Q → t σ H Q) : PT X e t' := ⟨fun pins s σ H Q I q => h.run pins s σ H Q I (i σ H Q q)⟩
theorem pw_imp {e : Expr} {t t' : TT} (h : PW X e t) (i : ∀ σ H Q, t' σ H Q → t σ H Q) : PW X e t' := ⟨fun w pins s σ H Q I q => h.run w pins s σ H Q I (i σ H Q q)⟩
theorem pa_imp {e : List Expr} {t t' : TA} (h : PA X e t) (i : ∀ σ H Q, t' σ H Q → t σ H Q) : PA X e t' := ⟨fun p pins s σ H Q I q => h.run p pins s σ H Q I (i σ H Q q)⟩
theorem po_imp {e : Option Expr} {t t' : TO} (h : PO X e t) (i : ∀ σ H Q, t' σ H Q → t σ H Q) : PO X e t' := ⟨fun pins s σ H Q I q => h.run pins s σ H Q I (i σ H Q q)⟩
theorem pi_imp {tg e : Expr} {t t' : TI} (h : PI X tg e t) (i : ∀ σ H Q, t' σ H Q → t σ H Q) : PI X tg e t' := ⟨fun pins s σ H Q I q => h.run pins s σ H Q I (i σ H Q q)⟩
theorem ps_imp {e : Stmt} {t t' : TS} (h : PS X e t) (i : ∀ D σ H, t' D σ H → t D σ H) : PS X e t' := ⟨fun pins s σ H D I q => h.run pins s σ H D I (i D σ H q)⟩
theorem pss_imp {e : List Stmt} {t t' : TS} (h : PSs X e t) (i : ∀ D σ H, t' D σ H → t D σ H) : PSs X e t' := ⟨fun pins s σ H D I q => h.run pins s σ H D I (i D σ H q)⟩
theorem pts_imp {e : List Expr} {t t' : TT} (h : PTs X e t) (i : ∀ σ H Q, t' σ H Q → t σ H Q) : PTs X e t' := ⟨fun pins s σ H Q I q => h.run pins s σ H Q I (i σ H Q q)⟩

def RelB (_ : Addr → Prop) (_ : List Addr) (_ : Hp) (a b : Bool) : Prop := b = a
def RelI (_ : Addr → Prop) (_ : List Addr) (_ : Hp) (a b : Option Int) : Prop := b = a

abbrev tD (K : PySem.W.Frag) (N : Nm) (W : WX) (f : Env → Mem → Res D) : TE := tE K N (RelD N) W f
abbrev tTT (K : PySem.W.Frag) (N : Nm) (W : WX) (f : Env → Mem → Res Bool) : TT := tE K N RelB W f
abbrev tAA (K : PySem.W.Frag) (N : Nm) (W : WX) (f : Env → Mem → Res (List D)) : TA := tE K N (RelL N) W f
abbrev tOO (K : PySem.W.Frag) (N : Nm) (W : WX) (f : Env → Mem → Res (Option Int)) : TO := tE K N RelI W f

/-- one step, then the rest -/
theorem one {α β γ δ : Type} {R : (Addr → Prop) → List Addr → Hp → α → β → Prop} {R' : (Addr → Prop) → List Addr → Hp → γ → δ → Prop} {f : Env → Mem → Res α} {g : Env → α → Mem → Res γ} {σ : L2.St} {Q : δ → Hp → Prop} {P : β → Hp → Prop}
    (h : tE K N R' W (fun env m => (f env m).bind fun x m1 => g env x m1) σ H Q)
    (k : ∀ F r env m H1 d v, Sim K N F r m H1 → SimE N F r H1 env σ → R F r H1 d v → RP K N R' (WE W σ) F r H1 Q (g env d m) → P v H1) : tE K N R W f σ H P := by
  obtain ⟨F, r, env, m, S, SE, h⟩ := h
  exact RP.split S SE h fun F1 r1 H1 m1 d v x S1 q h1 => k F1 r1 env m1 H1 d v S1 (SE.ext x) q h1
theorem two {γ δ : Type} {R' : (Addr → Prop) → List Addr → Hp → γ → δ → Prop} {f g : Env → Mem → Res D} {w : Env → D → D → Mem → Res γ} {σ : L2.St} {Q : δ → Hp → Prop} {P : V → V → Hp → Prop}
    (h : tE K N R' W (fun env m => (f env m).bind fun x m1 => (g env m1).bind fun y m2 => w env x y m2) σ H Q)
    (k : ∀ F r env m H1 d e v u, Sim K N F r m H1 → SimE N F r H1 env σ → RelD N F r H1 d v → RelD N F r H1 e u → RP K N R' (WE W σ) F r H1 Q (w env d e m) → P v u H1) : tD K N W f σ H fun x H1 => tD K N W g σ H1 fun y H2 => P x y H2 := by
  obtain ⟨F, r, env, m, S, SE, h⟩ := h
  refine RP.split S SE h fun F1 r1 H1 m1 d v x S1 q h1 => ?_
  exact RP.split S1 (SE.ext x) h1 fun F2 r2 H2 m2 e u x2 S2 q2 h2 => k F2 r2 env m2 H2 d e v u S2 ((SE.ext x).ext x2) (q.ext x2) q2 h2
theorem one_of {α β : Type} {R : (Addr → Prop) → List Addr → Hp → α → β → Prop} {f : Env → Mem → Res α} {σ : L2.St} {Q : β → Hp → Prop} {F : Addr → Prop} {r : List Addr} {env : Env} {m : Mem} {H : Hp} (S : Sim K N F r m H) (SE : SimE N F r H env σ) (h : RP K N R (WE W σ) F r H Q (f env m)) : tE K N R W f σ H Q := ⟨F, r, env, m, S, SE, h⟩
end

section
variable {X : Cx} {N : Nm} {W : WX} {a b c e : Expr} {fa fb fc : Env → Mem → Res D} {pos : Pos}
theorem x_stk : PE X e (tD X.K N W fun _ _ => .bad) := ⟨fun _ _ _ _ _ _ ⟨_, _, _, _, _, _, h⟩ => h.elim⟩
theorem t_stk : PT X e (tTT X.K N W fun _ _ => .bad) := ⟨fun _ _ _ _ _ _ ⟨_, _, _, _, _, _, h⟩ => h.elim⟩
theorem x_var {i : Nat} {x : Str} (hN : X.N[i]? = some x) (hv : Vis X.env.scope x) (hd : (x == ("__debug__" : Str)) = false) (hcd : (x == ("__classdict__" : Str)) = false) :
    PE X (.Name x pos) (tD X.K N W fun env m => match env[i]? with | some (some d) => .ok d m | _ => .bad) := by
  refine pe_imp (pe_var hN hv hd hcd) fun σ H Q ⟨F, r, env, m, S, SE, h⟩ => ?_
  dsimp only at h
  split at h
  · rename_i d e
    obtain ⟨v, e1, q⟩ := SE.at_ i d e
    exact ⟨v, e1, RP.here S h q⟩
  · exact h.elim
/-- a value that is there: the reading of a constant -/
theorem cst_of {d : D} {v : V} (h : PE X e (tC v)) (q : ∀ F r H, RelD N F r H d v) : PE X e (tD X.K N W fun _ m => .ok d m) :=
  pe_imp h fun σ H Q ⟨F, r, env, m, S, SE, h⟩ => RP.here S h (q F r H)
theorem x_bin (o : BOp) (ha : PE X a (tD X.K N W fa)) (hb : PE X b (tD X.K N W fb)) : PE X (.BinOp a (bop o) b pos) (tD X.K N W fun env m => (fa env m).bind fun x m1 => (fb env m1).bind fun y m2 => binD o x y m2) :=
  pe_imp (pe_op (opr_bin (N := N) (W := WT) o) ha hb) fun σ H Q h => two (w := fun _ x y m2 => binD o x y m2) h fun F r env m H1 d e v u S _ q1 q2 h => ⟨F, r, m, d, e, S, q1, q2, h.weak⟩
theorem x_neg (ha : PE X a (tD X.K N W fa)) : PE X (.UnaryOp .USub a pos) (tD X.K N W fun env m => (fa env m).bind fun x m1 => negD x m1) :=
  pe_imp (pe_un (unr_neg (N := N) (W := WT)) ha) fun σ H Q h => one (g := fun _ x m1 => negD x m1) h fun F r env m H1 d v S _ q h => ⟨F, r, m, d, S, q, h.weak⟩
theorem x_cmp (hu : X.A.units + 160 < cLine) (o : COp) (ha : PE X a (tD X.K N W fa)) (hb : PE X b (tD X.K N W fb)) (hm : behindInMarks (cop o) b = false) :
    PE X (.Compare a [cop o] [b] pos) (tD X.K N W fun env m => (fa env m).bind fun x m1 => (fb env m1).bind fun y m2 => Res.opt ((cmpD o x y m2).map D.bl) m2) :=
  pe_imp (pe_cmpR (opr_cmp (N := N) (W := WT) hu o) ha hb hm) fun σ H Q h => two (w := fun _ x y m2 => Res.opt ((cmpD o x y m2).map D.bl) m2) h fun F r env m H1 d e v u S _ q1 q2 h => by
    obtain ⟨b, e1, h1⟩ := RP.opt_map h
    exact ⟨F, r, m, d, e, b, S, q1, q2, e1, RP.here S h1 rfl⟩
theorem t_cmp (hu : X.A.units + 160 < cLine) (o : COp) (ha : PE X a (tD X.K N W fa)) (hb : PE X b (tD X.K N W fb)) (hm : behindInMarks (cop o) b = false) :
    PT X (.Compare a [cop o] [b] pos) (tTT X.K N W fun env m => (fa env m).bind fun x m1 => (fb env m1).bind fun y m2 => Res.opt (cmpD o x y m2) m2) :=
  pt_imp (pt_cmpR (opr_cmp (N := N) (W := WT) hu o) ha hb hm) fun σ H Q h => two (w := fun _ x y m2 => Res.opt (cmpD o x y m2) m2) h fun F r env m H1 d e v u S _ q1 q2 h => by
    obtain ⟨b, e1, h1⟩ := RP.opt_some h
    exact ⟨F, r, m, d, e, b, S, q1, q2, e1, b, rfl, RP.here S h1 rfl⟩
def chnG (o p : COp) (fc : Env → Mem → Res D) : Env → D → D → Mem → Res D := fun env x y m2 => match cmpD o x y m2 with
    | none => .bad
    | some false => .ok (.bl false) m2
    | some true => (fc env m2).bind fun z m3 => Res.opt ((cmpD p y z m3).map D.bl) m3
theorem x_chn (hu : X.A.units + 160 < cLine) (o p : COp) (ha : PE X a (tD X.K N W fa)) (hb : PE X b (tD X.K N W fb)) (hc : PE X c (tD X.K N W fc)) (hm : lastMarks [cop o, cop p] [b, c] = false) :
    PE X (.Compare a [cop o, cop p] [b, c] pos) (tD X.K N W fun env m => (fa env m).bind fun x m1 => (fb env m1).bind fun y m2 => chnG o p fc env x y m2) :=
  pe_imp (pe_chain (opr_cmp (N := N) (W := WT) hu o) (opr_cmp (N := N) (W := WT) hu p) ha hb hc hm) fun σ H Q h => two (w := chnG o p fc) h fun F r env m H1 d e v u S SE q1 q2 h => by
    unfold chnG at h
    split at h
    · exact h.elim
    · rename_i e1
      exact ⟨F, r, m, d, e, false, S, q1, q2, e1, false, rfl, RP.here S h rfl⟩
    · rename_i e1
      refine ⟨F, r, m, d, e, true, S, q1, q2, e1, true, rfl, ?_⟩
      refine RP.split S SE h fun F2 r2 H2 m2 z w x2 S2 q3 h2 => ?_
      obtain ⟨b, e2, h3⟩ := RP.opt_map h2
      exact ⟨F2, r2, m2, e, z, b, S2, q2.ext x2, q3, e2, RP.here S2 h3 rfl⟩
def chnH (o p : COp) (fc : Env → Mem → Res D) : Env → D → D → Mem → Res Bool := fun env x y m2 => match cmpD o x y m2 with
    | none => .bad
    | some false => .ok false m2
    | some true => (fc env m2).bind fun z m3 => Res.opt (cmpD p y z m3) m3
theorem t_chn (hu : X.A.units + 160 < cLine) (o p : COp) (ha : PE X a (tD X.K N W fa)) (hb : PE X b (tD X.K N W fb)) (hc : PE X c (tD X.K N W fc)) (hm : lastMarks [cop o, cop p] [b, c] = false) :
    PT X (.Compare a [cop o, cop p] [b, c] pos) (tTT X.K N W fun env m => (fa env m).bind fun x m1 => (fb env m1).bind fun y m2 => chnH o p fc env x y m2) :=
  pt_imp (pt_chain (opr_cmp (N := N) (W := WT) hu o) (opr_cmp (N := N) (W := WT) hu p) ha hb hc hm) fun σ H Q h => two (w := chnH o p fc) h fun F r env m H1 d e v u S SE q1 q2 h => by
    unfold chnH at h
    split at h
    · exact h.elim
    · rename_i e1
      exact ⟨F, r, m, d, e, false, S, q1, q2, e1, false, rfl, false, rfl, RP.here S h rfl⟩
    · rename_i e1
      refine ⟨F, r, m, d, e, true, S, q1, q2, e1, true, rfl, ?_⟩
      refine RP.split S SE h fun F2 r2 H2 m2 z w x2 S2 q3 h2 => ?_
      obtain ⟨b, e2, h3⟩ := RP.opt_some h2
      exact ⟨F2, r2, m2, e, z, b, S2, q2.ext x2, q3, e2, b, rfl, RP.here S2 h3 rfl⟩
theorem isnD_rel {F : Addr → Prop} {r : List Addr} {H : Hp} {d : D} {v : V} {b : Bool} (h : RelD N F r H d v) (e : isnD d = some b) : decide (v = .non) = b := by
  cases d <;> cases e
  · cases (show v = V.non from h); rfl
  · cases (show v = V.bl _ from h); rfl
  · cases (show v = V.int _ from h); rfl
  · cases (show v = V.str _ from h); rfl
  · obtain ⟨_, _, rfl, _⟩ := h; rfl
  · obtain ⟨_, _, rfl, _⟩ := h; rfl
  · obtain ⟨_, _, rfl, _⟩ := h; rfl
  · obtain ⟨_, _, rfl, _⟩ := h; rfl
  · obtain ⟨_, _, rfl⟩ := h; rfl
  · obtain ⟨_, _, rfl, _⟩ := h; rfl
theorem x_isn {j : Nat} {p' : Pos} (neg : Bool) (ha : PE X a (tD X.K N W fa)) : PE X (.Compare a [if neg then .IsNot else .Is] [.Constant .none j p'] pos) (tD X.K N W fun env m => (fa env m).bind fun x m1 => Res.opt ((isnD x).map fun b => D.bl (b != neg)) m1) := by
  cases neg
  · refine pe_imp (pe_cmp (pc_isN ha)) fun σ H Q h => one (g := fun _ x m1 => Res.opt ((isnD x).map fun b => D.bl (b != false)) m1) h fun F r env m H1 d v S _ q h => ?_
    obtain ⟨b, e1, h1⟩ := RP.opt_map h
    exact RP.here S h1 (by rw [isnD_rel q e1]; show _ = _; cases b <;> rfl)
  · refine pe_imp (pe_cmp (pc_notN ha)) fun σ H Q h => one (g := fun _ x m1 => Res.opt ((isnD x).map fun b => D.bl (b != true)) m1) h fun F r env m H1 d v S _ q h => ?_
    obtain ⟨b, e1, h1⟩ := RP.opt_map h
    exact RP.here S h1 (by rw [isnD_rel q e1]; show _ = _; cases b <;> rfl)
theorem t_isn {j : Nat} {p' : Pos} (neg : Bool) (ha : PE X a (tD X.K N W fa)) : PT X (.Compare a [if neg then .IsNot else .Is] [.Constant .none j p'] pos) (tTT X.K N W fun env m => (fa env m).bind fun x m1 => Res.opt ((isnD x).map fun b => b != neg) m1) := by
  cases neg
  · refine pt_imp (pt_cmp (pc_isN ha)) fun σ H Q h => one (g := fun _ x m1 => Res.opt ((isnD x).map fun b => b != false) m1) h fun F r env m H1 d v S _ q h => ?_
    obtain ⟨b, e1, h1⟩ := RP.opt_map h
    exact ⟨_, rfl, RP.here S h1 (by rw [isnD_rel q e1]; show _ = _; cases b <;> rfl)⟩
  · refine pt_imp (pt_cmp (pc_notN ha)) fun σ H Q h => one (g := fun _ x m1 => Res.opt ((isnD x).map fun b => b != true) m1) h fun F r env m H1 d v S _ q h => ?_
    obtain ⟨b, e1, h1⟩ := RP.opt_map h
    exact ⟨_, rfl, RP.here S h1 (by rw [isnD_rel q e1]; show _ = _; cases b <;> rfl)⟩
theorem blD_rel {F : Addr → Prop} {r : List Addr} {H : Hp} {d : D} {v : V} {b : Bool} (h : RelD N F r H d v) (e : blD d = some b) : v = .bl b := by
  cases d <;> cases e
  exact h
/-- x is True, x is not True, .. -/
theorem x_isb {j : Nat} {p' : Pos} (neg k : Bool) (ha : PE X a (tD X.K N W fa)) : PE X (.Compare a [if neg then .IsNot else .Is] [.Constant (.bool k) j p'] pos) (tD X.K N W fun env m => (fa env m).bind fun x m1 => Res.opt ((blD x).map fun c => D.bl ((c == k) != neg)) m1) := by
  cases neg
  · refine pe_imp (pe_cmpR (op_isBl) ha (pe_bl (b := k)) (nomark _)) fun σ H Q h => one (g := fun _ x m1 => Res.opt ((blD x).map fun c => D.bl ((c == k) != false)) m1) h fun F r env m H1 d v S _ q h => ?_
    obtain ⟨b, e1, h1⟩ := RP.opt_map h
    exact ⟨b, k, blD_rel q e1, rfl, RP.here S h1 (by show V.bl _ = V.bl _; cases b <;> cases k <;> rfl)⟩
  · refine pe_imp (pe_cmpR (op_notBl) ha (pe_bl (b := k)) (nomark _)) fun σ H Q h => one (g := fun _ x m1 => Res.opt ((blD x).map fun c => D.bl ((c == k) != true)) m1) h fun F r env m H1 d v S _ q h => ?_
    obtain ⟨b, e1, h1⟩ := RP.opt_map h
    exact ⟨b, k, blD_rel q e1, rfl, RP.here S h1 (by show V.bl _ = V.bl _; cases b <;> cases k <;> rfl)⟩
theorem t_isb {j : Nat} {p' : Pos} (neg k : Bool) (ha : PE X a (tD X.K N W fa)) : PT X (.Compare a [if neg then .IsNot else .Is] [.Constant (.bool k) j p'] pos) (tTT X.K N W fun env m => (fa env m).bind fun x m1 => Res.opt ((blD x).map fun c => (c == k) != neg) m1) := by
  cases neg
  · refine pt_imp (pt_cmpR (op_isBl) ha (pe_bl (b := k)) (nomark _)) fun σ H Q h => one (g := fun _ x m1 => Res.opt ((blD x).map fun c => (c == k) != false) m1) h fun F r env m H1 d v S _ q h => ?_
    obtain ⟨b, e1, h1⟩ := RP.opt_map h
    exact ⟨b, k, blD_rel q e1, rfl, _, rfl, RP.here S h1 (by show _ = _; cases b <;> cases k <;> rfl)⟩
  · refine pt_imp (pt_cmpR (op_notBl) ha (pe_bl (b := k)) (nomark _)) fun σ H Q h => one (g := fun _ x m1 => Res.opt ((blD x).map fun c => (c == k) != true) m1) h fun F r env m H1 d v S _ q h => ?_
    obtain ⟨b, e1, h1⟩ := RP.opt_map h
    exact ⟨b, k, blD_rel q e1, rfl, _, rfl, RP.here S h1 (by show _ = _; cases b <;> cases k <;> rfl)⟩

/-! ### truth -/
def rTr (K : PySem.W.Frag) (N : Nm) : V → Hp → (Bool → Hp → Prop) → Prop := fun x H Q => ∃ F r m d b, Sim K N F r m H ∧ RelD N F r H d x ∧ truD d m = some b ∧ Q b H
theorem trr : TruR X (rTr X.K N) := by
  intro pins s σ H x v Q I rx h
  obtain ⟨F, r, m, d, b, S, q, e, k⟩ := h
  rcases tru_rel S q e with ⟨kvs, a, rfl, hR, rfl⟩ | t
  · cases rx
    obtain ⟨hz, hS, vs, rk, mm⟩ := hR.ok I.hok
    have hs : sizeLine = 16777216 := sizeLine_eq
    have hlen : kvs.length = vs.length := Paired.length rk
    refine wpAny_truthy_dict hS mm (by omega) ⟨H, I.tok _, ?_⟩
    rw [isEmpty_kv rk]
    exact k
  · exact tru_ok pins s σ H x v Q I rx ⟨b, t, k⟩
/-- any expression whose test is its value's truth -/
theorem t_val (ha : PE X a (tD X.K N W fa)) (he : ∀ whole, isTrue a X.env whole = (do let v ← whole; standAt a.pos; holding [v] (truthy v))) :
    PT X a (tTT X.K N W fun env m => (fa env m).bind fun d m1 => Res.opt (truD d m1) m1) :=
  pt_imp (pt_truthR ha (trr (N := N)) he) fun σ H Q h => one (g := fun _ d m1 => Res.opt (truD d m1) m1) h fun F r env m H1 d v S _ q h => by
    obtain ⟨b, e1, h1⟩ := RP.opt_some h
    exact ⟨F, r, m, d, b, S, q, e1, RP.here S h1 rfl⟩
theorem pe_notR {r : V → Hp → (Bool → Hp → Prop) → Prop} {ta : TE} (hr : TruR X r) (ha : PE X a ta) : PE X (.UnaryOp .Not a pos) (fun σ H Q => ta σ H fun x H1 => r x H1 fun b H2 => Q (.bl (!b)) H2) := by
  refine ⟨fun pins s σ H Q I h => ?_⟩
  exact PyProof.Rows.UnaryOp_ (thn (ha.run pins s σ H _ I h) fun v s1 ⟨x, H1, I1, r1, q1⟩ => PyProof.Rows.not_of (thn (hr pins s1 σ H1 x v _ I1 r1 q1) fun b s2 ⟨H2, I2, q2⟩ => ⟨.bl (!b), H2, I2, rfl, q2⟩))
theorem x_not (ha : PE X a (tD X.K N W fa)) : PE X (.UnaryOp .Not a pos) (tD X.K N W fun env m => (fa env m).bind fun x m1 => Res.opt ((truD x m1).map fun b => D.bl (!b)) m1) :=
  pe_imp (pe_notR (trr (N := N)) ha) fun σ H Q h => one (g := fun _ x m1 => Res.opt ((truD x m1).map fun b => D.bl (!b)) m1) h fun F r env m H1 d v S _ q h => by
    obtain ⟨b, e1, h1⟩ := RP.opt_map h
    exact ⟨F, r, m, d, b, S, q, e1, RP.here S h1 rfl⟩
variable {ga gb : Env → Mem → Res Bool} {rest : List Expr}
theorem t_not (ha : PT X a (tTT X.K N W ga)) : PT X (.UnaryOp .Not a pos) (tTT X.K N W fun env m => (ga env m).bind fun x m1 => .ok (!x) m1) :=
  pt_imp (pt_not ha) fun σ H Q h => one (g := fun _ x m1 => .ok (!x) m1) h fun F r env m H1 d v S _ q h => by
    cases (show v = d from q)
    exact RP.here S h rfl
def andG (gb : Env → Mem → Res Bool) : Env → Bool → Mem → Res Bool := fun env x m1 => if x then gb env m1 else .ok false m1
def orG (gb : Env → Mem → Res Bool) : Env → Bool → Mem → Res Bool := fun env x m1 => if x then .ok true m1 else gb env m1
theorem w_and (ha : PT X a (tTT X.K N W ga)) (hb : PW X (.BoolOp .And (b :: rest) pos) (tTT X.K N W gb)) : PW X (.BoolOp .And (a :: b :: rest) pos) (tTT X.K N W fun env m => (ga env m).bind fun x m1 => andG gb env x m1) :=
  pw_imp (pw_and ha hb) fun σ H Q h => one (g := andG gb) h fun F r env m H1 d v S SE q h => by
    cases (show v = d from q)
    unfold andG at h
    cases d with
    | true => exact one_of S SE h
    | false => exact RP.here S h rfl
theorem w_or (ha : PT X a (tTT X.K N W ga)) (hb : PW X (.BoolOp .Or (b :: rest) pos) (tTT X.K N W gb)) : PW X (.BoolOp .Or (a :: b :: rest) pos) (tTT X.K N W fun env m => (ga env m).bind fun x m1 => orG gb env x m1) :=
  pw_imp (pw_or ha hb) fun σ H Q h => one (g := orG gb) h fun F r env m H1 d v S SE q h => by
    cases (show v = d from q)
    unfold orG at h
    cases d with
    | true => exact RP.here S h rfl
    | false => exact one_of S SE h
def andV (fb : Env → Mem → Res D) : Env → D → Mem → Res D := fun env x m1 => match blD x with
    | some true => fb env m1
    | some false => .ok (.bl false) m1
    | none => .bad
def orV (fb : Env → Mem → Res D) : Env → D → Mem → Res D := fun env x m1 => match blD x with
    | some true => .ok (.bl true) m1
    | some false => fb env m1
    | none => .bad
theorem x_and (ha : PE X a (tD X.K N W fa)) (hb : PE X (.BoolOp .And (b :: rest) pos) (tD X.K N W fb)) : PE X (.BoolOp .And (a :: b :: rest) pos) (tD X.K N W fun env m => (fa env m).bind fun x m1 => andV fb env x m1) :=
  pe_imp (pe_and ha hb) fun σ H Q h => one (g := andV fb) h fun F r env m H1 d v S SE q h => by
    unfold andV at h
    split at h
    · rename_i e; exact ⟨true, blD_rel q e, one_of S SE h⟩
    · rename_i e; exact ⟨false, blD_rel q e, RP.here S h rfl⟩
    · exact h.elim
theorem x_or (ha : PE X a (tD X.K N W fa)) (hb : PE X (.BoolOp .Or (b :: rest) pos) (tD X.K N W fb)) : PE X (.BoolOp .Or (a :: b :: rest) pos) (tD X.K N W fun env m => (fa env m).bind fun x m1 => orV fb env x m1) :=
  pe_imp (pe_or ha hb) fun σ H Q h => one (g := orV fb) h fun F r env m H1 d v S SE q h => by
    unfold orV at h
    split at h
    · rename_i e; exact ⟨true, blD_rel q e, RP.here S h rfl⟩
    · rename_i e; exact ⟨false, blD_rel q e, one_of S SE h⟩
    · exact h.elim
def ifG (fa fb : Env → Mem → Res D) : Env → Bool → Mem → Res D := fun env t m1 => if t then fa env m1 else fb env m1
theorem x_ife (hc : PT X c (tTT X.K N W ga)) (ha : PE X a (tD X.K N W fa)) (hb : PE X b (tD X.K N W fb)) : PE X (.IfExp c a b pos) (tD X.K N W fun env m => (ga env m).bind fun t m1 => ifG fa fb env t m1) :=
  pe_imp (pe_ifExp hc ha hb) fun σ H Q h => one (g := ifG fa fb) h fun F r env m H1 d v S SE q h => by
    cases (show v = d from q)
    unfold ifG at h
    cases d with
    | true => exact one_of S SE h
    | false => exact one_of S SE h

/-! ### displays, subscripts, slices -/
variable {es : List Expr} {fl : Env → Mem → Res (List D)} {k : Nat}
def tupG : Env → List D → Mem → Res D := fun _ xs m1 => if fits xs.length then .ok (.tup xs) m1 else .bad
def lstG : Env → List D → Mem → Res D := fun _ xs m1 => if fits xs.length then new m1 (.lst xs) else .bad
theorem x_tup (h : PA X es (tAA X.K N W fl)) : PE X (.Tuple es k pos) (tD X.K N W fun env m => (fl env m).bind fun xs m1 => tupG env xs m1) :=
  pe_imp (pe_tup h) fun σ H Q h => one (g := tupG) h fun F r env m H1 d v S SE q h => by
    unfold tupG at h
    split at h
    · rename_i hf
      exact ⟨by rw [← q.length]; exact fits_le hf, fun p hp => RP.tup S h hp q⟩
    · exact h.elim
theorem x_lst (h : PA X es (tAA X.K N W fl)) : PE X (.List es pos) (tD X.K N W fun env m => (fl env m).bind fun xs m1 => lstG env xs m1) :=
  pe_imp (pe_lst h) fun σ H Q h => one (g := lstG) h fun F r env m H1 d v S SE q h => by
    unfold lstG at h
    split at h
    · rename_i hf
      exact ⟨by rw [← q.length]; exact fits_le hf, fun p hp => RP.new S h hp ⟨v, upd_same, q.ext (Ext.new S hp)⟩⟩
    · exact h.elim
theorem x_dnew (t : Bool) : PE X (.Dict [] [] pos) (tD X.K N W fun _ m => new m (if t then .dT [] else .dK [])) := by
  cases t
  · exact pe_imp pe_dnewK fun σ H Q ⟨F, r, env, m, S, SE, h⟩ p hp => RP.new S h hp ⟨[], upd_same, rfl⟩
  · exact pe_imp pe_dnewT fun σ H Q ⟨F, r, env, m, S, SE, h⟩ p hp => RP.new S h hp ⟨[], upd_same, rfl⟩
theorem x_idx (hu : X.A.units + 1 < cLine) (ha : PE X a (tD X.K N W fa)) (hb : PE X b (tD X.K N W fb)) (hs : PlainIx b) : PE X (.Subscript a b pos) (tD X.K N W fun env m => (fa env m).bind fun x m1 => (fb env m1).bind fun y m2 => Res.opt (idxD x y m2) m2) :=
  pe_imp (pe_ix (ixr_idx (N := N) (W := WT) hu) ha hb hs) fun σ H Q h => two (w := fun _ x y m2 => Res.opt (idxD x y m2) m2) h fun F r env m H1 d e v u S _ q1 q2 h => ⟨F, r, m, d, e, S, q1, q2, h.weak⟩
variable {lo hi : Option Expr} {fo fp : Env → Mem → Res (Option Int)} {p2 : Pos}
theorem o_none : PO X none (tOO X.K N W fun _ m => .ok none m) := po_imp po_none fun σ H Q ⟨F, r, env, m, S, SE, h⟩ => RP.here S h rfl
def prtG : Env → D → Mem → Res (Option Int) := fun _ x m1 => match x with
    | .int i => .ok (some i) m1
    | _ => .bad
theorem o_some (ha : PE X a (tD X.K N W fa)) : PO X (some a) (tOO X.K N W fun env m => (fa env m).bind fun x m1 => prtG env x m1) :=
  po_imp (po_some ha) fun σ H Q h => one (g := prtG) h fun F r env m H1 d v S SE q h => by
    unfold prtG at h
    split at h
    · rename_i i
      exact ⟨i, q, RP.here S h rfl⟩
    · exact h.elim
theorem x_slc (ha : PE X a (tD X.K N W fa)) (hl : PO X lo (tOO X.K N W fo)) (hh : PO X hi (tOO X.K N W fp)) :
    PE X (.Subscript a (.Slice lo hi none p2) pos) (tD X.K N W fun env m => (fa env m).bind fun x m1 => (fo env m1).bind fun l m2 => (fp env m2).bind fun h m3 => slcD x l h m3) := by
  refine pe_imp (pe_slice (slr_slc (N := N) (W := WT)) ha hl hh) fun σ H Q ⟨F, r, env, m, S, SE, h⟩ => ?_
  refine RP.split S SE h fun F1 r1 H1 m1 d v x S1 q h1 => ?_
  refine RP.split S1 (SE.ext x) h1 fun F2 r2 H2 m2 l lv x2 S2 q2 h2 => ?_
  refine RP.split S2 ((SE.ext x).ext x2) h2 fun F3 r3 H3 m3 u uv x3 S3 q3 h3 => ?_
  cases (show lv = l from q2)
  cases (show uv = u from q3)
  exact ⟨F3, r3, m3, d, S3, (q.ext x2).ext x3, h3.weak⟩

/-! ### arguments, calls -/
variable {fL : Env → Mem → Res (List D)}
theorem a_nil : PA X [] (tAA X.K N W fun _ m => .ok [] m) := pa_imp pa_nil fun σ H Q ⟨F, r, env, m, S, SE, h⟩ => RP.here S h rfl
theorem a_cons (ha : PE X a (tD X.K N W fa)) (hr : PA X es (tAA X.K N W fL)) (hs : starEach (a :: es) X.env = (false, eval a X.env) :: starEach es X.env) :
    PA X (a :: es) (tAA X.K N W fun env m => (fa env m).bind fun x m1 => (fL env m1).bind fun xs m2 => .ok (x :: xs) m2) := by
  refine pa_imp (pa_cons ha hr hs) fun σ H Q ⟨F, r, env, m, S, SE, h⟩ => ?_
  refine RP.split S SE h fun F1 r1 H1 m1 d v x S1 q h1 => ?_
  refine RP.split S1 (SE.ext x) h1 fun F2 r2 H2 m2 ds vs x2 S2 q2 h2 => ?_
  exact RP.here S2 h2 ⟨v, vs, rfl, q.ext x2, q2⟩
theorem x_clr {g : List D → Mem → Res D} (h : PE X e (tCB (rCl X.K N WT g) (tAA X.K N W fL))) : PE X e (tD X.K N W fun env m => (fL env m).bind fun xs m1 => g xs m1) :=
  pe_imp h fun σ H Q h => one (g := fun _ xs m1 => g xs m1) h fun F r env m H1 d v S _ q h => ⟨F, r, m, d, S, q, h.weak⟩
end
end Ev
/-! EvJ: what is known of the text; calls of defs, classes, methods, built-ins. -/
namespace Ev
open PySem L2

/-- what is known of the text: names to numbers, the defs' parts -/
structure Stat where
  gl : List (Str × Nat)
  fns : List (Str × Nat)
  cls : List (Str × Nat)
  mth : List (Str × Nat)
  nf : Nat
  fa : Nat → Addr
  fd : Nat → FuncData
  ps : Nat → List Str
  /-- names of classes; of those whose __init__ is called by the class; exceptions' own __init__ -/
  cn : List (Str × Nat)
  sup : List (Str × Nat)
  xa : Nat → Addr
  xd : Nat → FuncData
  xp : Nat → List Str
/-- an exception class of the text: without fields, with fields -/
def XcOk (K : PySem.W.Frag) (N : Nm) (S : Stat) (c : Nat) : List Nat → Prop
  | [] => PySem.W.excIn K (N.cl c) [.type "ValueError", .type "Exception", .type "BaseException", .type "object"] "ValueError.__new__" = true ∧ PySem.W.keepIn K (.ref (N.cl c)) = true ∧
      PySem.W.subIn K (.ref (N.cl c)) (.type "BaseException") = some true ∧ PySem.W.typeIn K (.ref (N.cl c)) = some (.type "type")
  | fs => OexC K (N.cl c) ∧ PySem.W.findIn K (.ref (N.cl c)) "__init__" = some (some (.ref (S.xa c))) ∧ PySem.W.typeIn K (.ref (S.xa c)) = some (.type "function") ∧ Binds K (S.xd c) (S.xp c) [] ∧
      PySem.W.findIn K (.ref (N.cl c)) "__getattribute__" = some (some (.builtin "BaseException.__getattribute__")) ∧ PySem.W.findIn K (.ref (N.cl c)) "__getattr__" = some none ∧ PySem.W.hasDictIn K (N.cl c) = true ∧
      ∀ f ∈ fs, PySem.W.findIn K (.ref (N.cl c)) (N.fn f) = some none
/-- a class whose instances are asked of -/
structure IcOk (K : PySem.W.Frag) (C : Addr) : Prop where
  ha : PySem.W.findIn K (.ref C) "__class__" = some (some (.builtin "object.__class__"))
  hm : PySem.W.mroIn K C (.type "object") = some true
/-- a class that another one's clause or question names -/
structure NcOk (K : PySem.W.Frag) (C : Addr) : Prop where
  ic : PySem.W.isClsIn K C = true
  ty : PySem.W.typeIn K (.ref C) = some (.type "type")
/-- an exception class whose caught ones are asked of -/
structure XqOk (K : PySem.W.Frag) (C : Addr) : Prop where
  cl : PySem.W.isClsIn K C = true
  ga : PySem.W.findIn K (.ref C) "__getattribute__" = some (some (.builtin "BaseException.__getattribute__"))
  gg : PySem.W.findIn K (.ref C) "__getattr__" = some none
  sb : PySem.W.subIn K (.ref C) (.type "BaseException") = some true
  ha : PySem.W.findIn K (.ref C) "__class__" = some (some (.builtin "object.__class__"))
  hm : PySem.W.mroIn K C (.type "object") = some true
  on : PySem.W.specialIn K (.builtin "object.__class__") "__get__" = some (some (.builtin "getset_descriptor.__get__"))
  ot : PySem.W.takesIn K (.builtin "object.__class__") = some true
/-- the class that a question names: one of the text; 999: ValueError -/
def cvV (N : Nm) (c : Nat) : Value := if c = 999 then .type "ValueError" else .ref (N.cl c)
/-- C.__init__, a def of the text -/
structure SpOk (K : PySem.W.Frag) (C f : Addr) : Prop where
  rd : PySem.W.readsIn K C (.type "type") = true
  ga : PySem.W.specialIn K (.ref C) "__getattribute__" = some (some (.builtin "type.__getattribute__"))
  at_ : PySem.W.findCls K (.ref C) (.type "type") "__init__" = some (.val (.ref f))
  kp : PySem.W.keepIn K (.ref f) = true
def spC (K : PySem.W.Frag) (N : Nm) (g : List D → Mem → Res D) : Sp := fun vs H Q E => rCl K N E g vs H Q
def bltNames : List Str := ["len", "int", "str", "list", "tuple", "dict", "max", "min", "abs", "sum", "sorted", "any", "all", "ord", "isinstance", "range", "enumerate", "zip", "reversed", "bool", "ValueError"]
structure Facts (K : PySem.W.Frag) (mg : Str → Option Value) (N : Nm) (T : Tab) (S : Stat) : Prop where
  gl : ∀ x g, S.gl.lookup x = some g → ∃ u v, mg x = some u ∧ RelV v u ∧ ∀ F r H, RelD N F r H (T.glob g) v
  bl : ∀ x ∈ bltNames, mg x = none
  fns : ∀ x g, S.fns.lookup x = some g → mg x = some (.ref (S.fa g)) ∧ PySem.W.keepIn K (.ref (S.fa g)) = true ∧ Binds K (S.fd g) (S.ps g) []
  cls : ∀ c, T.ic c = true → Cls K (N.cl c)
  nat : ∀ c f, T.ic c = true → f < S.nf → NoAttr K (N.cl c) (N.fn f)
  meth : ∀ x k c g, S.mth.lookup x = some k → T.meth c k = some g → T.ic c = true ∧ Meth K (N.cl c) x (S.fa g) ∧ (∀ f, N.fn f ≠ x) ∧ Binds K (S.fd g) (S.ps g) []
  make : ∀ x c g, S.cls.lookup x = some c → T.init c = some g → mg x = some (.ref (N.cl c)) ∧ Mk K (N.cl c) (S.fa g) ∧ Binds K (S.fd g) (S.ps g) []
  cn : ∀ x c, S.cn.lookup x = some c → mg x = some (.ref (N.cl c))
  xok : ∀ c fs, T.xfs c = some fs → XcOk K N S c fs
  xm : ∀ c' c b, T.xm c' c = some b → NcOk K (N.cl c) ∧ PySem.W.subIn K (.ref (N.cl c)) (.type "BaseException") = some true ∧ PySem.W.subIn K (.ref (N.cl c')) (.ref (N.cl c)) = some b
  sub : ∀ c' c b, T.sub c' c = some b → IcOk K (N.cl c') ∧ Cls K (N.cl c') ∧ NcOk K (N.cl c) ∧ PySem.W.subIn K (.ref (N.cl c')) (.ref (N.cl c)) = some b ∧ PySem.W.subIn K (.ref (N.cl c)) (.ref (N.cl c)) = some true
  og : (∃ c' c b, T.sub c' c = some b) → PySem.W.specialIn K (.builtin "object.__class__") "__get__" = some (some (.builtin "getset_descriptor.__get__")) ∧ PySem.W.takesIn K (.builtin "object.__class__") = some true
  sub9 : ∀ c', T.sub c' 999 = none
  xq : ∀ c' c b, T.xi c' c = some b → XqOk K (N.cl c') ∧ PySem.W.kitOne K (.ref (N.cl c')) (cvV N c) = some b
  sup : ∀ x g, S.sup.lookup x = some g → ∃ C, mg x = some (.ref C) ∧ SpOk K C (S.fa g) ∧ Binds K (S.fd g) (S.ps g) []
/-- what an exception's own __init__ keeps: its fields stand by their names in its dict -/
def spX (N : Nm) (C : Addr) (fs : List Nat) : Sp := fun vs H Q _ => ∃ (a : Addr) (ws : List V), vs = .ref a :: ws ∧ ws.length = fs.length ∧ H a = some (exo a C none) ∧
  ∀ (d : Addr) (H' : Hp), H d = none → d ≠ a → H' a = some (exo a C (some d)) → H' d = some (exd d (((fs.map N.fn).zip ws).reverse)) → (∀ b, b ≠ a → b ≠ d → H' b = H b) → Q .non H'
structure Here (X : Cx) (N : Nm) (T : Tab) (S : Stat) (cf : CF) (j : Nat) (nm : List Str) (sc raw : Scope) : Prop where
  hN : X.N = nm
  nd : nm.Nodup
  sc : X.env.scope = sc
  fnc : ∀ x, raw.names.lookup x = some .cell → X.fn x = true
  calm : X.calm = true
  room : Room (j + 1) X.A
  facts : Facts X.K X.mg N T S
  fns : ∀ g, FnOk X.prog X.w X.K X.mg X.base (L2.CX X.prog X.w) j (S.fa g) (S.fd g) (S.ps g) (spC X.K N (cf g))
  xi : ∀ c f fs, T.xfs c = some (f :: fs) → FnOk X.prog X.w X.K X.mg X.base (L2.CX X.prog X.w) j (S.xa c) (S.xd c) (S.xp c) (spX N (N.cl c) (f :: fs))
theorem cLine_le : (cLine : Nat) = 9900 ∨ True := .inr trivial

/-! ### small checks -/
def noStar : Expr → Bool
  | .Starred _ _ => false
  | _ => true
theorem noStar_eq {e : Expr} {es : List Expr} {env : PySem.Env} (h : noStar e = true) : starEach (e :: es) env = (false, eval e env) :: starEach es env := by
  cases e <;> first | rfl | cases h
theorem noStars {env : PySem.Env} {pos : Pos} : ∀ {es : List Expr}, es.all noStar = true → (backTo pos (starEach es env)).any (·.1) = false ∧ (backTo pos (starEach es env)).all (fun x => !x.1) = true
  | [], _ => ⟨rfl, rfl⟩
  | e :: es, h => by
    rw [List.all_cons, Bool.and_eq_true] at h
    obtain ⟨i1, i2⟩ := @noStars env pos es h.2
    rw [noStar_eq h.1]
    refine ⟨?_, ?_⟩
    · show (false || _) = false
      rw [Bool.false_or]
      exact i1
    · show (true && _) = true
      rw [Bool.true_and]
      exact i2
def noSup : Expr → Bool
  | .Call (.Name _ _) [] [] _ => false
  | _ => true
theorem noSup_eq {o : Expr} {a : Str} {env : PySem.Env} (h : noSup o = true) : attributeBase o a env (eval o env) = eval o env := by
  unfold attributeBase
  split
  · cases h
  · rfl
def notSl : Expr → Bool
  | .Slice _ _ _ _ => false
  | _ => true
theorem notSl_ix {b : Expr} (h : notSl b = true) : PlainIx b := by
  intro o i
  cases b <;> first | rfl | cases h
def notComp : Expr → Bool
  | .ListComp _ _ _ _ => false
  | .SetComp _ _ _ _ => false
  | .DictComp _ _ _ _ _ => false
  | _ => true
theorem notComp_sw {e : Expr} {t : Option Expr} {l : Nat} {env : PySem.Env} (h : notComp e = true) : swapsWith e t l env = pure false := by
  unfold swapsWith
  cases e <;> first | rfl | cases h
def notSet : Expr → Bool
  | .Set _ _ _ => false
  | _ => true
theorem notSet_eq {e : Expr} {env : PySem.Env} (h : notSet e = true) : ∀ x, foldedSetIterable e env x = pure x := by
  intro x
  unfold foldedSetIterable
  cases e <;> first | rfl | cases h

section
variable {X : Cx} {N : Nm} {W : WX} {a b c e o : Expr} {es : List Expr} {fa fb fc : Env → Mem → Res D} {fL : Env → Mem → Res (List D)} {pos p apos : Pos} {x : Str} {j : Nat} {g : List D → Mem → Res D} {f : Addr} {fd : FuncData} {ps : List Str}
/-- f(..) -/
theorem x_call (hF : FnOk X.prog X.w X.K X.mg X.base (L2.CX X.prog X.w) j f fd ps (spC X.K N g)) (hr : Room j X.A) (hg : Gl X x) (hm : X.mg x = some (.ref f)) (hk : PySem.W.keepIn X.K (.ref f) = true) (hb : Binds X.K fd ps []) (tk : Takes X W)
    (hd : (x == ("__debug__" : Str)) = false) (ha : PA X (e :: es) (tAA X.K N W fL)) (hs : (e :: es).all noStar = true) : PE X (.Call (.Name x p) (e :: es) [] pos) (tD X.K N W fun env m => (fL env m).bind fun xs m1 => g xs m1) := by
  rw [List.all_cons, Bool.and_eq_true] at hs
  exact pe_imp (pe_callS (E := WE W) hF hr hg hm hk hb (fun σ => passAt tk σ) ha hd (noStar_eq hs.1) (noStars hs.2).1) fun σ H Q h => one (g := fun _ xs m1 => g xs m1) h fun F r env m H1 d v S _ q h => ⟨F, r, m, d, S, q, h⟩
theorem x_call0 (hF : FnOk X.prog X.w X.K X.mg X.base (L2.CX X.prog X.w) j f fd ps (spC X.K N g)) (hr : Room j X.A) (hg : Gl X x) (hm : X.mg x = some (.ref f)) (hk : PySem.W.keepIn X.K (.ref f) = true) (hb : Binds X.K fd ps []) (tk : Takes X W)
    (hd : (x == ("__debug__" : Str)) = false) : PE X (.Call (.Name x p) [] [] pos) (tD X.K N W fun env m => g [] m) := by
  refine ⟨fun pins s σ H Q I ⟨F, r, env, m, S, SE, h⟩ => ?_⟩
  refine wpAny_Call_Name_kw (ld_glob I hg hm ?_ hd)
  exact PySem.W.callWith_K0 I.kIn hk (run_fnS (E := WE W) hF hr hb (passAt tk σ) I .nil ⟨F, r, m, [], S, rfl, h⟩)

/-! ### instances -/
theorem RelF.lookup {F : Addr → Prop} {r : List Addr} {H : Hp} : ∀ {fs : List (Nat × D)} {ws : List (Str × V)} (i : Nat), RelF N F r H fs ws → (fs.lookup i = none ∧ ws.lookup (N.fn i) = none) ∨ ∃ d v, fs.lookup i = some d ∧ ws.lookup (N.fn i) = some v ∧ RelD N F r H d v
  | [], _, i, h => by cases (show _ = [] from h); exact .inl ⟨rfl, rfl⟩
  | (k, d) :: fs, _, i, h => by
    obtain ⟨v, ws, rfl, q, t⟩ := h
    rw [List.lookup_cons, List.lookup_cons]
    by_cases hk : i = k
    · subst hk
      rw [beq_self_eq_true, beq_self_eq_true]
      exact .inr ⟨d, v, rfl, rfl, q⟩
    · have h1 : (i == k) = false := by simpa using hk
      have h2 : (N.fn i == N.fn k) = false := by simpa using fun e => hk (N.fi _ _ e)
      rw [h1, h2]
      exact RelF.lookup i t
theorem RelF.none {F : Addr → Prop} {r : List Addr} {H : Hp} {x : Str} (hx : ∀ f, N.fn f ≠ x) : ∀ {fs : List (Nat × D)} {ws : List (Str × V)}, RelF N F r H fs ws → ws.lookup x = none
  | [], _, h => by cases (show _ = [] from h); rfl
  | (k, d) :: fs, _, h => by
    obtain ⟨v, ws, rfl, q, t⟩ := h
    rw [List.lookup_cons]
    have h2 : (x == N.fn k) = false := by simpa using fun e => hx k e.symm
    rw [h2]
    exact RelF.none hx t
theorem RelF.put {F : Addr → Prop} {r : List Addr} {H : Hp} {i : Nat} {d : D} {v : V} (g : RelD N F r H d v) : ∀ {fs : List (Nat × D)} {ws : List (Str × V)}, RelF N F r H fs ws → RelF N F r H (Ev.putF i d fs) (L2.putF (N.fn i) v ws)
  | [], _, h => by cases (show _ = [] from h); exact ⟨v, [], rfl, g, rfl⟩
  | (k, w) :: fs, _, h => by
    obtain ⟨u, ws, rfl, q, t⟩ := h
    unfold Ev.putF L2.putF
    by_cases hk : i = k
    · subst hk
      rw [if_pos rfl, if_pos rfl]
      exact ⟨v, ws, rfl, g, t⟩
    · rw [if_neg hk, if_neg fun e => hk (N.fi _ _ e).symm]
      exact ⟨u, _, rfl, q, RelF.put g t⟩
theorem RelF.len {F : Addr → Prop} {r : List Addr} {H : Hp} : ∀ {fs : List (Nat × D)} {ws : List (Str × V)}, RelF N F r H fs ws → ws.length = fs.length
  | [], _, h => by cases (show _ = [] from h); rfl
  | (k, d) :: fs, _, h => by
    obtain ⟨v, ws, rfl, q, t⟩ := h
    rw [List.length_cons, List.length_cons, RelF.len t]
variable {T : Tab}
theorem x_fld (hcl : ∀ c, T.ic c = true → Cls X.K (N.cl c)) {i : Nat} (hn : ∀ c, T.ic c = true → NoAttr X.K (N.cl c) (N.fn i)) (ha : PE X a (tD X.K N W fa)) (hs : noSup a = true) :
    PE X (.Attribute a (N.fn i) pos) (tD X.K N W fun env m => (fa env m).bind fun x m1 => Res.opt (fldD T x i m1) m1) := by
  refine pe_imp (pe_fld ha (noSup_eq hs)) fun σ H Q h => one (g := fun _ x m1 => Res.opt (fldD T x i m1) m1) h fun F r env m H1 d v S _ q h => ?_
  obtain ⟨d', e1, h1⟩ := RP.opt_some h
  unfold fldD at e1
  split at e1
  · rename_i k
    split at e1
    · rename_i c fs e2
      split at e1
      · rename_i hc
        obtain ⟨ad, hi, rfl⟩ := q
        obtain ⟨dx, ws, eH, rf⟩ := S.ref e2 hi
        rcases RelF.lookup i rf with ⟨z, _⟩ | ⟨d2, v2, z, z2, z3⟩
        · rw [z] at e1; cases e1
        · rw [z] at e1; cases e1
          exact ⟨ad, _, dx, ws, v2, rfl, eH, hcl c hc, hn c hc, z2, RP.here S h1 z3⟩
      · cases e1
    · cases e1
  · cases e1
theorem method_eq {args : List Expr} {env : PySem.Env} {name : Str} (hbase : attributeBase o name env (eval o env) = eval o env) (hl : args.length < 30) (hs : args.all noStar = true) (hline : (apos.endLine == pos.line) = true) :
    eval (.Call (.Attribute o name apos) args [] pos) env = (do
      let ov ← eval o env
      standAt apos.atName
      let (f, first) ← holding [ov] (getMethod ov name (do return (← importBound o env).getD true))
      callWith pos f first (backTo pos (starEach args env)) (backToKw pos (keywordEach [] env))) := by
  have hform : methodCallForm (args.length + ([] : List Keyword).length) (backTo pos (starEach args env)) (backToKw pos (keywordEach [] env)) = true := by
    unfold methodCallForm
    rw [(noStars hs).2]
    show (true && true && decide (args.length + 0 + 0 < 30)) = true
    simpa using hl
  have hpos : methodCallPos true o env apos pos = pure pos := by unfold methodCallPos; simp [hline]
  rw [arm_eval_Call, hbase]
  unfold methodCall calleeOf
  rw [hform, hpos]
  rfl
def ometG (T : Tab) (k : Nat) (fL : Env → Mem → Res (List D)) (cf : CF) : Env → D → Mem → Res D := fun env x m1 => match clsD x m1 with
    | some c => match T.meth c k with
      | some f => (fL env m1).bind fun xs m2 => cf f (x :: xs) m2
      | none => .bad
    | none => .bad
theorem omet_of {cf : CF} {S : Stat} {k : Nat} (F : Facts X.K X.mg N T S) (hk : S.mth.lookup x = some k) {r : List Addr} {Fr : Addr → Prop} {H : Hp} {m : Mem} {d : D} {v : V} {Q : VK} {env : Env} {W : XK} (Si : Sim X.K N Fr r m H) (q : RelD N Fr r H d v)
    (h : RP X.K N (RelD N) W Fr r H Q (ometG T k fL cf env d m)) :
    ∃ ad c dx ws g, v = .ref ad ∧ H ad = some (.ins (N.cl c) dx ws) ∧ T.meth c k = some g ∧ ws.lookup x = none ∧ RP X.K N (RelD N) W Fr r H Q ((fL env m).bind fun xs m2 => cf g (d :: xs) m2) := by
  unfold ometG at h
  split at h
  · rename_i c e1
    split at h
    · rename_i g e2
      unfold clsD at e1
      split at e1
      · rename_i i
        split at e1
        · rename_i c' fs e3
          cases e1
          obtain ⟨ad, hi, rfl⟩ := q
          obtain ⟨dx, ws, eH, rf⟩ := Si.ref e3 hi
          exact ⟨ad, c, dx, ws, g, rfl, eH, e2, RelF.none (F.meth x k c g hk e2).2.2.1 rf, h⟩
        · cases e1
      · cases e1
    · exact h.elim
  · exact h.elim
/-- o.m(..) of an instance -/
theorem x_omet {cf : CF} {S : Stat} {k : Nat} (F : Facts X.K X.mg N T S) (hF : ∀ g, FnOk X.prog X.w X.K X.mg X.base (L2.CX X.prog X.w) j (S.fa g) (S.fd g) (S.ps g) (spC X.K N (cf g))) (hr : Room j X.A) (tk : Takes X W) (hk : S.mth.lookup x = some k)
    (ho : PE X o (tD X.K N W fa)) (ha : PA X (e :: es) (tAA X.K N W fL)) (hs : (e :: es).all noStar = true) (hl : (e :: es).length < 30) (hb : noSup o = true) (hline : (apos.endLine == pos.line) = true) :
    PE X (.Call (.Attribute o x apos) (e :: es) [] pos) (tD X.K N W fun env m => (fa env m).bind fun y m1 => ometG T k fL cf env y m1) := by
  refine ⟨fun pins s σ H Q I h => ?_⟩
  refine PySem.W.methodCall_KW (thn (ho.run pins s σ H (fun y H1 => ∃ F' r env m d, Sim X.K N F' r m H1 ∧ SimE N F' r H1 env σ ∧ RelD N F' r H1 d y ∧ RP X.K N (RelD N) (WE W σ) F' r H1 Q (ometG T k fL cf env d m)) I (one (g := ometG T k fL cf) h fun F' r env m H1 d v S SE q h => ⟨F', r, env, m, d, S, SE, q, h⟩)) fun u s1 ⟨y, H1, I1, ry, F', r, env, m, d, Si, SE, q, h1⟩ => ?_) (method_eq (noSup_eq hb) hl hs hline)
  obtain ⟨ad, c, dx, ws, g, rfl, eH, e2, l, h2⟩ := omet_of F hk Si q h1
  obtain ⟨hc, hm, _, hbi⟩ := F.meth x k c g hk e2
  obtain rfl : u = Value.ref ad := ry
  refine getmeth_ok I1 eH (F.cls c hc) hm l ?_
  rw [List.all_cons, Bool.and_eq_true] at hs
  refine PySem.W.callWith_K (first := [.ref ad]) (h₀ := X.base) I.ok.mod.kin hm.kp (thn (ha.run pos pins s1 σ H1 (fun vs H2 => spC X.K N (cf g) (.ref ad :: vs) H2 Q (WE W σ)) I1 ?_) fun us s2 ⟨vs, H2, I2, r2, q2⟩ => ⟨I2.kIn, ?_⟩) (noStar_eq hs.1) (noStars hs.2).1
  · refine RP.split Si SE h2 fun F2 r2 H2 m2 ds vs x2 S2 q2 h3 => ⟨F2, r2, m2, d :: ds, S2, ⟨_, _, rfl, q.ext x2, q2⟩, h3⟩
  · exact run_fnS (us := .ref ad :: us) (vs := .ref ad :: vs) (hF g) hr hbi (passAt tk σ) I2 (.cons rfl r2) q2
theorem x_omet0 {cf : CF} {S : Stat} {k : Nat} (F : Facts X.K X.mg N T S) (hF : ∀ g, FnOk X.prog X.w X.K X.mg X.base (L2.CX X.prog X.w) j (S.fa g) (S.fd g) (S.ps g) (spC X.K N (cf g))) (hr : Room j X.A) (tk : Takes X W) (hk : S.mth.lookup x = some k)
    (ho : PE X o (tD X.K N W fa)) (hb : noSup o = true) (hline : (apos.endLine == pos.line) = true) :
    PE X (.Call (.Attribute o x apos) [] [] pos) (tD X.K N W fun env m => (fa env m).bind fun y m1 => ometG T k (fun _ m => .ok [] m) cf env y m1) := by
  refine ⟨fun pins s σ H Q I h => ?_⟩
  refine PySem.W.methodCall_KW (thn (ho.run pins s σ H (fun y H1 => ∃ F' r env m d, Sim X.K N F' r m H1 ∧ SimE N F' r H1 env σ ∧ RelD N F' r H1 d y ∧ RP X.K N (RelD N) (WE W σ) F' r H1 Q (ometG T k (fun _ m => .ok [] m) cf env d m)) I (one (g := ometG T k (fun _ m => .ok [] m) cf) h fun F' r env m H1 d v S SE q h => ⟨F', r, env, m, d, S, SE, q, h⟩)) fun u s1 ⟨y, H1, I1, ry, F', r, env, m, d, Si, SE, q, h1⟩ => ?_) (method_eq (noSup_eq hb) (by decide) rfl hline)
  obtain ⟨ad, c, dx, ws, g, rfl, eH, e2, l, h2⟩ := omet_of F hk Si q h1
  obtain ⟨hc, hm, _, hbi⟩ := F.meth x k c g hk e2
  obtain rfl : u = Value.ref ad := ry
  refine getmeth_ok I1 eH (F.cls c hc) hm l ?_
  exact PySem.W.callWith_K0 (first := [.ref ad]) I1.kIn hm.kp (run_fnS (us := [.ref ad]) (vs := [.ref ad]) (hF g) hr hbi (passAt tk σ) I1 (.cons rfl .nil) ⟨F', r, m, [d], Si, ⟨_, _, rfl, q, rfl⟩, h2⟩)
/-- C(..) -/
theorem run_makeS {pins : List (Addr × Obj)} {σ : L2.St} {H : Hp} {s : Shared} {Q : VK} {us : List Value} {vs : List V} {sp : Sp} {E : L2.St → XK} {C : Addr} (M : Mk X.K C f) (F : FnOk X.prog X.w X.K X.mg X.base (L2.CX X.prog X.w) j f fd ps sp) (hr : Room (j + 1) X.A) (hb : Binds X.K fd ps [])
    (hx : PassesAt (L2.CX X.prog X.w) X σ (E σ)) (I : Inv X pins σ H s) (r : Vals vs us)
    (h : ∀ x dx, H x = none → H dx = none → dx ≠ x → sp (.ref x :: vs) (upd (upd H dx (.own x)) x (.ins C dx [])) (fun v H2 => v = .non ∧ Q (.ref x) H2) (E σ)) :
    wpAny (model X.prog X.w) X.A (call (.ref C) us) (EP X pins σ Q) X.xe s := by
  have hq := h (s.heap.objs.size + 1) s.heap.objs.size (I.hok.fresh (Nat.le_succ _)) (I.hok.fresh (Nat.le_refl _)) (Nat.ne_of_lt (Nat.lt_succ_self _))
  have I2 := Inv.made (C := C) I
  have r2 : Vals (V.ref (s.heap.objs.size + 1) :: vs) (Value.ref (s.heap.objs.size + 1) :: us) := .cons rfl r
  have hl : (Value.ref (s.heap.objs.size + 1) :: us).length = ps.length := by
    rw [← r2.length]
    exact F.len _ _ _ _ hq
  have b := hb _ (Value.ref (s.heap.objs.size + 1) :: us) I2.kIn (by rw [List.append_nil]; exact hl)
  rw [List.append_nil] at b
  refine wpAny_call (make_map (f := f) I.kIn M.makes M.init (beq_iff_eq.mp M.fn) (codeAny_mono (F.run _ X.stack _ _ ⟨Value.ref (s.heap.objs.size + 1) :: us, []⟩ (Value.ref (s.heap.objs.size + 1) :: us) _ _ (E σ) (hr.make C us [])
    (I2.env0.make C us []) b r2 hq) fun r s' hq' => ?_))
  cases r with
  | error e => exact hx pins _ _ e s' I2 hq'
  | ok fl =>
    cases fl with
    | ret u =>
      obtain ⟨v, H', I3, rv, ev, q3⟩ := I2.after hq'
      subst ev
      exact ⟨rv, ⟨V.ref (s.heap.objs.size + 1), H', I3, rfl, q3⟩⟩
    | next => exact False.elim hq'
    | brk => exact False.elim hq'
    | cont => exact False.elim hq'
def makeG (cf : CF) (g c : Nat) : List D → Mem → Res D := fun xs m1 => (cf g (.ref m1.length :: xs) (m1 ++ [.ins c []])).bind fun r m2 => match r with
      | .non => .ok (.ref m1.length) m2
      | _ => .bad
theorem make_of {cf : CF} {g c : Nat} {W : XK} {F : Addr → Prop} {r : List Addr} {H : Hp} {m : Mem} {ds : List D} {vs : List V} {Q : VK} {K : PySem.W.Frag} (S : Sim K N F r m H) (q : RelL N F r H ds vs) (h : RP K N (RelD N) W F r H Q (makeG cf g c ds m)) :
    ∀ x dx, H x = none → H dx = none → dx ≠ x → spC K N (cf g) (.ref x :: vs) (upd (upd H dx (.own x)) x (.ins (N.cl c) dx [])) (fun v H2 => v = .non ∧ Q (.ref x) H2) W := by
  intro x dx hx hdx hne
  have e1 := Ext.fresh (o := .own x) S hdx
  have S1 := S.fresh_ (o := .own x) hdx
  have hx1 : upd H dx (.own x) x = none := by rw [upd_ne (Ne.symm hne)]; exact hx
  have e2 := Ext.new (o := .ins (N.cl c) dx []) S1 hx1
  have S2 := S1.new (o := .ins (N.cl c) dx []) (ob := .ins c []) hx1 ⟨dx, [], upd_same, rfl⟩
  have hlast : (r ++ [x])[m.length]? = some x := by rw [← S.len]; simp
  refine ⟨F, r ++ [x], _, .ref m.length :: ds, S2, ⟨_, _, rfl, ⟨x, hlast, rfl⟩, (q.ext e1).ext e2⟩, ?_⟩
  have h := RP.ext h (e1.trans e2)
  unfold makeG at h
  cases e : cf g (.ref m.length :: ds) (m ++ [.ins c []]) with
  | bad => rw [e] at h; exact h.elim
  | exc y m2 => rw [e] at h; exact h
  | ok d m2 =>
    rw [e] at h
    intro F' r' H' v ex S' qd
    cases d with
    | non =>
      cases (show v = V.non from qd)
      exact ⟨rfl, h F' r' H' (.ref x) ex S' ⟨x, ex.get hlast, rfl⟩⟩
    | _ => exact h.elim
theorem x_make {cf : CF} {S : Stat} {g k : Nat} (F : Facts X.K X.mg N T S) (hF : ∀ g, FnOk X.prog X.w X.K X.mg X.base (L2.CX X.prog X.w) j (S.fa g) (S.fd g) (S.ps g) (spC X.K N (cf g))) (hr : Room (j + 1) X.A) (tk : Takes X W) (hk : S.cls.lookup x = some k) (hi : T.init k = some g)
    (hg : Gl X x) (hd : (x == ("__debug__" : Str)) = false) (ha : PA X (e :: es) (tAA X.K N W fL)) (hs : (e :: es).all noStar = true) :
    PE X (.Call (.Name x p) (e :: es) [] pos) (tD X.K N W fun env m => (fL env m).bind fun xs m1 => makeG cf g k xs m1) := by
  obtain ⟨hm, M, hb⟩ := F.make x k g hk hi
  refine ⟨fun pins s σ H Q I h => ?_⟩
  refine wpAny_Call_Name_kw (ld_glob I hg hm ?_ hd)
  rw [List.all_cons, Bool.and_eq_true] at hs
  refine PySem.W.callWith_K (h₀ := X.base) I.ok.mod.kin M.kp (thn (ha.run pos pins s σ H (fun vs H2 => ∃ F' r m ds, Sim X.K N F' r m H2 ∧ RelL N F' r H2 ds vs ∧ RP X.K N (RelD N) (WE W σ) F' r H2 Q (makeG cf g k ds m)) I ?_) fun us s1 ⟨vs, H1, I1, r, F', r', m, ds, S1, q, h1⟩ => ⟨I1.kIn, ?_⟩) (noStar_eq hs.1) (noStars hs.2).1
  · exact one (g := fun _ xs m1 => makeG cf g k xs m1) h fun F r env m H1 d v S _ q h => ⟨F, r, m, d, S, q, h⟩
  · exact run_makeS (E := WE W) M (hF g) hr hb (passAt tk σ) I1 r (make_of S1 q h1)
theorem x_make0 {cf : CF} {S : Stat} {g k : Nat} (F : Facts X.K X.mg N T S) (hF : ∀ g, FnOk X.prog X.w X.K X.mg X.base (L2.CX X.prog X.w) j (S.fa g) (S.fd g) (S.ps g) (spC X.K N (cf g))) (hr : Room (j + 1) X.A) (tk : Takes X W) (hk : S.cls.lookup x = some k) (hi : T.init k = some g)
    (hg : Gl X x) (hd : (x == ("__debug__" : Str)) = false) :
    PE X (.Call (.Name x p) [] [] pos) (tD X.K N W fun env m => makeG cf g k [] m) := by
  obtain ⟨hm, M, hb⟩ := F.make x k g hk hi
  refine ⟨fun pins s σ H Q I ⟨F', r, env, m, S1, SE, h⟩ => ?_⟩
  refine wpAny_Call_Name_kw (ld_glob I hg hm ?_ hd)
  exact PySem.W.callWith_K0 I.kIn M.kp (run_makeS (us := []) (E := WE W) M (hF g) hr hb (passAt tk σ) I .nil (make_of S1 (show RelL N F' r H [] [] from rfl) h))

/-! ### built-ins -/
theorem x_bltB {id : String} (hc : CallR X (.builtin id) (rCl X.K N WT g)) (hg : Gl X x) (hm : X.mg x = none) (hv : bootBuiltins x = some (.builtin id)) (hn : x ≠ "__name__") (hd : (x == ("__debug__" : Str)) = false) (ha : PA X (e :: es) (tAA X.K N W fL)) (hs : (e :: es).all noStar = true) :
    PE X (.Call (.Name x p) (e :: es) [] pos) (tD X.K N W fun env m => (fL env m).bind fun xs m1 => g xs m1) := by
  rw [List.all_cons, Bool.and_eq_true] at hs
  exact x_clr (pe_callB hc hg hm hv ha hn hd (noStar_eq hs.1) (noStars hs.2).1)
theorem x_bltT {id : String} (hc : CallR X (.type id) (rCl X.K N WT g)) (hg : Gl X x) (hm : X.mg x = none) (hv : bootBuiltins x = some (.type id)) (hn : x ≠ "__name__") (hd : (x == ("__debug__" : Str)) = false) (ha : PA X (e :: es) (tAA X.K N W fL)) (hs : (e :: es).all noStar = true) :
    PE X (.Call (.Name x p) (e :: es) [] pos) (tD X.K N W fun env m => (fL env m).bind fun xs m1 => g xs m1) := by
  rw [List.all_cons, Bool.and_eq_true] at hs
  exact x_clr (pe_callTy hc hg hm hv ha hn hd (noStar_eq hs.1) (noStars hs.2).1)
def mthG (b : Mth) (fL : Env → Mem → Res (List D)) : Env → D → Mem → Res D := fun env x m1 => if mthOk b x m1 then (fL env m1).bind fun xs m2 => mthD b x xs m2 else .bad
theorem x_mth {id T : String} {b : Mth} (pa : PlainAttrs T) (slot : Slot T x id) (hty : typeOf (.builtin id) = pure (.type "method_descriptor")) (hm : MtR X id (rMt X.K N WT (mthD b)))
    (hT : ∀ F r H m d v, Sim X.K N F r m H → RelD N F r H d v → mthOk b d m = true → tyV X.K T v H)
    (ho : PE X o (tD X.K N W fa)) (ha : PA X (e :: es) (tAA X.K N W fL)) (hs : (e :: es).all noStar = true) (hl : (e :: es).length < 30) (hb : noSup o = true) (hline : (apos.endLine == pos.line) = true) :
    PE X (.Call (.Attribute o x apos) (e :: es) [] pos) (tD X.K N W fun env m => (fa env m).bind fun y m1 => mthG b fL env y m1) := by
  have hs' := hs
  rw [List.all_cons, Bool.and_eq_true] at hs'
  refine pe_imp (pe_bm pa slot hty hm ho ha (noSup_eq hb) ?_ hline (noStar_eq hs'.1) (noStars hs'.2).1) fun σ H Q h => one (g := mthG b fL) h fun F r env m H1 d v S SE q h => ?_
  · rw [(noStars hs).2]
    show (true && true && decide ((e :: es).length + 0 + 0 < 30)) = true
    simpa using hl
  · unfold mthG at h
    split at h
    · rename_i hk
      exact ⟨hT F r H1 m d v S q hk, RP.split S SE h fun F2 r2 H2 m2 ds vs x2 S2 q2 h2 => ⟨F2, r2, m2, d, ds, S2, q.ext x2, q2, h2.weak⟩⟩
    · exact h.elim
theorem x_mth0 {id T : String} {b : Mth} (pa : PlainAttrs T) (slot : Slot T x id) (hty : typeOf (.builtin id) = pure (.type "method_descriptor")) (hm : MtR X id (rMt X.K N WT (mthD b)))
    (hT : ∀ F r H m d v, Sim X.K N F r m H → RelD N F r H d v → mthOk b d m = true → tyV X.K T v H)
    (ho : PE X o (tD X.K N W fa)) (hb : noSup o = true) (hline : (apos.endLine == pos.line) = true) :
    PE X (.Call (.Attribute o x apos) [] [] pos) (tD X.K N W fun env m => (fa env m).bind fun y m1 => mthG b (fun _ m => .ok [] m) env y m1) := by
  refine pe_imp (pe_bm0 pa slot hty hm ho (noSup_eq hb) hline) fun σ H Q h => one (g := mthG b (fun _ m => .ok [] m)) h fun F r env m H1 d v S SE q h => ?_
  unfold mthG at h
  split at h
  · rename_i hk
    exact ⟨hT F r H1 m d v S q hk, F, r, m, d, [], S, q, rfl, h.weak⟩
  · exact h.elim
theorem ok_lst {b : Mth} (hb : b = .append ∨ b = .extend ∨ b = .pop ∨ b = .insert ∨ b = .index ∨ b = .reverse) : ∀ F r H m d v, Sim X.K N F r m H → RelD N F r H d v → mthOk b d m = true → tyV X.K "list" v H := by
  intro F r H m d v S q h
  have h2 : ∃ xs, shown m d = .lst xs := by
    rcases hb with rfl | rfl | rfl | rfl | rfl | rfl <;> (simp only [mthOk] at h; split at h <;> first | exact ⟨_, by assumption⟩ | cases h)
  obtain ⟨xs, e⟩ := h2
  obtain ⟨ad, vs, rfl, hR, _⟩ := shown_lst S e q
  exact .inl ⟨rfl, vs, .inl hR⟩
theorem ok_str {b : Mth} (hb : b = .join ∨ b = .split ∨ b = .upper ∨ b = .isalpha ∨ b = .find ∨ b = .replace ∨ b = .count ∨ b = .sindex) : ∀ F r H m d v, Sim X.K N F r m H → RelD N F r H d v → mthOk b d m = true → tyV X.K "str" v H := by
  intro F r H m d v S q h
  have h2 : ∃ z, d = .str z := by
    rcases hb with rfl | rfl | rfl | rfl | rfl | rfl | rfl | rfl <;> (simp only [mthOk] at h; split at h <;> first | exact ⟨_, rfl⟩ | cases h)
  obtain ⟨z, rfl⟩ := h2
  cases (show v = V.str z from q)
  rfl

/-! ### isinstance -/
def isiG (t : Ty) : Env → D → Mem → Res D := fun _ x m1 => Res.opt ((anyTy m1 x [t]).map D.bl) m1
theorem x_isi {t : Ty} {b : Expr} (hg : Gl X "isinstance") (hm : X.mg "isinstance" = none) (ha : PE X a (tD X.K N W fa)) (hb : PE X b (tC (tyV_ t))) (hs : ([a, b]).all noStar = true) :
    PE X (.Call (.Name "isinstance" p) [a, b] [] pos) (tD X.K N W fun env m => (fa env m).bind fun y m1 => isiG t env y m1) := by
  rw [List.all_cons, Bool.and_eq_true] at hs
  have hs2 := hs.2
  rw [List.all_cons, Bool.and_eq_true] at hs2
  refine pe_imp (pe_callB call_isi hg hm PyProof.Rows.boot_isinstance (pa_cons ha (pa_cons hb pa_nil (noStar_eq hs2.1)) (noStar_eq hs.1)) (by decide) (by decide) (noStar_eq hs.1) (noStars hs.2).1) fun σ H Q h => one (g := isiG t) h fun F r env m H1 d v S SE q h => ?_
  unfold isiG at h
  obtain ⟨c, e1, h1⟩ := RP.opt_map h
  have e2 : isTy t m d = some c := by
    simp only [anyTy] at e1
    cases e3 : isTy t m d with
    | none => rw [e3] at e1; cases e1
    | some k => rw [e3] at e1; cases k <;> exact e1
  obtain ⟨tv, k1, k2, k3⟩ := isTy_rel S q e2
  exact ⟨v, _, tv, _, c, rfl, k3, k1, k2, RP.here S h1 rfl⟩
end
end Ev
/-! EvJ2: list(d.values()); questions of own classes; C.__init__(..); exceptions made. -/
namespace Ev
open PySem L2
section
variable {X : Cx} {N : Nm} {W : WX} {T : Tab} {S : Stat} {a b c e o : Expr} {es : List Expr} {fa fb fc : Env → Mem → Res D} {fL : Env → Mem → Res (List D)} {pos p apos cpos : Pos} {x : Str} {j : Nat}
/-! ### list(d.values()) -/
theorem vals_at : ∀ {kvs : List (Key × V)} {vs : List (Key × Value)}, Paired (fun (p : Key × V) (q : Key × Value) => p.1 = q.1 ∧ RelV p.2 q.2) kvs vs → ∀ {us : List Value}, us.length = vs.length → (∀ (i : Nat) (u : Value), us[i]? = some u → ∃ k, vs[i]? = some (k, u)) → Vals (kvs.map fun p => p.2) us
  | _, _, .nil, us, hl, _ => by
    have : us = [] := List.length_eq_zero_iff.mp (by simpa using hl)
    subst this
    exact .nil
  | _, _, .cons (a := p) (b := q) (l₁ := kvs) (l₂ := vs) h t, us, hl, hk => by
    cases us with
    | nil => simp at hl
    | cons u us =>
      obtain ⟨k, e⟩ := hk 0 u rfl
      have e : q = (k, u) := Option.some.inj e
      subst e
      exact .cons h.2 (vals_at t (by simpa using hl) fun i w hw => hk (i + 1) w (by simpa using hw))
def rLv (K : PySem.W.Frag) : V → Hp → VK → Prop := fun x H Q => ∃ (d : Addr) (kvs : List (Key × V)), x = .ref d ∧ Rd H d (.dK kvs) ∧ ∀ q, H q = none → Q (.ref q) (upd H q (.lst (kvs.map fun p => p.2)))
theorem pe_lv {te : TE} (calm : X.calm = true) (hd : PE X e te) (hg : Gl X "list") (hm : X.mg "list" = none) (hbase : attributeBase e "values" X.env (eval e X.env) = eval e X.env) (hline : (apos.endLine == cpos.line) = true) :
    PE X (.Call (.Name "list" p) [.Call (.Attribute e "values" apos) [] [] cpos] [] pos) (fun σ H Q => te σ H fun x H1 => rLv X.K x H1 Q) := by
  have hse : starEach [Expr.Call (.Attribute e "values" apos) [] [] cpos] X.env = (false, eval (Expr.Call (.Attribute e "values" apos) [] [] cpos) X.env) :: starEach [] X.env := rfl
  refine ⟨fun pins s σ H Q I hq => wpAny_Call_Name_kw (ld_blt I hg hm (u := .type "list") (by decide +kernel) ?_ (by decide) (by decide))⟩
  refine PyProof.Rows.callWith_type1 ?_ hse rfl
  rw [hse]
  show wpAny _ _ (spliced ((false, eval (Expr.Call (.Attribute e "values" apos) [] [] cpos) X.env) :: backTo pos (starEach [] X.env))) _ _ s
  refine Calls.spliced_cons (wpAny_Call_method0_late hbase hline (thn (hd.run pins s σ H _ I hq) fun v s1 ⟨x, H1, I1, r1, d, kvs, ex, ha, q⟩ => ?_))
  subst ex
  obtain rfl : v = Value.ref d := r1
  obtain ⟨hz, hsys, vs, rel, dof⟩ := dk_rd I1.hok ha
  obtain ⟨ep, dat⟩ := dof.dictAt
  obtain ⟨ob, es, ho, ex, hdat, hko, hpr, hnd⟩ := id dat
  refine ⟨"dict", "dict.values", F.plainAttrs_dict, F.slot_dict_values, F.type_dict_values, ⟨ob, ho, ex.1⟩, fun b eb => ?_, Calls.callWith_builtin rfl (PySem.evalArgs_none ?_)⟩
  · cases eb; exact ⟨ob, ho, ex.2.1⟩
  refine call_meetsIn F.slot_dict_values ⟨ob, ho, ex.1⟩ F.entry_dict_values (F.args_dict_values_1 _) (meets_dict_values (mixKind X.prog X.w) d hsys) ⟨⟨vs, dof⟩, ?_⟩
  have I2 : Inv X pins σ H1 { s1 with heap := s1.heap.push { cls := .type "dict_values", data := .fields #[.ref d] } } := I1.kept (t' := s1.toks) fun b u z => Heap.get?_push_of_some _ z
  refine Calls.spliced_nil ?_
  refine PySem.W.kdl_call (PySem.W.kdl_values (knd := mixKind X.prog X.w) (kvs := vs) (ep := ep)) (I1.ok.hd calm) ⟨⟨_, Heap.get?_push_size _ rfl, rfl, rfl⟩, dat.push _⟩ (by rw [← rel.length]; exact hz) fun h' tk acc c' hk hD hacc => ?_
  have hv : Vals (kvs.map fun p => p.2) acc.toList := vals_at rel (by rw [Array.length_toList]; exact hacc.1) fun i u z => hacc.2 i u (by rw [← Array.getElem?_toList]; exact z)
  have J := I2.laid (t' := tk) (o := .lst (kvs.map fun p => p.2)) hk (Nat.le_refl _) (show ObjOk X.prog X.w _ _ _ (.lst (kvs.map fun p => p.2)) from ⟨by rw [List.length_map]; exact hz, acc.toList, c', hv, by rw [Array.toArray_toList]; exact hD⟩)
  exact ⟨.ref _, _, J, rfl, q _ (I2.hok.fresh (Nat.le_refl _))⟩
theorem x_lvals (calm : X.calm = true) (hg : Gl X "list") (hm : X.mg "list" = none) (ha : PE X a (tD X.K N W fa)) (hb : noSup a = true) (hline : (apos.endLine == cpos.line) = true) :
    PE X (.Call (.Name "list" p) [.Call (.Attribute a "values" apos) [] [] cpos] [] pos) (tD X.K N W fun env m => (fa env m).bind fun x m1 => lvalD x m1) := by
  refine pe_imp (pe_lv calm ha hg hm (noSup_eq hb) hline) fun σ H Q h => one (g := fun _ x m1 => lvalD x m1) h fun F r env m H1 d v S _ q h => ?_
  unfold lvalD at h
  split at h
  · rename_i kvs e
    obtain ⟨ad, vs, rfl, hR, l⟩ := shown_dK S e q
    exact ⟨ad, vs, rfl, hR, fun p hp => RP.new S h hp ⟨_, upd_same, (l.vals).ext (Ext.new S hp)⟩⟩
  · exact h.elim

/-! ### isinstance(o, C) -/
theorem kit_is {K : PySem.W.Frag} {C D : Addr} {r : Bool} (h : NcOk K D) (hs : PySem.W.subIn K (.ref C) (.ref D) = some r) : PySem.W.kitCls K (.ref C) (.ref D) = some r := by
  have e2 : ((PySem.W.clsIn K D).isSome && PySem.W.typeIn K (.ref D) == some (.type "type")) = true := by
    rw [show (PySem.W.clsIn K D).isSome = true from h.ic, h.ty] <;> rfl
  show (if ((PySem.W.clsIn K D).isSome && PySem.W.typeIn K (.ref D) == some (.type "type")) = true then PySem.W.subIn K (.ref C) (.ref D) else none) = some r
  rw [if_pos e2]
  exact hs
theorem exm_is {K : PySem.W.Frag} {C D : Addr} {r : Bool} (h : NcOk K D) (hb : PySem.W.subIn K (.ref D) (.type "BaseException") = some true) (hs : PySem.W.subIn K (.ref C) (.ref D) = some r) : PySem.W.exmOne K (.ref C) (.ref D) = some r := by
  have e1 : (PySem.W.subIn K (.ref D) (.type "BaseException") == some true) = true := by rw [hb] <;> rfl
  show (if (PySem.W.subIn K (.ref D) (.type "BaseException") == some true) = true then PySem.W.kitCls K (.ref C) (.ref D) else none) = some r
  rw [if_pos e1]
  exact kit_is h hs
theorem sub_self {M : Model} {h : Heap} {C : Addr} {r : Bool} : True := trivial
/-- a caught exception's object -/
theorem exn_at {pins : List (Addr × Obj)} {σ : L2.St} {s : Shared} {F : Addr → Prop} {r : List Addr} {H : Hp} {k : Nat} {fs : List (Nat × D)} {v : V} (I : Inv X pins σ H s) (h : RelD N F r H (.exn k fs) v) :
    ∃ a oe, v = .ref a ∧ s.heap.get? a = some oe ∧ oe.cls = .ref (N.cl k) ∧ PySem.W.notCls oe = true ∧ ((fs = [] ∧ oe.dict = none) ∨ ∃ dd ws od, oe.dict = some dd ∧ s.heap.get? dd = some od ∧ RelF N F r H fs ws ∧ ∃ mA : Str → Option Value, (∀ x, PySem.W.lookIn x od = some (mA x)) ∧ ∀ f, L2.RelO (ws.lookup f) (mA f)) := by
  obtain ⟨a, oe, rfl, eH, h1, ⟨vs, h2⟩, h3⟩ := h
  have ha : s.heap.get? a = some oe := (show ObjOk X.prog X.w H s.heap a (.frz oe xM) from I.hok a _ eH).1
  refine ⟨a, oe, rfl, ha, h1, by unfold PySem.W.notCls; rw [h2] <;> rfl, ?_⟩
  rcases h3 with ⟨z, z2⟩ | ⟨dd, ws, z, z2, rf⟩
  · exact .inl ⟨z, z2⟩
  · obtain ⟨mA, hns, hr⟩ := (show ObjOk X.prog X.w H s.heap dd (.xd ws) from I.hok dd _ z2)
    obtain ⟨od, ho, hlk⟩ := lookIn_ns hns
    exact .inr ⟨dd, ws, od, z, ho, rf, mA, hlk, hr⟩
theorem exn_inst {pins : List (Addr × Obj)} {σ : L2.St} {s : Shared} {F : Addr → Prop} {r : List Addr} {H : Hp} {k : Nat} {fs : List (Nat × D)} {v : V} (I : Inv X pins σ H s) (h : RelD N F r H (.exn k fs) v) :
    ∃ a oe od, v = .ref a ∧ PySem.W.InstAt s.heap a oe (N.cl k) od := by
  obtain ⟨a, oe, rfl, ha, h1, h2, h3⟩ := exn_at I h
  rcases h3 with ⟨_, z⟩ | ⟨dd, ws, od, z, z2, _⟩
  · exact ⟨a, oe, none, rfl, ha, h1, h2, by rw [z] <;> trivial⟩
  · exact ⟨a, oe, some od, rfl, ha, h1, h2, by rw [z]; exact z2⟩
def isoG (T : Tab) (c : Nat) : Env → D → Mem → Res D := fun _ x m1 => Res.opt ((isoD T c x m1).map D.bl) m1
/-- isinstance(x, c), x a caught exception, too -/
def rIsX (K : PySem.W.Frag) (N : Nm) : List V → Hp → VK → Prop := fun xs H Q => rIsi K xs H Q ∨ ∃ (F : Addr → Prop) (r : List Addr) (v c : V) (u : Value) (k : Nat) (fs : List (Nat × D)) (b : Bool), xs = [v, c] ∧ ClsV c u ∧ RelD N F r H (.exn k fs) v ∧ XqOk K (N.cl k) ∧ PySem.W.kitOne K (.ref (N.cl k)) u = some b ∧ Q (.bl b) H
theorem call_isX : CallR X (.builtin "isinstance") (rIsX X.K N) := by
  intro pins s σ H xs us Q I r h
  rcases h with h | ⟨F, rr, v, c, u, k, fs, b, rfl, hc, hv, C, e, q⟩
  · exact call_isi pins s σ H xs us Q I r h
  · obtain ⟨u1, u2, rfl, r1, r2⟩ := vals2 r
    have e2 := hc.eq r2
    subst e2
    obtain ⟨a, oe, od, rfl, J⟩ := exn_inst I hv
    obtain rfl : u1 = Value.ref a := r1
    exact PySem.W.kia_one (PySem.W.kitx_exc C.cl C.ga C.gg C.sb C.ha C.on C.ot C.hm) I.kIn J e (fun z => nomatch z) fun tk => ⟨.bl b, H, I.tok tk, rfl, q⟩
theorem x_isoU {k : Nat} {p2 : Pos} {y : Str} {cv : V} {cu : Value} (F : Facts X.K X.mg N T S) (hg : Gl X "isinstance") (hm : X.mg "isinstance" = none) (hc : PE X (.Name y p2) (tC cv)) (hcv : ClsV cv cu) (e9 : cvV N k = cu) (hk : k = 999 ∨ cu = .ref (N.cl k))
    (hs9 : ∀ c' b, T.sub c' k = some b → cu = .ref (N.cl k))
    (ha : PE X a (tD X.K N W fa)) (hs : noStar a = true) :
    PE X (.Call (.Name "isinstance" p) [a, .Name y p2] [] pos) (tD X.K N W fun env m => (fa env m).bind fun x m1 => isoG T k env x m1) := by
  have hs2 : ([a, Expr.Name y p2]).all noStar = true := by rw [List.all_cons, hs]; rfl
  refine pe_imp (pe_callB (call_isX (N := N)) hg hm PyProof.Rows.boot_isinstance (pa_cons ha (pa_cons hc pa_nil rfl) (noStar_eq hs)) (by decide) (by decide) (noStar_eq hs) rfl) fun σ H Q h => one (g := isoG T k) h fun Fr r env m H1 d v Si SE q h => ?_
  unfold isoG at h
  obtain ⟨bb, e1, h1⟩ := RP.opt_map h
  unfold isoD at e1
  split at e1
  · rename_i c' fs
    obtain ⟨C, hkit⟩ := F.xq _ _ _ e1
    exact .inr ⟨_, _, _, _, _, _, _, bb, rfl, hcv, q, C, by rw [← e9]; exact hkit, RP.here Si h1 rfl⟩
  · split at e1
    · rename_i c' e2
      unfold clsD at e2
      split at e2
      · rename_i i _
        split at e2
        · rename_i c2 fs em
          cases e2
          obtain ⟨ad, hi, rfl⟩ := q
          obtain ⟨dx, ws, eH, rf⟩ := Si.ref em hi
          obtain ⟨i1, i2, i3, i4, i5⟩ := F.sub _ _ _ e1
          obtain ⟨g1, g2⟩ := F.og ⟨_, _, _, e1⟩
          have ecu := hs9 _ _ e1
          subst ecu
          have hkit : PySem.W.kitOne X.K (.ref (N.cl c')) (.ref (N.cl k)) = some bb := by
            unfold PySem.W.kitOne
            split
            · rename_i hh
              have : N.cl c' = N.cl k := by simpa using hh
              rw [this, i5] at i4
              exact i4
            · exact kit_is i3 i4
          exact .inl ⟨_, _, _, _, bb, rfl, hcv, .base (.ins eH i2 i1.ha g1 g2 i1.hm), hkit, RP.here Si h1 rfl⟩
        · cases e2
      · cases e2
    · cases e1
theorem x_iso {k : Nat} {p2 : Pos} {y : Str} (F : Facts X.K X.mg N T S) (hg : Gl X "isinstance") (hm : X.mg "isinstance" = none) (hy : Gl X y) (hyd : (y == ("__debug__" : Str)) = false) (hk : S.cn.lookup y = some k) (h9 : k ≠ 999)
    (ha : PE X a (tD X.K N W fa)) (hs : noStar a = true) :
    PE X (.Call (.Name "isinstance" p) [a, .Name y p2] [] pos) (tD X.K N W fun env m => (fa env m).bind fun x m1 => isoG T k env x m1) :=
  x_isoU F hg hm (pe_glob (v := .ref (N.cl k)) hy (F.cn y k hk) rfl hyd) (.own _) (if_neg h9) (.inr rfl) (fun _ _ _ => rfl) ha hs
theorem x_isv {p2 : Pos} (F : Facts X.K X.mg N T S) (hg : Gl X "isinstance") (hm : X.mg "isinstance" = none) (hy : Gl X "ValueError") (hv : X.mg "ValueError" = none) (hn : ∀ c', T.sub c' 999 = none)
    (ha : PE X a (tD X.K N W fa)) (hs : noStar a = true) :
    PE X (.Call (.Name "isinstance" p) [a, .Name "ValueError" p2] [] pos) (tD X.K N W fun env m => (fa env m).bind fun x m1 => isoG T 999 env x m1) :=
  x_isoU F hg hm (pe_bltn (v := .ty "ValueError") hy hv (by decide +kernel) rfl (by decide) (by decide)) (.ty _) rfl (.inl rfl) (fun c' b e => by rw [hn c'] at e; cases e) ha hs
/-- a field of a caught exception -/
theorem x_xfld {cf : CF} {i f : Nat} {x : Str} {np pos : Pos} (Fa : Facts X.K X.mg N T S) (hN : X.N[i]? = some x) (hv : Vis X.env.scope x) (hd : (x == ("__debug__" : Str)) = false) (hcd : (x == ("__classdict__" : Str)) = false) :
    PE X (.Attribute (.Name x np) (N.fn f) pos) (tD X.K N W (evE T cf (.xfld i f))) := by
  refine ⟨fun pins s σ H Q I ⟨F, r, env, m, S1, SE, h⟩ => ?_⟩
  have h : RP X.K N (RelD N) (WE W σ) F r H Q (match env[i]? with
    | some (some (.exn c fs)) => if xfB T c f then Res.opt (fs.lookup f) m else .bad
    | _ => .bad) := h
  split at h
  · rename_i c fs he
    split at h
    · rename_i hxf
      unfold xfB at hxf
      split at hxf
      · rename_i l hl
        have hin : f ∈ l := by simpa using hxf
        obtain ⟨d, e1, h1⟩ := RP.opt_some h
        obtain ⟨v0, x2, rd⟩ := SE.at_ i _ he
        have nv : PE X (.Name x np) (tVar i) := pe_var hN hv hd hcd
        refine attr_of (noSup_eq rfl) (thn (nv.run pins s σ H (fun v H1 => v = v0 ∧ H1 = H) I ⟨_, x2, rfl, rfl⟩) fun u s1 ⟨v, H1, I1, rv, ev, eH⟩ => ?_)
        subst ev
        subst eH
        obtain ⟨a, oe, rfl, ha, c1, nc, c2⟩ := exn_at I1 rd
        obtain rfl : u = Value.ref a := rv
        rcases c2 with ⟨c3, _⟩ | ⟨d0, ws, od, ed, ho, rf, mA, hlk, hr⟩
        · rw [c3] at e1; cases e1
        · rcases RelF.lookup f rf with ⟨z, _⟩ | ⟨d2, v2, z, z2, z3⟩
          · rw [z] at e1; cases e1
          · rw [z] at e1; cases e1
            obtain ⟨w, hw, rw_⟩ := RelO.some_of (v := v2) (o := mA (N.fn f)) (by rw [← z2]; exact hr (N.fn f))
            have J : PySem.W.InstAt s1.heap a oe (N.cl c) (some od) := ⟨ha, c1, nc, by rw [ed]; exact ho⟩
            have ok := Fa.xok c l hl
            cases l with
            | nil => cases hin
            | cons g l =>
              obtain ⟨o1, o2, o3, o4, ga, gg, hD, no⟩ := ok
              exact HandSPX.exc_get I1.kIn J ga gg o1.exC (PySem.W.findObj_own hD (no f hin) rfl (by rw [hlk, hw])) (handed_of rw_) ⟨v2, H1, I1.tok _, rw_, RP.here S1 h1 z3⟩
      · cases hxf
    · exact h.elim
  · exact h.elim
/-! ### C.__init__(..) -/
theorem x_sup {cf : CF} {g : Nat} {p1 : Pos} (F : Facts X.K X.mg N T S) (hF : ∀ g, FnOk X.prog X.w X.K X.mg X.base (L2.CX X.prog X.w) j (S.fa g) (S.fd g) (S.ps g) (spC X.K N (cf g))) (hr : Room j X.A) (tk : Takes X W) (hk : S.sup.lookup x = some g)
    (hg : Gl X x) (hd : (x == ("__debug__" : Str)) = false) (ha : PA X (e :: es) (tAA X.K N W fL)) (hs : (e :: es).all noStar = true) (hl : (e :: es).length < 30) (hline : (apos.endLine == pos.line) = true) :
    PE X (.Call (.Attribute (.Name x p1) "__init__" apos) (e :: es) [] pos) (tD X.K N W fun env m => (fL env m).bind fun xs m1 => cf g xs m1) := by
  obtain ⟨C, hm, K, hb⟩ := F.sup x g hk
  refine ⟨fun pins s σ H Q I h => ?_⟩
  refine PySem.W.methodCall_KW (ld_glob I hg hm ?_ hd) (method_eq (noSup_eq rfl) hl hs hline)
  have hs' := hs
  rw [List.all_cons, Bool.and_eq_true] at hs'
  have I0 := I.tok s.toks
  refine PySem.W.method_cls I0.kIn K.ga (PySem.W.cls_value I0.kIn K.rd K.at_ rfl ?_)
  have I1 := I0.tok (s.toks + 1)
  refine PySem.W.callWith_K (first := []) (h₀ := X.base) I1.ok.mod.kin K.kp (thn (ha.run pos pins _ σ H (fun vs H2 => spC X.K N (cf g) vs H2 Q (WE W σ)) I1 ?_) fun us s2 ⟨vs, H2, I2, r2, q2⟩ => ⟨I2.kIn, ?_⟩) (noStar_eq hs'.1) (noStars hs'.2).1
  · exact one (g := fun _ xs m1 => cf g xs m1) h fun F r env m H1 d v S _ q h => ⟨F, r, m, d, S, q, h⟩
  · exact run_fnS (hF g) hr hb (passAt tk σ) I2 r2 q2
/-- an own exception's base, its __init__ a built-in one -/
structure XbOk (K : PySem.W.Frag) (C : Addr) : Prop where
  rd : PySem.W.readsIn K C (.type "type") = true
  ga : PySem.W.specialIn K (.ref C) "__getattribute__" = some (some (.builtin "type.__getattribute__"))
  at_ : PySem.W.findCls K (.ref C) (.type "type") "__init__" = some (.val (.builtin "ValueError.__init__"))
theorem pe_xin {C : Addr} {p1 : Pos} {ta : TA} (K : XbOk X.K C) (hg : Gl X x) (hm : X.mg x = some (.ref C)) (hd : (x == ("__debug__" : Str)) = false) (ha : PA X (e :: es) ta) (hs : (e :: es).all noStar = true) (hl : (e :: es).length < 30) (hline : (apos.endLine == pos.line) = true) :
    PE X (.Call (.Attribute (.Name x p1) "__init__" apos) (e :: es) [] pos) (tVeI X.K ta) := by
  refine ⟨fun pins s σ H Q I h => ?_⟩
  refine PySem.W.methodCall_KW (ld_glob I hg hm ?_ hd) (method_eq (noSup_eq rfl) hl hs hline)
  have hs' := hs
  rw [List.all_cons, Bool.and_eq_true] at hs'
  have I0 := I.tok s.toks
  refine PySem.W.method_cls I0.kIn K.ga (PySem.W.cls_value I0.kIn K.rd K.at_ (by decide +kernel) ?_)
  have I1 := I0.tok (s.toks + 1)
  refine PyProof.Rows.callWith_method1 (thn (ha.run pos pins _ σ H _ I1 h) fun us s2 ⟨vs, H1, I2, r1, a, D, ws, ev, hz, TT, ea, q⟩ => ?_) (noStar_eq hs'.1) (noStars hs'.2).1
  subst ev
  cases r1 with
  | @cons _ u0 _ ur ra rws =>
    obtain rfl : u0 = Value.ref a := ra
    exact oinit_ok TT I2 ea (by rw [← Paired.length rws, sizeLine_eq]; omega) fun s3 J => ⟨.non, H1, J, rfl, q⟩
end
end Ev
/-! EvJ3: list(reversed(a list)), list(range(..)) -/
namespace Ev.Rv
open PySem PySem.Spec PyProof.Rows L2 RT
section
variable {prog : Program} {w : World} {A : Around} {E : Value → Shared → Prop} {s : Shared}
theorem init_rev {R : Result → Shared → Prop} {it l : Addr} {items : Array Value} (hh : A.handled = none) (hit : s.heap.IsRevIter it l ((items.size : Int) - 1)) (hl : s.heap.IsList l items) (hne : l ≠ it) (hn : items.size ≤ sizeLine)
    (Z : Addr) (hZ : s.heap.get? Z = some { cls := .type "list", data := .seq #[] }) (hZi : Z ≠ it) (hZl : Z ≠ l)
    (hR : ∀ (h' : Heap) (tk : Nat) (acc : Array Value) (c : Nat), (∀ b o, b ≠ it → b ≠ Z → s.heap.get? b = some o → h'.get? b = some o) → h'.get? Z = some { cls := .type "list", dict := none, data := .seq acc c, slots := #[] } →
      ItemsOf (fun i v => items[items.size - 1 - i]? = some v) acc items.size → R (.ok (.ret .none)) { s with heap := h', toks := tk }) :
    wpAny (model prog w) A.in1 (Builtin.«list.__init__» ⟨[.ref Z, .ref it], []⟩)
      (fun fin s' => match fin with | .done f => R (.ok f) s' | .again c' => c'.quiet = true ∧ codeAny (model prog w) A c' R s') (fun e s' => R (.error e) s') s := by
  have W := (Walks.listRev (prog := prog) (w := w) (A := A.in1) hh it l hne items).toS
  have hZf : Z ∉ [it, l] := by simp only [List.mem_cons, List.not_mem_nil, or_false, not_or]; exact ⟨hZi, hZl⟩
  show wpAny _ _ (do let old ← Builtin.List.listItems (.ref Z); Builtin.List.listUpdate (.ref Z) (fun _ => #[]); letGo old.toList.reverse; Builtin.List.listExtendWith (.ref Z) (.ref it) .none) _ _ s
  refine wpAny_bind ?_
  unfold Builtin.List.listItems
  refine wpAny_bind (wpAny_seqItems hZ rfl (wpAny_pure ?_))
  show wpAny _ _ (updateSeq Z (fun _ => #[]) >>= fun _ => letGo (#[] : Array Value).toList.reverse >>= fun _ => Builtin.List.listExtendWith (.ref Z) (.ref it) .none) _ _ s
  refine wpAny_bind (wpAny_updateSeq hZ rfl ?_)
  have hZ2 := Heap.get?_update_self (Obj.mapSeq (fun _ => (#[] : Array Value))) hZ rfl
  have oth : ∀ b o, b ≠ Z → s.heap.get? b = some o → (s.heap.update Z (Obj.mapSeq (fun _ => (#[] : Array Value)))).get? b = some o :=
    fun b o hb e => (Heap.get?_update_other _ _ (Ne.symm hb)).trans e
  refine wpAny_bind (wpAny_letGo ?_)
  have hit1 : (s.heap.update Z (Obj.mapSeq (fun _ => (#[] : Array Value)))).IsRevIter it l ((items.size : Int) - 1) := hit.at fun o e => oth it o (Ne.symm hZi) e
  have hl1 : (s.heap.update Z (Obj.mapSeq (fun _ => (#[] : Array Value)))).IsList l items := hl.at fun o e => oth l o (Ne.symm hZl) e
  have hT : ({ s with heap := s.heap.update Z (Obj.mapSeq (fun _ => (#[] : Array Value))) } : Shared).TypeIs (.ref it) "list_reverseiterator" := Heap.IsRevIter.typeIs (s := { s with heap := s.heap.update Z (Obj.mapSeq (fun _ => (#[] : Array Value))) }) hit1
  have h1 : Builtin.List.listSameRef (.ref Z) (.ref it) = false := by simp [Builtin.List.listSameRef, hZi]
  unfold Builtin.List.listExtendWith
  refine wpAny_bind (wpAny_typeOf hT ?_)
  rw [if_neg (by rw [h1]; decide)]
  refine wpAny_bind (wpAny_pyIter_revIter (s := { s with heap := s.heap.update Z (Obj.mapSeq (fun _ => (#[] : Array Value))) }) hit1 ?_)
  refine wpAny_bind (wpAny_holding ?_)
  unfold Builtin.List.listLengthHint
  refine wpAny_bind (wpAny_specialOf hT nolen_lri ?_)
  show wpAny _ A.in1 (specialOf (Value.ref it) (Str.ofString "__length_hint__") >>= _) _ _ _
  refine wpAny_bind (wpAny_specialOf hT hint_lri ?_)
  generalize hid : ("list_reverseiterator.__length_hint__" : String) = id0
  wp_delta
  rw [show splitId id0 = some ("list_reverseiterator", "__length_hint__") from by subst hid; decide +kernel]
  subst hid
  refine wpAny_bind (wpAny_isInstance (b := true) hT (by rw [isSubtype_type]; kernel_rfl) ?_)
  refine wpAny_pure ?_
  rw [if_neg (by decide)]
  have e0 : ((items.size : Nat) : Int) - 1 - ((0 : Nat) : Int) = (items.size : Int) - 1 := by omega
  refine wpAny_pure ⟨plainId_quiet F.plain_extend_loop _, codeAny_extend_loopS W hn _ hZf _ items.size 0 _ _ _ rfl (Nat.zero_le _) ⟨Nat.zero_le _, by rw [e0]; exact hit1, hl1⟩ hZ2 (ItemsOf.nil _) fun s' acc' c' hm hS' hacc => ?_⟩
  rw [Moved.eq_with hm]
  refine hR s'.heap s'.toks acc' c' (fun b o hb hz e => hm.heap b o (fun hmem => ?_) (oth b o hz e)) hS' hacc
  rcases List.mem_cons.mp hmem with e' | hmem
  · exact hz e'
  · exact hb (List.mem_singleton.mp hmem)
theorem call_list_rev {it l : Addr} {items : Array Value} {Q : Value → Shared → Prop} (hh : A.handled = none) (hit : s.heap.IsRevIter it l ((items.size : Int) - 1)) (hl : s.heap.IsList l items) (hne : l ≠ it) (hn : items.size ≤ sizeLine)
    (hQ : ∀ (h' : Heap) (tk : Nat) (acc : Array Value) (c : Nat), (∀ b o, b ≠ it → s.heap.get? b = some o → h'.get? b = some o) → h'.get? s.heap.objs.size = some { cls := .type "list", dict := none, data := .seq acc c, slots := #[] } →
      ItemsOf (fun i v => items[items.size - 1 - i]? = some v) acc items.size → Q (.ref s.heap.objs.size) { s with heap := h', toks := tk }) :
    wpAny (model prog w) A (call (.type "list") [.ref it]) Q E s := by
  refine callType_codes (Q₁ := fun obj s₁ => obj = .ref s.heap.objs.size ∧ s₁ = { s with heap := s.heap.push { cls := .type "list", data := .seq #[] } }) F.called_list (F.typeCall_list_1 _) F.entry_list_init
    (code_list_new _ ⟨rfl, rfl⟩) fun obj s₁ h₁ => ?_
  obtain ⟨rfl, rfl⟩ := h₁
  obtain ⟨oi, hoi, _⟩ := id hit
  obtain ⟨ol, hol, _⟩ := id hl
  have hS : (s.heap.push { cls := .type "list", data := .seq #[] }).get? s.heap.objs.size = some { cls := .type "list", data := .seq #[] } := Heap.get?_push_size _ rfl
  refine ⟨⟨_, hS, rfl⟩, F.args_list_init_2 _ _, init_rev (A := A.in1) (s := { s with heap := s.heap.push { cls := .type "list", data := .seq #[] } }) hh (hit.at fun o e => Heap.get?_push_of_some _ e) (hl.push _) hne hn _ hS (Nat.ne_of_gt (Heap.lt_size hoi)) (Nat.ne_of_gt (Heap.lt_size hol)) fun h' tk acc c hk hS' hacc => ?_⟩
  exact ⟨rfl, hQ h' tk acc c (fun b o hb e => hk b o hb (Nat.ne_of_lt (Heap.lt_size e)) (Heap.get?_push_of_some _ e)) hS' hacc⟩
end
def tLstRev (K : PySem.W.Frag) (te : TE) : TE := fun σ H Q => te σ H fun v H1 => ∃ (a : Addr) (xs : List V), v = .ref a ∧ SqL K H1 a xs ∧ ∀ q, H1 q = none → Q (.ref q) (upd H1 q (.lst xs.reverse))
section
variable {X : Cx}
theorem pe_lstRev {e : Expr} {te : TE} {p p2 pos pos2 : Pos} (hc : X.calm = true) (hg : Gl X "list") (hm : X.mg "list" = none) (hg2 : Gl X "reversed") (hm2 : X.mg "reversed" = none) (he : PE X e te)
    (hs : starEach [e] X.env = (false, eval e X.env) :: starEach [] X.env)
    (hs2 : starEach [.Call (.Name "reversed" p2) [e] [] pos2] X.env = (false, eval (.Call (.Name "reversed" p2) [e] [] pos2) X.env) :: starEach [] X.env := by rfl) :
    PE X (.Call (.Name "list" p) [.Call (.Name "reversed" p2) [e] [] pos2] [] pos) (tLstRev X.K te) := by
  refine ⟨fun pins s σ H Q I h => ?_⟩
  refine Call_ (ld_blt I hg hm boot_list (PyProof.Rows.callWith_type1 (args_cons (Call_ (ld_blt I hg2 hm2 PyProof.Rows.boot_reversed (PyProof.Rows.callWith_type1 (args_cons (thn (he.run pins s σ H _ I h) fun u s1 ⟨v, H1, I1, r1, q1⟩ => args_nil ?_) hs) hs rfl))) hs2) hs2 rfl))
  obtain ⟨a, xs, ev, hq, q⟩ := q1
  subst ev
  obtain rfl : u = Value.ref a := r1
  obtain ⟨its, rv, p', hz⟩ := I1.list hq
  refine call_reversed_list p'.isList (args_nil ?_)
  have k0 : ∀ b o, s1.heap.get? b = some o → (s1.heap.push (revObj a ((its.toArray.size : Int) - 1))).get? b = some o := fun b o e => Heap.get?_push_of_some _ e
  have hl := p'.isList
  obtain ⟨ol, hol, _⟩ := id hl
  have hne : a ≠ s1.heap.objs.size := Nat.ne_of_lt (Heap.lt_size hol)
  have hn : its.toArray.size ≤ sizeLine := by rw [List.size_toArray, ← rv.length]; exact hz
  refine call_list_rev (s := { s1 with heap := s1.heap.push (revObj a ((its.toArray.size : Int) - 1)) }) (I1.ok.hd hc) ⟨_, Heap.get?_push_size _ rfl, rfl, rfl⟩ (hl.push _) hne hn fun h' tk acc c hk hS hi => ?_
  have hz2 : (s1.heap.push (revObj a ((its.toArray.size : Int) - 1))).objs.size = s1.heap.objs.size + 1 := by simp [Heap.push]
  have k1 : ∀ b o, s1.heap.get? b = some o → h'.get? b = some o := fun b o e => hk b o (Nat.ne_of_lt (Heap.lt_size e)) (k0 b o e)
  have hle : s1.heap.objs.size ≤ (s1.heap.push (revObj a ((its.toArray.size : Int) - 1))).objs.size := by rw [hz2]; exact Nat.le_succ _
  refine ⟨.ref (s1.heap.push (revObj a ((its.toArray.size : Int) - 1))).objs.size, upd H1 (s1.heap.push (revObj a ((its.toArray.size : Int) - 1))).objs.size (.lst xs.reverse), I1.laid (t' := tk) k1 hle (show ObjOk X.prog X.w _ _ _ (.lst xs.reverse) from ⟨by rw [List.length_reverse]; exact hz, acc.toList, c, vals_rev rv hi, ?_⟩), rfl, q _ (I1.hok.fresh hle)⟩
  rw [Array.toArray_toList]
  exact hS
end
end Ev.Rv
/-! EvK: what loops and comprehensions walk. -/
namespace Ev
open PySem L2

def Its.at (s : Ev.Its) (m : Mem) (i : Nat) : Option (Option D) := match s with
  | .all xs => some xs[i]?
  | .by _ get => get m i
/-- an iterator that shows these items -/
structure ItOk (K : PySem.W.Frag) (N : Nm) (F : Addr → Prop) (r : List Addr) (H : Hp) (its : Ev.Its) (J : It) : Prop where
  stop : ∀ i F1 r1 H1 m1, Ext F r H F1 r1 H1 → Sim K N F1 r1 m1 H1 → its.at m1 i = some none → J.stop i H1
  go : ∀ i x F1 r1 H1 m1, Ext F r H F1 r1 H1 → Sim K N F1 r1 m1 H1 → its.at m1 i = some (some x) → J.go i H1
  yld : ∀ i x F1 r1 H1 m1 v H2, Ext F r H F1 r1 H1 → Sim K N F1 r1 m1 H1 → its.at m1 i = some (some x) → J.yld i H1 v H2 → ∃ F2 r2, Ext F1 r1 H1 F2 r2 H2 ∧ Sim K N F2 r2 m1 H2 ∧ RelD N F2 r2 H2 x v
abbrev tII (K : PySem.W.Frag) (N : Nm) (W : WX) (f : Env → Mem → Res Ev.Its) : TI := tE K N (ItOk K N) W f
theorem pi_or {X : Cx} {tg e : Expr} {t u : TI} (h : PI X tg e t) (g : PI X tg e u) : PI X tg e (fun σ H R => t σ H R ∨ u σ H R) :=
  ⟨fun pins s σ H R I q => q.elim (fun q => h.run pins s σ H R I q) fun q => g.run pins s σ H R I q⟩
section
variable {K : PySem.W.Frag} {N : Nm} {F : Addr → Prop} {r : List Addr} {H : Hp} {m : Mem}
theorem tE_ok {α β : Type} {R : (Addr → Prop) → List Addr → Hp → α → β → Prop} {W : WX} {f : Env → Mem → Res α} {σ : L2.St} {P : β → Hp → Prop} {env : Env} {d : α} {m1 : Mem} (S : Sim K N F r m H) (SE : SimE N F r H env σ) (e : f env m = .ok d m1)
    (k : ∀ F1 r1 H1 v, Ext F r H F1 r1 H1 → Sim K N F1 r1 m1 H1 → R F1 r1 H1 d v → P v H1) : tE K N R W f σ H P :=
  ⟨F, r, env, m, S, SE, by rw [e]; exact fun F1 r1 H1 v x S1 q => k F1 r1 H1 v x S1 q⟩
/-- the first step is over: an answer, or else nothing more -/
theorem tE_ans {α β γ δ : Type} {R : (Addr → Prop) → List Addr → Hp → α → β → Prop} {R' : (Addr → Prop) → List Addr → Hp → γ → δ → Prop} {W : WX} {f : Env → Mem → Res α} {g : α → Mem → Res γ} {σ : L2.St} {Q : δ → Hp → Prop} {env : Env} (S : Sim K N F r m H) (SE : SimE N F r H env σ) (h : RP K N R' (WE W σ) F r H Q ((f env m).bind g)) :
    (∃ d m1, f env m = .ok d m1 ∧ RP K N R' (WE W σ) F r H Q (g d m1)) ∨ (∀ P : β → Hp → Prop, tE K N R W f σ H P) := by
  cases e : f env m with
  | ok d m1 => rw [e] at h; exact .inl ⟨d, m1, rfl, h⟩
  | exc x m1 => rw [e] at h; exact .inr fun P => ⟨F, r, env, m, S, SE, by rw [e]; exact h⟩
  | bad => rw [e] at h; exact h.elim

/-! ### the iterators -/
theorem get_of_len {α β : Type} {xs : List α} {vs : List β} {i : Nat} (h : xs.length = vs.length) (e : xs[i]? = none) : vs.length ≤ i := by
  rw [List.getElem?_eq_none_iff] at e
  omega
theorem it_tup {a : Addr} {xs : List D} {vs : List V} (ha : H a = some (.tup vs)) (q : RelL N F r H xs vs) : ItOk K N F r H (.all xs) (Itt K a) where
  stop := fun i F1 r1 H1 m1 x S e => ⟨vs, SqT.of (x.tups _ _ ha), get_of_len q.length (Option.some.inj e)⟩
  go := fun i d F1 r1 H1 m1 x S e => by
    obtain ⟨u, e2, _⟩ := q.get (Option.some.inj e)
    exact ⟨vs, u, SqT.of (x.tups _ _ ha), e2⟩
  yld := fun i d F1 r1 H1 m1 v H2 x S e y => by
    obtain ⟨rfl, y⟩ := y
    obtain ⟨u, e2, q2⟩ := q.get (Option.some.inj e)
    have e3 := y vs (SqT.of (x.tups _ _ ha))
    rw [e2] at e3; cases e3
    exact ⟨F1, r1, Ext.refl _ _ _, S, q2.ext x⟩
theorem it_lst {a : Addr} {xs : List D} {vs : List V} (hF : F a) (ha : Rd H a (.lst vs)) (q : RelL N F r H xs vs) : ItOk K N F r H (.all xs) (Itl K a) where
  stop := fun i F1 r1 H1 m1 x S e => ⟨vs, .inl (x.rd hF ha), get_of_len q.length (Option.some.inj e)⟩
  go := fun i d F1 r1 H1 m1 x S e => by
    obtain ⟨u, e2, _⟩ := q.get (Option.some.inj e)
    exact ⟨vs, u, .inl (x.rd hF ha), e2⟩
  yld := fun i d F1 r1 H1 m1 v H2 x S e y => by
    obtain ⟨rfl, y⟩ := y
    obtain ⟨u, e2, q2⟩ := q.get (Option.some.inj e)
    have e3 := y vs (.inl (x.rd hF ha))
    rw [e2] at e3; cases e3
    exact ⟨F1, r1, Ext.refl _ _ _, S, q2.ext x⟩
theorem getL_some {k i : Nat} {m : Mem} {o : Option D} (e : getL k m i = some o) : ∃ xs, m[k]? = some (.lst xs) ∧ xs[i]? = o := by
  unfold getL at e
  split at e
  · rename_i xs h
    cases e
    exact ⟨xs, h, rfl⟩
  · cases e
theorem it_ref {k : Nat} {a : Addr} {n : Nat} (hi : r[k]? = some a) : ItOk K N F r H (.by n (getL k)) (Itl K a) where
  stop := fun i F1 r1 H1 m1 x S e => by
    obtain ⟨xs, em, e⟩ := getL_some (show getL k m1 i = some none from e)
    obtain ⟨vs, eH, q⟩ := S.ref em (x.get hi)
    exact ⟨vs, SqL.of eH, get_of_len q.length e⟩
  go := fun i d F1 r1 H1 m1 x S e => by
    obtain ⟨xs, em, e⟩ := getL_some (show getL k m1 i = some (some d) from e)
    obtain ⟨vs, eH, q⟩ := S.ref em (x.get hi)
    obtain ⟨u, e2, _⟩ := q.get e
    exact ⟨vs, u, SqL.of eH, e2⟩
  yld := fun i d F1 r1 H1 m1 v H2 x S e y => by
    obtain ⟨xs, em, e⟩ := getL_some (show getL k m1 i = some (some d) from e)
    obtain ⟨vs, eH, q⟩ := S.ref em (x.get hi)
    obtain ⟨u, e2, q2⟩ := q.get e
    obtain ⟨rfl, y⟩ := y
    have e3 := y vs (SqL.of eH)
    rw [e2] at e3; cases e3
    exact ⟨F1, r1, Ext.refl _ _ _, S, q2⟩
theorem it_str {z : Str} : ItOk K N F r H (.all (chars z)) (L2.Its z) where
  stop := fun i F1 r1 H1 m1 x S e => by
    have e : (chars z)[i]? = none := Option.some.inj e
    rw [List.getElem?_eq_none_iff] at e
    show z.cps.size ≤ i
    simpa [chars] using e
  go := fun i d F1 r1 H1 m1 x S e => by
    have e : (chars z)[i]? = some d := Option.some.inj e
    have := (List.getElem?_eq_some_iff.mp e).1
    show i < z.cps.size
    simpa [chars] using this
  yld := fun i d F1 r1 H1 m1 v H2 x S e y => by
    obtain ⟨rfl, c, e2, rfl⟩ := y
    have e : (chars z)[i]? = some d := Option.some.inj e
    have e3 : (chars z)[i]? = some (D.str ⟨#[c]⟩) := by
      unfold chars
      rw [List.getElem?_map, Array.getElem?_toList, e2]
      rfl
    rw [e3] at e; cases e
    exact ⟨F1, r1, Ext.refl _ _ _, S, rfl⟩
theorem rngL_get {lo : Int} {n i : Nat} : (rngL lo n)[i]? = if i < n then some (.int (lo + (i : Nat))) else none := by
  unfold rngL
  rw [List.getElem?_map]
  by_cases h : i < n
  · rw [if_pos h, List.getElem?_range h]; rfl
  · rw [if_neg h, List.getElem?_eq_none (by simpa using h)]; rfl
theorem it_rng {lo : Int} {n : Nat} : ItOk K N F r H (.all (rngL lo n)) (Itr lo n) where
  stop := fun i F1 r1 H1 m1 x S e => by
    have e : (rngL lo n)[i]? = none := Option.some.inj e
    rw [rngL_get] at e
    split at e
    · cases e
    · show n ≤ i; omega
  go := fun i d F1 r1 H1 m1 x S e => by
    have e : (rngL lo n)[i]? = some d := Option.some.inj e
    rw [rngL_get] at e
    split at e
    · assumption
    · cases e
  yld := fun i d F1 r1 H1 m1 v H2 x S e y => by
    obtain ⟨rfl, rfl⟩ := y
    have e : (rngL lo n)[i]? = some d := Option.some.inj e
    rw [rngL_get] at e
    split at e
    · cases e
      exact ⟨F1, r1, Ext.refl _ _ _, S, rfl⟩
    · cases e
theorem enumL_get : ∀ {xs : List D} {n i : Nat}, (enumL n xs)[i]? = (xs[i]?).map fun x => .tup [.int ((n + i : Nat) : Int), x]
  | [], n, i => rfl
  | x :: xs, n, 0 => rfl
  | x :: xs, n, i + 1 => by
    show (enumL (n + 1) xs)[i]? = _
    rw [enumL_get]
    show _ = (xs[i]?).map _
    rw [Nat.add_right_comm, Nat.add_assoc]
theorem zipL_get : ∀ {xs ys : List D} {i : Nat}, (zipL xs ys)[i]? = match xs[i]?, ys[i]? with
    | some x, some y => some (.tup [x, y])
    | _, _ => none
  | [], ys, i => by simp [zipL]
  | x :: xs, [], i => by
    simp only [zipL]
    cases i <;> simp
  | x :: xs, y :: ys, 0 => rfl
  | x :: xs, y :: ys, i + 1 => by
    show (zipL xs ys)[i]? = _
    rw [zipL_get]
    rfl
/-- a new pair -/
theorem pair_rel {F1 : Addr → Prop} {r1 : List Addr} {H1 : Hp} {m1 : Mem} {T : Addr} {d e : D} {u w : V} (S : Sim K N F1 r1 m1 H1) (hT : H1 T = none) (q1 : RelD N F1 r1 H1 d u) (q2 : RelD N F1 r1 H1 e w) :
    ∃ F2 r2, Ext F1 r1 H1 F2 r2 (upd H1 T (.tup [u, w])) ∧ Sim K N F2 r2 m1 (upd H1 T (.tup [u, w])) ∧ RelD N F2 r2 (upd H1 T (.tup [u, w])) (.tup [d, e]) (.ref T) :=
  ⟨F1, r1, Ext.fresh S hT, S.fresh_ hT, T, [u, w], rfl, upd_same, ⟨u, [w], rfl, q1.ext (Ext.fresh S hT), w, [], rfl, q2.ext (Ext.fresh S hT), rfl⟩⟩
theorem it_enum {a : Addr} {xs : List D} {vs : List V} (hF : F a) (ha : Rd H a (.lst vs)) (q : RelL N F r H xs vs) : ItOk K N F r H (.all (enumL 0 xs)) (Ite K a) where
  stop := fun i F1 r1 H1 m1 x S e => by
    have e : (enumL 0 xs)[i]? = none := Option.some.inj e
    rw [enumL_get, Option.map_eq_none_iff] at e
    exact ⟨vs, .inl (x.rd hF ha), get_of_len q.length e⟩
  go := fun i d F1 r1 H1 m1 x S e => by
    have e : (enumL 0 xs)[i]? = some d := Option.some.inj e
    rw [enumL_get] at e
    obtain ⟨y, e1, _⟩ := opt_map_some e
    obtain ⟨u, e2, _⟩ := q.get e1
    exact ⟨vs, u, .inl (x.rd hF ha), e2⟩
  yld := fun i d F1 r1 H1 m1 v H2 x S e y => by
    have e : (enumL 0 xs)[i]? = some d := Option.some.inj e
    rw [enumL_get] at e
    obtain ⟨d1, e1, rfl⟩ := opt_map_some e
    obtain ⟨u, e2, q2⟩ := q.get e1
    obtain ⟨T, w, rfl, hT, rfl, y⟩ := y
    have e3 := y vs (.inl (x.rd hF ha))
    rw [e2] at e3; cases e3
    rw [Nat.zero_add]
    exact pair_rel S hT rfl (q2.ext x)
theorem getE_some {k i : Nat} {m : Mem} {o : Option D} (e : getE k m i = some o) : ∃ xs, m[k]? = some (.lst xs) ∧ (xs[i]?.map fun x => D.tup [.int (i : Nat), x]) = o := by
  unfold getE at e
  split at e
  · rename_i xs h
    cases e
    exact ⟨xs, h, rfl⟩
  · cases e
theorem it_enumR {k : Nat} {a : Addr} {n : Nat} (hi : r[k]? = some a) : ItOk K N F r H (.by n (getE k)) (Ite K a) where
  stop := fun i F1 r1 H1 m1 x S e => by
    obtain ⟨xs, em, e⟩ := getE_some (show getE k m1 i = some none from e)
    obtain ⟨vs, eH, q⟩ := S.ref em (x.get hi)
    rw [Option.map_eq_none_iff] at e
    exact ⟨vs, SqL.of eH, get_of_len q.length e⟩
  go := fun i d F1 r1 H1 m1 x S e => by
    obtain ⟨xs, em, e⟩ := getE_some (show getE k m1 i = some (some d) from e)
    obtain ⟨vs, eH, q⟩ := S.ref em (x.get hi)
    obtain ⟨y, e1, _⟩ := opt_map_some e
    obtain ⟨u, e2, _⟩ := q.get e1
    exact ⟨vs, u, SqL.of eH, e2⟩
  yld := fun i d F1 r1 H1 m1 v H2 x S e y => by
    obtain ⟨xs, em, e⟩ := getE_some (show getE k m1 i = some (some d) from e)
    obtain ⟨vs, eH, q⟩ := S.ref em (x.get hi)
    obtain ⟨d1, e1, rfl⟩ := opt_map_some e
    obtain ⟨u, e2, q2⟩ := q.get e1
    obtain ⟨T, w, rfl, hT, rfl, y⟩ := y
    have e3 := y vs (SqL.of eH)
    rw [e2] at e3; cases e3
    exact pair_rel S hT rfl q2
theorem zip_none {xs ys : List D} {vs ws : List V} {i : Nat} (l1 : xs.length = vs.length) (l2 : ys.length = ws.length) (e : (zipL xs ys)[i]? = none) : vs.length ≤ i ∨ ws.length ≤ i := by
  rw [zipL_get] at e
  split at e
  · cases e
  · rename_i h
    by_cases h1 : vs.length ≤ i
    · exact .inl h1
    · by_cases h2 : ws.length ≤ i
      · exact .inr h2
      · exact absurd (List.getElem?_eq_getElem (by omega)) (h _ _ (List.getElem?_eq_getElem (show i < xs.length by omega)))
theorem zip_some {xs ys : List D} {i : Nat} {d : D} (e : (zipL xs ys)[i]? = some d) : ∃ x y, xs[i]? = some x ∧ ys[i]? = some y ∧ d = .tup [x, y] := by
  rw [zipL_get] at e
  split at e
  · rename_i x y h1 h2
    cases e
    exact ⟨x, y, h1, h2, rfl⟩
  · cases e
theorem it_zip {a b : Addr} {xs ys : List D} {vs ws : List V} (hF : F a) (ha : Rd H a (.lst vs)) (q : RelL N F r H xs vs) (hG : F b) (hb : Rd H b (.lst ws)) (p : RelL N F r H ys ws) : ItOk K N F r H (.all (zipL xs ys)) (Itz K a b) where
  stop := fun i F1 r1 H1 m1 x S e => ⟨vs, ws, .inl (x.rd hF ha), .inl (x.rd hG hb), zip_none q.length p.length (Option.some.inj e)⟩
  go := fun i d F1 r1 H1 m1 x S e => by
    obtain ⟨d1, d2, e1, e2, rfl⟩ := zip_some (Option.some.inj e)
    obtain ⟨u, e3, _⟩ := q.get e1
    obtain ⟨w, e4, _⟩ := p.get e2
    exact ⟨vs, ws, u, w, .inl (x.rd hF ha), .inl (x.rd hG hb), e3, e4⟩
  yld := fun i d F1 r1 H1 m1 v H2 x S e y => by
    obtain ⟨d1, d2, e1, e2, rfl⟩ := zip_some (Option.some.inj e)
    obtain ⟨u, e3, q3⟩ := q.get e1
    obtain ⟨w, e4, q4⟩ := p.get e2
    obtain ⟨T, x1, y1, rfl, hT, rfl, y, z⟩ := y
    have e5 := y vs (.inl (x.rd hF ha))
    rw [e3] at e5; cases e5
    have e6 := z ws (.inl (x.rd hG hb))
    rw [e4] at e6; cases e6
    exact pair_rel S hT (q3.ext x) (q4.ext x)
theorem it_zipT {a b : Addr} {xs ys : List D} {vs ws : List V} (ha : H a = some (.tup vs)) (q : RelL N F r H xs vs) (hb : H b = some (.tup ws)) (p : RelL N F r H ys ws) : ItOk K N F r H (.all (zipL xs ys)) (RZ.ItzT K a b) where
  stop := fun i F1 r1 H1 m1 x S e => ⟨vs, ws, SqT.of (x.tups _ _ ha), SqT.of (x.tups _ _ hb), zip_none q.length p.length (Option.some.inj e)⟩
  go := fun i d F1 r1 H1 m1 x S e => by
    obtain ⟨d1, d2, e1, e2, rfl⟩ := zip_some (Option.some.inj e)
    obtain ⟨u, e3, _⟩ := q.get e1
    obtain ⟨w, e4, _⟩ := p.get e2
    exact ⟨vs, ws, u, w, SqT.of (x.tups _ _ ha), SqT.of (x.tups _ _ hb), e3, e4⟩
  yld := fun i d F1 r1 H1 m1 v H2 x S e y => by
    obtain ⟨d1, d2, e1, e2, rfl⟩ := zip_some (Option.some.inj e)
    obtain ⟨u, e3, q3⟩ := q.get e1
    obtain ⟨w, e4, q4⟩ := p.get e2
    obtain ⟨T, x1, y1, rfl, hT, rfl, y, z⟩ := y
    have e5 := y vs (SqT.of (x.tups _ _ ha))
    rw [e3] at e5; cases e5
    have e6 := z ws (SqT.of (x.tups _ _ hb))
    rw [e4] at e6; cases e6
    exact pair_rel S hT (q3.ext x) (q4.ext x)
theorem rev_get {α : Type} {xs : List α} {i : Nat} : xs.reverse[i]? = if i < xs.length then xs[xs.length - 1 - i]? else none := by
  by_cases h : i < xs.length
  · rw [if_pos h, List.getElem?_reverse h]
  · rw [if_neg h, List.getElem?_eq_none (by simpa using h)]
theorem it_rev {a : Addr} {xs : List D} {vs : List V} (hF : F a) (ha : Rd H a (.lst vs)) (q : RelL N F r H xs vs) : ItOk K N F r H (.all xs.reverse) (Itv K a vs.length) where
  stop := fun i F1 r1 H1 m1 x S e => by
    have e : xs.reverse[i]? = none := Option.some.inj e
    have := get_of_len (vs := vs) (by rw [List.length_reverse]; exact q.length) e
    exact this
  go := fun i d F1 r1 H1 m1 x S e => by
    have e : xs.reverse[i]? = some d := Option.some.inj e
    rw [rev_get] at e
    split at e
    · rename_i h
      obtain ⟨u, e2, _⟩ := q.get e
      rw [q.length] at e2 h
      exact ⟨h, vs, u, .inl (x.rd hF ha), e2⟩
    · cases e
  yld := fun i d F1 r1 H1 m1 v H2 x S e y => by
    have e : xs.reverse[i]? = some d := Option.some.inj e
    rw [rev_get] at e
    split at e
    · rename_i h
      obtain ⟨u, e2, q2⟩ := q.get e
      rw [q.length] at e2
      obtain ⟨rfl, y⟩ := y
      have e3 := y vs (.inl (x.rd hF ha))
      rw [e2] at e3; cases e3
      exact ⟨F1, r1, Ext.refl _ _ _, S, q2.ext x⟩
    · cases e
theorem getR_some {k n i : Nat} {m : Mem} {d : D} (e : getR k n m i = some (some d)) : i < n ∧ ∃ xs, m[k]? = some (.lst xs) ∧ xs[n - 1 - i]? = some d := by
  unfold getR at e
  split at e
  · rename_i hi
    split at e
    · rename_i xs h
      split at e
      · rename_i x hx
        cases e
        exact ⟨hi, xs, h, hx⟩
      · cases e
    · cases e
  · cases e
theorem it_revR {k : Nat} {a : Addr} {n : Nat} (hi : r[k]? = some a) : ItOk K N F r H (.by n (getR k n)) (Itv K a n) where
  stop := fun i F1 r1 H1 m1 x S e => by
    have e : getR k n m1 i = some none := e
    unfold getR at e
    split at e
    · split at e
      · split at e <;> cases e
      · cases e
    · show n ≤ i; omega
  go := fun i d F1 r1 H1 m1 x S e => by
    obtain ⟨hn, xs, em, e⟩ := getR_some (show getR k n m1 i = some (some d) from e)
    obtain ⟨vs, eH, q⟩ := S.ref em (x.get hi)
    obtain ⟨u, e2, _⟩ := q.get e
    exact ⟨hn, vs, u, SqL.of eH, e2⟩
  yld := fun i d F1 r1 H1 m1 v H2 x S e y => by
    obtain ⟨hn, xs, em, e⟩ := getR_some (show getR k n m1 i = some (some d) from e)
    obtain ⟨vs, eH, q⟩ := S.ref em (x.get hi)
    obtain ⟨u, e2, q2⟩ := q.get e
    obtain ⟨rfl, y⟩ := y
    have e3 := y vs (SqL.of eH)
    rw [e2] at e3; cases e3
    exact ⟨F1, r1, Ext.refl _ _ _, S, q2⟩
theorem it_revT {a : Addr} {xs : List D} {vs : List V} (ha : H a = some (.tup vs)) (q : RelL N F r H xs vs) : ItOk K N F r H (.all xs.reverse) (RT.ItvT K a vs.length) where
  stop := fun i F1 r1 H1 m1 x S e => by
    have e : xs.reverse[i]? = none := Option.some.inj e
    have := get_of_len (vs := vs) (by rw [List.length_reverse]; exact q.length) e
    exact this
  go := fun i d F1 r1 H1 m1 x S e => by
    have e : xs.reverse[i]? = some d := Option.some.inj e
    rw [rev_get] at e
    split at e
    · rename_i h
      obtain ⟨u, e2, _⟩ := q.get e
      rw [q.length] at e2 h
      exact ⟨h, vs, u, SqT.of (x.tups _ _ ha), e2⟩
    · cases e
  yld := fun i d F1 r1 H1 m1 v H2 x S e y => by
    have e : xs.reverse[i]? = some d := Option.some.inj e
    rw [rev_get] at e
    split at e
    · rename_i h
      obtain ⟨u, e2, q2⟩ := q.get e
      rw [q.length] at e2
      obtain ⟨rfl, y⟩ := y
      have e3 := y vs (SqT.of (x.tups _ _ ha))
      rw [e2] at e3; cases e3
      exact ⟨F1, r1, Ext.refl _ _ _, S, q2.ext x⟩
    · cases e
end
end Ev
/-! EvK2: enumerate over a tuple. -/
namespace PySem
theorem ev_enum_new {v : Value} {ob : Obj} {HP : Heap → Prop} (B : Begins v ob HP) :
    Meets (Builtin.«enumerate.__new__» ⟨[.type "enumerate", v], []⟩) (fun _ R sh => HP sh.heap ∧
      R (.ok (.ret (.ref (sh.heap.push ob).objs.size))) { sh with heap := (sh.heap.push ob).push { cls := .type "enumerate", data := .fields #[.none, .bool false, .ref sh.heap.objs.size, rawInt 0, .none, .none] } }) :=
  .of_wp fun prog w A R sh hyp => by
    obtain ⟨hq, gq, dq, kq, oq⟩ := sh
    obtain ⟨h1, hyp⟩ := hyp
    have sube := sub_enumerate
    have itr : ∀ {A' : Around} {E' : Value → Shared → Prop} {Q' : Value → Shared → Prop}, Q' (.ref hq.objs.size) ⟨hq.push ob, gq, dq, kq, oq⟩ → wpAny (model prog w) A' (pyIter v) Q' E' ⟨hq, gq, dq, kq, oq⟩ :=
      fun z => B.iter prog w _ _ ⟨hq, gq, dq, kq, oq⟩ _ h1 z
    wp_walk using itr
    refine wpAny_stack_any fun _ => wpAny_pure ?_
    split
    · rename_i ty _ _ _ _ _
      cases (ty == Value.type "enumerate") <;>
        (wp_walk using itr
         exact ⟨_, rfl, hyp⟩)
    · wp_walk using itr
      exact ⟨_, rfl, hyp⟩
section
variable {prog : Program} {w : World} {A : Around} {E : Value → Shared → Prop} {s : Shared}
theorem ev_call_enum {v : Value} {ob : Obj} {HP : Heap → Prop} {Q : Value → Shared → Prop} (B : Begins v ob HP) (h1 : HP s.heap)
    (h : ∀ hn, IsEnum hn (s.heap.objs.size + 1) s.heap.objs.size 0 .none → hn.get? s.heap.objs.size = some ob → hn.objs.size = s.heap.objs.size + 2 →
      (∀ b o, s.heap.get? b = some o → hn.get? b = some o) → Q (.ref (s.heap.objs.size + 1)) { s with heap := hn }) :
    wpAny (model prog w) A (call (.type "enumerate") [v]) Q E s := by
  refine callType_new F.called_enumerate (by decide) (F.typeCall_enumerate_1 _) (F.newCall_enumerate_1 _) (fun obj => F.args_object_init_2 obj _) F.entry_enumerate_new (ev_enum_new B) ⟨h1, ?_⟩
  have sz : (s.heap.push ob).objs.size = s.heap.objs.size + 1 := Heap.size_push ..
  show _ ∧ _
  rw [sz]
  have here : IsEnum ((s.heap.push ob).push { cls := .type "enumerate", data := .fields #[.none, .bool false, .ref s.heap.objs.size, rawInt 0, .none, .none] }) (s.heap.objs.size + 1) s.heap.objs.size 0 .none := by
    have q := Heap.get?_push_size (s.heap.push ob) (o := { cls := .type "enumerate", data := .fields #[.none, .bool false, .ref s.heap.objs.size, rawInt 0, .none, .none] }) rfl
    rw [sz] at q
    exact q
  exact ⟨⟨_, here, rfl⟩, h _ here (Heap.get?_push_of_some _ (Heap.get?_push_size _ B.free)) (by rw [Heap.size_push, sz]) fun b o z => Heap.get?_push_of_some _ (Heap.get?_push_of_some _ z)⟩
end
end PySem
namespace Ev
open PySem L2
/-- the tuple at a, each item in a new pair with its place -/
def IteT (K : PySem.W.Frag) (a : Addr) : It :=
  ⟨fun i H => ∃ (xs : List V) (x : V), SqT K H a xs ∧ xs[i]? = some x, fun i H v H' => ∃ T x, v = .ref T ∧ H T = none ∧ H' = upd H T (.tup [.int (i : Nat), x]) ∧ ∀ xs, SqT K H a xs → xs[i]? = some x, fun i H => ∃ xs : List V, SqT K H a xs ∧ xs.length ≤ i⟩
theorem turn_enumT {P : Program} {w : World} {K : PySem.W.Frag} {elts : List Expr} {kk : Nat} {tpos : Pos} (a e it : Addr) (items : Array Value) :
    Turn P w K (.Tuple elts kk tpos) (IteT K a) [e, it] e (fun i h => (∃ old, IsEnum h e it ((i : Nat) : Int) old) ∧ h.IsTupleIter it a i ∧ e ≠ it ∧ e ≠ a ∧ it ≠ a) where
  mem := List.mem_cons_self
  obj := fun i h st b hb => by
    obtain ⟨⟨old, he⟩, ⟨o, ho, _, hd⟩, _⟩ := st
    rcases List.mem_cons.mp hb with z | z
    · subst z; exact ⟨_, he, fun v q => nomatch q⟩
    · rw [List.mem_singleton.mp z]; exact ⟨o, ho, fun v q => by rw [hd] at q; cases q⟩
  keep := fun i h h' st k => by
    obtain ⟨⟨old, he⟩, hi, hn⟩ := st
    exact ⟨⟨old, k e (by simp) _ he⟩, hi.at fun o q => k it (by simp) o q, hn⟩
  item := by
    intro X hP hw hK hc i pins s σ H E I hf st hg
    subst hP hw hK
    obtain ⟨⟨old, he⟩, hit, n1, n2, n3⟩ := st
    obtain ⟨xs, x, hq, hx⟩ := hg
    obtain ⟨its, rv, pt, hz⟩ := I.tuple hq
    obtain ⟨u, hu, ru⟩ := rv.get hx
    have ht : s.heap.IsTuple a its.toArray := pt
    have hel : e < s.heap.objs.size := Heap.lt_size he
    have hil : it < s.heap.objs.size := by obtain ⟨_, q, _⟩ := hit; exact Heap.lt_size q
    have hlt : i < its.toArray.size := by
      have := (List.getElem?_eq_some_iff.mp hu).1
      simpa using this
    have Dr := Draws.tuple (prog := X.prog) (w := X.w) (A := X.A.in1) (by exact I.ok.hd hc) it a (Ne.symm n3) its.toArray
    refine wpAny_pyNext_enum_itemD (n := its.toArray.size) (St := fun i h => h.IsTupleIter it a i ∧ h.IsTuple a its.toArray) Dr he ⟨hit, ht⟩ hlt n1 (by simp [n1, n2]) fun y h' tk hy ho hst hT hsz hk => ?_
    have ey : y = u := by
      rw [List.getElem?_toArray, hu] at hy
      exact (Option.some.inj hy).symm
    subst ey
    refine ⟨_, rfl, wpAny_letOwnedTupleGo_enum (s := { s with heap := h', toks := tk + 1 }) ho fun h'' he' sb => ?_⟩
    have hT2 : h''.get? s.heap.objs.size = some { cls := .type "tuple", data := .seq #[.int i tk, y] } := (sb.2 _ (Nat.ne_of_gt hel)).trans hT
    have newo : ObjOk X.prog X.w (upd H s.heap.objs.size (.tup [.int (i : Nat), x])) h'' s.heap.objs.size (.tup [.int (i : Nat), x]) :=
      ⟨by show 2 ≤ sizeLine; decide, [.int i tk, y], .cons ⟨_, rfl⟩ (.cons ru .nil), ⟨_, hT2, rfl, _, rfl⟩⟩
    have I1 : Inv X pins σ (upd H s.heap.objs.size (.tup [.int (i : Nat), x])) { s with heap := h'', toks := tk + 1 } :=
      I.turnedNew (ch := [e, it]) (fun b ob hb q => (sb.2 b (fun z => hb (by simp [z]))).trans (hk b ob (fun z => hb (by simp [z])) (fun z => hb (by simp [z])) q)) hf (Nat.le_refl _) newo
    refine ⟨.ref s.heap.objs.size, _, I1, rfl, ⟨_, x, rfl, I.hok.fresh (Nat.le_refl _), rfl, fun ys hy => by rw [I.tuple_inj hy hq]; exact hx⟩, ⟨⟨y, ?_⟩, hst.1.at fun o q => (sb.2 it (Ne.symm n1)).trans q, n1, n2, n3⟩, fun b hb => ?_⟩
    · have e1 : ((i + 1 : Nat) : Int) = (i : Int) + 1 := by omega
      rw [e1]
      exact he'
    · have hb' : b < s.heap.objs.size := by
        rcases List.mem_cons.mp hb with z | z
        · rw [z]; exact hel
        · rw [List.mem_singleton.mp z]; exact hil
      rw [upd_ne (Nat.ne_of_lt hb')]
      exact (hf b hb).1
  done := by
    intro X hP hw hK hc i pins s σ H E I hf st hg
    subst hP hw hK
    obtain ⟨⟨old, he⟩, hit, n1, n2, n3⟩ := st
    obtain ⟨xs, hq, hx⟩ := hg
    obtain ⟨its, rv, pt, hz⟩ := I.tuple hq
    have ht : s.heap.IsTuple a its.toArray := pt
    obtain ⟨f0, f1, f2, f3, f4, f5⟩ := hf it (by simp)
    have hl := rv.length
    have hT : s.TypeIs (.ref e) "enumerate" := ⟨_, he, rfl⟩
    unfold pyNext
    refine wpAny_bind (wpAny_attempt (wpAny_callSpecial?_slot (name := Str.ofString "__next__") hT F.slot_enumerate_next (wpAny_call_entry F.slot_enumerate_next hT F.entry_enumerate_next ?_ (F.args_enumerate_next_1 _))))
    show wpAny _ _ (field (.ref e) 2 >>= _) _ _ _
    refine wpAny_bind (wpAny_field he rfl (x := .ref it) rfl ?_)
    refine wpAny_bind (wpAny_nextOf_tuple_end (A := X.A.in1) (by exact I.ok.hd hc) hit ht (by simp; omega) fun h' x he' hx' => ?_)
    obtain ⟨o, ho, hcl⟩ := hx'
    refine wpAny_bind (wpAny_isInstance (T := "StopIteration") (b := true) ⟨o, ho, hcl⟩ isSubtype_stop ?_)
    exact wpAny_pure ⟨rfl, I.turned (t' := s.toks) (fun b o hb q => he' b o hb q) f0 f1 f3 f4 f5⟩
  self := fun A i s Q E st h => by
    obtain ⟨⟨_, he⟩, _⟩ := st
    exact wpAny_pyIter_enum he h
def iEnumT (K : PySem.W.Frag) (ta : TA) : TI := fun σ H R => ta σ H fun vs H1 => ∃ a xs, vs = [.ref a] ∧ SqT K H1 a xs ∧ R (IteT K a) H1
theorem pi_enumT {X : Cx} {e : Expr} {ta : TA} {p pos tpos : Pos} {elts : List Expr} {kk : Nat} (hg : Gl X "enumerate") (hm : X.mg "enumerate" = none) (ha : PA X [e] ta) (hs : starEach [e] X.env = [(false, eval e X.env)]) :
    PI X (.Tuple elts kk tpos) (.Call (.Name "enumerate" p) [e] [] pos) (iEnumT X.K ta) := by
  refine ⟨fun pins s σ H R I h => ?_⟩
  refine PyProof.Rows.Call_ (ld_blt I hg hm PyProof.Rows.boot_enumerate (PyProof.Rows.callWith_type1 (thn (ha.run pos pins s σ H _ I h) fun us s1 ⟨vs, H1, I1, r1, q1⟩ => ?_) hs rfl))
  obtain ⟨a, xs, rfl, hq, q⟩ := q1
  cases r1 with
  | cons r rr =>
    cases rr
    cases r
    obtain ⟨its, rv, pt, hz⟩ := I1.tuple hq
    have ht : s1.heap.IsTuple a its.toArray := pt
    have hal : a < s1.heap.objs.size := by obtain ⟨o, e, _⟩ := id ht; exact Heap.lt_size e
    refine ev_call_enum (begins_tuple a its.toArray) ht fun hn he hit hsz hk => wpAny_pyIter_enum he ?_
    have I2 : Inv X pins σ H1 { s1 with heap := hn } := I1.kept (t' := s1.toks) hk
    refine ⟨s1.heap.objs.size + 1, [s1.heap.objs.size + 1, s1.heap.objs.size], _, _, H1, rfl, I2, turn_enumT a (s1.heap.objs.size + 1) s1.heap.objs.size its.toArray, ⟨⟨.none, he⟩, ⟨_, hit, rfl, rfl⟩, Nat.succ_ne_self _, Nat.ne_of_gt (Nat.lt_succ_of_lt hal), Nat.ne_of_gt hal⟩, fun b hb => ?_, q⟩
    have hle : s1.heap.objs.size ≤ b := by
      rcases List.mem_cons.mp hb with z | z
      · rw [z]; exact Nat.le_succ _
      · rw [List.mem_singleton.mp z]; exact Nat.le_refl _
    exact I1.fpOk hle (I1.hok.fresh hle)
theorem it_enumT {K : PySem.W.Frag} {N : Nm} {F : Addr → Prop} {r : List Addr} {H : Hp} {a : Addr} {xs : List D} {vs : List V} (ha : H a = some (.tup vs)) (q : RelL N F r H xs vs) : ItOk K N F r H (.all (enumL 0 xs)) (IteT K a) where
  stop := fun i F1 r1 H1 m1 x S e => by
    have e : (enumL 0 xs)[i]? = none := Option.some.inj e
    rw [enumL_get, Option.map_eq_none_iff] at e
    exact ⟨vs, SqT.of (x.tups _ _ ha), get_of_len q.length e⟩
  go := fun i d F1 r1 H1 m1 x S e => by
    have e : (enumL 0 xs)[i]? = some d := Option.some.inj e
    rw [enumL_get] at e
    obtain ⟨y, e1, _⟩ := opt_map_some e
    obtain ⟨u, e2, _⟩ := q.get e1
    exact ⟨vs, u, SqT.of (x.tups _ _ ha), e2⟩
  yld := fun i d F1 r1 H1 m1 v H2 x S e y => by
    have e : (enumL 0 xs)[i]? = some d := Option.some.inj e
    rw [enumL_get] at e
    obtain ⟨d1, e1, rfl⟩ := opt_map_some e
    obtain ⟨u, e2, q2⟩ := q.get e1
    obtain ⟨T, w, rfl, hT, rfl, y⟩ := y
    have e3 := y vs (SqT.of (x.tups _ _ ha))
    rw [e2] at e3; cases e3
    rw [Nat.zero_add]
    exact pair_rel S hT rfl (q2.ext x)
end Ev
/-! EvK3: zip of a list with a tuple (either way round). -/
namespace Ev
open PySem L2
/-- a list (true) or a tuple (false) -/
def SqB (K : PySem.W.Frag) (H : Hp) : Bool → Addr → List V → Prop
  | true, a, xs => SqL K H a xs
  | false, a, xs => SqT K H a xs
def ItB (h : Heap) : Bool → Addr → Addr → Nat → Prop
  | true, it, l, i => h.IsListIter it l i
  | false, it, l, i => h.IsTupleIter it l i
def SeB (h : Heap) : Bool → Addr → Array Value → Prop
  | true, l, xs => h.IsList l xs
  | false, l, xs => h.IsTuple l xs
theorem ItB.at {h h' : Heap} : ∀ {b : Bool} {it l : Addr} {i : Nat}, ItB h b it l i → (∀ o, h.get? it = some o → h'.get? it = some o) → ItB h' b it l i
  | true, _, _, _, x, k => Heap.IsListIter.at x k
  | false, _, _, _, x, k => Heap.IsTupleIter.at x k
theorem ItB.obj {h : Heap} : ∀ {b : Bool} {it l : Addr} {i : Nat}, ItB h b it l i → ∃ o, h.get? it = some o ∧ ∃ fs, o.data = .fields fs
  | true, _, _, _, ⟨o, e, _, d⟩ => ⟨o, e, _, d⟩
  | false, _, _, _, ⟨o, e, _, d⟩ => ⟨o, e, _, d⟩
theorem drawB {prog : Program} {w : World} {A : Around} (hh : A.handled = none) {it l : Addr} (hne : l ≠ it) (items : Array Value) : ∀ b : Bool,
    Draws prog w A it [it, l] items.size (fun i v => items[i]? = some v) (fun i h => ItB h b it l i ∧ SeB h b l items)
  | true => Draws.list hh it l hne items
  | false => Draws.tuple hh it l hne items
/-- the iterator from the place i on, its end at i where the items end there -/
theorem drawE {prog : Program} {w : World} {A : Around} (hh : A.handled = none) {it l : Addr} (hne : l ≠ it) (items : Array Value) (b : Bool) (i : Nat) :
    ∃ n P St, Draws prog w A it [it, l] n P St ∧ (∀ h, ItB h b it l i → SeB h b l items → St i h) ∧ i ≤ n ∧ (items.size ≤ i → i = n) := by
  by_cases hi : i < items.size
  · exact ⟨_, _, _, drawB hh hne items b, fun h x y => ⟨x, y⟩, Nat.le_of_lt hi, fun z => absurd hi (Nat.not_lt.mpr z)⟩
  · refine ⟨i, fun _ _ => True, fun j h => j = i ∧ ItB h b it l i ∧ SeB h b l items, ⟨?_, ?_, ?_, ?_⟩, fun h x y => ⟨rfl, x, y⟩, Nat.le_refl _, fun _ => rfl⟩
    · intro j h st
      obtain ⟨o, e, _⟩ := st.2.1.obj
      exact ⟨o, e⟩
    · intro j h h' st k
      refine ⟨st.1, st.2.1.at fun o e => k it (by simp) o e, ?_⟩
      cases b with
      | true => exact Heap.IsList.at st.2.2 fun o e => k l (by simp) o e
      | false => exact Heap.IsTuple.at st.2.2 fun o e => k l (by simp) o e
    · intro j s Q E hj st
      exact absurd hj (by rw [st.1]; exact Nat.lt_irrefl _)
    · intro s Q E st hE
      obtain ⟨_, x, y⟩ := st
      cases b with
      | true => exact wpAny_nextOf_list_end hh x y (by simp; omega) hE
      | false => exact wpAny_nextOf_tuple_end hh x y (by simp; omega) hE
theorem zipSep {z TI TO i1 i2 a b : Addr} (D : ZipApart z TI TO i1 i2 a b) : ZipSep2 z TI TO i1 i2 [i1, a] [i2, b] where
  TIz := D.TIz
  TOz := D.TOz
  TITO := D.TITO
  TIi1 := D.TIi1
  mem1 := by simp
  zf1 := by simp [D.i1z.symm, D.l1z.symm]
  Tf1 := by simp [D.TOi1, D.l1TO.symm]
  TIi2 := D.TIi2
  mem2 := by simp
  zf2 := by simp [D.i2z.symm, D.l2z.symm]
  Tf2 := by simp [D.TOi2, D.l2TO.symm]
  sep1_2 := by simp [D.i12, D.l2i1.symm]
  sep2_1 := by simp [D.i12.symm, D.l1i2.symm]
theorem seqB {X : Cx} {pins : List (Addr × Obj)} {σ : L2.St} {H : Hp} {s : Shared} (I : Inv X pins σ H s) : ∀ {b : Bool} {a : Addr} {xs : List V}, SqB X.K H b a xs → ∃ its : List Value, Vals xs its ∧ SeB s.heap b a its.toArray
  | true, _, _, h => by
    obtain ⟨its, rv, p, _⟩ := I.list h
    exact ⟨its, rv, p.isList⟩
  | false, _, _, h => by
    obtain ⟨its, rv, p, _⟩ := I.tuple h
    exact ⟨its, rv, p⟩
theorem seqB_inj {X : Cx} {pins : List (Addr × Obj)} {σ : L2.St} {H : Hp} {s : Shared} (I : Inv X pins σ H s) : ∀ {b : Bool} {a : Addr} {xs ys : List V}, SqB X.K H b a xs → SqB X.K H b a ys → xs = ys
  | true, _, _, _, h, h' => I.list_inj h h'
  | false, _, _, _, h, h' => I.tuple_inj h h'
theorem seqB_lt {h : Heap} : ∀ {b : Bool} {a : Addr} {xs : Array Value}, SeB h b a xs → a < h.objs.size
  | true, _, _, x => by obtain ⟨o, e, _⟩ := x; exact Heap.lt_size e
  | false, _, _, x => by obtain ⟨o, e, _⟩ := x; exact Heap.lt_size e
/-- the sequences at a and b as they stand at each turn, the items in new pairs -/
def ItzM (K : PySem.W.Frag) (p q : Bool) (a b : Addr) : It :=
  ⟨fun i H => ∃ (xs ys : List V) (x y : V), SqB K H p a xs ∧ SqB K H q b ys ∧ xs[i]? = some x ∧ ys[i]? = some y,
    fun i H v H' => ∃ T x y, v = .ref T ∧ H T = none ∧ H' = upd H T (.tup [x, y]) ∧ (∀ xs, SqB K H p a xs → xs[i]? = some x) ∧ ∀ ys, SqB K H q b ys → ys[i]? = some y,
    fun i H => ∃ xs ys : List V, SqB K H p a xs ∧ SqB K H q b ys ∧ (xs.length ≤ i ∨ ys.length ≤ i)⟩
theorem turn_zipM {P : Program} {w : World} {K : PySem.W.Frag} {elts : List Expr} {kk : Nat} {tpos : Pos} {p q : Bool} {a b z TI TO i1 i2 : Addr} (D : ZipApart z TI TO i1 i2 a b) :
    Turn P w K (.Tuple elts kk tpos) (ItzM K p q a b) [z, TI, TO, i1, i2] z (fun i h => IsZip h z TI TO .none ∧ IsPair h TI (.ref i1) (.ref i2) ∧ (∃ x y, IsPair h TO x y) ∧ ItB h p i1 a i ∧ ItB h q i2 b i) where
  mem := by simp
  obj := fun i h st c hc => by
    obtain ⟨hz, hTI, ⟨x, y, hTO⟩, h1, h2⟩ := st
    obtain ⟨o1, e1, f1, d1⟩ := h1.obj
    obtain ⟨o2, e2, f2, d2⟩ := h2.obj
    have e' : c = z ∨ c = TI ∨ c = TO ∨ c = i1 ∨ c = i2 := by simpa using hc
    rcases e' with q | q | q | q | q
    · rw [q]; exact ⟨_, hz, fun v q => nomatch q⟩
    · rw [q]; exact ⟨_, hTI, fun v q => nomatch q⟩
    · rw [q]; exact ⟨_, hTO, fun v q => nomatch q⟩
    · rw [q]; exact ⟨o1, e1, fun v q => by rw [d1] at q; cases q⟩
    · rw [q]; exact ⟨o2, e2, fun v q => by rw [d2] at q; cases q⟩
  keep := fun i h h' st k => by
    obtain ⟨hz, hTI, ⟨x, y, hTO⟩, h1, h2⟩ := st
    exact ⟨k z (by simp) _ hz, k TI (by simp) _ hTI, ⟨x, y, k TO (by simp) _ hTO⟩, h1.at fun o q => k i1 (by simp) o q, h2.at fun o q => k i2 (by simp) o q⟩
  item := by
    intro X hP hw hK hc i pins s σ H E I hf st hg
    subst hP hw hK
    obtain ⟨hz, hTI, ⟨x0, y0, hTO⟩, h1, h2⟩ := st
    obtain ⟨xs, ys, x, y, hqx, hqy, hx, hy⟩ := hg
    obtain ⟨its, rv, p1⟩ := seqB I hqx
    obtain ⟨its2, rv2, p2⟩ := seqB I hqy
    obtain ⟨u, hu, ru⟩ := rv.get hx
    obtain ⟨u2, hu2, ru2⟩ := rv2.get hy
    have hzl : z < s.heap.objs.size := Heap.lt_size hz
    have hn : X.A.in1.handled = none := by exact I.ok.hd hc
    have hlt1 : i < its.toArray.size := by simpa using (List.getElem?_eq_some_iff.mp hu).1
    have hlt2 : i < its2.toArray.size := by simpa using (List.getElem?_eq_some_iff.mp hu2).1
    refine wpAny_pyNext_zipD2_item (zipSep D) (drawB hn D.l1i1 its.toArray p) (drawB hn D.l2i2 its2.toArray q) hz hTI hTO ⟨h1, p1⟩ ⟨h2, p2⟩ hlt1 hlt2 fun v1 v2 h' tk g1 g2 z' TO' s1' s2' hT hsz hk => ?_
    have e1 : v1 = u := by
      rw [List.getElem?_toArray, hu] at g1
      exact (Option.some.inj g1).symm
    have e2 : v2 = u2 := by
      rw [List.getElem?_toArray, hu2] at g2
      exact (Option.some.inj g2).symm
    subst e1
    subst e2
    have h1' := s1'.1
    have h2' := s2'.1
    refine ⟨_, rfl, wpAny_letOwnedTupleGo_zip (s := { s with heap := h', toks := tk }) z' fun h'' z'' sb => ?_⟩
    have hT2 : h''.get? s.heap.objs.size = some { cls := .type "tuple", data := .seq #[v1, v2] } := (sb.2 _ (Nat.ne_of_gt hzl)).trans hT
    have new : ObjOk X.prog X.w (upd H s.heap.objs.size (.tup [x, y])) h'' s.heap.objs.size (.tup [x, y]) :=
      ⟨by show 2 ≤ sizeLine; decide, [v1, v2], .cons ru (.cons ru2 .nil), ⟨_, hT2, rfl, _, rfl⟩⟩
    have I1 : Inv X pins σ (upd H s.heap.objs.size (.tup [x, y])) { s with heap := h'', toks := tk } :=
      I.turnedNew (t' := tk) (ch := [z, TI, TO, i1, i2]) (fun c o hb q => (sb.2 c (fun q' => hb (by simp [q']))).trans (hk c o (fun q' => hb (by simp [q'])) (fun q' => hb (by simp [q'])) (fun q' => hb (by simp [q'])) (fun q' => hb (by simp [q'])) q)) hf (Nat.le_refl _) new
    refine ⟨.ref s.heap.objs.size, _, I1, rfl, ⟨_, x, y, rfl, I.hok.fresh (Nat.le_refl _), rfl, fun l hl => by rw [seqB_inj I hl hqx]; exact hx, fun l hl => by rw [seqB_inj I hl hqy]; exact hy⟩, ⟨z'', ?_, ⟨v1, v2, ?_⟩, ?_, ?_⟩, fun c hcm => ?_⟩
    · exact (sb.2 _ D.TIz).trans (hk _ _ D.TIz D.TITO D.TIi1 D.TIi2 hTI)
    · exact (sb.2 _ D.TOz).trans TO'
    · exact h1'.at fun o q => (sb.2 _ D.i1z).trans q
    · exact h2'.at fun o q => (sb.2 _ D.i2z).trans q
    · have hlt : c < s.heap.objs.size := by
        have e' : c = z ∨ c = TI ∨ c = TO ∨ c = i1 ∨ c = i2 := by simpa using hcm
        rcases e' with q | q | q | q | q
        · rw [q]; exact hzl
        · rw [q]; exact Heap.lt_size hTI
        · rw [q]; exact Heap.lt_size hTO
        · rw [q]; obtain ⟨_, e1, _⟩ := h1.obj; exact Heap.lt_size e1
        · rw [q]; obtain ⟨_, e2, _⟩ := h2.obj; exact Heap.lt_size e2
      rw [upd_ne (Nat.ne_of_lt hlt)]
      exact (hf c hcm).1
  done := by
    intro X hP hw hK hc i pins s σ H E I hf st hg
    subst hP hw hK
    obtain ⟨hz, hTI, ⟨x0, y0, hTO⟩, h1, h2⟩ := st
    obtain ⟨xs, ys, hqx, hqy, hend⟩ := hg
    obtain ⟨its, rv, p1⟩ := seqB I hqx
    obtain ⟨its2, rv2, p2⟩ := seqB I hqy
    have l1 := rv.length
    have l2 := rv2.length
    have hn : X.A.in1.handled = none := by exact I.ok.hd hc
    obtain ⟨n1, P1, S1, D1, f1, le1, z1⟩ := drawE (prog := X.prog) (w := X.w) hn D.l1i1 its.toArray p i
    obtain ⟨n2, P2, S2, D2, f2, le2, z2⟩ := drawE (prog := X.prog) (w := X.w) hn D.l2i2 its2.toArray q i
    have he : i = n1 ∨ i = n2 := by
      rcases hend with q | q
      · exact .inl (z1 (by simp; omega))
      · exact .inr (z2 (by simp; omega))
    exact wpAny_pyNext_zipD2_end (zipSep D) D1 D2 hz hTI hTO (f1 _ h1 p1) (f2 _ h2 p2) le1 le2 he fun h' tk hk => ⟨rfl, I.turnedL (t' := tk) (ch := [z, TI, TO, i1, i2]) (fun c o hb q =>
      hk c o (fun q' => hb (by simp [q'])) (fun q' => hb (by simp [q'])) (fun q' => hb (by simp [q'])) (fun q' => hb (by simp [q'])) q) hf⟩
  self := fun A i s Q E st h => wpAny_pyIter_zip st.1 h
def begO : Bool → Addr → Obj
  | true, a => { cls := .type "list_iterator", data := .fields #[.ref a, .int 0 0] }
  | false, a => { cls := .type "tuple_iterator", data := .fields #[.ref a, .int 0 0] }
theorem beginsB (a : Addr) (items : Array Value) : ∀ b : Bool, Begins (.ref a) (begO b a) fun h => SeB h b a items
  | true => begins_list a items
  | false => begins_tuple a items
theorem begO_it {h : Heap} {it a : Addr} : ∀ {b : Bool}, h.get? it = some (begO b a) → ItB h b it a 0
  | true, e => ⟨_, e, rfl, rfl⟩
  | false, e => ⟨_, e, rfl, rfl⟩
/-- zip of two sequences: two lists, two tuples, or one of each -/
def iZipM (K : PySem.W.Frag) (ta : TA) : TI := fun σ H R => ta σ H fun vs H1 => ∃ a b xs ys p q, vs = [.ref a, .ref b] ∧ SqB K H1 p a xs ∧ SqB K H1 q b ys ∧ R (ItzM K p q a b) H1
theorem pi_zipM {X : Cx} {e e2 : Expr} {ta : TA} {p pos tpos : Pos} {elts : List Expr} {kk : Nat} (hg : Gl X "zip") (hm : X.mg "zip" = none) (ha : PA X [e, e2] ta)
    (hs : starEach [e, e2] X.env = (false, eval e X.env) :: starEach [e2] X.env := by rfl) (hpl : (backTo pos (starEach [e2] X.env)).any (·.1) = false := by rfl) :
    PI X (.Tuple elts kk tpos) (.Call (.Name "zip" p) [e, e2] [] pos) (iZipM X.K ta) := by
  refine ⟨fun pins s σ H R I h => ?_⟩
  refine PyProof.Rows.Call_ (ld_blt I hg hm PyProof.Rows.boot_zip (PyProof.Rows.callWith_type1 (thn (ha.run pos pins s σ H _ I h) fun us s1 ⟨vs, H1, I1, r1, q1⟩ => ?_) hs hpl))
  obtain ⟨a, b, xs, ys, pp, qq, ex, hqx, hqy, q⟩ := q1
  subst ex
  cases r1 with
  | cons r rr =>
    cases rr with
    | cons r' rr =>
      cases rr
      cases r
      cases r'
      have fresh5 : ∀ c, c ∈ [s1.heap.objs.size + 4, s1.heap.objs.size + 2, s1.heap.objs.size + 3, s1.heap.objs.size, s1.heap.objs.size + 1] → FpOk X pins H1 c := fun c hcm => by
        have e' : c = s1.heap.objs.size + 4 ∨ c = s1.heap.objs.size + 2 ∨ c = s1.heap.objs.size + 3 ∨ c = s1.heap.objs.size ∨ c = s1.heap.objs.size + 1 := by simpa using hcm
        have hle : s1.heap.objs.size ≤ c := by
          rcases e' with z | z | z | z | z <;> rw [z] <;> omega
        exact I1.fpOk hle (I1.hok.fresh hle)
      obtain ⟨its, rv, p1⟩ := seqB I1 hqx
      obtain ⟨its2, rv2, p2⟩ := seqB I1 hqy
      refine zip_begins2 (beginsB a its.toArray pp) (beginsB b its2.toArray qq) p1 p2 fun h' hz hTI hTO h1 h2 hsz hk => wpAny_pyIter_zip hz ?_
      have I2 : Inv X pins σ H1 { s1 with heap := h' } := I1.kept (t' := s1.toks) hk
      exact ⟨s1.heap.objs.size + 4, [s1.heap.objs.size + 4, s1.heap.objs.size + 2, s1.heap.objs.size + 3, s1.heap.objs.size, s1.heap.objs.size + 1], _, _, H1, rfl, I2, turn_zipM (PySem.W.ktu_apart s1.heap.objs.size a b (seqB_lt p1) (seqB_lt p2)), ⟨hz, hTI, ⟨_, _, hTO⟩, begO_it h1, begO_it h2⟩, fresh5, q⟩
section
variable {K : PySem.W.Frag} {N : Nm} {F : Addr → Prop} {r : List Addr} {H : Hp} {m : Mem}
/-- a sequence keeps its place and its kind; its items are those of the memory -/
theorem seqAt_rel {d : D} {v : V} {xs : List D} (q : RelD N F r H d v) (e : seqAt d m = some xs) : ∃ (a : Addr) (b : Bool), v = .ref a ∧
    ∀ F1 r1 H1 m1 ys, Ext F r H F1 r1 H1 → Sim K N F1 r1 m1 H1 → seqAt d m1 = some ys → ∃ vs, SqB K H1 b a vs ∧ RelL N F1 r1 H1 ys vs := by
  cases d with
  | tup zs =>
    obtain ⟨a, vs, rfl, hA, l⟩ := q
    refine ⟨a, false, rfl, fun F1 r1 H1 m1 ys x S e => ?_⟩
    cases (show some zs = some ys from e)
    exact ⟨vs, SqT.of (x.tups _ _ hA), l.ext x⟩
  | lst zs =>
    obtain ⟨a, vs, rfl, hF, hA, l⟩ := q
    refine ⟨a, true, rfl, fun F1 r1 H1 m1 ys x S e => ?_⟩
    cases (show some zs = some ys from e)
    exact ⟨vs, .inl (x.rd hF hA), l.ext x⟩
  | ref k =>
    obtain ⟨a, hi, rfl⟩ := q
    refine ⟨a, true, rfl, fun F1 r1 H1 m1 ys x S e => ?_⟩
    unfold seqAt at e
    dsimp only at e
    split at e
    · rename_i zs em
      cases e
      obtain ⟨vs, eH, l⟩ := S.ref em (x.get hi)
      exact ⟨vs, SqL.of eH, l⟩
    · cases e
  | _ => cases e
theorem getZ_some {x y : D} {m : Mem} {i : Nat} {o : Option D} (e : getZ x y m i = some o) : ∃ xs ys, seqAt x m = some xs ∧ seqAt y m = some ys ∧ (zipL xs ys)[i]? = o := by
  unfold getZ at e
  split at e
  · rename_i xs ys e1 e2
    cases e
    exact ⟨xs, ys, e1, e2, rfl⟩
  · cases e
theorem it_zipM {x y : D} {its : Ev.Its} {p q : Bool} {a b : Addr} (hat : ∀ m1 i, its.at m1 i = getZ x y m1 i)
    (ka : ∀ F1 r1 H1 m1 ys, Ext F r H F1 r1 H1 → Sim K N F1 r1 m1 H1 → seqAt x m1 = some ys → ∃ vs, SqB K H1 p a vs ∧ RelL N F1 r1 H1 ys vs)
    (kb : ∀ F1 r1 H1 m1 ys, Ext F r H F1 r1 H1 → Sim K N F1 r1 m1 H1 → seqAt y m1 = some ys → ∃ vs, SqB K H1 q b vs ∧ RelL N F1 r1 H1 ys vs) : ItOk K N F r H its (ItzM K p q a b) where
  stop := fun i F1 r1 H1 m1 x S e => by
    rw [hat] at e
    obtain ⟨xs, ys, e1, e2, e⟩ := getZ_some e
    obtain ⟨vs, s1, l1⟩ := ka _ _ _ _ _ x S e1
    obtain ⟨ws, s2, l2⟩ := kb _ _ _ _ _ x S e2
    exact ⟨vs, ws, s1, s2, zip_none l1.length l2.length e⟩
  go := fun i d F1 r1 H1 m1 x S e => by
    rw [hat] at e
    obtain ⟨xs, ys, e1, e2, e⟩ := getZ_some e
    obtain ⟨vs, s1, l1⟩ := ka _ _ _ _ _ x S e1
    obtain ⟨ws, s2, l2⟩ := kb _ _ _ _ _ x S e2
    obtain ⟨d1, d2, e3, e4, rfl⟩ := zip_some e
    obtain ⟨u, e5, _⟩ := l1.get e3
    obtain ⟨w, e6, _⟩ := l2.get e4
    exact ⟨vs, ws, u, w, s1, s2, e5, e6⟩
  yld := fun i d F1 r1 H1 m1 v H2 x S e y => by
    rw [hat] at e
    obtain ⟨xs, ys, e1, e2, e⟩ := getZ_some e
    obtain ⟨vs, s1, l1⟩ := ka _ _ _ _ _ x S e1
    obtain ⟨ws, s2, l2⟩ := kb _ _ _ _ _ x S e2
    obtain ⟨d1, d2, e3, e4, rfl⟩ := zip_some e
    obtain ⟨u, e5, q3⟩ := l1.get e3
    obtain ⟨w, e6, q4⟩ := l2.get e4
    obtain ⟨T, x1, y1, rfl, hT, rfl, y, z⟩ := y
    have e7 := y vs s1
    rw [e5] at e7; cases e7
    have e8 := z ws s2
    rw [e6] at e8; cases e8
    exact pair_rel S hT q3 q4
theorem seqAt_any {x : D} {m m1 : Mem} {xs : List D} (h : isRf x = false) (e : seqAt x m = some xs) : seqAt x m1 = some xs := by
  cases x with
  | ref k => cases h
  | tup zs => exact e
  | lst zs => exact e
  | _ => cases e
theorem it_zipI {x y : D} {v u : V} {its : Ev.Its} (S : Sim K N F r m H) (q1 : RelD N F r H x v) (q2 : RelD N F r H y u) (e : zipI x y m = some its) :
    ∃ (a b : Addr) (p q : Bool) (vs ws : List V), v = .ref a ∧ u = .ref b ∧ SqB K H p a vs ∧ SqB K H q b ws ∧ ItOk K N F r H its (ItzM K p q a b) := by
  unfold zipI at e
  split at e
  · rename_i xs ys e1 e2
    cases e
    obtain ⟨a, p, rfl, ka⟩ := seqAt_rel (N := N) q1 e1
    obtain ⟨b, q, rfl, kb⟩ := seqAt_rel (N := N) q2 e2
    obtain ⟨vs, s1, _⟩ := ka _ _ _ _ _ (Ext.refl _ _ _) S e1
    obtain ⟨ws, s2, _⟩ := kb _ _ _ _ _ (Ext.refl _ _ _) S e2
    refine ⟨a, b, p, q, vs, ws, rfl, rfl, s1, s2, it_zipM (fun m1 i => ?_) ka kb⟩
    cases hr : (isRf x || isRf y) with
    | true => rfl
    | false =>
      rw [Bool.or_eq_false_iff] at hr
      show some _ = getZ x y m1 i
      unfold getZ
      rw [seqAt_any hr.1 e1, seqAt_any hr.2 e2]
  · cases e
end
end Ev
/-! EvK4: x[::-1] of a list or a tuple. -/
namespace HT
open PySem PySem.Spec PyProof.Rows
section
variable {prog : Program} {w : World} {A : Around} {E : Value → Shared → Prop} {s : Shared}
theorem revPick (xs : Array Value) : ((List.range xs.size).filterMap fun (m : Nat) => xs[(((xs.size : Int) - 1) + (m : Int) * (-1)).toNat]?).toArray = xs.toList.reverse.toArray := by
  have e : (fun (m : Nat) => xs[(((xs.size : Int) - 1) + (m : Int) * (-1)).toNat]?) = (fun x => xs[x]?) ∘ fun k => xs.size - 1 - k := by
    funext m
    show _ = xs[xs.size - 1 - m]?
    congr 1
    omega
  rw [e, ← List.filterMap_map, PySem.W.krv_range, List.filterMap_reverse, PySem.W.krv_all]
theorem revPlaces (n : Nat) : Builtin.Slice.slicePlaces ((n : Int) - 1) (-1) (-1) = n := by
  unfold Builtin.Slice.slicePlaces
  have h1 : ¬ ((-1 : Int) > 0) := by omega
  rw [if_neg h1]
  split
  · rw [show (- -1 : Int) = 1 by decide, Int.ediv_one]
    omega
  · omega
theorem sliceApplied_rev {sl : Addr} {vs : Value} {n : Nat} {Q : Int × Int × Nat → Shared → Prop} (hs : s.heap.IsSliceOf sl .none .none vs) (ps : IsPart vs (some (-1))) (h : Q ((n : Int) - 1, -1, n) s) : wpAny (model prog w) A (Builtin.Slice.sliceApplied (.ref sl) (pure (n : Int))) Q E s := by
  obtain ⟨os, hos, hcs, hds⟩ := id hs
  unfold Builtin.Slice.sliceApplied Builtin.Slice.sliceFields
  refine wpAny_bind (wpAny_bind (wpAny_field hos hds (x := .none) rfl (wpAny_bind (wpAny_field hos hds (x := .none) rfl (wpAny_bind (wpAny_field hos hds (x := vs) rfl (wpAny_pure ?_)))))))
  refine wpAny_bind (slicePart_ ps ?_)
  show wpAny _ _ (if ((-1 : Int) == 0) = true then _ else _) _ _ s
  rw [if_neg (by decide)]
  refine wpAny_bind (slicePart_none (wpAny_bind (slicePart_none (wpAny_bind (wpAny_pure ?_)))))
  show wpAny _ _ (match Builtin.Slice.sliceAdjust none none (-1) (n : Int) with | (lo, hi) => pure (lo, (-1 : Int), Builtin.Slice.slicePlaces lo hi (-1))) _ _ s
  show wpAny _ _ (pure ((n : Int) - 1, (-1 : Int), Builtin.Slice.slicePlaces ((n : Int) - 1) (-1) (-1))) _ _ s
  rw [revPlaces]
  exact wpAny_pure h
theorem getItem_tuple_rev {t sl : Addr} {items : Array Value} {vs : Value} {Q : Value → Shared → Prop} (ht : IsTup s.heap t items) (hs : s.heap.IsSliceOf sl .none .none vs) (ps : IsPart vs (some (-1)))
    (h : Q (.ref s.heap.objs.size) { s with heap := s.heap.push { cls := .type "tuple", data := .seq items.toList.reverse.toArray } })
    (hsz : items.size ≤ sizeLine) : wpAny (model prog w) A (getItem (.ref t) (.ref sl)) Q E s := by
  have htake : sizeOk (.seq items.toList.reverse.toArray) := by
    show items.toList.reverse.toArray.size ≤ sizeLine
    rw [List.size_toArray, List.length_reverse, Array.length_toList]
    exact hsz
  obtain ⟨os, hos, hcs, hds⟩ := id hs
  have hTs : s.TypeIs (.ref sl) "slice" := ⟨os, hos, hcs⟩
  unfold getItem
  try with_reducible refine wpAny_holding ?_
  first | refine wpAny_bind (wpAny_pure ?_) | skip
  refine wpAny_bind (wpAny_sequenceKey ht.typeIs (by decide) ?_)
  refine wpAny_bind (wpAny_callSpecial?_slot (name := Str.ofString "__getitem__") ht.typeIs PyProof.Rows.slot_tuple_getitem
    (wpAny_call_entry PyProof.Rows.slot_tuple_getitem ht.typeIs entry_tuple_getitem ?_ (args_tuple_getitem _ _)))
  show wpAny _ _ (Builtin.Tuple.tupleItemsOf (.ref t) >>= _) _ _ s
  refine wpAny_bind (tupleItemsOf_ ht ?_)
  refine wpAny_bind (wpAny_typeOf hTs ?_)
  rw [if_pos (by decide)]
  refine wpAny_bind (sliceApplied_rev hs ps ?_)
  have hno : ¬ (((((items.size : Nat) : Int) - 1) == 0 && (-1 : Int) == 1 && items.size == items.size) = true) := by
    intro q
    rw [Bool.and_eq_true, Bool.and_eq_true] at q
    exact absurd q.1.2 (by decide)
  show wpAny _ _ (if ((((items.size : Nat) : Int) - 1) == 0 && (-1 : Int) == 1 && items.size == items.size) = true then _ else _) _ _ s
  rw [if_neg hno, revPick]
  first
    | exact wpAny_bind (m := Builtin.Tuple.tupleExact _) (wpAny_newObj_type (wpAny_pure ⟨_, rfl, wpAny_pure h⟩) htake)
    | exact wpAny_bind (m := Builtin.Tuple.tupleExact _) (wpAny_newObj_type (wpAny_bind (wpAny_pure (wpAny_pure ⟨_, rfl, wpAny_pure h⟩))) htake)
    | exact wpAny_bind (wpAny_bind (m := Builtin.Tuple.tupleExact _) (wpAny_newObj_type (wpAny_pure (wpAny_pure ⟨_, rfl, wpAny_pure h⟩)) htake))
    | exact wpAny_bind (wpAny_bind (m := Builtin.Tuple.tupleExact _) (wpAny_newObj_type (wpAny_pure ⟨_, rfl, wpAny_pure h⟩) htake))
end
end HT
namespace Ev
open PySem PySem.Spec PyProof.Rows L2
section
variable {X : Cx}
def tRevA (K : PySem.W.Frag) (te : TE) : TE := fun σ H Q => te σ H fun x H1 => ∃ a xs, x = .ref a ∧ ((SqL K H1 a xs ∧ ∀ p, H1 p = none → Q (.ref p) (upd H1 p (.lst xs.reverse))) ∨ (SqT K H1 a xs ∧ ∀ p, H1 p = none → Q (.ref p) (upd H1 p (.tup xs.reverse))))
theorem pe_revA {e : Expr} {te : TE} {k : Nat} {p1 p2 p3 pos : Pos} (he : PE X e te) : PE X (.Subscript e (.Slice none none (some (.UnaryOp .USub (.Constant (.int 1) k p1) p2)) p3) pos) (tRevA X.K te) := by
  refine ⟨fun pins s σ H Q I h => ?_⟩
  refine Subscript_ (thn (he.run pins s σ H _ I h) fun v s1 ⟨x, H1, I1, r1, q1⟩ => ?_)
  obtain ⟨a, xs, ex, hq⟩ := q1
  subst ex
  cases r1
  have hst : PO X (some (.UnaryOp .USub (.Constant (.int 1) k p1) p2)) (tPart (tUn (rU fun i => .int (-i)) (tC (.int 1)))) := po_some (pe_un un_neg pe_int)
  refine wpAny_Slice (thn (po_none.run pins s1 σ H1 (fun o H2 => o = none ∧ H2 = H1) I1 ⟨rfl, rfl⟩) fun vl s2 ⟨l, H2, I2, pl, el, e2⟩ => ?_)
  subst el e2
  refine thn (po_none.run pins s2 σ H2 (fun o H3 => o = none ∧ H3 = H2) I2 ⟨rfl, rfl⟩) fun vu s3 ⟨u, H3, I3, pu, eu, e3⟩ => ?_
  subst eu e3
  refine thn (hst.run pins s3 σ H3 (fun o H4 => o = some (-1) ∧ H4 = H3) I3 ⟨1, rfl, -1, rfl, rfl, rfl⟩) fun vs s4 ⟨o, H4, I4, ps, eo, e4⟩ => ?_
  subst eo e4
  have I5 : Inv X pins σ H4 { s4 with heap := s4.heap.push { cls := .type "slice", data := .fields #[vl, vu, vs] } } := I4.kept (t' := s4.toks) fun b ob q => Heap.get?_push_of_some _ q
  show wpAny (model X.prog X.w) X.A (subscriptTail e (.Slice none none (some (.UnaryOp .USub (.Constant (.int 1) k p1) p2)) p3) (.ref a) (.ref s4.heap.objs.size)) (EP X pins σ Q) X.xe { s4 with heap := s4.heap.push { cls := .type "slice", data := .fields #[vl, vu, vs] } }
  rcases hq with ⟨hx, q⟩ | ⟨hx, q⟩
  · obtain ⟨its, r, ht, hz⟩ := I5.list hx
    have hlen := r.length
    refine tail_any (ops := [.ref a, .ref s4.heap.objs.size]) ht.isList.typeIs (PySem.slot_list_getitem.lookup) ?_ (by with_unfolding_all rfl)
    refine wpAny_getItem_list_slice ht.isList (Heap.IsSliceOf.new _ vl vu vs) pl pu ps (by decide) ?_ (by rw [List.size_toArray]; omega)
    rw [PySem.W.krv_pick]
    refine ⟨.ref _, _, I5.laid (t' := s4.toks) (o := .lst xs.reverse) (fun b ob q => Heap.get?_push_of_some _ q) (Nat.le_refl _) ?_, rfl, q _ (I5.hok.fresh (Nat.le_refl _))⟩
    exact ⟨by rw [List.length_reverse]; exact hz, _, 0, r.reverse, Heap.get?_push_size _ rfl⟩
  · obtain ⟨its, r, ht, hz⟩ := I5.tuple hx
    have hlen := r.length
    cases pl
    cases pu
    refine tail_any (ops := [.ref a, .ref s4.heap.objs.size]) ht.typeIs PyProof.Rows.slot_tuple_getitem.lookup ?_ (by with_unfolding_all rfl)
    refine HT.getItem_tuple_rev ht (Heap.IsSliceOf.new _ .none .none vs) ps ?_ (by rw [List.size_toArray]; omega)
    refine ⟨.ref _, _, I5.laid (t' := s4.toks) (o := .tup xs.reverse) (fun b ob q => Heap.get?_push_of_some _ q) (Nat.le_refl _) ?_, rfl, q _ (I5.hok.fresh (Nat.le_refl _))⟩
    exact ⟨by rw [List.length_reverse]; exact hz, _, r.reverse, IsTup.new _ _⟩
end
end Ev
/-! EvK5: x[::s] of a tuple, s above nought. -/
namespace HT
open PySem PySem.Spec PyProof.Rows
theorem stepL_one {α : Type} (xs : List α) : Ev.stepL xs 1 = xs := by
  unfold Ev.stepL
  have e : Builtin.Slice.slicePlaces 0 (xs.length : Int) 1 = xs.length := by
    unfold Builtin.Slice.slicePlaces
    rw [if_pos (by decide)]
    split
    · rw [Int.ediv_one]; omega
    · omega
  rw [e]
  have : (fun (m : Nat) => xs[((0 : Int) + (m : Int) * 1).toNat]?) = fun m => xs[m]? := by
    funext m
    congr 1
    omega
  rw [this]
  refine List.ext_getElem? fun i => ?_
  induction xs generalizing i with
  | nil => rfl
  | cons x xs ih =>
    rw [List.length_cons, List.range_succ_eq_map, List.filterMap_cons]
    show (x :: _)[i]? = _
    rw [List.filterMap_map]
    cases i with
    | zero => rfl
    | succ i =>
      show ((List.range xs.length).filterMap fun m => (x :: xs)[m + 1]?)[i]? = xs[i]?
      have h := ih (by
        unfold Builtin.Slice.slicePlaces
        rw [if_pos (by decide)]
        split
        · rw [Int.ediv_one]; omega
        · omega) (by funext m; congr 1; omega) i
      exact h
section
variable {prog : Program} {w : World} {A : Around} {E : Value → Shared → Prop} {s : Shared}
theorem sliceApplied_stp {sl : Addr} {vs : Value} {n : Nat} {k : Int} (hk : 0 < k) {Q : Int × Int × Nat → Shared → Prop} (hs : s.heap.IsSliceOf sl .none .none vs) (ps : IsPart vs (some k)) (h : Q (0, k, Builtin.Slice.slicePlaces 0 n k) s) : wpAny (model prog w) A (Builtin.Slice.sliceApplied (.ref sl) (pure (n : Int))) Q E s := by
  obtain ⟨os, hos, hcs, hds⟩ := id hs
  unfold Builtin.Slice.sliceApplied Builtin.Slice.sliceFields
  refine wpAny_bind (wpAny_bind (wpAny_field hos hds (x := .none) rfl (wpAny_bind (wpAny_field hos hds (x := .none) rfl (wpAny_bind (wpAny_field hos hds (x := vs) rfl (wpAny_pure ?_)))))))
  refine wpAny_bind (slicePart_ ps ?_)
  show wpAny _ _ (if (k == 0) = true then _ else _) _ _ s
  rw [if_neg (by intro q; have := eq_of_beq q; omega)]
  refine wpAny_bind (slicePart_none (wpAny_bind (slicePart_none (wpAny_bind (wpAny_pure ?_)))))
  show wpAny _ _ (match Builtin.Slice.sliceAdjust none none k (n : Int) with | (lo, hi) => pure (lo, k, Builtin.Slice.slicePlaces lo hi k)) _ _ s
  have e : Builtin.Slice.sliceAdjust none none k (n : Int) = (0, (n : Int)) := by
    unfold Builtin.Slice.sliceAdjust
    simp only [if_neg (show ¬ k < 0 by omega)]
  rw [e]
  exact wpAny_pure h
theorem getItem_tuple_stp {t sl : Addr} {items : Array Value} {vs : Value} {k : Int} (hk : 0 < k) {Q : Value → Shared → Prop} (ht : IsTup s.heap t items) (hs : s.heap.IsSliceOf sl .none .none vs) (ps : IsPart vs (some k))
    (h1 : k = 1 → Q (.ref t) s) (h : Q (.ref s.heap.objs.size) { s with heap := s.heap.push { cls := .type "tuple", data := .seq (Ev.stepL items.toList k).toArray } })
    (hsz : (Ev.stepL items.toList k).length ≤ sizeLine) : wpAny (model prog w) A (getItem (.ref t) (.ref sl)) Q E s := by
  have htake : sizeOk (.seq (Ev.stepL items.toList k).toArray) := by
    show (Ev.stepL items.toList k).toArray.size ≤ sizeLine
    rw [List.size_toArray]
    exact hsz
  obtain ⟨os, hos, hcs, hds⟩ := id hs
  have hTs : s.TypeIs (.ref sl) "slice" := ⟨os, hos, hcs⟩
  unfold getItem
  try with_reducible refine wpAny_holding ?_
  first | refine wpAny_bind (wpAny_pure ?_) | skip
  refine wpAny_bind (wpAny_sequenceKey ht.typeIs (by decide) ?_)
  refine wpAny_bind (wpAny_callSpecial?_slot (name := Str.ofString "__getitem__") ht.typeIs PyProof.Rows.slot_tuple_getitem
    (wpAny_call_entry PyProof.Rows.slot_tuple_getitem ht.typeIs entry_tuple_getitem ?_ (args_tuple_getitem _ _)))
  show wpAny _ _ (Builtin.Tuple.tupleItemsOf (.ref t) >>= _) _ _ s
  refine wpAny_bind (tupleItemsOf_ ht ?_)
  refine wpAny_bind (wpAny_typeOf hTs ?_)
  rw [if_pos (by decide)]
  refine wpAny_bind (sliceApplied_stp hk hs ps ?_)
  show wpAny _ _ (if (((0 : Int) == 0 && k == 1 && Builtin.Slice.slicePlaces 0 (items.size : Nat) k == items.size) = true) then _ else _) _ _ s
  have pick : ((List.range (Builtin.Slice.slicePlaces 0 (items.size : Nat) k)).filterMap fun (m : Nat) => items[((0 : Int) + (m : Int) * k).toNat]?).toArray = (Ev.stepL items.toList k).toArray := by
    unfold Ev.stepL
    rw [Array.length_toList]
    congr 1
    congr 1
    funext m
    rw [← Array.getElem?_toList]
  split
  · rename_i hc
    rw [Bool.and_eq_true, Bool.and_eq_true] at hc
    have k1 : k = 1 := eq_of_beq hc.1.2
    unfold Builtin.Tuple.tupleIsExact
    refine wpAny_bind (wpAny_bind (wpAny_typeOf ht.typeIs (wpAny_pure ?_)))
    rw [if_pos (by decide)]
    exact wpAny_bind (wpAny_rule (wpAny_pure ⟨_, rfl, wpAny_pure (h1 k1)⟩))
  · rw [pick]
    first
      | exact wpAny_bind (m := Builtin.Tuple.tupleExact _) (wpAny_newObj_type (wpAny_pure ⟨_, rfl, wpAny_pure h⟩) htake)
      | exact wpAny_bind (m := Builtin.Tuple.tupleExact _) (wpAny_newObj_type (wpAny_bind (wpAny_pure (wpAny_pure ⟨_, rfl, wpAny_pure h⟩))) htake)
      | exact wpAny_bind (wpAny_bind (m := Builtin.Tuple.tupleExact _) (wpAny_newObj_type (wpAny_pure (wpAny_pure ⟨_, rfl, wpAny_pure h⟩)) htake))
      | exact wpAny_bind (wpAny_bind (m := Builtin.Tuple.tupleExact _) (wpAny_newObj_type (wpAny_pure ⟨_, rfl, wpAny_pure h⟩) htake))
end
end HT
namespace Ev
open PySem PySem.Spec PyProof.Rows L2
theorem vals_get : ∀ {xs : List V} {ys : List Value} (i : Nat), Vals xs ys → (xs[i]? = none ∧ ys[i]? = none) ∨ ∃ x y, xs[i]? = some x ∧ ys[i]? = some y ∧ L2.RelV x y
  | _, _, i, .nil => .inl ⟨by simp, by simp⟩
  | _, _, 0, .cons a b => .inr ⟨_, _, rfl, rfl, a⟩
  | _, _, i + 1, .cons a b => by
    have := vals_get i b
    simpa using this
theorem vals_pick {xs : List V} {ys : List Value} {f : Nat → Nat} (r : Vals xs ys) : ∀ is : List Nat, Vals (is.filterMap fun m => xs[f m]?) (is.filterMap fun m => ys[f m]?)
  | [] => .nil
  | i :: is => by
    rcases vals_get (f i) r with ⟨h1, h2⟩ | ⟨x, y, h1, h2, h3⟩
    · simp only [List.filterMap_cons, h1, h2]
      exact vals_pick r is
    · simp only [List.filterMap_cons, h1, h2]
      exact .cons h3 (vals_pick r is)
theorem rel_pick {K : PySem.W.Frag} {N : Nm} {F : Addr → Prop} {r : List Addr} {H : Hp} {xs : List D} {vs : List V} {f : Nat → Nat} (q : RelL N F r H xs vs) : ∀ is : List Nat, RelL N F r H (is.filterMap fun m => xs[f m]?) (is.filterMap fun m => vs[f m]?)
  | [] => rfl
  | i :: is => by
    by_cases hi : f i < xs.length
    · obtain ⟨u, h1, h2⟩ := q.get (List.getElem?_eq_getElem hi)
      simp only [List.filterMap_cons, List.getElem?_eq_getElem hi, h1]
      exact ⟨_, _, rfl, h2, rel_pick (K := K) q is⟩
    · have e1 : xs[f i]? = none := List.getElem?_eq_none (by omega)
      have e2 : vs[f i]? = none := List.getElem?_eq_none (by have := q.length; omega)
      simp only [List.filterMap_cons, e1, e2]
      exact rel_pick (K := K) q is
theorem stepL_len {α : Type} (xs : List α) (s : Int) (h : 0 < s) : (Ev.stepL xs s).length ≤ xs.length := by
  unfold Ev.stepL
  refine Nat.le_trans (List.length_filterMap_le _ _) ?_
  rw [List.length_range]
  unfold Builtin.Slice.slicePlaces
  rw [if_pos h]
  split
  · have : ((xs.length : Int) - 0 - 1) / s ≤ (xs.length : Int) - 0 - 1 := Int.ediv_le_self _ (by omega)
    omega
  · omega
section
variable {X : Cx}
def tStp (K : PySem.W.Frag) (te ts : TE) : TE := fun σ H Q => te σ H fun x H1 => ts σ H1 fun y H2 => ∃ k, y = .int k ∧ ∃ a xs, x = .ref a ∧ 0 < k ∧ SqT K H2 a xs ∧ (k = 1 → Q (.ref a) H2) ∧ ∀ p, H2 p = none → Q (.ref p) (upd H2 p (.tup (Ev.stepL xs k)))
theorem pe_stp {e es : Expr} {te ts : TE} {p3 pos : Pos} (he : PE X e te) (hs : PE X es ts) : PE X (.Subscript e (.Slice none none (some es) p3) pos) (tStp X.K te ts) := by
  refine ⟨fun pins s σ H Q I h => ?_⟩
  refine Subscript_ (thn (he.run pins s σ H _ I h) fun v s1 ⟨x, H1, I1, r1, q1⟩ => ?_)
  have hst : PO X (some es) (tPart ts) := po_some hs
  refine wpAny_Slice (thn (po_none.run pins s1 σ H1 (fun o H2 => o = none ∧ H2 = H1) I1 ⟨rfl, rfl⟩) fun vl s2 ⟨l, H2, I2, pl, el, e2⟩ => ?_)
  subst el e2
  refine thn (po_none.run pins s2 σ H2 (fun o H3 => o = none ∧ H3 = H2) I2 ⟨rfl, rfl⟩) fun vu s3 ⟨u, H3, I3, pu, eu, e3⟩ => ?_
  subst eu e3
  refine thn (hst.run pins s3 σ H3 (fun o H4 => ∃ k, o = some k ∧ ∃ a xs, x = .ref a ∧ 0 < k ∧ SqT X.K H4 a xs ∧ (k = 1 → Q (.ref a) H4) ∧ ∀ p, H4 p = none → Q (.ref p) (upd H4 p (.tup (Ev.stepL xs k)))) I3 ?_) fun vs s4 ⟨o, H4, I4, ps, k, eo, a, xs, ex, hk, hx, q0, q⟩ => ?_
  · have mono : ∀ (y : V) (H2 : Hp), (∃ k, y = .int k ∧ ∃ a xs, x = .ref a ∧ 0 < k ∧ SqT X.K H2 a xs ∧ (k = 1 → Q (.ref a) H2) ∧ ∀ p, H2 p = none → Q (.ref p) (upd H2 p (.tup (Ev.stepL xs k)))) = (∃ i, y = .int i ∧ ∃ k, (some i : Option Int) = some k ∧ ∃ a xs, x = .ref a ∧ 0 < k ∧ SqT X.K H2 a xs ∧ (k = 1 → Q (.ref a) H2) ∧ ∀ p, H2 p = none → Q (.ref p) (upd H2 p (.tup (Ev.stepL xs k)))) := fun y H2 => propext ⟨fun ⟨k, h1, h2⟩ => ⟨k, h1, k, rfl, h2⟩, fun ⟨i, h1, k, h2, h3⟩ => ⟨k, by rw [h1]; cases h2; rfl, h3⟩⟩
    have q1 := q1
    simp only [mono] at q1
    exact q1
  subst eo
  subst ex
  cases r1
  have I5 : Inv X pins σ H4 { s4 with heap := s4.heap.push { cls := .type "slice", data := .fields #[vl, vu, vs] } } := I4.kept (t' := s4.toks) fun b ob q => Heap.get?_push_of_some _ q
  show wpAny (model X.prog X.w) X.A (subscriptTail e (.Slice none none (some es) p3) (.ref a) (.ref s4.heap.objs.size)) (EP X pins σ Q) X.xe { s4 with heap := s4.heap.push { cls := .type "slice", data := .fields #[vl, vu, vs] } }
  obtain ⟨its, r, ht, hz⟩ := I5.tuple hx
  have hlen := r.length
  cases pl
  cases pu
  refine tail_any (ops := [.ref a, .ref s4.heap.objs.size]) ht.typeIs PyProof.Rows.slot_tuple_getitem.lookup ?_ (by with_unfolding_all rfl)
  refine HT.getItem_tuple_stp hk ht (Heap.IsSliceOf.new _ .none .none vs) ps (fun k1 => ?_) ?_ ?_
  · exact ⟨.ref a, H4, I5, rfl, q0 k1⟩
  · have hl := stepL_len xs k hk
    refine ⟨.ref _, _, I5.laid (t' := s4.toks) (o := .tup (Ev.stepL xs k)) (fun b ob q => Heap.get?_push_of_some _ q) (Nat.le_refl _) ?_, rfl, q _ (I5.hok.fresh (Nat.le_refl _))⟩
    refine ⟨by omega, _, ?_, IsTup.new _ _⟩
    unfold Ev.stepL
    show Vals (List.filterMap _ (List.range (Builtin.Slice.slicePlaces 0 (xs.length : Int) k))) (List.filterMap _ (List.range (Builtin.Slice.slicePlaces 0 (its.length : Int) k)))
    rw [← hlen]
    exact vals_pick r _
  · have := stepL_len its k hk
    show (Ev.stepL its k).length ≤ _
    omega
end
end Ev
/-! EvL: targets; list comprehensions. -/
namespace Ev
open PySem L2

/-! ### a list that is being made, apart from ours -/
section
variable {K : PySem.W.Frag} {N : Nm} {F F1 : Addr → Prop} {r r1 : List Addr} {H H1 : Hp} {m : Mem} {p : Addr} {o u : HO}
/-- the list at p is not ours yet -/
structure Apart (F : Addr → Prop) (r : List Addr) (H : Hp) (p : Addr) (vs : List V) : Prop where
  at_ : H p = some (.lst vs)
  nr : p ∉ r
  nF : ¬ F p
theorem Apart.ext {vs : List V} (a : Apart F r H p vs) (x : Ext F r H F1 r1 H1) : Apart F1 r1 H1 p vs := by
  refine ⟨x.keep _ _ a.nr a.at_, fun z => ?_, fun z => ?_⟩
  · rcases x.newR p z with q | q
    · exact a.nr q
    · rw [a.at_] at q; cases q
  · rcases x.newF p z with q | q | q
    · exact a.nF q
    · exact a.nr q
    · rw [a.at_] at q; cases q
theorem Apart.ex0 {vs : List V} (a : Apart F r H p vs) : Ex0 F r H F r (upd H p u) := by
  refine ⟨fun b o hb e => ?_, fun b xs e => ?_, fun b o w e => ?_, fun b w e => ?_, fun _ h => h, ⟨[], by simp⟩⟩
  · rw [upd_ne (fun z => a.nF (by rw [← z]; exact hb))]; exact e
  · rw [upd_ne (fun z => by rw [z, a.at_] at e; cases e)]; exact e
  · rw [upd_ne (fun z => by rw [z, a.at_] at e; cases e)]; exact e
  · rw [upd_ne (fun z => by rw [z, a.at_] at e; cases e)]; exact e
theorem RelO.ext0 (x : Ex0 F r H F1 r1 H1) {o : O} {a : Addr} (he : H1 a = H a) (h : RelO N F r H o a) : RelO N F1 r1 H1 o a := by
  cases o with
  | lst xs => obtain ⟨vs, e, l⟩ := h; exact ⟨vs, he.trans e, l.ext0 x⟩
  | dK xs => obtain ⟨vs, e, l⟩ := h; exact ⟨vs, he.trans e, l.ext0 x⟩
  | dT xs => obtain ⟨vs, e, l⟩ := h; exact ⟨vs, he.trans e, l.ext0 x⟩
  | ins c fs => obtain ⟨dx, vs, e, l⟩ := h; exact ⟨dx, vs, he.trans e, l.ext0 x⟩
  | dead => exact h.elim
  | lk xs => obtain ⟨vs, o, e, l⟩ := h; exact ⟨vs, o, he.trans e, l.ext0 x⟩
theorem Apart.sim {vs : List V} (a : Apart F r H p vs) (S : Sim K N F r m H) : Sim K N F r m (upd H p u) := by
  refine ⟨S.nd, S.len, S.nf, fun b hb z => ?_, fun i o e => ?_⟩
  · rw [upd_ne (fun z => a.nF (by rw [← z]; exact hb))] at z
    exact S.fh b hb z
  · obtain ⟨b, hb, ro⟩ := S.ob i o e
    exact ⟨b, hb, ro.ext0 a.ex0 (upd_ne fun z => a.nr (z ▸ List.mem_of_getElem? hb))⟩
/-- from ahead of its birth -/
theorem Apart.from {vs : List V} {F0 : Addr → Prop} {r0 : List Addr} {H0 : Hp} (a : Apart F r H p vs) (x : Ext F0 r0 H0 F r H) (hp : H0 p = none) : Ext F0 r0 H0 F r (upd H p u) := by
  refine ⟨fun b o hb e => ?_, fun b o hb e => ?_, fun b xs e => ?_, fun b o w e => ?_, fun b w e => ?_, x.mono, x.pre, x.newF, x.newR⟩
  · rw [upd_ne (ne_of_none e hp)]; exact x.keep b o hb e
  · rw [upd_ne (ne_of_none e hp)]; exact x.keepF b o hb e
  · rw [upd_ne (ne_of_none e hp)]; exact x.tups b xs e
  · rw [upd_ne (ne_of_none e hp)]; exact x.frzs b o w e
  · rw [upd_ne (ne_of_none e hp)]; exact x.xds b w e
/-- .. becomes ours -/
theorem Apart.own {vs : List V} {xs : List D} (a : Apart F r H p vs) (S : Sim K N F r m H) (q : RelL N F r H xs vs) : Sim K N F (r ++ [p]) (m ++ [.lst xs]) H := by
  have x : Ex0 F r H F (r ++ [p]) H := ⟨fun _ _ _ e => e, fun _ _ e => e, fun _ _ _ e => e, fun _ _ e => e, fun _ h => h, ⟨[p], rfl⟩⟩
  refine ⟨List.nodup_append.mpr ⟨S.nd, by simp, fun b hb c hc => ?_⟩, by simp [S.len], fun b hb => ?_, S.fh, fun i o e => ?_⟩
  · rw [List.mem_singleton.mp hc]
    exact fun z => a.nr (z ▸ hb)
  · rcases List.mem_append.mp hb with z | z
    · exact S.nf b z
    · rw [List.mem_singleton.mp z]; exact a.nF
  · by_cases hi : i < m.length
    · rw [List.getElem?_append_left hi] at e
      obtain ⟨b, hb, ro⟩ := S.ob i o e
      exact ⟨b, x.get hb, ro.ext0 x rfl⟩
    · have hi' : i = m.length := by
        have := (List.getElem?_eq_some_iff.mp e).1
        simp at this
        omega
      subst hi'
      simp at e
      subst e
      exact ⟨p, by rw [← S.len]; simp, vs, a.at_, q.ext0 x⟩
end

/-! ### targets -/
def tgV : Tg → List Nat
  | .nm i => [i]
  | .tup ts => tgVs ts
where tgVs : List Tg → List Nat
  | [] => []
  | t :: ts => tgV t ++ tgVs ts
section
variable (K : PySem.W.Frag) (N : Nm)
def tG (g : Tg) : TG := fun v σ H Q => ∃ F r env m d env', Sim K N F r m H ∧ SimE N F r H env σ ∧ RelD N F r H d v ∧ setT g d env m = some env' ∧ ∀ σ', (∀ i, i ∉ tgV g → σ'[i]? = σ[i]?) → SimE N F r H env' σ' → Q σ' H
def tGs (g : List Tg) : TGs := fun vs σ H Q => ∃ F r env m ds env', Sim K N F r m H ∧ SimE N F r H env σ ∧ RelL N F r H ds vs ∧ ds.length = g.length ∧ setTs g ds env m = some env' ∧ ∀ σ', (∀ i, i ∉ tgV.tgVs g → σ'[i]? = σ[i]?) → SimE N F r H env' σ' → Q σ' H
end
section
variable {X : Cx} {N : Nm} {pos : Pos}
theorem SimE.set {F : Addr → Prop} {r : List Addr} {H : Hp} {env : Env} {σ : L2.St} {i : Nat} {d : D} {v : V} (h : SimE N F r H env σ) (q : RelD N F r H d v) : SimE N F r H (env.set i (some d)) (σ.set i (some v)) := by
  refine ⟨by simp [h.len], fun k e ek => ?_⟩
  by_cases hk : i = k
  · subst hk
    have hl : i < env.length := by
      have := (List.getElem?_eq_some_iff.mp ek).1
      simpa using this
    rw [List.getElem?_set_self hl] at ek
    cases ek
    exact ⟨v, List.getElem?_set_self (by rw [← h.len]; exact hl), q⟩
  · rw [List.getElem?_set_ne hk] at ek
    obtain ⟨w, e1, q1⟩ := h.at_ k e ek
    exact ⟨w, by rw [List.getElem?_set_ne hk]; exact e1, q1⟩
theorem g_nm {i : Nat} {x : Str} (hN : X.N.Nodup) (hi : X.N[i]? = some x) (hx : Loc X.env.scope x) (hf : X.fn x = true ∨ X.env.scope.names.lookup x = some .local) : PG X (.Name x pos) (tG X.K N (.nm i)) := by
  refine ⟨fun pins s σ H v u Q I r ⟨F, rr, env, m, d, env', S, SE, q, e, k⟩ => ?_⟩
  refine (pg_name hN hi hx hf).run pins s σ H v u Q I r (k _ (fun j hj => ?_) ?_)
  · rw [List.getElem?_set_ne (fun z => hj (by rw [← z]; exact List.mem_singleton.mpr rfl))]
  · unfold setT at e
    split at e
    · cases e; exact SE.set q
    · cases e
theorem gs_nil : PGs X [] (tGs X.K N []) := by
  refine ⟨fun pins s σ H vs us Q I r ⟨F, rr, env, m, ds, env', S, SE, q, l, e, k⟩ => ?_⟩
  refine pgs_nil.run pins s σ H vs us Q I r ⟨?_, ?_⟩
  · cases ds with
    | nil => exact q
    | cons => cases l
  · unfold setTs at e
    cases e
    exact k σ (fun _ _ => rfl) SE
theorem gs_cons {e : Expr} {es : List Expr} {t : Tg} {ts : List Tg} (h1 : PG X e (tG X.K N t)) (h2 : PGs X es (tGs X.K N ts)) (hs : noStar e = true) : PGs X (e :: es) (tGs X.K N (t :: ts)) := by
  have hs' : (assignEach (e :: es) X.env).map (·.2) = assign e X.env :: (assignEach es X.env).map (·.2) := by
    cases e <;> first | rfl | cases hs
  refine ⟨fun pins s σ H vs us Q I r ⟨F, rr, env, m, ds, env', S, SE, q, l, e, k⟩ => ?_⟩
  cases ds with
  | nil => cases l
  | cons d ds =>
    obtain ⟨v, ws, rfl, q1, q2⟩ := q
    unfold setTs at e
    split at e
    · rename_i env1 e1
      refine (pgs_cons h1 h2 hs').run pins s σ H _ us Q I r ⟨v, ws, rfl, F, rr, env, m, d, env1, S, SE, q1, e1, fun σ1 hσ SE1 => ?_⟩
      refine ⟨F, rr, env1, m, ds, env', S, SE1, q2, Nat.succ.inj l, e, fun σ2 hσ2 SE2 => k σ2 (fun i hi => ?_) SE2⟩
      have hi' : i ∉ tgV t ∧ i ∉ tgV.tgVs ts := by
        rw [show tgV.tgVs (t :: ts) = tgV t ++ tgV.tgVs ts from rfl, List.mem_append, not_or] at hi
        exact hi
      rw [hσ2 i hi'.2, hσ i hi'.1]
    · cases e
theorem asg_len {env : PySem.Env} : ∀ {es : List Expr}, es.all noStar = true → (assignEach es env).length = es.length ∧ (assignEach es env).findIdx? (·.1) = none
  | [], _ => ⟨rfl, rfl⟩
  | e :: es, h => by
    rw [List.all_cons, Bool.and_eq_true] at h
    obtain ⟨i1, i2⟩ := @asg_len env es h.2
    have e1 : assignEach (e :: es) env = (false, assign e env) :: assignEach es env := by
      have := h.1
      cases e <;> first | rfl | cases this
    rw [e1]
    refine ⟨by simp [i1], ?_⟩
    rw [List.findIdx?_cons]
    simp [i2]
theorem pg_lst {es : List Expr} {k : Nat} {t : TGs} {n : Nat} (hc : X.calm = true) (h : PGs X es t) (hn : (assignEach es X.env).length = n) (hst : (assignEach es X.env).findIdx? (·.1) = none) :
    PG X (.Tuple es k pos) (fun v σ H Q => ∃ a xs, v = .ref a ∧ SqL X.K H a xs ∧ xs.length = n ∧ t xs σ H Q) := by
  refine ⟨fun pins s σ H v u Q I r hw => ?_⟩
  obtain ⟨a, xs, e1, hq, hl, hw⟩ := hw
  subst e1
  cases r
  obtain ⟨its, rv, p, hz⟩ := I.list hq
  rw [PySem.arm_assign_Tuple]
  refine wpAny_bind (wpAny_standAt ?_)
  unfold unpack
  rw [hst, show (assignEach es X.env).length = its.toArray.size by simp [hn, ← hl, rv.length]]
  refine wpAny_bind (wpAny_holding (PySem.W.kun_itemsOf (I.ok.hd hc) p.isList fun h' hx => ?_))
  have I1 : Inv X pins σ H { s with heap := h' } := I.kept (t' := s.toks) fun b o e => hx b o (Nat.ne_of_lt (Heap.lt_size e)) e
  exact h.run pins _ σ H xs _ Q I1 (by simpa using rv) hw
theorem g_tup {es : List Expr} {k : Nat} {ts : List Tg} (hc : X.calm = true) (h : PGs X es (tGs X.K N ts)) (hs : es.all noStar = true) (hl : es.length = ts.length) : PG X (.Tuple es k pos) (tG X.K N (.tup ts)) := by
  refine ⟨fun pins s σ H v u Q I r ⟨F, rr, env, m, d, env', S, SE, q, e, kk⟩ => ?_⟩
  unfold setT at e
  split at e
  · rename_i xs e1
    have e1 := shown_tup e1
    subst e1
    split at e
    · rename_i hlen
      obtain ⟨a, vs, rfl, ha, l⟩ := q
      exact (pg_tup hc h ((asg_len hs).1.trans hl) (asg_len hs).2).run pins s σ H _ u Q I r ⟨a, vs, rfl, SqT.of ha, by rw [← l.length]; exact hlen.symm, F, rr, env, m, xs, env', S, SE, l, hlen.symm, e, fun σ' h1 h2 => kk σ' h1 h2⟩
    · cases e
  · rename_i xs e1
    split at e
    · rename_i hlen
      obtain ⟨a, vs, rfl, ha, l⟩ := shown_lst S e1 q
      exact (pg_lst hc h ((asg_len hs).1.trans hl) (asg_len hs).2).run pins s σ H _ u Q I r ⟨a, vs, rfl, .inl ha, by rw [← l.length]; exact hlen.symm, F, rr, env, m, xs, env', S, SE, l, hlen.symm, e, fun σ' h1 h2 => kk σ' h1 h2⟩
    · cases e
  · cases e
end

/-! ### a block's turns -/
section
def lenI : Ev.Its → Nat
  | .all xs => xs.length
  | .by n _ => n
/-- a comprehension from its turn i on -/
def compR (elt : D → Mem → Res (Option D)) : Ev.Its → Nat → List D → Mem → Res (List D)
  | .all xs, i, acc, m => compL elt (xs.drop i) acc m
  | .by n get, i, acc, m => compB get elt (n - i) i acc m
theorem compR_step (elt : D → Mem → Res (Option D)) (its : Ev.Its) (i : Nat) (acc : List D) (m : Mem) (hi : i ≤ lenI its) :
    (its.at m i = some none ∧ compR elt its i acc m = .ok acc m) ∨ (compR elt its i acc m = .bad) ∨ (i < lenI its ∧ ∃ x, its.at m i = some (some x) ∧ compR elt its i acc m = match elt x m with
      | .ok (some y) m' => if fits (acc.length + 1) then compR elt its (i + 1) (acc ++ [y]) m' else .bad
      | .ok none m' => compR elt its (i + 1) acc m'
      | _ => .bad) := by
  cases its with
  | all xs =>
    have hi : i ≤ xs.length := hi
    by_cases h : i < xs.length
    · refine .inr (.inr ⟨h, xs[i], by show some xs[i]? = _; rw [List.getElem?_eq_getElem h], ?_⟩)
      show compL elt (xs.drop i) acc m = _
      rw [List.drop_eq_getElem_cons h]
      rfl
    · have e : i = xs.length := by omega
      subst e
      refine .inl ⟨by show some xs[xs.length]? = _; rw [List.getElem?_eq_none (Nat.le_refl _)], ?_⟩
      show compL elt (xs.drop xs.length) acc m = _
      rw [List.drop_length]
      rfl
  | «by» n get =>
    have hi : i ≤ n := hi
    by_cases h : i < n
    · obtain ⟨k, hk⟩ : ∃ k, n - i = k + 1 := ⟨n - i - 1, by omega⟩
      have hk2 : n - (i + 1) = k := by omega
      show (get m i = _ ∧ compB get elt (n - i) i acc m = _) ∨ compB get elt (n - i) i acc m = _ ∨ (_ ∧ ∃ x, get m i = _ ∧ compB get elt (n - i) i acc m = match elt x m with
        | .ok (some y) m' => if fits (acc.length + 1) then compB get elt (n - (i + 1)) (i + 1) (acc ++ [y]) m' else .bad
        | .ok none m' => compB get elt (n - (i + 1)) (i + 1) acc m'
        | _ => .bad)
      rw [hk, hk2, show compB get elt (k + 1) i acc m = (match get m i with
        | none => .bad
        | some none => .bad
        | some (some x) => match elt x m with
          | .ok (some y) m' => if fits (acc.length + 1) then compB get elt k (i + 1) (acc ++ [y]) m' else .bad
          | .ok none m' => compB get elt k (i + 1) acc m'
          | _ => .bad) from rfl]
      cases e : get m i with
      | none => exact .inr (.inl rfl)
      | some q =>
        cases q with
        | none => exact .inr (.inl rfl)
        | some x => exact .inr (.inr ⟨h, x, rfl, rfl⟩)
    · have e : n - i = 0 := by omega
      show (get m i = _ ∧ compB get elt (n - i) i acc m = _) ∨ compB get elt (n - i) i acc m = _ ∨ _
      rw [e]
      unfold compB
      cases e2 : get m i with
      | none => exact .inr (.inl rfl)
      | some q =>
        cases q with
        | none => exact .inl ⟨rfl, rfl⟩
        | some x => exact .inr (.inl rfl)
end
theorem wipe_get {σ : L2.St} {i : Nat} : ∀ {vs : List Nat}, i ∉ vs → (wipe σ vs)[i]? = σ[i]?
  | [], _ => rfl
  | v :: vs, h => by
    rw [List.mem_cons, not_or] at h
    unfold wipe
    rw [List.getElem?_set_ne (Ne.symm h.1)]
    exact wipe_get h.2
theorem wipe_at {σ : L2.St} {i : Nat} (hi : i < σ.length) : ∀ {vs : List Nat}, i ∈ vs → (wipe σ vs)[i]? = some none
  | v :: vs, h => by
    unfold wipe
    by_cases hv : v = i
    · subst hv
      exact List.getElem?_set_self (by rw [wipe_length]; exact hi)
    · rw [List.getElem?_set_ne hv]
      rcases List.mem_cons.mp h with z | z
      · exact absurd z.symm hv
      · exact wipe_at hi z
theorem wipe_eq {σ σ' : L2.St} {vs : List Nat} (hl : σ'.length = σ.length) (h : ∀ i, i ∉ vs → σ'[i]? = σ[i]?) : wipe σ' vs = wipe σ vs := by
  apply List.ext_getElem?
  intro i
  by_cases hi : i ∈ vs
  · by_cases hk : i < σ.length
    · rw [wipe_at hk hi, wipe_at (by rw [hl]; exact hk) hi]
    · rw [List.getElem?_eq_none (by rw [wipe_length, hl]; omega), List.getElem?_eq_none (by rw [wipe_length]; omega)]
  · rw [wipe_get hi, wipe_get hi, h i hi]
theorem wipeE_len : ∀ {own : List Nat} {env : Env}, (wipeE env own).length = env.length
  | [], _ => rfl
  | i :: r, env => by
    show (wipeE (env.set i none) r).length = _
    rw [wipeE_len, List.length_set]
theorem wipeE_some : ∀ {own : List Nat} {env : Env} {i : Nat} {d : D}, (wipeE env own)[i]? = some (some d) → env[i]? = some (some d) ∧ i ∉ own
  | [], _, _, _, h => ⟨h, by simp⟩
  | k :: r, env, i, d, h => by
    obtain ⟨h1, h2⟩ := wipeE_some (own := r) (env := env.set k none) h
    by_cases hk : k = i
    · subst hk
      by_cases hl : k < env.length
      · rw [List.getElem?_set_self hl] at h1; cases h1
      · rw [List.getElem?_eq_none (by rw [List.length_set]; omega)] at h1; cases h1
    · rw [List.getElem?_set_ne hk] at h1
      exact ⟨h1, by simp [Ne.symm hk, h2]⟩
theorem SimE.wipe {F : Addr → Prop} {r : List Addr} {H : Hp} {env : Env} {σ : L2.St} {own : List Nat} (h : SimE N F r H env σ) : SimE N F r H (wipeE env own) (L2.wipe σ own) :=
  ⟨by rw [wipeE_len, wipe_length, h.len], fun i d e => by
    obtain ⟨e1, e2⟩ := wipeE_some e
    obtain ⟨v, e3, q⟩ := h.at_ i d e1
    exact ⟨v, by rw [wipe_get e2]; exact e3, q⟩⟩

mutual
theorem setT_len : ∀ {t : Tg} {d : D} {env env' : Env} {m : Mem}, setT t d env m = some env' → env'.length = env.length
  | .nm i, d, env, env', m, h => by
    unfold setT at h
    split at h
    · cases h; exact List.length_set
    · cases h
  | .tup ts, d, env, env', m, h => by
    unfold setT at h
    split at h
    · split at h
      · exact setTs_len h
      · cases h
    · split at h
      · exact setTs_len h
      · cases h
    · cases h
theorem setTs_len : ∀ {ts : List Tg} {ds : List D} {env env' : Env} {m : Mem}, setTs ts ds env m = some env' → env'.length = env.length
  | [], ds, env, env', m, h => by
    unfold setTs at h
    cases h; rfl
  | t :: ts, [], env, env', m, h => by cases h
  | t :: ts, d :: ds, env, env', m, h => by
    unfold setTs at h
    split at h
    · rename_i e
      rw [setTs_len h, setT_len e]
    · cases h
end
def WF : WX := fun _ _ _ _ => False
theorem takesF {X : Cx} : Takes X WF := fun _ _ ⟨_, _, _, _, _, _, _, _, _, _, _, _, _, _, _, _, w⟩ => w.elim
section
variable {X : Cx} {N : Nm} {W : WX} {pos : Pos}
def eltG (g : Tg) (own : List Nat) (fc : Env → Mem → Res Bool) (fe : Env → Mem → Res D) : Env → D → Mem → Res (Option D) := fun env x m => match setT g x (wipeE env own) m with
        | none => .bad
        | some env' => (fc env' m).bind fun b m2 => if b then (fe env' m2).bind fun y m3 => .ok (some y) m3 else .ok none m2
def compG (g : Tg) (own : List Nat) (fc : Env → Mem → Res Bool) (fe : Env → Mem → Res D) : Env → Ev.Its → Mem → Res D := fun env its m1 => (compR (eltG g own fc fe env) its 0 [] m1).bind fun ys m2 => new m2 (.lst ys)
theorem lc_in {K : PySem.W.Frag} {g : Tg} {own : List Nat} {fc : Env → Mem → Res Bool} {fe : Env → Mem → Res D} (hown : ∀ i ∈ tgV g, i ∈ own) {σ : L2.St} {H1 : Hp} {Q : VK} {F : Addr → Prop} {r : List Addr} {env : Env} {m : Mem} {its : Ev.Its} {J : It}
    (S : Sim K N F r m H1) (SE : SimE N F r H1 env σ) (ok : ItOk K N F r H1 its J) (h : RP K N (RelD N) (WE W σ) F r H1 Q (compG g own fc fe env its m)) : tLc (fun _ H R => R J H) (tG K N g) (tTT K N WF fc) (tD K N WF fe) own σ H1 Q := by
  intro D hD
  let inv : Nat → Hp → Prop := fun i Hk => ∃ F' r' mi acc vs, Ext F r H1 F' r' Hk ∧ Sim K N F' r' mi Hk ∧ Apart F' r' Hk D vs ∧ RelL N F' r' Hk acc vs ∧ i ≤ lenI its ∧ RP K N (RelD N) (WE W σ) F r H1 Q ((compR (eltG g own fc fe env) its i acc mi).bind fun ys m2 => new m2 (.lst ys))
  refine ⟨fun i k Hk => k = lenI its - i ∧ inv i Hk, ⟨_, rfl, F, r, m, [], [], Ext.fresh S hD, S.fresh_ hD, ⟨upd_same, (S.fresh hD).1, (S.fresh hD).2⟩, rfl, Nat.zero_le _, h⟩, ?_⟩
  rintro i k Hk ⟨rfl, F', r', mi, acc, vs, x, Sk, ap, ql, hi, hr⟩
  rcases compR_step (eltG g own fc fe env) its i acc mi hi with ⟨e1, e2⟩ | e2 | ⟨hlt, d, e1, e2⟩
  · refine .inl ⟨ok.stop i F' r' Hk mi x Sk e1, ?_⟩
    rw [e2] at hr
    have xo : Ext F r H1 F' (r' ++ [D]) Hk := ⟨x.keep, x.keepF, x.tups, x.frzs, x.xds, x.mono, (let ⟨t, e⟩ := x.pre; ⟨t ++ [D], by rw [e, List.append_assoc]⟩), x.newF, fun a ha => by
      rcases List.mem_append.mp ha with z | z
      · exact x.newR a z
      · rw [List.mem_singleton.mp z]; exact .inr hD⟩
    exact hr F' (r' ++ [D]) Hk (.ref D) xo (ap.own Sk ql) ⟨D, by rw [← Sk.len]; simp, rfl⟩
  · rw [e2] at hr; exact hr.elim
  · refine .inr ⟨ok.go i d F' r' Hk mi x Sk e1, fun H' => inv (i + 1) H', fun H' hn => ⟨lenI its - (i + 1), by omega, rfl, hn⟩, fun v H2 y => ?_⟩
    obtain ⟨F2, r2, x2, S2, q2⟩ := ok.yld i d F' r' Hk mi v H2 x Sk e1 y
    rw [e2] at hr
    have ap2 := ap.ext x2
    have SE2 : SimE N F2 r2 H2 env σ := SE.ext (x.trans x2)
    cases es : setT g d (wipeE env own) mi with
    | none =>
      have ee : eltG g own fc fe env d mi = .bad := by unfold eltG; rw [es]
      rw [ee] at hr; exact hr.elim
    | some env' =>
      have ee : eltG g own fc fe env d mi = ((fc env' mi).bind fun b m2 => if b then (fe env' m2).bind fun y m3 => .ok (some y) m3 else .ok none m2) := by unfold eltG; rw [es]
      refine ⟨F2, r2, wipeE env own, mi, d, env', S2, SE2.wipe, q2, es, fun σ2 hσ SE3 => ⟨?_, ?_⟩⟩
      · have hl : σ2.length = (L2.wipe σ own).length := by
          -- the store keeps the number of slots
          have h1 := SE3.len
          have h2 := (SE2.wipe (own := own)).len
          have h3 : env'.length = (wipeE env own).length := setT_len es
          omega
        rw [wipe_eq hl fun i hi => hσ i fun z => hi (hown i z)]
        exact wipe_eq (wipe_length _ _) fun i hi => wipe_get hi
      · refine ⟨F2, r2, env', mi, S2, SE3, ?_⟩
        cases ec : fc env' mi with
        | bad => rw [ee, ec] at hr; exact hr.elim
        | exc c mc => rw [ee, ec] at hr; exact hr.elim
        | ok b m3 =>
          intro F3 r3 H3 b' x3 S3 qb
          cases (show b' = b from qb)
          cases b with
          | false =>
            rw [ee, ec] at hr
            rw [if_neg Bool.false_ne_true]
            exact ⟨F3, r3, m3, acc, vs, (x.trans x2).trans x3, S3, ap2.ext x3, (ql.ext x2).ext x3, hlt, hr⟩
          | true =>
            rw [if_pos rfl]
            refine ⟨F3, r3, env', m3, S3, SE3.ext x3, ?_⟩
            cases ef : fe env' m3 with
            | bad => rw [ee, ec] at hr; simp only [Res.bind_ok, ef] at hr; exact hr.elim
            | exc c mc => rw [ee, ec] at hr; simp only [Res.bind_ok, ef] at hr; exact hr.elim
            | ok yv m4 =>
              rw [ee, ec] at hr
              simp only [Res.bind_ok, ef, if_true] at hr
              intro F4 r4 H4 w x4 S4 qy
              have ap4 := (ap2.ext x3).ext x4
              have ql4 := ((ql.ext x2).ext x3).ext x4
              cases hfit : fits (acc.length + 1) with
              | false => rw [hfit] at hr; exact hr.elim
              | true =>
                rw [hfit] at hr
                have hz := fits_le hfit
                refine ⟨vs, ap4.at_, by rw [← ql.length]; omega, F4, r4, m4, acc ++ [yv], vs ++ [w], ?_, ap4.sim S4, ⟨upd_same, ap4.nr, ap4.nF⟩, (ql4.append (RelL.one qy)).ext0 ap4.ex0, hlt, hr⟩
                exact ap4.from (((x.trans x2).trans x3).trans x4) hD
theorem lc_read {K : PySem.W.Frag} {g : Tg} {own : List Nat} {fi : Env → Mem → Res Ev.Its} {fc : Env → Mem → Res Bool} {fe : Env → Mem → Res D} (hown : ∀ i ∈ tgV g, i ∈ own) (σ : L2.St) (H : Hp) (Q : VK)
    (h : tD K N W (fun env m => (fi env m).bind fun its m1 => compG g own fc fe env its m1) σ H Q) : tLc (tII K N W fi) (tG K N g) (tTT K N WF fc) (tD K N WF fe) own σ H Q :=
  one (g := compG g own fc fe) h fun _ _ _ _ _ _ _ S SE ok h => lc_in hown S SE ok h
end
end Ev
/-! EvL2: a dict that is data, locked while it is walked. -/
namespace Ev
open PySem L2

/-- the dicts -/
def Dct (u : HO) : Prop := (∃ ws, u = .dK ws) ∨ ∃ ws, u = .dT ws
theorem Dct.mut {u : HO} (h : Dct u) : Mut (some u) := by
  rcases h with ⟨ws, rfl⟩ | ⟨ws, rfl⟩ <;> trivial
theorem Dct.tup {u : HO} (h : Dct u) (xs : List V) : u ≠ .tup xs := by
  rcases h with ⟨ws, rfl⟩ | ⟨ws, rfl⟩ <;> exact fun z => nomatch z
theorem Dct.frz {u : HO} (h : Dct u) (o : Obj) (w : HO) : u ≠ .frz o w := by
  rcases h with ⟨ws, rfl⟩ | ⟨ws, rfl⟩ <;> exact fun z => nomatch z
theorem Dct.xd {u : HO} (h : Dct u) (ws : List (Str × V)) : u ≠ .xd ws := by
  rcases h with ⟨ws, rfl⟩ | ⟨ws, rfl⟩ <;> exact fun z => nomatch z
theorem Dct.xm {u : HO} (h : Dct u) : u ≠ xM := by
  rcases h with ⟨ws, rfl⟩ | ⟨ws, rfl⟩ <;> exact fun z => nomatch z
/-- what the relation rests on, one dict locked or let go -/
structure Lk (F : Addr → Prop) (H G : Hp) : Prop where
  tups : ∀ a xs, H a = some (.tup xs) → G a = some (.tup xs)
  rd : ∀ a u, (∀ o w, u ≠ .frz o w) → F a → Rd H a u → Rd G a u
  exn : ∀ a oe, H a = some (.frz oe xM) → G a = some (.frz oe xM)
  xds : ∀ a ws, H a = some (.xd ws) → G a = some (.xd ws)
section
variable {K : PySem.W.Frag} {N : Nm} {F F1 : Addr → Prop} {r r1 : List Addr} {H G H1 : Hp} {d : Addr} {u : HO} {od : Obj}
mutual
theorem RelD.lk (x : Lk F H G) : ∀ {d : D} {v : V}, RelD N F r H d v → RelD N F r G d v
  | .non, _, h => h
  | .bl _, _, h => h
  | .int _, _, h => h
  | .str _, _, h => h
  | .tup xs, _, h => by
    obtain ⟨a, vs, e, s, l⟩ := h
    exact ⟨a, vs, e, x.tups _ _ s, RelL.lk x l⟩
  | .lst xs, _, h => by
    obtain ⟨a, vs, e, f, s, l⟩ := h
    exact ⟨a, vs, e, f, x.rd _ _ (fun _ _ z => nomatch z) f s, RelL.lk x l⟩
  | .dK xs, _, h => by
    obtain ⟨a, vs, e, f, s, l⟩ := h
    exact ⟨a, vs, e, f, x.rd _ _ (fun _ _ z => nomatch z) f s, RelK.lk x l⟩
  | .dT xs, _, h => by
    obtain ⟨a, vs, e, f, s, l⟩ := h
    exact ⟨a, vs, e, f, x.rd _ _ (fun _ _ z => nomatch z) f s, RelT.lk x l⟩
  | .ref i, _, h => h
  | .exn c fs, _, h => by
    obtain ⟨a, oe, e, s, h1, h2, h3⟩ := h
    refine ⟨a, oe, e, x.exn _ _ s, h1, h2, ?_⟩
    rcases h3 with h3 | ⟨dd, ws, e2, s2, l⟩
    · exact .inl h3
    · exact .inr ⟨dd, ws, e2, x.xds _ _ s2, RelF.lk x l⟩
theorem RelL.lk (x : Lk F H G) : ∀ {d : List D} {v : List V}, RelL N F r H d v → RelL N F r G d v
  | [], _, h => h
  | d :: ds, _, h => by
    obtain ⟨v, ws, e, a, b⟩ := h
    exact ⟨v, ws, e, RelD.lk x a, RelL.lk x b⟩
theorem RelK.lk (x : Lk F H G) : ∀ {d : List (Key × D)} {v : List (Key × V)}, RelK N F r H d v → RelK N F r G d v
  | [], _, h => h
  | (k, d) :: ds, _, h => by
    obtain ⟨v, ws, e, a, b⟩ := h
    exact ⟨v, ws, e, RelD.lk x a, RelK.lk x b⟩
theorem RelT.lk (x : Lk F H G) : ∀ {d : List (List Key × D)} {v : List (List Key × V)}, RelT N F r H d v → RelT N F r G d v
  | [], _, h => h
  | (k, d) :: ds, _, h => by
    obtain ⟨v, ws, e, a, b⟩ := h
    exact ⟨v, ws, e, RelD.lk x a, RelT.lk x b⟩
theorem RelF.lk (x : Lk F H G) : ∀ {d : List (Nat × D)} {v : List (Str × V)}, RelF N F r H d v → RelF N F r G d v
  | [], _, h => h
  | (k, d) :: ds, _, h => by
    obtain ⟨v, ws, e, a, b⟩ := h
    exact ⟨v, ws, e, RelD.lk x a, RelF.lk x b⟩
end
theorem Lk.lock (h : H d = some u) (hu : Dct u) : Lk F H (upd H d (.frz od u)) := by
  have ne : ∀ a o, H a = some o → o ≠ u → a ≠ d := fun a o e hne z => hne (by rw [z, h] at e; exact (Option.some.inj e).symm)
  refine ⟨fun a xs e => ?_, fun a w hw f q => ?_, fun a oe e => ?_, fun a ws e => ?_⟩
  · rw [upd_ne (ne a _ e (Ne.symm (hu.tup xs)))]; exact e
  · by_cases ha : a = d
    · subst ha
      rcases q with q | ⟨o, q⟩
      · rw [h] at q; cases q
        exact .inr ⟨od, upd_same⟩
      · rw [h] at q
        exact absurd (Option.some.inj q) (hu.frz o w)
    · rcases q with q | ⟨o, q⟩
      · exact .inl (by rw [upd_ne ha]; exact q)
      · exact .inr ⟨o, by rw [upd_ne ha]; exact q⟩
  · rw [upd_ne (ne a _ e (Ne.symm (hu.frz oe xM)))]; exact e
  · rw [upd_ne (ne a _ e (Ne.symm (hu.xd ws)))]; exact e
theorem Lk.unlock (h : H d = some (.frz od u)) (hu : Dct u) : Lk F H (upd H d u) := by
  have ne : ∀ a o, H a = some o → o ≠ .frz od u → a ≠ d := fun a o e hne z => hne (by rw [z, h] at e; exact (Option.some.inj e).symm)
  refine ⟨fun a xs e => ?_, fun a w hw f q => ?_, fun a oe e => ?_, fun a ws e => ?_⟩
  · rw [upd_ne (ne a _ e (fun z => nomatch z))]; exact e
  · by_cases ha : a = d
    · subst ha
      rcases q with q | ⟨o, q⟩
      · rw [h] at q
        exact absurd (Option.some.inj q).symm (hw od u)
      · rw [h] at q; cases q
        exact .inl upd_same
    · rcases q with q | ⟨o, q⟩
      · exact .inl (by rw [upd_ne ha]; exact q)
      · exact .inr ⟨o, by rw [upd_ne ha]; exact q⟩
  · rw [upd_ne (ne a _ e (fun z => hu.xm (by injection z with z1 z2; exact z2.symm)))]; exact e
  · rw [upd_ne (ne a _ e (fun z => nomatch z))]; exact e
theorem RelO.lk (x : Lk F H G) {o : O} {a : Addr} (he : G a = H a) (h : RelO N F r H o a) : RelO N F r G o a := by
  cases o with
  | lst xs => obtain ⟨vs, e, l⟩ := h; exact ⟨vs, he.trans e, l.lk x⟩
  | dK xs => obtain ⟨vs, e, l⟩ := h; exact ⟨vs, he.trans e, l.lk x⟩
  | dT xs => obtain ⟨vs, e, l⟩ := h; exact ⟨vs, he.trans e, l.lk x⟩
  | ins c fs => obtain ⟨dx, vs, e, l⟩ := h; exact ⟨dx, vs, he.trans e, l.lk x⟩
  | dead => exact h.elim
  | lk xs => obtain ⟨vs, o, e, l⟩ := h; exact ⟨vs, o, he.trans e, l.lk x⟩
theorem Sim.lk {m : Mem} (x : Lk F H (upd H d u)) (S : Sim K N F r m H) (hd : F d) : Sim K N F r m (upd H d u) := by
  refine ⟨S.nd, S.len, S.nf, fun a f z => ?_, fun i o e => ?_⟩
  · by_cases ha : a = d
    · subst ha; rw [upd_same] at z; cases z
    · rw [upd_ne ha] at z; exact S.fh a f z
  · obtain ⟨a, ha, ro⟩ := S.ob i o e
    exact ⟨a, ha, ro.lk x (upd_ne fun z => S.nf a (List.mem_of_getElem? ha) (z ▸ hd))⟩
theorem SimE.lk (x : Lk F H G) {env : Env} {s : St} (h : SimE N F r H env s) : SimE N F r G env s :=
  ⟨h.len, fun i d e => let ⟨v, a, b⟩ := h.at_ i d e; ⟨v, a, b.lk x⟩⟩
theorem Ext.unlock (h : H d = some u) (hu : Dct u) (x : Ext F r (upd H d (.frz od u)) F1 r1 H1) (h1 : H1 d = some (.frz od u)) : Ext F r H F1 r1 (upd H1 d u) := by
  have ne : ∀ a o, H a = some o → o ≠ u → a ≠ d := fun a o e hne z => hne (by rw [z, h] at e; exact (Option.some.inj e).symm)
  refine ⟨fun a o hr e => ?_, fun a o f e => ?_, fun a xs e => ?_, fun a o w e => ?_, fun a ws e => ?_, x.mono, x.pre, fun a f => ?_, fun a f => ?_⟩
  · by_cases ha : a = d
    · subst ha; rw [h] at e; cases e; exact upd_same
    · rw [upd_ne ha]; exact x.keep a o hr (by rw [upd_ne ha]; exact e)
  · by_cases ha : a = d
    · subst ha; rw [h] at e; cases e; exact upd_same
    · rw [upd_ne ha]; exact x.keepF a o f (by rw [upd_ne ha]; exact e)
  · have ha := ne a _ e (Ne.symm (hu.tup xs))
    rw [upd_ne ha]; exact x.tups a xs (by rw [upd_ne ha]; exact e)
  · have ha := ne a _ e (Ne.symm (hu.frz o w))
    rw [upd_ne ha]; exact x.frzs a o w (by rw [upd_ne ha]; exact e)
  · have ha := ne a _ e (Ne.symm (hu.xd ws))
    rw [upd_ne ha]; exact x.xds a ws (by rw [upd_ne ha]; exact e)
  · rcases x.newF a f with q | q | q
    · exact .inl q
    · exact .inr (.inl q)
    · refine .inr (.inr ?_)
      have ha : a ≠ d := fun z => by rw [z, upd_same] at q; cases q
      rw [upd_ne ha] at q; exact q
  · rcases x.newR a f with q | q
    · exact .inl q
    · refine .inr ?_
      have ha : a ≠ d := fun z => by rw [z, upd_same] at q; cases q
      rw [upd_ne ha] at q; exact q
/-! what is walked -/
def tVr (i : Nat) : TE := fun σ H Q => ∃ v, σ[i]? = some (some v) ∧ Q v H
def kTI (kd : Kd) (td : TE) : TI := match kd with
  | .keys => iKeys td
  | .keysM => iKeysM td
  | .vals => iVals td
theorem relD_key (k : Key) : RelD N F r H (ofKey k) (kV k) := by cases k <;> rfl
theorem relL_keys : ∀ ks : List Key, RelL N F r H (ks.map ofKey) (ks.map kV)
  | [] => rfl
  | k :: ks => ⟨_, _, rfl, relD_key k, relL_keys ks⟩
theorem keys_get {κ : Type} {kvs : List (κ × D)} {ws : List (κ × V)} (q : RelP N F r H kvs ws) {i : Nat} {k : κ} {v : V} (e : ws[i]? = some (k, v)) : ∃ x, kvs[i]? = some (k, x) ∧ RelD N F r H x v := by
  induction kvs generalizing ws i with
  | nil => cases (show ws = [] from q); cases e
  | cons p kvs ih =>
    obtain ⟨v', ws', rfl, a, b⟩ := (show ∃ v' ws', ws = (p.1, v') :: ws' ∧ RelD N F r H p.2 v' ∧ RelP N F r H kvs ws' from q)
    cases i with
    | zero => cases e; exact ⟨p.2, rfl, a⟩
    | succ i => exact ih b e
theorem keys_lt {κ : Type} [DecidableEq κ] {kvs : List (κ × D)} {ws : List (κ × V)} (q : RelP N F r H kvs ws) {xs : List D} (hl : xs.length = kvs.length) {i : Nat} {d : D} (e : xs[i]? = some d) : i < ws.length := by
  have h1 := (List.getElem?_eq_some_iff.mp e).1
  rw [← q.length]; omega
theorem it_keys {a : Addr} {o : Obj} {kvs : List (Key × D)} {ws : List (Key × V)} (ha : H a = some (.frz o (.dK ws))) (q : RelP N F r H kvs ws) : ItOk K N F r H (.all (kvs.map fun p => ofKey p.1)) (Itk a o ws) where
  stop := fun i F1 r1 H1 m1 x S e => ⟨x.frzs _ _ _ ha, get_of_len (by rw [List.length_map]; exact q.length) (Option.some.inj e)⟩
  go := fun i d F1 r1 H1 m1 x S e => ⟨x.frzs _ _ _ ha, keys_lt q (by rw [List.length_map]) (Option.some.inj e)⟩
  yld := fun i d F1 r1 H1 m1 v H2 x S e y => by
    obtain ⟨rfl, k, w, hw, rfl⟩ := y
    obtain ⟨z, hz, _⟩ := keys_get q hw
    have e : (kvs.map fun p => ofKey p.1)[i]? = some d := Option.some.inj e
    rw [List.getElem?_map, hz] at e
    cases e
    exact ⟨F1, r1, Ext.refl _ _ _, S, relD_key k⟩
theorem it_keysT {a : Addr} {o : Obj} {kvs : List (List Key × D)} {ws : List (List Key × V)} (ha : H a = some (.frz o (.dT ws))) (q : RelP N F r H kvs ws) : ItOk K N F r H (.all (kvs.map fun p => .tup (p.1.map ofKey))) (Itkt a o ws) where
  stop := fun i F1 r1 H1 m1 x S e => ⟨x.frzs _ _ _ ha, get_of_len (by rw [List.length_map]; exact q.length) (Option.some.inj e)⟩
  go := fun i d F1 r1 H1 m1 x S e => ⟨x.frzs _ _ _ ha, keys_lt q (by rw [List.length_map]) (Option.some.inj e)⟩
  yld := fun i d F1 r1 H1 m1 v H2 x S e y => by
    obtain ⟨rfl, k, w, t, hw, rfl, ht⟩ := y
    obtain ⟨z, hz, _⟩ := keys_get q hw
    have e : (kvs.map fun p => D.tup (p.1.map ofKey))[i]? = some d := Option.some.inj e
    rw [List.getElem?_map, hz] at e
    cases e
    exact ⟨F1, r1, Ext.refl _ _ _, S, t, _, rfl, ht, relL_keys k⟩
theorem it_vals {a : Addr} {o : Obj} {kvs : List (Key × D)} {ws : List (Key × V)} (ha : H a = some (.frz o (.dK ws))) (q : RelP N F r H kvs ws) : ItOk K N F r H (.all (kvs.map fun p => p.2)) (Itd a o ws) where
  stop := fun i F1 r1 H1 m1 x S e => ⟨x.frzs _ _ _ ha, get_of_len (by rw [List.length_map]; exact q.length) (Option.some.inj e)⟩
  go := fun i d F1 r1 H1 m1 x S e => ⟨x.frzs _ _ _ ha, keys_lt q (by rw [List.length_map]) (Option.some.inj e)⟩
  yld := fun i d F1 r1 H1 m1 v H2 x S e y => by
    obtain ⟨rfl, k, hw⟩ := y
    obtain ⟨z, hz, qz⟩ := keys_get q hw
    have e : (kvs.map fun p => p.2)[i]? = some d := Option.some.inj e
    rw [List.getElem?_map, hz] at e
    cases e
    exact ⟨F1, r1, Ext.refl _ _ _, S, qz.ext x⟩
/-- a dict that is data, at its place -/
theorem keys_at {kd : Kd} {x : D} {v : V} {xs : List D} (q : RelD N F r H x v) (hk : keysD kd x = some xs) : ∃ a u, v = .ref a ∧ F a ∧ Dct u ∧ (H a = some u ∨ ∃ o, H a = some (.frz o u)) := by
  cases x with
  | dK kvs =>
    obtain ⟨a, ws, rfl, f, s, l⟩ := q
    exact ⟨a, _, rfl, f, .inl ⟨ws, rfl⟩, s⟩
  | dT kvs =>
    obtain ⟨a, ws, rfl, f, s, l⟩ := q
    exact ⟨a, _, rfl, f, .inr ⟨ws, rfl⟩, s⟩
  | _ => cases hk
theorem keys_go {kd : Kd} {x : D} {a : Addr} {o : Obj} {u : HO} {xs : List D} (q : RelD N F r H x (.ref a)) (hu : Dct u) (hf : H a = some (.frz o u)) (hk : keysD kd x = some xs) : ∃ J, ItOk K N F r H (.all xs) J ∧ ∀ (i : Nat) (σ : L2.St) (R : It → Hp → Prop), σ[i]? = some (some (.ref a)) → R J H → kTI kd (tVr i) σ H R := by
  have un : ∀ {w : HO}, (∀ o w', w ≠ .frz o w') → Rd H a w → w = u := fun {w} hw s => by
    rcases s with s | ⟨o', s⟩
    · rw [hf] at s; exact absurd (Option.some.inj s).symm (hw _ _)
    · rw [hf] at s; cases s; rfl
  cases x with
  | dK kvs =>
    obtain ⟨a', ws, e, f, s, l⟩ := q
    cases e
    have eu := un (w := .dK ws) (fun _ _ z => nomatch z) s
    subst eu
    cases kd with
    | keys =>
      cases hk
      exact ⟨_, it_keys hf (relK_P.mp l), fun i σ R hs hR => ⟨_, hs, a, o, rfl, .inl ⟨ws, hf, hR⟩⟩⟩
    | keysM =>
      cases hk
      exact ⟨_, it_keys hf (relK_P.mp l), fun i σ R hs hR => ⟨_, hs, a, o, ws, rfl, hf, hR⟩⟩
    | vals =>
      cases hk
      exact ⟨_, it_vals hf (relK_P.mp l), fun i σ R hs hR => ⟨_, hs, a, o, ws, rfl, hf, hR⟩⟩
  | dT kvs =>
    obtain ⟨a', ws, e, f, s, l⟩ := q
    cases e
    have eu := un (w := .dT ws) (fun _ _ z => nomatch z) s
    subst eu
    cases kd with
    | keys =>
      cases hk
      exact ⟨_, it_keysT hf (relT_P.mp l), fun i σ R hs hR => ⟨_, hs, a, o, rfl, .inr ⟨ws, hf, hR⟩⟩⟩
    | keysM => cases hk
    | vals => cases hk
  | _ => cases hk
end
section
variable {X : Cx} {N : Nm} {W : WX} {pos apos cpos : Pos} {tg : Expr} {x : Str} {i : Nat}
theorem pi_kd {kd : Kd} {e : Expr} (he : PE X e (tVr i)) : (kd = .keys → PI X tg e (kTI kd (tVr i))) ∧ (kd = .keysM → noSup e = true → (apos.endLine == cpos.line) = true → PI X tg (.Call (.Attribute e "keys" apos) [] [] cpos) (kTI kd (tVr i))) ∧ (kd = .vals → noSup e = true → (apos.endLine == cpos.line) = true → PI X tg (.Call (.Attribute e "values" apos) [] [] cpos) (kTI kd (tVr i))) := by
  refine ⟨fun z => ?_, fun z h1 h2 => ?_, fun z h1 h2 => ?_⟩
  · subst z; exact pi_keys he
  · subst z; exact pi_keysM he (noSup_eq h1) h2
  · subst z; exact pi_values he (noSup_eq h1) h2
theorem pe_or {e : Expr} {t u : TE} (h : PE X e t) (g : PE X e u) : PE X e (fun σ H R => t σ H R ∨ u σ H R) :=
  ⟨fun pins s σ H R I q => q.elim (fun q => h.run pins s σ H R I q) fun q => g.run pins s σ H R I q⟩
theorem compL_nx {elt : D → Mem → Res (Option D)} : ∀ (xs acc : List D) (m : Mem) (y : Xn) (m' : Mem), compL elt xs acc m ≠ .exc y m'
  | [], _, _, _, _ => fun z => nomatch z
  | x :: xs, acc, m, y, m' => by
    show (match elt x m with
      | .ok (some y) m' => if fits (acc.length + 1) then compL elt xs (acc ++ [y]) m' else .bad
      | .ok none m' => compL elt xs acc m'
      | _ => .bad) ≠ .exc y m'
    cases elt x m with
    | ok z m1 =>
      cases z with
      | none => exact compL_nx xs acc m1 y m'
      | some z =>
        dsimp only
        split
        · exact compL_nx xs _ m1 y m'
        · exact fun z => nomatch z
    | exc z m1 => exact fun z => nomatch z
    | bad => exact fun z => nomatch z
theorem compG_nx {g : Tg} {own : List Nat} {fc : Env → Mem → Res Bool} {fe : Env → Mem → Res D} {env : Env} {xs : List D} {m : Mem} {y : Xn} {m' : Mem} : compG g own fc fe env (.all xs) m ≠ .exc y m' := by
  show ((compL (eltG g own fc fe env) xs [] m).bind fun ys m2 => new m2 (.lst ys)) ≠ _
  cases e : compL (eltG g own fc fe env) xs [] m with
  | ok ys m1 => exact fun z => nomatch z
  | exc z m1 => exact absurd e (compL_nx _ _ _ _ _)
  | bad => exact fun z => nomatch z
theorem RP.lock {F : Addr → Prop} {r : List Addr} {H : Hp} {a : Addr} {u : HO} {od : Obj} {Wx : XK} {Q : VK} {res : Res D} (h : RP X.K N (RelD N) Wx F r H Q res) (hn : ∀ y m, res ≠ .exc y m) (hF : F a) (ha : H a = some u) (hu : Dct u) :
    RP X.K N (RelD N) Wx F r (upd H a (.frz od u)) (fun v H' => H' a = some (.frz od u) ∧ Q v (upd H' a u)) res := by
  cases res with
  | ok d m =>
    intro F' r' H' v x S q
    have h1 := x.frzs a od u upd_same
    have lk : Lk F' H' (upd H' a u) := Lk.unlock h1 hu
    exact ⟨h1, h F' r' _ v (Ext.unlock ha hu x h1) (S.lk lk (x.mono a hF)) (q.lk lk)⟩
  | exc y m => exact absurd rfl (hn y m)
  | bad => exact h
theorem x_compK {kd : Kd} {elt iter : Expr} {ifs : List Expr} {scope : Scope} {own : List (Str × Nat)} {g : Tg} {fc : Env → Mem → Res Bool} {fe : Env → Mem → Res D} (hc : X.calm = true) (hN : X.N.Nodup) (hi : PI X tg iter (kTI kd (tVr i))) (ok : BlkOk X.N X.env.scope scope own)
    (hg : ∀ (s : Shared) (H : Hp) (C : Addr) (cl : List (Str × Addr)) (fp : List Addr), PG (X.blk s H scope (compEnvC scope cl C X.env) fp) tg (tG X.K N g)) (ht : ∀ (s : Shared) (H : Hp) (C : Addr) (cl : List (Str × Addr)) (fp : List Addr), PTs (X.blk s H scope (compEnvC scope cl C X.env) fp) ifs (tTT X.K N WF fc))
    (he : ∀ (s : Shared) (H : Hp) (C : Addr) (cl : List (Str × Addr)) (fp : List Addr), PE (X.blk s H scope (compEnvC scope cl C X.env) fp) elt (tD X.K N WF fe)) (hs : ∀ x, foldedSetIterable iter X.env x = pure x) (hown : ∀ k ∈ tgV g, k ∈ own.map (·.2)) :
    PE X (.ListComp elt [⟨tg, iter, ifs, 0⟩] scope pos) (tD X.K N W fun env m => match env[i]? with
      | some (some x) => (match keysD kd x with
        | some xs => compG g (own.map (·.2)) fc fe env (.all xs) m
        | none => .bad)
      | _ => .bad) := by
  have p0 := pe_lc (pos := pos) hc hN hi ok hg ht he hs
  refine pe_imp (pe_or p0 (pe_lock p0)) fun σ H Q ⟨F, r, env, m, S, SE, h⟩ => ?_
  dsimp only at h
  split at h
  · rename_i x ex
    split at h
    · rename_i xs hk
      obtain ⟨v, e1, q⟩ := SE.at_ i x ex
      obtain ⟨a, u, rfl, f, hu, s⟩ := keys_at q hk
      rcases s with s | ⟨o, s⟩
      · refine .inr ⟨a, u, s, hu.mut, fun od => ?_⟩
        have lk : Lk F H (upd H a (.frz od u)) := Lk.lock s hu
        obtain ⟨J, ok', go⟩ := keys_go (K := X.K) (q.lk lk) hu upd_same hk
        exact go i σ _ e1 (lc_in hown (S.lk lk f) (SE.lk lk) ok' (RP.lock h (fun _ _ => compG_nx) f s hu))
      · obtain ⟨J, ok', go⟩ := keys_go (K := X.K) q hu s hk
        exact .inl (go i σ _ e1 (lc_in hown S SE ok' h))
    · exact h.elim
  · exact h.elim
end
end Ev
/-! EvM: the check of an expression's text; every expression that passes keeps the reading. -/
namespace Ev
open PySem L2

/-! ### what is walked -/
section
variable {X : Cx} {N : Nm} {W : WX} {a b tg : Expr} {fa fb : Env → Mem → Res D} {pos p : Pos}
theorem i_seq (ha : PE X a (tD X.K N W fa)) : PI X tg a (tII X.K N W fun env m => (fa env m).bind fun x m1 => Res.opt (seqI x m1) m1) := by
  refine pi_imp (pi_or (pi_tup ha) (pi_or (pi_list ha) (pi_str ha))) fun σ H R ⟨F, r, env, m, S, SE, h⟩ => ?_
  rcases tE_ans (R := RelD N) (β := V) (g := fun x m1 => Res.opt (seqI x m1) m1) S SE h with ⟨d, m1, e, h1⟩ | h1
  · obtain ⟨its, e1, h2⟩ := RP.opt_some h1
    unfold seqI at e1
    split at e1
    · cases e1
      exact .inl (tE_ok S SE e fun F1 r1 H1 v x S1 q => by
        obtain ⟨ad, vs, rfl, hA, l⟩ := q
        exact ⟨ad, rfl, ⟨vs, SqT.of hA⟩, RP.here S1 (RP.ext h2 x) (it_tup hA l)⟩)
    · cases e1
      exact .inr (.inl (tE_ok S SE e fun F1 r1 H1 v x S1 q => by
        obtain ⟨ad, vs, rfl, hF, hA, l⟩ := q
        exact ⟨ad, rfl, ⟨vs, .inl hA⟩, RP.here S1 (RP.ext h2 x) (it_lst hF hA l)⟩))
    · cases e1
      exact .inr (.inr (tE_ok S SE e fun F1 r1 H1 v x S1 q => ⟨_, q, RP.here S1 (RP.ext h2 x) it_str⟩))
    · rename_i k
      split at e1
      · rename_i xs em
        cases e1
        exact .inr (.inl (tE_ok S SE e fun F1 r1 H1 v x S1 q => by
          obtain ⟨ad, hi, rfl⟩ := q
          obtain ⟨vs, eH, _⟩ := S1.ref em hi
          exact ⟨ad, rfl, ⟨vs, SqL.of eH⟩, RP.here S1 (RP.ext h2 x) (it_ref hi)⟩))
      · cases e1
    · cases e1
  · exact .inl (h1 _)
def rng1G : Env → D → Mem → Res Ev.Its := fun _ x m1 => match x with
    | .int j => if rngOk j then .ok (.all (rngL 0 j.toNat)) m1 else .bad
    | _ => .bad
theorem rngOk_of {j : Int} (h : rngOk j = true) : -(2 ^ 62) ≤ j ∧ j < 2 ^ 62 := by
  unfold rngOk at h
  simpa using h
theorem i_rng1 (hg : Gl X "range") (hm : X.mg "range" = none) (ha : PE X a (tD X.K N W fa)) (hs : noStar a = true) : PI X tg (.Call (.Name "range" p) [a] [] pos) (tII X.K N W fun env m => (fa env m).bind fun x m1 => rng1G env x m1) := by
  refine pi_imp (pi_range1 hg hm (pa_cons ha pa_nil (noStar_eq hs)) (noStar_eq hs)) fun σ H R h => one (g := rng1G) h fun F r env m H1 d v S SE q h => ?_
  unfold rng1G at h
  split at h
  · rename_i j
    split at h
    · rename_i hk
      cases (show v = V.int j from q)
      exact ⟨j, rfl, (rngOk_of hk).1, (rngOk_of hk).2, RP.here S h it_rng⟩
    · exact h.elim
  · exact h.elim
def rng2G : Env → D → D → Mem → Res Ev.Its := fun _ x y m2 => match x, y with
    | .int i, .int j => if rngOk i && rngOk j then .ok (.all (rngL i (j - i).toNat)) m2 else .bad
    | _, _ => .bad
theorem i_rng2 (hg : Gl X "range") (hm : X.mg "range" = none) (ha : PE X a (tD X.K N W fa)) (hb : PE X b (tD X.K N W fb)) (hs : noStar a = true) (hs2 : noStar b = true) : PI X tg (.Call (.Name "range" p) [a, b] [] pos) (tII X.K N W fun env m => (fa env m).bind fun x m1 => (fb env m1).bind fun y m2 => rng2G env x y m2) := by
  refine pi_imp (pi_range2 hg hm (pa_cons ha (pa_cons hb pa_nil (noStar_eq hs2)) (noStar_eq hs)) ((noStar_eq hs).trans (congrArg _ (noStar_eq hs2))) (noStar_eq hs2)) fun σ H R h => two (w := rng2G) h fun F r env m H1 d e v u S SE q1 q2 h => ?_
  unfold rng2G at h
  split at h
  · rename_i i j
    split at h
    · rename_i hk
      rw [Bool.and_eq_true] at hk
      cases (show v = V.int i from q1)
      cases (show u = V.int j from q2)
      exact ⟨i, j, rfl, ⟨(rngOk_of hk.1).1, (rngOk_of hk.1).2, (rngOk_of hk.2).1, (rngOk_of hk.2).2⟩, RP.here S h it_rng⟩
    · exact h.elim
  · exact h.elim
theorem i_enum {elts : List Expr} {kk : Nat} {tpos : Pos} (hg : Gl X "enumerate") (hm : X.mg "enumerate" = none) (ha : PE X a (tD X.K N W fa)) (hs : noStar a = true) : PI X (.Tuple elts kk tpos) (.Call (.Name "enumerate" p) [a] [] pos) (tII X.K N W fun env m => (fa env m).bind fun x m1 => Res.opt (enuI x m1) m1) := by
  refine pi_imp (pi_or (pi_enumT hg hm (pa_cons ha pa_nil (noStar_eq hs)) (noStar_eq hs)) (pi_enum hg hm (pa_cons ha pa_nil (noStar_eq hs)) (noStar_eq hs))) fun σ H R ⟨F, r, env, m, S, SE, h⟩ => ?_
  rcases tE_ans (R := RelD N) (β := V) (g := fun x m1 => Res.opt (enuI x m1) m1) S SE h with ⟨d, m1, e, h1⟩ | h1
  · obtain ⟨its, e1, h2⟩ := RP.opt_some h1
    unfold enuI at e1
    split at e1
    · cases e1
      exact .inl (tE_ok S SE e fun F1 r1 H1 v x S1 q => by
        obtain ⟨ad, vs, rfl, hA, l⟩ := q
        exact ⟨ad, vs, rfl, SqT.of hA, RP.here S1 (RP.ext h2 x) (it_enumT hA l)⟩)
    · cases e1
      exact .inr (tE_ok S SE e fun F1 r1 H1 v x S1 q => by
        obtain ⟨ad, vs, rfl, hF, hA, l⟩ := q
        exact ⟨ad, vs, rfl, .inl hA, RP.here S1 (RP.ext h2 x) (it_enum hF hA l)⟩)
    · split at e1
      · rename_i xs em
        cases e1
        exact .inr (tE_ok S SE e fun F1 r1 H1 v x S1 q => by
          obtain ⟨ad, hi, rfl⟩ := q
          obtain ⟨vs, eH, _⟩ := S1.ref em hi
          exact ⟨ad, vs, rfl, SqL.of eH, RP.here S1 (RP.ext h2 x) (it_enumR hi)⟩)
      · cases e1
    · cases e1
  · exact .inl (h1 _)
def zipG : Env → D → D → Mem → Res Ev.Its := fun _ x y m2 => Res.opt (zipI x y m2) m2
theorem i_zip {elts : List Expr} {kk : Nat} {tpos : Pos} (hg : Gl X "zip") (hm : X.mg "zip" = none) (ha : PE X a (tD X.K N W fa)) (hb : PE X b (tD X.K N W fb)) (hs : noStar a = true) (hs2 : noStar b = true) : PI X (.Tuple elts kk tpos) (.Call (.Name "zip" p) [a, b] [] pos) (tII X.K N W fun env m => (fa env m).bind fun x m1 => (fb env m1).bind fun y m2 => zipG env x y m2) := by
  refine pi_imp (pi_zipM hg hm (pa_cons ha (pa_cons hb pa_nil (noStar_eq hs2)) (noStar_eq hs)) (noStar_eq hs) (by rw [noStar_eq hs2]; rfl)) fun σ H R h => two (w := zipG) h fun F r env m H1 d e v u S SE q1 q2 h => ?_
  obtain ⟨its, e1, h1⟩ := RP.opt_some h
  obtain ⟨a1, a2, p, q, vs, ws, rfl, rfl, s1, s2, ok⟩ := it_zipI S q1 q2 e1
  exact ⟨a1, a2, vs, ws, p, q, rfl, s1, s2, RP.here S h1 ok⟩
theorem i_rev (hg : Gl X "reversed") (hm : X.mg "reversed" = none) (ha : PE X a (tD X.K N W fa)) (hs : noStar a = true) : PI X tg (.Call (.Name "reversed" p) [a] [] pos) (tII X.K N W fun env m => (fa env m).bind fun x m1 => Res.opt (revI x m1) m1) := by
  refine pi_imp (RT.pi_revA hg hm ha (noStar_eq hs)) fun σ H R h => one (g := fun _ x m1 => Res.opt (revI x m1) m1) h fun F r env m H1 d v S SE q h => ?_
  obtain ⟨its, e1, h1⟩ := RP.opt_some h
  unfold revI at e1
  split at e1
  · cases e1
    obtain ⟨ad, vs, rfl, hA, l⟩ := q
    exact ⟨ad, vs, rfl, .inr ⟨SqT.of hA, RP.here S h1 (it_revT hA l)⟩⟩
  · cases e1
    obtain ⟨ad, vs, rfl, hF, hA, l⟩ := q
    exact ⟨ad, vs, rfl, .inl ⟨.inl hA, RP.here S h1 (it_rev hF hA l)⟩⟩
  · rename_i k
    split at e1
    · rename_i xs em
      cases e1
      obtain ⟨ad, hi, rfl⟩ := q
      obtain ⟨vs, eH, l⟩ := S.ref em hi
      rw [l.length] at h1
      exact ⟨ad, vs, rfl, .inl ⟨SqL.of eH, RP.here S h1 (it_revR hi)⟩⟩
    · cases e1
  · cases e1
theorem x_lrev {p2 pos2 : Pos} (calm : X.calm = true) (hg : Gl X "list") (hm : X.mg "list" = none) (hg2 : Gl X "reversed") (hm2 : X.mg "reversed" = none) (ha : PE X a (tD X.K N W fa)) (hs : noStar a = true) :
    PE X (.Call (.Name "list" p) [.Call (.Name "reversed" p2) [a] [] pos2] [] pos) (tD X.K N W fun env m => (fa env m).bind fun x m1 => revD x m1) := by
  refine pe_imp (Rv.pe_lstRev calm hg hm hg2 hm2 ha (noStar_eq hs)) fun σ H Q h => one (g := fun _ x m1 => revD x m1) h fun F r env m H1 d v S SE q h => ?_
  unfold revD at h
  split at h
  · rename_i xs e
    obtain ⟨ad, vs, rfl, hR, l⟩ := shown_lst S e q
    exact ⟨ad, vs, rfl, .inl hR, fun p hp => RP.new S h hp ⟨vs.reverse, upd_same, l.reverse.ext (Ext.new S hp)⟩⟩
  · exact h.elim
theorem rel_ints {F : Addr → Prop} {r : List Addr} {H : Hp} : ∀ l : List Nat, RelL N F r H (l.map fun i => D.int (0 + (i : Nat))) (l.map fun i => V.int (0 + (i : Nat)))
  | [] => rfl
  | _ :: l => ⟨_, _, rfl, rfl, rel_ints l⟩
theorem x_lrng {p2 pos2 : Pos} (calm : X.calm = true) (hg : Gl X "list") (hm : X.mg "list" = none) (hg2 : Gl X "range") (hm2 : X.mg "range" = none) (ha : PE X a (tD X.K N W fa)) (hs : noStar a = true) :
    PE X (.Call (.Name "list" p) [.Call (.Name "range" p2) [a] [] pos2] [] pos) (tD X.K N W fun env m => (fa env m).bind fun x m1 => lrngD x m1) := by
  refine pe_imp (pe_listRg calm hg hm (prg_1 hg2 hm2 ha (noStar_eq hs)) rfl) fun σ H Q h => one (g := fun _ x m1 => lrngD x m1) h fun F r env m H1 d v S SE q h => ?_
  unfold lrngD at h
  split at h
  · rename_i j
    split at h
    · rename_i hk
      cases (show v = V.int j from q)
      obtain ⟨h1, h2⟩ := hk
      refine ⟨j, rfl, ⟨by omega, by omega, by omega, by omega, by omega⟩, fun p hp => RP.new S h hp ⟨rgV 0 j, upd_same, ?_⟩⟩
      unfold rgV rngL
      rw [Int.sub_zero]
      exact rel_ints _
    · exact h.elim
  · exact h.elim
theorem x_stp {b : Expr} {fb : Env → Mem → Res D} {p3 : Pos} (ha : PE X a (tD X.K N W fa)) (hb : PE X b (tD X.K N W fb)) : PE X (.Subscript a (.Slice none none (some b) p3) pos) (tD X.K N W fun env m => (fa env m).bind fun x m1 => (fb env m1).bind fun y m2 => stpD x y m2) := by
  refine pe_imp (pe_stp ha hb) fun σ H Q h => two (w := fun _ x y m2 => stpD x y m2) h fun F r env m H1 d e v u S _ q1 q2 h => ?_
  unfold stpD at h
  split at h
  · rename_i xs s
    split at h
    · rename_i hs
      obtain ⟨ad, vs, rfl, hR, l⟩ := q1
      refine ⟨s, q2, ad, vs, rfl, hs, SqT.of hR, fun k1 => ?_, fun p hp => ?_⟩
      · subst k1
        rw [HT.stepL_one] at h
        exact RP.here S h ⟨ad, vs, rfl, hR, l⟩
      · refine RP.tup S h hp ?_
        unfold stepL
        rw [l.length]
        exact rel_pick (K := X.K) l _
    · exact h.elim
  · exact h.elim
theorem x_revt {k : Nat} {p1 p2 p3 : Pos} (ha : PE X a (tD X.K N W fa)) : PE X (.Subscript a (.Slice none none (some (.UnaryOp .USub (.Constant (.int 1) k p1) p2)) p3) pos) (tD X.K N W fun env m => (fa env m).bind fun x m1 => revtD x m1) := by
  refine pe_imp (pe_revA ha) fun σ H Q h => one (g := fun _ x m1 => revtD x m1) h fun F r env m H1 d v S SE q h => ?_
  unfold revtD at h
  split at h
  · rename_i xs e
    obtain ⟨ad, vs, rfl, hR, l⟩ := shown_lst S e q
    exact ⟨ad, vs, rfl, .inl ⟨.inl hR, fun p hp => RP.new S h hp ⟨vs.reverse, upd_same, l.reverse.ext (Ext.new S hp)⟩⟩⟩
  · rename_i xs e
    have e := shown_tup e
    subst e
    obtain ⟨ad, vs, rfl, hA, l⟩ := q
    exact ⟨ad, vs, rfl, .inr ⟨SqT.of hA, fun p hp => RP.tup S h hp l.reverse⟩⟩
  · exact h.elim
theorem x_rev {k : Nat} {p1 p2 p3 : Pos} (ha : PE X a (tD X.K N W fa)) : PE X (.Subscript a (.Slice none none (some (.UnaryOp .USub (.Constant (.int 1) k p1) p2)) p3) pos) (tD X.K N W fun env m => (fa env m).bind fun x m1 => revD x m1) := by
  refine pe_imp (pe_revL ha) fun σ H Q h => one (g := fun _ x m1 => revD x m1) h fun F r env m H1 d v S SE q h => ?_
  unfold revD at h
  split at h
  · rename_i xs e
    obtain ⟨ad, vs, rfl, hR, l⟩ := shown_lst S e q
    exact ⟨ad, vs, rfl, .inl hR, fun p hp => RP.new S h hp ⟨vs.reverse, upd_same, l.reverse.ext (Ext.new S hp)⟩⟩
  · exact h.elim
end

/-! ### the checks -/
def visB (sc : Scope) (x : Str) : Bool := match sc.names.lookup x with
  | some .local => true | some .cell => true | some .free => true
  | _ => false
def glB (sc : Scope) (x : Str) : Bool := match sc.names.lookup x with
  | some .globalImplicit => true
  | _ => false
def locB (sc raw : Scope) (x : Str) : Bool := decide (sc.names.lookup x = some .local) || (decide (sc.names.lookup x = some .cell) && decide (raw.names.lookup x = some .cell))
def ndB (x : Str) : Bool := !(x == ("__debug__" : Str)) && !(x == ("__classdict__" : Str))
def cstB : D → Const → Bool
  | .non, .none => true
  | .bl b, .bool c => b == c
  | .int i, .int j => decide (i = j)
  | .str s, .str t => decide (s = t)
  | _, _ => false
def tyName : Ty → Str
  | .int => "int" | .bool => "bool" | .str => "str" | .tuple => "tuple" | .list => "list" | .dict => "dict" | .own _ => ""
def isOwn : Ty → Bool
  | .own _ => true
  | _ => false
def blName : Blt → Str
  | .len => "len" | .int => "int" | .str => "str" | .list => "list" | .tuple => "tuple" | .dict => "dict" | .max => "max" | .min => "min" | .abs => "abs" | .sum => "sum" | .sorted => "sorted" | .any => "any" | .all => "all" | .ord => "ord"
def mtName : Mth → Str
  | .append => "append" | .extend => "extend" | .pop => "pop" | .join => "join" | .isalpha => "isalpha" | .upper => "upper" | .index => "index" | .sindex => "index" | _ => ""
def isBO : SE → Expr → Bool
  | .and _ _, .BoolOp .And _ _ => true
  | .or _ _, .BoolOp .Or _ _ => true
  | _, _ => false
def okName (sc : Scope) (x : Str) : Bool := glB sc x && ndB x && decide (x ≠ "__name__")
/-- a dict that is walked, by its name -/
def chkK (nm : List Str) (kd : Kd) (i : Nat) (sc : Scope) (e : Expr) : Bool := match kd with
  | .keys => match e with
    | .Name x _ => decide (nm[i]? = some x) && visB sc x && ndB x
    | _ => false
  | .keysM => match e with
    | .Call (.Attribute (.Name x _) mt apos) [] [] cpos => decide (mt = "keys") && decide (nm[i]? = some x) && visB sc x && ndB x && (apos.endLine == cpos.line)
    | _ => false
  | .vals => match e with
    | .Call (.Attribute (.Name x _) mt apos) [] [] cpos => decide (mt = "values") && decide (nm[i]? = some x) && visB sc x && ndB x && (apos.endLine == cpos.line)
    | _ => false
section
variable (S : Stat) (T : Tab) (N : Nm) (nm : List Str)
mutual
def chkG : Tg → Scope → Scope → Expr → Bool
  | .nm i, sc, raw, e => match e with
    | .Name x _ => decide (nm[i]? = some x) && locB sc raw x
    | _ => false
  | .tup ts, sc, raw, e => match e with
    | .Tuple es _ _ => es.all noStar && chkGs ts sc raw es
    | _ => false
def chkGs : List Tg → Scope → Scope → List Expr → Bool
  | [], _, _, es => es.isEmpty
  | t :: ts, sc, raw, es => match es with
    | e :: es => chkG t sc raw e && chkGs ts sc raw es
    | [] => false
end
mutual
def chkE : SE → Scope → Expr → Bool
  | .stk, _, _ => true
  | .var i, sc, e => match e with
    | .Name x _ => decide (nm[i]? = some x) && visB sc x && ndB x
    | _ => false
  | .cst d, _, e => match e with
    | .Constant c _ _ => cstB d c
    | _ => false
  | .glb g, sc, e => match e with
    | .Name x _ => glB sc x && decide (S.gl.lookup x = some g) && ndB x
    | _ => false
  | .bin o a b, sc, e => match e with
    | .BinOp a' o' b' _ => decide (o' = bop o) && chkE a sc a' && chkE b sc b'
    | _ => false
  | .neg a, sc, e => match e with
    | .UnaryOp o' a' _ => decide (o' = .USub) && chkE a sc a'
    | _ => false
  | .not a, sc, e => match e with
    | .UnaryOp o' a' _ => decide (o' = .Not) && chkE a sc a'
    | _ => false
  | .cmp o a b, sc, e => match e with
    | .Compare a' [o'] [b'] _ => decide (o' = cop o) && !behindInMarks (cop o) b' && chkE a sc a' && chkE b sc b'
    | _ => false
  | .chn o p a b c, sc, e => match e with
    | .Compare a' [o', p'] [b', c'] _ => decide (o' = cop o) && decide (p' = cop p) && !lastMarks [cop o, cop p] [b', c'] && chkE a sc a' && chkE b sc b' && chkE c sc c'
    | _ => false
  | .isn neg a, sc, e => match e with
    | .Compare a' [o'] [.Constant .none _ _] _ => decide (o' = if neg then .IsNot else .Is) && chkE a sc a'
    | _ => false
  | .isb neg k a, sc, e => match e with
    | .Compare a' [o'] [.Constant (.bool k') _ _] _ => decide (o' = if neg then .IsNot else .Is) && decide (k' = k) && chkE a sc a'
    | _ => false
  | .isi a ts, sc, e => match e with
    | .Call (.Name f _) [a', .Name ty _] [] _ => match ts with
      | [t] => decide (f = "isinstance") && okName sc f && !isOwn t && decide (ty = tyName t) && okName sc ty && noStar a' && chkE a sc a'
      | _ => false
    | _ => false
  | .and a b, sc, e => match e with
    | .BoolOp o (x :: y :: rest) pos => decide (o = .And) && chkE a sc x && (match rest with
      | [] => chkE b sc y
      | z :: rest => isBO b (.BoolOp o (y :: z :: rest) pos) && chkE b sc (.BoolOp o (y :: z :: rest) pos))
    | _ => false
  | .or a b, sc, e => match e with
    | .BoolOp o (x :: y :: rest) pos => decide (o = .Or) && chkE a sc x && (match rest with
      | [] => chkE b sc y
      | z :: rest => isBO b (.BoolOp o (y :: z :: rest) pos) && chkE b sc (.BoolOp o (y :: z :: rest) pos))
    | _ => false
  | .ife c a b, sc, e => match e with
    | .IfExp c' a' b' _ => chkE c sc c' && chkE a sc a' && chkE b sc b'
    | _ => false
  | .tup es, sc, e => match e with
    | .Tuple es' _ _ => chkEs es sc es'
    | _ => false
  | .lst es, sc, e => match e with
    | .List es' _ => chkEs es sc es'
    | _ => false
  | .dnew _, _, e => match e with
    | .Dict [] [] _ => true
    | _ => false
  | .ddis ks, sc, e => match e with
    | .Dict keys vals _ => !keys.isEmpty && decide (keys.length ≤ 15) && chkPs ks sc keys vals
    | _ => false
  | .idx a b, sc, e => match e with
    | .Subscript a' b' _ => notSl b' && chkE a sc a' && chkE b sc b'
    | _ => false
  | .slc a lo hi, sc, e => match e with
    | .Subscript a' (.Slice lo' hi' none _) _ => chkE a sc a' && chkO lo sc lo' && chkO hi sc hi'
    | _ => false
  | .stp a b, sc, e => match e with
    | .Subscript a' (.Slice none none (some b') _) _ => chkE a sc a' && chkE b sc b'
    | _ => false
  | .revt a, sc, e => match e with
    | .Subscript a' (.Slice none none (some (.UnaryOp .USub (.Constant (.int 1) _ _) _)) _) _ => chkE a sc a'
    | _ => false
  | .rev a, sc, e => match e with
    | .Subscript a' (.Slice none none (some (.UnaryOp .USub (.Constant (.int 1) _ _) _)) _) _ => chkE a sc a'
    | .Call (.Name f _) [.Call (.Name g _) [a'] [] _] [] _ => decide (f = "list") && okName sc f && decide (g = "reversed") && okName sc g && noStar a' && chkE a sc a'
    | _ => false
  | .lrng a, sc, e => match e with
    | .Call (.Name f _) [.Call (.Name g _) [a'] [] _] [] _ => decide (f = "list") && okName sc f && decide (g = "range") && okName sc g && noStar a' && chkE a sc a'
    | _ => false
  | .iso a c, sc, e => match e with
    | .Call (.Name f _) [a', .Name ty _] [] _ => decide (f = "isinstance") && okName sc f && ((decide (S.cn.lookup ty = some c) && decide (c ≠ 999)) || (decide (ty = "ValueError") && decide (c = 999))) && okName sc ty && noStar a' && chkE a sc a'
    | _ => false
  | .lvals a, sc, e => match e with
    | .Call (.Name f _) [.Call (.Attribute a' mt apos) [] [] cpos] [] _ => decide (f = "list") && okName sc f && decide (mt = "values") && noSup a' && (apos.endLine == cpos.line) && chkE a sc a'
    | _ => false
  | .call f es, sc, e => match e with
    | .Call (.Name x _) es' [] _ => decide (S.fns.lookup x = some f) && okName sc x && chkEs es sc es'
    | .Call (.Attribute (.Name x _) mt apos) es' [] pos => decide (mt = "__init__") && decide (S.sup.lookup x = some f) && okName sc x && (apos.endLine == pos.line) && decide (es'.length < 30) && !es'.isEmpty && chkEs es sc es'
    | _ => false
  | .make c es, sc, e => match e with
    | .Call (.Name x _) es' [] _ => decide (S.cls.lookup x = some c) && (T.init c).isSome && okName sc x && chkEs es sc es'
    | _ => false
  | .omet k o es, sc, e => match e with
    | .Call (.Attribute o' x apos) es' [] pos => decide (S.mth.lookup x = some k) && noSup o' && (apos.endLine == pos.line) && decide (es'.length < 30) && chkE o sc o' && chkEs es sc es'
    | _ => false
  | .fld o f, sc, e => match e with
    | .Attribute o' x _ => decide (x = N.fn f) && decide (f < S.nf) && noSup o' && chkE o sc o'
    | _ => false
  | .blt b es, sc, e => match e with
    | .Call (.Name x _) (e' :: es') [] _ => decide (x = blName b) && decide (blName b ≠ "") && okName sc x && chkEs es sc (e' :: es')
    | _ => false
  | .mth b o es, sc, e => match e with
    | .Call (.Attribute o' x apos) es' [] pos => decide (x = mtName b) && decide (mtName b ≠ "") && noSup o' && (apos.endLine == pos.line) && decide (es'.length < 30) && chkE o sc o' && chkEs es sc es'
    | _ => false
  | .comp el g it c own, sc, e => match e with
    | .ListComp el' [⟨tg, iter, ifs, 0⟩] scope _ => notSet iter && chkI it sc tg iter && decide ((own.filterMap fun i => nm[i]?.map fun x => (x, i)).map (·.2) = own) && blkC nm sc scope (own.filterMap fun i => nm[i]?.map fun x => (x, i)) &&
        (tgV g).all (fun i => own.contains i) && chkG nm g (relS scope sc) scope tg && chkE el (relS scope sc) el' && (match ifs with
        | [] => chkC c (relS scope sc) none
        | [c'] => chkC c (relS scope sc) (some c')
        | _ => false)
    | _ => false
  | .compK kd el g i c own, sc, e => match e with
    | .ListComp el' [⟨tg, iter, ifs, 0⟩] scope _ => notSet iter && chkK nm kd i sc iter && decide ((own.filterMap fun i => nm[i]?.map fun x => (x, i)).map (·.2) = own) && blkC nm sc scope (own.filterMap fun i => nm[i]?.map fun x => (x, i)) &&
        (tgV g).all (fun i => own.contains i) && chkG nm g (relS scope sc) scope tg && chkE el (relS scope sc) el' && (match ifs with
        | [] => chkC c (relS scope sc) none
        | [c'] => chkC c (relS scope sc) (some c')
        | _ => false)
    | _ => false
  | .xfld k f, sc, e => match e with
    | .Attribute (.Name x _) y _ => decide (nm[k]? = some x) && visB sc x && ndB x && decide (y = N.fn f)
    | _ => false
def chkEs : SEs → Scope → List Expr → Bool
  | .nil, _, es => es.isEmpty
  | .cons e es, sc, l => match l with
    | e' :: es' => noStar e' && chkE e sc e' && chkEs es sc es'
    | [] => false
def chkPs : SEs → Scope → List (Option Expr) → List Expr → Bool
  | .nil, _, ks, vs => ks.isEmpty && vs.isEmpty
  | .cons _ .nil, _, _, _ => false
  | .cons k (.cons v r), sc, ks, vs => match ks, vs with
    | some k' :: ks', v' :: vs' => chkE k sc k' && chkE v sc v' && chkPs r sc ks' vs'
    | _, _ => false
def chkO : SO → Scope → Option Expr → Bool
  | .no, _, o => o.isNone
  | .yes e, sc, o => match o with
    | some e' => chkE e sc e'
    | none => false
def chkC : SO → Scope → Option Expr → Bool
  | .no, _, o => o.isNone
  | .yes e, sc, o => match o with
    | some e' => chkE e sc e'
    | none => false
def chkI : IT → Scope → Expr → Expr → Bool
  | .seq e, sc, _, x => chkE e sc x
  | .rng1 a, sc, _, x => match x with
    | .Call (.Name f _) [a'] [] _ => decide (f = "range") && okName sc f && noStar a' && chkE a sc a'
    | _ => false
  | .rng2 a b, sc, _, x => match x with
    | .Call (.Name f _) [a', b'] [] _ => decide (f = "range") && okName sc f && noStar a' && noStar b' && chkE a sc a' && chkE b sc b'
    | _ => false
  | .enum a, sc, tg, x => match tg, x with
    | .Tuple _ _ _, .Call (.Name f _) [a'] [] _ => decide (f = "enumerate") && okName sc f && noStar a' && chkE a sc a'
    | _, _ => false
  | .zip a b, sc, tg, x => match tg, x with
    | .Tuple _ _ _, .Call (.Name f _) [a', b'] [] _ => decide (f = "zip") && okName sc f && noStar a' && noStar b' && chkE a sc a' && chkE b sc b'
    | _, _ => false
  | .rev a, sc, _, x => match x with
    | .Call (.Name f _) [a'] [] _ => decide (f = "reversed") && okName sc f && noStar a' && chkE a sc a'
    | _ => false
  | _, _, _, _ => false
end
end
end Ev
/-! EvN: every expression that passes the check keeps the reading by the evaluator. -/
namespace Ev
open PySem L2

theorem Here.blk {X : Cx} {N : Nm} {T : Tab} {S : Stat} {cf : CF} {j : Nat} {nm : List Str} {sc raw : Scope} (h : Here X N T S cf j nm sc raw) (s : Shared) (H : Hp) (scope : Scope) (C : Addr) (cl : List (Str × Addr)) (fp : List Addr) :
    Here (X.blk s H scope (compEnvC scope cl C X.env) fp) N T S cf j nm (relS scope sc) scope := by
  obtain ⟨h1, h2, h3, h4, h5, h6, h7, h8, h9⟩ := h
  subst h3
  exact ⟨h1, h2, rfl, fun x hx => by show (scope.names.lookup x == some NameKind.cell) = true; rw [hx]; rfl, h5, h6, h7, h8, h9⟩
theorem Here.hu {X : Cx} {N : Nm} {T : Tab} {S : Stat} {cf : CF} {j : Nat} {nm : List Str} {sc raw : Scope} (h : Here X N T S cf j nm sc raw) : X.A.units + 160 < cLine := by have := h.room.un; omega
section
variable {X : Cx} {N : Nm} {T : Tab} {S : Stat} {cf : CF} {j : Nat} {nm : List Str} {sc raw : Scope} {W : WX}
theorem Here.vis (h : Here X N T S cf j nm sc raw) {x : Str} (hx : visB sc x = true) : Vis X.env.scope x := by
  rw [h.sc]
  unfold visB at hx
  unfold Vis
  split at hx
  · exact .inl (by assumption)
  · exact .inr (.inl (by assumption))
  · exact .inr (.inr (by assumption))
  · cases hx
theorem Here.gl_ (h : Here X N T S cf j nm sc raw) {x : Str} (hx : glB sc x = true) : Gl X x := by
  show X.env.scope.names.lookup x = _
  rw [h.sc]
  unfold glB at hx
  split at hx
  · assumption
  · cases hx
theorem nd_of {x : Str} (h : ndB x = true) : (x == ("__debug__" : Str)) = false ∧ (x == ("__classdict__" : Str)) = false := by
  unfold ndB at h
  rw [Bool.and_eq_true] at h
  exact ⟨by simpa using h.1, by simpa using h.2⟩
theorem okName_of (h : Here X N T S cf j nm sc raw) {x : Str} (hx : okName sc x = true) : Gl X x ∧ (x == ("__debug__" : Str)) = false ∧ x ≠ "__name__" := by
  unfold okName at hx
  rw [Bool.and_eq_true, Bool.and_eq_true] at hx
  exact ⟨h.gl_ hx.1.1, (nd_of hx.1.2).1, of_decide_eq_true hx.2⟩
theorem x_cst {d : D} {c : Const} {k : Nat} {pos : Pos} (h : cstB d c = true) : PE X (.Constant c k pos) (tD X.K N W fun _ m => .ok d m) := by
  unfold cstB at h
  split at h
  · exact cst_of pe_non fun _ _ _ => rfl
  · cases (show _ = _ from by simpa using h); exact cst_of pe_bl fun _ _ _ => rfl
  · cases (show _ = _ from by simpa using h); exact cst_of pe_int fun _ _ _ => rfl
  · cases (show _ = _ from by simpa using h); exact cst_of pe_str fun _ _ _ => rfl
  · cases h
theorem x_glb (h : Here X N T S cf j nm sc raw) {x : Str} {g : Nat} {pos : Pos} (h1 : glB sc x = true) (h2 : S.gl.lookup x = some g) (h3 : ndB x = true) : PE X (.Name x pos) (tD X.K N W fun _ m => .ok (T.glob g) m) := by
  obtain ⟨u, v, e, r, q⟩ := h.facts.gl x g h2
  exact cst_of (pe_glob (h.gl_ h1) e r (nd_of h3).1) q
theorem ty_pe (h : Here X N T S cf j nm sc raw) {t : Ty} {pos : Pos} (ho : isOwn t = false) (hn : okName sc (tyName t) = true) : PE X (.Name (tyName t) pos) (tC (tyV_ t)) := by
  obtain ⟨h1, h2, h3⟩ := okName_of h hn
  have hm : X.mg (tyName t) = none := h.facts.bl _ (by cases t <;> first | (cases ho; done) | decide)
  cases t <;> first
    | (cases ho; done)
    | exact pe_bltn h1 hm (by decide +kernel) rfl h3 h2
theorem x_blt (h : Here X N T S cf j nm sc raw) {b : Blt} {e : Expr} {es : List Expr} {p pos : Pos} {fL : Env → Mem → Res (List D)} (hn : okName sc (blName b) = true) (ha : PA X (e :: es) (tAA X.K N W fL)) (hs : (e :: es).all noStar = true) (hb : blName b ≠ "") :
    PE X (.Call (.Name (blName b) p) (e :: es) [] pos) (tD X.K N W fun env m => (fL env m).bind fun xs m1 => bltD b xs m1) := by
  obtain ⟨h1, h2, h3⟩ := okName_of h hn
  have hm : X.mg (blName b) = none := h.facts.bl _ (by cases b <;> first | decide | exact absurd rfl hb)
  cases b <;> first
    | exact absurd rfl hb
    | exact x_bltB (clr_len (N := N) (W := WT)) h1 hm (by decide +kernel) h3 h2 ha hs
    | exact x_bltT (clr_int (N := N) (W := WT)) h1 hm (by decide +kernel) h3 h2 ha hs
    | exact x_bltT (clr_str (N := N) (W := WT)) h1 hm (by decide +kernel) h3 h2 ha hs
    | exact x_bltT (clr_list (N := N) (W := WT) h.calm) h1 hm (by decide +kernel) h3 h2 ha hs
    | exact x_bltT (clr_tuple (N := N) (W := WT)) h1 hm (by decide +kernel) h3 h2 ha hs
    | exact x_bltT (clr_dict (N := N) (W := WT)) h1 hm (by decide +kernel) h3 h2 ha hs
    | exact x_bltB (clr_max (N := N) (W := WT) h.calm) h1 hm (by decide +kernel) h3 h2 ha hs
    | exact x_bltB (clr_min (N := N) (W := WT) h.calm) h1 hm (by decide +kernel) h3 h2 ha hs
    | exact x_bltB (clr_abs (N := N) (W := WT)) h1 hm (by decide +kernel) h3 h2 ha hs
    | exact x_bltB (clr_sum (N := N) (W := WT) h.calm) h1 hm (by decide +kernel) h3 h2 ha hs
    | exact x_bltB (clr_sorted (N := N) (W := WT) h.calm) h1 hm (by decide +kernel) h3 h2 ha hs
    | exact x_bltB (clr_any (N := N) (W := WT) h.calm) h1 hm (by decide +kernel) h3 h2 ha hs
    | exact x_bltB (clr_all (N := N) (W := WT) h.calm) h1 hm (by decide +kernel) h3 h2 ha hs
    | exact x_bltB (clr_ord (N := N) (W := WT)) h1 hm (by decide +kernel) h3 h2 ha hs
theorem x_mt (h : Here X N T S cf j nm sc raw) {b : Mth} {o : Expr} {es : List Expr} {apos pos : Pos} {fa : Env → Mem → Res D} {fL : Env → Mem → Res (List D)} (hb : mtName b ≠ "") (ho : PE X o (tD X.K N W fa)) (ha : PA X es (tAA X.K N W fL)) (hs : es.all noStar = true) (hl : es.length < 30) (hsu : noSup o = true) (hline : (apos.endLine == pos.line) = true)
    (hnil : es = [] → fL = fun _ m => .ok [] m) : PE X (.Call (.Attribute o (mtName b) apos) es [] pos) (tD X.K N W fun env m => (fa env m).bind fun y m1 => mthG b fL env y m1) := by
  cases es with
  | nil =>
    rw [hnil rfl]
    cases b <;> first
      | exact absurd rfl hb
      | exact x_mth0 PySem.F.plainAttrs_list PySem.F.slot_list_append PySem.F.type_list_append (mtr_append (N := N) (W := WT)) (ok_lst (by simp)) ho hsu hline
      | exact x_mth0 PySem.F.plainAttrs_list PySem.F.slot_list_extend PySem.F.type_list_extend (mtr_extend (N := N) (W := WT)) (ok_lst (by simp)) ho hsu hline
      | exact x_mth0 PySem.F.plainAttrs_list PySem.F.slot_list_pop PySem.F.type_list_pop (mtr_pop (N := N) (W := WT)) (ok_lst (by simp)) ho hsu hline
      | exact x_mth0 PySem.F.plainAttrs_list PySem.F.slot_list_index PySem.F.type_list_index (mtr_index (N := N) (W := WT) (by have := h.hu; omega)) (ok_lst (by simp)) ho hsu hline
      | exact x_mth0 PySem.F.plainAttrs_str PySem.F.slot_str_join PySem.F.type_str_join (mtr_join (N := N) (W := WT)) (ok_str (by simp)) ho hsu hline
      | exact x_mth0 PySem.F.plainAttrs_str PySem.F.slot_str_isalpha PySem.F.type_str_isalpha (mtr_isalpha (N := N) (W := WT)) (ok_str (by simp)) ho hsu hline
      | exact x_mth0 PySem.F.plainAttrs_str PySem.F.slot_str_upper PySem.F.type_str_upper (mtr_upper (N := N) (W := WT)) (ok_str (by simp)) ho hsu hline
      | exact x_mth0 PySem.F.plainAttrs_str PySem.F.slot_str_index PySem.F.type_str_index (mtr_sindex (N := N) (W := WT)) (ok_str (by simp)) ho hsu hline
  | cons e es =>
    cases b <;> first
      | exact absurd rfl hb
      | exact x_mth PySem.F.plainAttrs_list PySem.F.slot_list_append PySem.F.type_list_append (mtr_append (N := N) (W := WT)) (ok_lst (by simp)) ho ha hs hl hsu hline
      | exact x_mth PySem.F.plainAttrs_list PySem.F.slot_list_extend PySem.F.type_list_extend (mtr_extend (N := N) (W := WT)) (ok_lst (by simp)) ho ha hs hl hsu hline
      | exact x_mth PySem.F.plainAttrs_list PySem.F.slot_list_pop PySem.F.type_list_pop (mtr_pop (N := N) (W := WT)) (ok_lst (by simp)) ho ha hs hl hsu hline
      | exact x_mth PySem.F.plainAttrs_list PySem.F.slot_list_index PySem.F.type_list_index (mtr_index (N := N) (W := WT) (by have := h.hu; omega)) (ok_lst (by simp)) ho ha hs hl hsu hline
      | exact x_mth PySem.F.plainAttrs_str PySem.F.slot_str_join PySem.F.type_str_join (mtr_join (N := N) (W := WT)) (ok_str (by simp)) ho ha hs hl hsu hline
      | exact x_mth PySem.F.plainAttrs_str PySem.F.slot_str_isalpha PySem.F.type_str_isalpha (mtr_isalpha (N := N) (W := WT)) (ok_str (by simp)) ho ha hs hl hsu hline
      | exact x_mth PySem.F.plainAttrs_str PySem.F.slot_str_upper PySem.F.type_str_upper (mtr_upper (N := N) (W := WT)) (ok_str (by simp)) ho ha hs hl hsu hline
      | exact x_mth PySem.F.plainAttrs_str PySem.F.slot_str_index PySem.F.type_str_index (mtr_sindex (N := N) (W := WT)) (ok_str (by simp)) ho ha hs hl hsu hline
mutual
theorem chkG_ok (h : Here X N T S cf j nm sc raw) : ∀ (g : Tg) (e : Expr), chkG nm g sc raw e = true → PG X e (tG X.K N g)
  | .nm i, e, hk => by
    unfold chkG at hk
    split at hk
    · rename_i x p
      rw [Bool.and_eq_true] at hk
      have hi : X.N[i]? = some x := by rw [h.hN]; exact of_decide_eq_true hk.1
      have hl := hk.2
      unfold locB at hl
      rw [Bool.or_eq_true, Bool.and_eq_true] at hl
      have hnd : X.N.Nodup := by rw [h.hN]; exact h.nd
      rcases hl with q | ⟨q1, q2⟩
      · have q := of_decide_eq_true q
        exact g_nm hnd hi (.inl (by rw [h.sc]; exact q)) (.inr (by rw [h.sc]; exact q))
      · exact g_nm hnd hi (.inr (by rw [h.sc]; exact of_decide_eq_true q1)) (.inl (h.fnc x (of_decide_eq_true q2)))
    · cases hk
  | .tup ts, e, hk => by
    unfold chkG at hk
    split at hk
    · rename_i es k p
      rw [Bool.and_eq_true] at hk
      obtain ⟨g1, g2⟩ := chkGs_ok h ts es hk.2
      exact g_tup h.calm g1 hk.1 g2
    · cases hk
theorem chkGs_ok (h : Here X N T S cf j nm sc raw) : ∀ (g : List Tg) (es : List Expr), chkGs nm g sc raw es = true → PGs X es (tGs X.K N g) ∧ es.length = g.length
  | [], es, hk => by
    unfold chkGs at hk
    cases es with
    | nil => exact ⟨gs_nil, rfl⟩
    | cons => cases hk
  | t :: ts, es, hk => by
    unfold chkGs at hk
    cases es with
    | nil => cases hk
    | cons e es =>
      have hk : (chkG nm t sc raw e && chkGs nm ts sc raw es) = true := hk
      rw [Bool.and_eq_true] at hk
      obtain ⟨g1, g2⟩ := chkGs_ok h ts es hk.2
      have hs : noStar e = true := by
        have h1 := hk.1
        cases e <;> first | rfl | (cases t <;> cases h1)
      exact ⟨gs_cons (chkG_ok h t e hk.1) g1 hs, by simp [g2]⟩
end
end
/-- what is known of an expression -/
structure OkE (X : Cx) (N : Nm) (W : WX) (T : Tab) (cf : CF) (n : SE) (e : Expr) : Prop where
  pe : PE X e (tD X.K N W (evE T cf n))
  pt : PT X e (tTT X.K N W (evT T cf n))
  pw : isBO n e = true → PW X e (tTT X.K N W (evT T cf n))
section
variable {X : Cx} {N : Nm} {T : Tab} {S : Stat} {cf : CF} {j : Nat} {nm : List Str} {sc raw : Scope} {W : WX}
theorem OkE.of {n : SE} {e : Expr} (h1 : PE X e (tD X.K N W (evE T cf n))) (h2 : PT X e (tTT X.K N W (evT T cf n))) (h3 : isBO n e = false) : OkE X N W T cf n e := ⟨h1, h2, fun h => by rw [h3] at h; cases h⟩
/-- no test is read -/
theorem OkE.no {n : SE} {e : Expr} (h1 : PE X e (tD X.K N W (evE T cf n))) (h2 : evT T cf n = fun _ _ => .bad) (h3 : isBO n e = false) : OkE X N W T cf n e := .of h1 (by rw [h2]; exact t_stk) h3
/-- a test is the value's truth -/
theorem OkE.val {n : SE} {e : Expr} (h1 : PE X e (tD X.K N W (evE T cf n))) (h2 : evT T cf n = fun env m => (evE T cf n env m).bind fun d m1 => Res.opt (truD d m1) m1) (he : ∀ whole, isTrue e X.env whole = (do let v ← whole; standAt e.pos; holding [v] (truthy v))) (h3 : isBO n e = false) : OkE X N W T cf n e :=
  .of h1 (by rw [h2]; exact t_val h1 he) h3
theorem bind_bind {α β γ : Type} (r : Res α) (f : α → Mem → Res β) (g : β → Mem → Res γ) : (r.bind f).bind g = r.bind fun x m => (f x m).bind g := by cases r <;> rfl
end
end Ev
/-! EvO: the theorem of expressions. -/
namespace Ev
open PySem L2

section
variable {N : Nm} {T : Tab} {S : Stat} {cf : CF} {j : Nat} {nm : List Str}
theorem and2 {a b : Bool} (h : (a && b) = true) : a = true ∧ b = true := by rw [Bool.and_eq_true] at h; exact h
theorem isBO_pos {b : SE} {e : Expr} (h : isBO b e = true) : (∃ x y es p, b = .and x y ∧ e = .BoolOp .And es p) ∨ ∃ x y es p, b = .or x y ∧ e = .BoolOp .Or es p := by
  unfold isBO at h
  split at h
  · exact .inl ⟨_, _, _, _, rfl, rfl⟩
  · exact .inr ⟨_, _, _, _, rfl, rfl⟩
  · cases h
theorem w_one {X : Cx} {W : WX} {n : SE} {e : Expr} {pos : Pos} (o : OkE X N W T cf n e) : PW X (.BoolOp .And [e] pos) (tTT X.K N W (evT T cf n)) := pw_and1 o.pt
theorem chkK_ok {X : Cx} {sc raw : Scope} (h : Here X N T S cf j nm sc raw) (kd : Kd) (i : Nat) (tg e : Expr) (hk : chkK nm kd i sc e = true) : PI X tg e (kTI kd (tVr i)) := by
  have var : ∀ {x : Str} {p : Pos}, nm[i]? = some x → visB sc x = true → ndB x = true → PE X (.Name x p) (tVr i) := fun h1 h2 h3 =>
    pe_imp (pe_var (by rw [h.hN]; exact h1) (h.vis h2) (nd_of h3).1 (nd_of h3).2) fun σ H Q ⟨v, a, b⟩ => ⟨v, a, b⟩
  cases kd with
  | keys =>
    unfold chkK at hk
    dsimp only at hk
    split at hk
    · obtain ⟨hk, h3⟩ := and2 hk
      obtain ⟨h1, h2⟩ := and2 hk
      exact pi_keys (var (of_decide_eq_true h1) h2 h3)
    · cases hk
  | keysM =>
    unfold chkK at hk
    dsimp only at hk
    split at hk
    · obtain ⟨hk, h5⟩ := and2 hk
      obtain ⟨hk, h3⟩ := and2 hk
      obtain ⟨hk, h2⟩ := and2 hk
      obtain ⟨h0, h1⟩ := and2 hk
      cases of_decide_eq_true h0
      exact pi_keysM (var (of_decide_eq_true h1) h2 h3) (noSup_eq rfl) h5
    · cases hk
  | vals =>
    unfold chkK at hk
    dsimp only at hk
    split at hk
    · obtain ⟨hk, h5⟩ := and2 hk
      obtain ⟨hk, h3⟩ := and2 hk
      obtain ⟨hk, h2⟩ := and2 hk
      obtain ⟨h0, h1⟩ := and2 hk
      cases of_decide_eq_true h0
      exact pi_values (var (of_decide_eq_true h1) h2 h3) (noSup_eq rfl) h5
    · cases hk
mutual
theorem okE : ∀ (n : SE) {X : Cx} {W : WX} {sc raw : Scope} (e : Expr), Here X N T S cf j nm sc raw → Takes X W → chkE S T N nm n sc e = true → OkE X N W T cf n e
  | .stk, X, W, sc, raw, e, h, tk, hk => ⟨x_stk, t_stk, fun z => by cases z⟩
  | .var i, X, W, sc, raw, e, h, tk, hk => by
    unfold chkE at hk
    split at hk
    · rename_i x p
      obtain ⟨hk, h3⟩ := and2 hk
      obtain ⟨h1, h2⟩ := and2 hk
      have pe : PE X (.Name x p) (tD X.K N W (evE T cf (.var i))) := x_var (by rw [h.hN]; exact of_decide_eq_true h1) (h.vis h2) (nd_of h3).1 (nd_of h3).2
      refine .of pe (pt_imp (t_val pe fun _ => rfl) fun σ H Q ⟨F, r, env, m, S1, SE, h⟩ => ⟨F, r, env, m, S1, SE, ?_⟩) rfl
      show RP X.K N RelB (WE W σ) F r H Q ((match env[i]? with | some (some d) => Res.ok d m | _ => .bad).bind fun d m1 => Res.opt (truD d m1) m1)
      have h : RP X.K N RelB (WE W σ) F r H Q (match env[i]? with | some (some d) => Res.opt (truD d m) m | _ => .bad) := h
      split at h
      · exact h
      · exact h.elim
    · cases hk
  | .cst d, X, W, sc, raw, e, h, tk, hk => by
    unfold chkE at hk
    split at hk
    · rename_i c kk pos
      have pe : PE X (.Constant c kk pos) (tD X.K N W (evE T cf (.cst d))) := x_cst hk
      exact .of pe (pt_imp (t_val pe fun _ => rfl) fun σ H Q ⟨F, r, env, m, S1, SE, h⟩ => ⟨F, r, env, m, S1, SE, h⟩) rfl
    · cases hk
  | .glb g, X, W, sc, raw, e, h, tk, hk => by
    unfold chkE at hk
    split at hk
    · obtain ⟨hk, h3⟩ := and2 hk
      obtain ⟨h1, h2⟩ := and2 hk
      exact .no (x_glb h h1 (of_decide_eq_true h2) h3) rfl rfl
    · cases hk
  | .bin o a b, X, W, sc, raw, e, h, tk, hk => by
    unfold chkE at hk
    split at hk
    · obtain ⟨hk, h3⟩ := and2 hk
      obtain ⟨h1, h2⟩ := and2 hk
      cases of_decide_eq_true h1
      exact .no (x_bin o (okE a _ h tk h2).pe (okE b _ h tk h3).pe) rfl rfl
    · cases hk
  | .neg a, X, W, sc, raw, e, h, tk, hk => by
    unfold chkE at hk
    split at hk
    · obtain ⟨h1, h2⟩ := and2 hk
      cases of_decide_eq_true h1
      exact .no (x_neg (okE a _ h tk h2).pe) rfl rfl
    · cases hk
  | .not a, X, W, sc, raw, e, h, tk, hk => by
    unfold chkE at hk
    split at hk
    · obtain ⟨h1, h2⟩ := and2 hk
      cases of_decide_eq_true h1
      have o := okE a _ h tk h2
      exact .of (x_not o.pe) (t_not o.pt) rfl
    · cases hk
  | .cmp o a b, X, W, sc, raw, e, h, tk, hk => by
    unfold chkE at hk
    split at hk
    · obtain ⟨hk, h4⟩ := and2 hk
      obtain ⟨hk, h3⟩ := and2 hk
      obtain ⟨h1, h2⟩ := and2 hk
      cases of_decide_eq_true h1
      have oa := okE a _ h tk h3
      have ob := okE b _ h tk h4
      exact .of (x_cmp h.hu o oa.pe ob.pe (by simpa using h2)) (t_cmp h.hu o oa.pe ob.pe (by simpa using h2)) rfl
    · cases hk
  | .chn o p a b c, X, W, sc, raw, e, h, tk, hk => by
    unfold chkE at hk
    split at hk
    · obtain ⟨hk, h6⟩ := and2 hk
      obtain ⟨hk, h5⟩ := and2 hk
      obtain ⟨hk, h4⟩ := and2 hk
      obtain ⟨hk, h3⟩ := and2 hk
      obtain ⟨h1, h2⟩ := and2 hk
      cases of_decide_eq_true h1
      cases of_decide_eq_true h2
      have oa := okE a _ h tk h4
      have ob := okE b _ h tk h5
      have oc := okE c _ h tk h6
      exact .of (x_chn h.hu o p oa.pe ob.pe oc.pe (by simpa using h3)) (t_chn h.hu o p oa.pe ob.pe oc.pe (by simpa using h3)) rfl
    · cases hk
  | .isn neg a, X, W, sc, raw, e, h, tk, hk => by
    unfold chkE at hk
    split at hk
    · obtain ⟨h1, h2⟩ := and2 hk
      cases of_decide_eq_true h1
      have o := okE a _ h tk h2
      exact .of (x_isn neg o.pe) (t_isn neg o.pe) rfl
    · cases hk
  | .isb neg k a, X, W, sc, raw, e, h, tk, hk => by
    unfold chkE at hk
    split at hk
    · obtain ⟨hk, h3⟩ := and2 hk
      obtain ⟨h1, h2⟩ := and2 hk
      cases of_decide_eq_true h1
      cases of_decide_eq_true h2
      have o := okE a _ h tk h3
      exact .of (x_isb neg _ o.pe) (t_isb neg _ o.pe) rfl
    · cases hk
  | .isi a ts, X, W, sc, raw, e, h, tk, hk => by
    unfold chkE at hk
    split at hk
    · rename_i f0 p1 a' ty p2 p3
      split at hk
      · rename_i t
        obtain ⟨hk, h7⟩ := and2 hk
        obtain ⟨hk, h6⟩ := and2 hk
        obtain ⟨hk, h5⟩ := and2 hk
        obtain ⟨hk, h4⟩ := and2 hk
        obtain ⟨hk, h3⟩ := and2 hk
        obtain ⟨h1, h2⟩ := and2 hk
        cases of_decide_eq_true h1
        cases of_decide_eq_true h4
        have o := okE a _ h tk h7
        have pe := x_isi (p := p1) (pos := p3) (t := t) (okName_of h h2).1 (h.facts.bl _ (by decide)) o.pe (ty_pe (pos := p2) h (by simpa using h3) h5) (by rw [List.all_cons, h6]; rfl)
        refine .of pe (pt_imp (t_val pe fun _ => rfl) fun σ H Q ⟨F, r, env, m, S1, SE, h⟩ => ⟨F, r, env, m, S1, SE, ?_⟩) rfl
        show RP X.K N RelB (WE W σ) F r H Q (((evE T cf a env m).bind fun x m1 => Res.opt ((anyTy m1 x [t]).map D.bl) m1).bind fun d m1 => Res.opt (truD d m1) m1)
        have h : RP X.K N RelB (WE W σ) F r H Q ((evE T cf a env m).bind fun x m1 => Res.opt (anyTy m1 x [t]) m1) := h
        rw [bind_bind]
        cases e1 : evE T cf a env m with
        | bad => rw [e1] at h; exact h.elim
        | exc x m1 => rw [e1] at h; exact h
        | ok x m1 =>
          rw [e1] at h
          have h : RP X.K N RelB (WE W σ) F r H Q (Res.opt (anyTy m1 x [t]) m1) := h
          show RP X.K N RelB (WE W σ) F r H Q ((Res.opt ((anyTy m1 x [t]).map D.bl) m1).bind fun d m1 => Res.opt (truD d m1) m1)
          cases e2 : anyTy m1 x [t] with
          | none => rw [e2] at h; exact h.elim
          | some b => rw [e2] at h; exact h
      · cases hk
    · cases hk
  | .and a b, X, W, sc, raw, e, h, tk, hk => by
    unfold chkE at hk
    split at hk
    · rename_i o x y rest pos
      obtain ⟨hk, h3⟩ := and2 hk
      obtain ⟨h1, h2⟩ := and2 hk
      cases of_decide_eq_true h1
      have oa := okE a _ h tk h2
      cases rest with
      | nil =>
        have ob := okE b y h tk h3
        have pw := w_and (pos := pos) oa.pt (pw_and1 ob.pt)
        exact ⟨x_and oa.pe (pe_one ob.pe), pw.pt, fun _ => pw⟩
      | cons z rest =>
        obtain ⟨h4, h5⟩ := and2 h3
        have ob := okE b _ h tk h5
        have pw := w_and (pos := pos) oa.pt (ob.pw h4)
        exact ⟨x_and oa.pe ob.pe, pw.pt, fun _ => pw⟩
    · cases hk
  | .or a b, X, W, sc, raw, e, h, tk, hk => by
    unfold chkE at hk
    split at hk
    · rename_i o x y rest pos
      obtain ⟨hk, h3⟩ := and2 hk
      obtain ⟨h1, h2⟩ := and2 hk
      cases of_decide_eq_true h1
      have oa := okE a _ h tk h2
      cases rest with
      | nil =>
        have ob := okE b y h tk h3
        have pw := w_or (pos := pos) oa.pt (pw_or1 ob.pt)
        exact ⟨x_or oa.pe (pe_one ob.pe), pw.pt, fun _ => pw⟩
      | cons z rest =>
        obtain ⟨h4, h5⟩ := and2 h3
        have ob := okE b _ h tk h5
        have pw := w_or (pos := pos) oa.pt (ob.pw h4)
        exact ⟨x_or oa.pe ob.pe, pw.pt, fun _ => pw⟩
    · cases hk
  | .ife c a b, X, W, sc, raw, e, h, tk, hk => by
    unfold chkE at hk
    split at hk
    · obtain ⟨hk, h3⟩ := and2 hk
      obtain ⟨h1, h2⟩ := and2 hk
      exact .no (x_ife (okE c _ h tk h1).pt (okE a _ h tk h2).pe (okE b _ h tk h3).pe) rfl rfl
    · cases hk
  | .tup es, X, W, sc, raw, e, h, tk, hk => by
    unfold chkE at hk
    split at hk
    · exact .no (x_tup (okEs es _ h tk hk).1) rfl rfl
    · cases hk
  | .lst es, X, W, sc, raw, e, h, tk, hk => by
    unfold chkE at hk
    split at hk
    · exact .no (x_lst (okEs es _ h tk hk).1) rfl rfl
    · cases hk
  | .dnew t, X, W, sc, raw, e, h, tk, hk => by
    unfold chkE at hk
    split at hk
    · exact .no (x_dnew t) rfl rfl
    · cases hk
  | .ddis ks, X, W, sc, raw, e, h, tk, hk => by
    unfold chkE at hk
    split at hk
    · rename_i keys vals pos
      obtain ⟨hk, h3⟩ := and2 hk
      obtain ⟨h1, h2⟩ := and2 hk
      obtain ⟨trs, q1, q2, q3, q4⟩ := okPs ks (pos := pos) keys vals h tk h3
      refine .no (pe_imp (pe_disp q1 q2 q3 (by simpa using h1) (of_decide_eq_true h2)) fun σ H Q ⟨F, r, env, m, S1, SE, hh⟩ => fun p hp => ?_) rfl rfl
      have x1 := Ext.new (o := .dK []) S1 hp
      have S2 := S1.new (o := .dK []) (ob := .dK []) hp ⟨[], upd_same, rfl⟩
      have hh : RP X.K N (RelD N) (WE W σ) F r H Q ((evPs T cf ks env [] (m ++ [.dK []])).bind fun acc m2 => match m2[m.length]? with
        | some (.dK []) => .ok (.ref m.length) (m2.set m.length (.dK acc))
        | _ => .bad) := hh
      refine q4 (acc := []) (ws0 := []) S2 (SE.ext x1) rfl (RP.ext hh x1) fun kvs H2 F2 r2 m2 acc2 hl x2 S3 rel h4 => ?_
      have hr0 : (r ++ [p])[m.length]? = some p := by rw [← S1.len]; simp
      have hr2 := x2.get hr0
      split at h4
      · rename_i em
        obtain ⟨ws, eH, lw⟩ := S3.ref em hr2
        have ew : ws = [] := lw
        subst ew
        refine ⟨eH, kvs, rfl, by rw [hl]; exact of_decide_eq_true h2, ?_⟩
        have x3 := Ext.set (o := .dK (mergeK [] kvs)) S3 (List.mem_of_getElem? hr2) eH
        have S4 := S3.set (o := .dK (mergeK [] kvs)) (ob := .dK acc2) hr2 eH ⟨_, upd_same, (relK_P.mpr rel).ext x3⟩
        exact h4 _ _ _ (.ref p) x3 S4 ⟨p, hr2, rfl⟩
      · exact h4.elim
    · cases hk
  | .idx a b, X, W, sc, raw, e, h, tk, hk => by
    unfold chkE at hk
    split at hk
    · rename_i a' b' p1
      obtain ⟨hk, h3⟩ := and2 hk
      obtain ⟨h1, h2⟩ := and2 hk
      have pe := x_idx (pos := p1) (by have := h.hu; omega) (okE a _ h tk h2).pe (okE b _ h tk h3).pe (notSl_ix h1)
      refine .val pe ?_ (fun _ => rfl) rfl
      funext env m
      show ((evE T cf a env m).bind fun x m1 => (evE T cf b env m1).bind fun y m2 => (Res.opt (idxD x y m2) m2).bind fun d m3 => Res.opt (truD d m3) m3) = (((evE T cf a env m).bind fun x m1 => (evE T cf b env m1).bind fun y m2 => Res.opt (idxD x y m2) m2).bind fun d m1 => Res.opt (truD d m1) m1)
      simp only [bind_bind]
    · cases hk
  | .slc a lo hi, X, W, sc, raw, e, h, tk, hk => by
    unfold chkE at hk
    split at hk
    · obtain ⟨hk, h3⟩ := and2 hk
      obtain ⟨h1, h2⟩ := and2 hk
      exact .no (x_slc (okE a _ h tk h1).pe (okO lo _ h tk h2) (okO hi _ h tk h3)) rfl rfl
    · cases hk
  | .stp a b, X, W, sc, raw, e, h, tk, hk => by
    unfold chkE at hk
    split at hk
    · obtain ⟨h1, h2⟩ := and2 hk
      exact .no (x_stp (okE a _ h tk h1).pe (okE b _ h tk h2).pe) rfl rfl
    · cases hk
  | .revt a, X, W, sc, raw, e, h, tk, hk => by
    unfold chkE at hk
    split at hk
    · exact .no (x_revt (okE a _ h tk hk).pe) rfl rfl
    · cases hk
  | .rev a, X, W, sc, raw, e, h, tk, hk => by
    unfold chkE at hk
    split at hk
    · exact .no (x_rev (okE a _ h tk hk).pe) rfl rfl
    · obtain ⟨hk, h6⟩ := and2 hk
      obtain ⟨hk, h5⟩ := and2 hk
      obtain ⟨hk, h4⟩ := and2 hk
      obtain ⟨hk, h3⟩ := and2 hk
      obtain ⟨h1, h2⟩ := and2 hk
      cases of_decide_eq_true h1
      cases of_decide_eq_true h3
      exact .no (x_lrev h.calm (okName_of h h2).1 (h.facts.bl _ (by decide)) (okName_of h h4).1 (h.facts.bl _ (by decide)) (okE a _ h tk h6).pe h5) rfl rfl
    · cases hk
  | .lrng a, X, W, sc, raw, e, h, tk, hk => by
    unfold chkE at hk
    split at hk
    · obtain ⟨hk, h6⟩ := and2 hk
      obtain ⟨hk, h5⟩ := and2 hk
      obtain ⟨hk, h4⟩ := and2 hk
      obtain ⟨hk, h3⟩ := and2 hk
      obtain ⟨h1, h2⟩ := and2 hk
      cases of_decide_eq_true h1
      cases of_decide_eq_true h3
      exact .no (x_lrng h.calm (okName_of h h2).1 (h.facts.bl _ (by decide)) (okName_of h h4).1 (h.facts.bl _ (by decide)) (okE a _ h tk h6).pe h5) rfl rfl
    · cases hk
  | .iso a c, X, W, sc, raw, e, h, tk, hk => by
    unfold chkE at hk
    split at hk
    · rename_i f0 p1 a' ty p2 p3
      obtain ⟨hk, h6⟩ := and2 hk
      obtain ⟨hk, h5⟩ := and2 hk
      obtain ⟨hk, h4⟩ := and2 hk
      obtain ⟨hk, h3⟩ := and2 hk
      obtain ⟨h1, h2⟩ := and2 hk
      cases of_decide_eq_true h1
      have o := okE a _ h tk h6
      obtain ⟨n1, n2, n3⟩ := okName_of h h4
      have pe : PE X (.Call (.Name "isinstance" p1) [a', .Name ty p2] [] p3) (tD X.K N W fun env m => (evE T cf a env m).bind fun x m1 => isoG T c env x m1) := by
        rw [Bool.or_eq_true] at h3
        rcases h3 with h3 | h3
        · obtain ⟨k1, k2⟩ := and2 h3
          exact x_iso (p := p1) (pos := p3) (p2 := p2) h.facts (okName_of h h2).1 (h.facts.bl _ (by decide)) n1 n2 (of_decide_eq_true k1) (of_decide_eq_true k2) o.pe h5
        · obtain ⟨k1, k2⟩ := and2 h3
          have k1 := of_decide_eq_true k1
          have k2 := of_decide_eq_true k2
          subst k1 k2
          exact x_isv (p := p1) (pos := p3) (p2 := p2) h.facts (okName_of h h2).1 (h.facts.bl _ (by decide)) n1 (h.facts.bl _ (by decide)) h.facts.sub9 o.pe h5
      refine .of pe (pt_imp (t_val pe fun _ => rfl) fun σ H Q ⟨F, r, env, m, S1, SE, h⟩ => ⟨F, r, env, m, S1, SE, ?_⟩) rfl
      have h : RP X.K N RelB (WE W σ) F r H Q ((evE T cf a env m).bind fun x m1 => Res.opt (isoD T c x m1) m1) := h
      show RP X.K N RelB (WE W σ) F r H Q (((evE T cf a env m).bind fun x m1 => Res.opt ((isoD T c x m1).map D.bl) m1).bind fun d m1 => Res.opt (truD d m1) m1)
      rw [bind_bind]
      cases e1 : evE T cf a env m with
      | bad => rw [e1] at h; exact h.elim
      | exc x m1 => rw [e1] at h; exact h
      | ok x m1 =>
        rw [e1] at h
        have h : RP X.K N RelB (WE W σ) F r H Q (Res.opt (isoD T c x m1) m1) := h
        show RP X.K N RelB (WE W σ) F r H Q ((Res.opt ((isoD T c x m1).map D.bl) m1).bind fun d m1 => Res.opt (truD d m1) m1)
        cases e2 : isoD T c x m1 with
        | none => rw [e2] at h; exact h.elim
        | some b => rw [e2] at h; exact h
    · cases hk
  | .lvals a, X, W, sc, raw, e, h, tk, hk => by
    unfold chkE at hk
    split at hk
    · obtain ⟨hk, h6⟩ := and2 hk
      obtain ⟨hk, h5⟩ := and2 hk
      obtain ⟨hk, h4⟩ := and2 hk
      obtain ⟨hk, h3⟩ := and2 hk
      obtain ⟨h1, h2⟩ := and2 hk
      cases of_decide_eq_true h1
      cases of_decide_eq_true h3
      exact .no (x_lvals h.calm (okName_of h h2).1 (h.facts.bl _ (by decide)) (okE a _ h tk h6).pe h4 h5) rfl rfl
    · cases hk
  | .call f es, X, W, sc, raw, e, h, tk, hk => by
    have fin : ∀ {e : Expr}, (∀ whole, isTrue e X.env whole = (do let v ← whole; standAt e.pos; holding [v] (truthy v))) → isBO (.call f es) e = false → PE X e (tD X.K N W (evE T cf (.call f es))) → OkE X N W T cf (.call f es) e := fun {e} hh hb pe => by
      refine .of pe (pt_imp (t_val pe hh) fun σ H Q ⟨F, r, env, m, S1, SE, h⟩ => ⟨F, r, env, m, S1, SE, ?_⟩) hb
      show RP X.K N RelB (WE W σ) F r H Q (((evEs T cf es env m).bind fun xs m1 => cf f xs m1).bind fun d m1 => Res.opt (truD d m1) m1)
      rw [bind_bind]
      exact h
    unfold chkE at hk
    split at hk
    · rename_i x p es' pos
      obtain ⟨hk, h3⟩ := and2 hk
      obtain ⟨h1, h2⟩ := and2 hk
      obtain ⟨k1, k2, k3⟩ := h.facts.fns x f (of_decide_eq_true h1)
      obtain ⟨n1, n2, n3⟩ := okName_of h h2
      obtain ⟨a1, a2, a3⟩ := okEs es es' h tk h3
      have pe : PE X (.Call (.Name x p) es' [] pos) (tD X.K N W (evE T cf (.call f es))) := by
        cases es' with
        | nil =>
          have := x_call0 (p := p) (pos := pos) (h.fns f) (h.room.mono (Nat.le_succ _)) n1 k1 k2 k3 tk n2
          show PE X _ (tD X.K N W fun env m => (evEs T cf es env m).bind fun xs m1 => cf f xs m1)
          rw [a3 rfl]
          exact this
        | cons e' es' => exact x_call (h.fns f) (h.room.mono (Nat.le_succ _)) n1 k1 k2 k3 tk n2 a1 a2
      exact fin (fun _ => rfl) rfl pe
    · rename_i x p mt apos es' pos
      obtain ⟨hk, h7⟩ := and2 hk
      obtain ⟨hk, h6⟩ := and2 hk
      obtain ⟨hk, h5⟩ := and2 hk
      obtain ⟨hk, h4⟩ := and2 hk
      obtain ⟨hk, h3⟩ := and2 hk
      obtain ⟨h1, h2⟩ := and2 hk
      cases of_decide_eq_true h1
      obtain ⟨n1, n2, n3⟩ := okName_of h h3
      obtain ⟨a1, a2, a3⟩ := okEs es es' h tk h7
      cases es' with
      | nil => cases h6
      | cons e' es' => exact fin (fun _ => rfl) rfl (x_sup h.facts h.fns (h.room.mono (Nat.le_succ _)) tk (of_decide_eq_true h2) n1 n2 a1 a2 (of_decide_eq_true h5) h4)
    · cases hk
  | .make c es, X, W, sc, raw, e, h, tk, hk => by
    unfold chkE at hk
    split at hk
    · rename_i x p es' pos
      obtain ⟨hk, h4⟩ := and2 hk
      obtain ⟨hk, h3⟩ := and2 hk
      obtain ⟨h1, h2⟩ := and2 hk
      obtain ⟨g, hg⟩ := Option.isSome_iff_exists.mp h2
      obtain ⟨n1, n2, n3⟩ := okName_of h h3
      obtain ⟨a1, a2, a3⟩ := okEs es es' h tk h4
      have ee : evE T cf (.make c es) = fun env m => (evEs T cf es env m).bind fun xs m1 => makeG cf g c xs m1 := by
        funext env m
        show ((evEs T cf es env m).bind fun xs m1 => match T.init c with
          | some f => (cf f (D.ref m1.length :: xs) (m1 ++ [O.ins c []])).bind fun r m2 => match r with
            | .non => Res.ok (D.ref m1.length) m2
            | _ => .bad
          | none => .bad) = _
        rw [hg]
        rfl
      refine .no ?_ rfl rfl
      rw [ee]
      cases es' with
      | nil =>
        rw [a3 rfl]
        exact x_make0 h.facts h.fns h.room tk (of_decide_eq_true h1) hg n1 n2
      | cons e' es' => exact x_make h.facts h.fns h.room tk (of_decide_eq_true h1) hg n1 n2 a1 a2
    · cases hk
  | .omet k o es, X, W, sc, raw, e, h, tk, hk => by
    unfold chkE at hk
    split at hk
    · rename_i o' x apos es' pos
      obtain ⟨hk, h6⟩ := and2 hk
      obtain ⟨hk, h5⟩ := and2 hk
      obtain ⟨hk, h4⟩ := and2 hk
      obtain ⟨hk, h3⟩ := and2 hk
      obtain ⟨h1, h2⟩ := and2 hk
      have oo := okE o o' h tk h5
      obtain ⟨a1, a2, a3⟩ := okEs es es' h tk h6
      have pe : PE X (.Call (.Attribute o' x apos) es' [] pos) (tD X.K N W fun env m => (evE T cf o env m).bind fun y m1 => ometG T k (evEs T cf es) cf env y m1) := by
        cases es' with
        | nil =>
          rw [a3 rfl]
          exact x_omet0 h.facts h.fns (h.room.mono (Nat.le_succ _)) tk (of_decide_eq_true h1) oo.pe h2 h3
        | cons e' es' => exact x_omet h.facts h.fns (h.room.mono (Nat.le_succ _)) tk (of_decide_eq_true h1) oo.pe a1 a2 (of_decide_eq_true h4) h2 h3
      refine .of pe (pt_imp (t_val pe fun _ => rfl) fun σ H Q ⟨F, r, env, m, S1, SE, h⟩ => ⟨F, r, env, m, S1, SE, ?_⟩) rfl
      show RP X.K N RelB (WE W σ) F r H Q (((evE T cf o env m).bind fun y m1 => ometG T k (evEs T cf es) cf env y m1).bind fun d m1 => Res.opt (truD d m1) m1)
      rw [bind_bind]
      have h : RP X.K N RelB (WE W σ) F r H Q ((evE T cf o env m).bind fun x m1 => match clsD x m1 with
        | some c => match T.meth c k with
          | some f => (evEs T cf es env m1).bind fun xs m2 => (cf f (x :: xs) m2).bind fun d m3 => Res.opt (truD d m3) m3
          | none => .bad
        | none => .bad) := h
      cases e1 : evE T cf o env m with
      | bad => rw [e1] at h; exact h.elim
      | exc x m1 => rw [e1] at h; exact h
      | ok x m1 =>
        rw [e1] at h
        simp only [Res.bind_ok] at h ⊢
        unfold ometG
        cases e2 : clsD x m1 with
        | none => rw [e2] at h; exact h.elim
        | some c =>
          rw [e2] at h
          dsimp only at h ⊢
          cases e3 : T.meth c k with
          | none => rw [e3] at h; exact h.elim
          | some f =>
            rw [e3] at h
            dsimp only at h ⊢
            rw [bind_bind]
            exact h
    · cases hk
  | .fld o f, X, W, sc, raw, e, h, tk, hk => by
    unfold chkE at hk
    split at hk
    · rename_i o' x' p1
      obtain ⟨hk, h4⟩ := and2 hk
      obtain ⟨hk, h3⟩ := and2 hk
      obtain ⟨h1, h2⟩ := and2 hk
      cases of_decide_eq_true h1
      have pe := x_fld (pos := p1) (T := T) h.facts.cls (i := f) (fun c hc => h.facts.nat c f hc (of_decide_eq_true h2)) (okE o _ h tk h4).pe h3
      refine .val pe ?_ (fun _ => rfl) rfl
      funext env m
      show ((evE T cf o env m).bind fun x m1 => (Res.opt (fldD T x f m1) m1).bind fun d m3 => Res.opt (truD d m3) m3) = (((evE T cf o env m).bind fun x m1 => Res.opt (fldD T x f m1) m1).bind fun d m1 => Res.opt (truD d m1) m1)
      simp only [bind_bind]
    · cases hk
  | .blt b es, X, W, sc, raw, e, h, tk, hk => by
    unfold chkE at hk
    split at hk
    · rename_i x p e' es' pos
      obtain ⟨hk, h3⟩ := and2 hk
      obtain ⟨hk, h2⟩ := and2 hk
      obtain ⟨h1, h4⟩ := and2 hk
      have hb := of_decide_eq_true h4
      cases of_decide_eq_true h1
      obtain ⟨a1, a2, a3⟩ := okEs es _ h tk h3
      have pe := x_blt (p := p) (pos := pos) h h2 a1 a2 hb
      refine .of pe (pt_imp (t_val pe fun _ => rfl) fun σ H Q ⟨F, r, env, m, S1, SE, h⟩ => ⟨F, r, env, m, S1, SE, ?_⟩) rfl
      show RP X.K N RelB (WE W σ) F r H Q (((evEs T cf es env m).bind fun xs m1 => bltD b xs m1).bind fun d m1 => Res.opt (truD d m1) m1)
      rw [bind_bind]
      exact h
    · cases hk
  | .mth b o es, X, W, sc, raw, e, h, tk, hk => by
    unfold chkE at hk
    split at hk
    · rename_i o' x apos es' pos
      obtain ⟨hk, h6⟩ := and2 hk
      obtain ⟨hk, h5⟩ := and2 hk
      obtain ⟨hk, h4⟩ := and2 hk
      obtain ⟨hk, h3⟩ := and2 hk
      obtain ⟨hk, h2⟩ := and2 hk
      obtain ⟨h1, h7⟩ := and2 hk
      have hb := of_decide_eq_true h7
      cases of_decide_eq_true h1
      have oo := okE o o' h tk h5
      obtain ⟨a1, a2, a3⟩ := okEs es es' h tk h6
      have pe := x_mt h (b := b) hb oo.pe a1 a2 (of_decide_eq_true h4) h2 h3 a3
      refine .of pe (pt_imp (t_val pe fun _ => rfl) fun σ H Q ⟨F, r, env, m, S1, SE, h⟩ => ⟨F, r, env, m, S1, SE, ?_⟩) rfl
      show RP X.K N RelB (WE W σ) F r H Q (((evE T cf o env m).bind fun y m1 => mthG b (evEs T cf es) env y m1).bind fun d m1 => Res.opt (truD d m1) m1)
      rw [bind_bind]
      have h : RP X.K N RelB (WE W σ) F r H Q ((evE T cf o env m).bind fun x m1 => if mthOk b x m1 then (evEs T cf es env m1).bind fun xs m2 => (mthD b x xs m2).bind fun d m3 => Res.opt (truD d m3) m3 else .bad) := h
      cases e1 : evE T cf o env m with
      | bad => rw [e1] at h; exact h.elim
      | exc x m1 => rw [e1] at h; exact h
      | ok x m1 =>
        rw [e1] at h
        simp only [Res.bind_ok] at h ⊢
        unfold mthG
        split at h
        · rename_i hm
          rw [if_pos hm, bind_bind]
          exact h
        · exact h.elim
    · cases hk
  | .comp el g it c own, X, W, sc, raw, e, h, tk, hk => by
    unfold chkE at hk
    split at hk
    · rename_i el' tg iter ifs scope pos
      obtain ⟨hk, h8⟩ := and2 hk
      obtain ⟨hk, h7⟩ := and2 hk
      obtain ⟨hk, h6⟩ := and2 hk
      obtain ⟨hk, h5⟩ := and2 hk
      obtain ⟨hk, h4⟩ := and2 hk
      obtain ⟨hk, h3⟩ := and2 hk
      obtain ⟨h1, h2⟩ := and2 hk
      have h3 := of_decide_eq_true h3
      have hc : ∀ (s : Shared) (H : Hp) (C : Addr) (cl : List (Str × Addr)) (fp : List Addr), PTs (X.blk s H scope (compEnvC scope cl C X.env) fp) ifs (tTT X.K N WF (evC T cf c)) := fun s H C cl fp => by
        have hb := h.blk s H scope C cl fp
        match ifs, h8 with
        | [], h8 => exact okC c none hb takesF h8
        | [c'], h8 => exact okC c (some c') hb takesF h8
        | _ :: _ :: _, h8 => cases h8
      refine .no ?_ rfl rfl
      have hnd : X.N.Nodup := by rw [h.hN]; exact h.nd
      have := pe_lc (pos := pos) (wi := tII X.K N W (evI T cf it)) (g := tG X.K N g) (tt := tTT X.K N WF (evC T cf c)) (te := tD X.K N WF (evE T cf el)) h.calm hnd (okI it tg iter h tk h2) (blkOk_by (by rw [h.hN, h.sc]; exact h4)) (fun s H C cl fp => chkG_ok (h.blk s H scope C cl fp) g tg h6) hc (fun s H C cl fp => (okE el el' (h.blk s H scope C cl fp) takesF h7).pe) (notSet_eq h1)
      rw [h3] at this
      have ee : evE T cf (.comp el g it c own) = fun env m => (evI T cf it env m).bind fun its m1 => compG g own (evC T cf c) (evE T cf el) env its m1 := by
        funext env m
        show (evI T cf it env m).bind _ = (evI T cf it env m).bind _
        congr 1
        funext its m1
        cases its <;> rfl
      rw [ee]
      refine pe_imp this (lc_read fun i hi => ?_)
      have := List.all_eq_true.mp h5 i hi
      simpa using this
    · cases hk
  | .compK kd el g i c own, X, W, sc, raw, e, h, tk, hk => by
    unfold chkE at hk
    split at hk
    · rename_i el' tg iter ifs scope pos
      obtain ⟨hk, h8⟩ := and2 hk
      obtain ⟨hk, h7⟩ := and2 hk
      obtain ⟨hk, h6⟩ := and2 hk
      obtain ⟨hk, h5⟩ := and2 hk
      obtain ⟨hk, h4⟩ := and2 hk
      obtain ⟨hk, h3⟩ := and2 hk
      obtain ⟨h1, h2⟩ := and2 hk
      have h3 := of_decide_eq_true h3
      have hc : ∀ (s : Shared) (H : Hp) (C : Addr) (cl : List (Str × Addr)) (fp : List Addr), PTs (X.blk s H scope (compEnvC scope cl C X.env) fp) ifs (tTT X.K N WF (evC T cf c)) := fun s H C cl fp => by
        have hb := h.blk s H scope C cl fp
        match ifs, h8 with
        | [], h8 => exact okC c none hb takesF h8
        | [c'], h8 => exact okC c (some c') hb takesF h8
        | _ :: _ :: _, h8 => cases h8
      refine .no ?_ rfl rfl
      have hnd : X.N.Nodup := by rw [h.hN]; exact h.nd
      have hown : ∀ k ∈ tgV g, k ∈ (own.filterMap fun i => nm[i]?.map fun x => (x, i)).map (·.2) := fun k hk => by
        rw [h3]
        have := List.all_eq_true.mp h5 k hk
        simpa using this
      have := x_compK (N := N) (W := W) (pos := pos) (kd := kd) (i := i) (g := g) (fc := evC T cf c) (fe := evE T cf el) h.calm hnd (chkK_ok h kd i tg iter h2) (blkOk_by (by rw [h.hN, h.sc]; exact h4)) (fun s H C cl fp => chkG_ok (h.blk s H scope C cl fp) g tg h6) hc (fun s H C cl fp => (okE el el' (h.blk s H scope C cl fp) takesF h7).pe) (notSet_eq h1) hown
      rw [h3] at this
      exact this
    · cases hk
  | .xfld k f, X, W, sc, raw, e, h, tk, hk => by
    unfold chkE at hk
    split at hk
    · rename_i x np y pos
      obtain ⟨hk, h4⟩ := and2 hk
      obtain ⟨hk, h3⟩ := and2 hk
      obtain ⟨h1, h2⟩ := and2 hk
      cases of_decide_eq_true h4
      exact .no (x_xfld h.facts (by rw [h.hN]; exact of_decide_eq_true h1) (h.vis h2) (nd_of h3).1 (nd_of h3).2) rfl rfl
    · cases hk
theorem okEs : ∀ (n : SEs) {X : Cx} {W : WX} {sc raw : Scope} (es : List Expr), Here X N T S cf j nm sc raw → Takes X W → chkEs S T N nm n sc es = true → PA X es (tAA X.K N W (evEs T cf n)) ∧ es.all noStar = true ∧ (es = [] → evEs T cf n = fun _ m => .ok [] m)
  | .nil, X, W, sc, raw, es, h, tk, hk => by
    unfold chkEs at hk
    cases es with
    | nil => exact ⟨a_nil, rfl, fun _ => rfl⟩
    | cons => cases hk
  | .cons n ns, X, W, sc, raw, es, h, tk, hk => by
    unfold chkEs at hk
    cases es with
    | nil => cases hk
    | cons e es =>
      have hk : (noStar e && chkE S T N nm n sc e && chkEs S T N nm ns sc es) = true := hk
      obtain ⟨hk, h3⟩ := and2 hk
      obtain ⟨h1, h2⟩ := and2 hk
      obtain ⟨a1, a2, _⟩ := okEs ns es h tk h3
      exact ⟨a_cons (okE n e h tk h2).pe a1 (noStar_eq h1), by rw [List.all_cons, h1, a2]; rfl, fun z => by cases z⟩
theorem okPs : ∀ (n : SEs) {X : Cx} {W : WX} {sc raw : Scope} {pos : Pos} (ks : List (Option Expr)) (vs : List Expr), Here X N T S cf j nm sc raw → Takes X W → chkPs S T N nm n sc ks vs = true →
    ∃ trs, PPs X pos ks vs trs ∧ ks.all (·.isSome) = true ∧ ks.length = vs.length ∧
      ∀ {γ δ : Type} {R' : (Addr → Prop) → List Addr → Hp → γ → δ → Prop} {F : Addr → Prop} {r : List Addr} {H : Hp} {m : Mem} {env : Env} {σ : L2.St} {Q : δ → Hp → Prop} {acc : List (Key × D)} {ws0 : List (Key × V)} {g : List (Key × D) → Mem → Res γ} {P : List (V × V) → Hp → Prop},
        Sim X.K N F r m H → SimE N F r H env σ → RelP N F r H acc ws0 → RP X.K N R' (WE W σ) F r H Q ((evPs T cf n env acc m).bind g) →
        (∀ (kvs : List (Key × V)) (H2 : Hp) F2 r2 m2 acc2, kvs.length = ks.length → Ext F r H F2 r2 H2 → Sim X.K N F2 r2 m2 H2 → RelP N F2 r2 H2 acc2 (mergeK ws0 kvs) → RP X.K N R' (WE W σ) F2 r2 H2 Q (g acc2 m2) → P (kvs.map fun kv => (kV kv.1, kv.2)) H2) → tPairs trs σ H P
  | .nil, X, W, sc, raw, pos, ks, vs, h, tk, hk => by
    unfold chkPs at hk
    obtain ⟨h1, h2⟩ := and2 hk
    have e1 : ks = [] := by simpa using h1
    have e2 : vs = [] := by simpa using h2
    subst e1
    subst e2
    exact ⟨[], pps_nil, rfl, rfl, fun {γ δ R' F r H m env σ Q acc ws0 g P} S1 SE rel hh k => k [] H F r m acc rfl (Ext.refl _ _ _) S1 rel hh⟩
  | .cons k .nil, X, W, sc, raw, pos, ks, vs, h, tk, hk => by unfold chkPs at hk; cases hk
  | .cons k (.cons v n), X, W, sc, raw, pos, ks, vs, h, tk, hk => by
    unfold chkPs at hk
    split at hk
    · rename_i k' ks' v' vs'
      obtain ⟨hk, h3⟩ := and2 hk
      obtain ⟨h1, h2⟩ := and2 hk
      obtain ⟨trs, q1, q2, q3, q4⟩ := okPs n (pos := pos) ks' vs' h tk h3
      refine ⟨_, pps_cons (okE k k' h tk h1).pe (okE v v' h tk h2).pe q1, by rw [List.all_cons, q2]; rfl, by simp [q3], fun {γ δ R' F r H m env σ Q acc ws0 g P} S1 SE rel hh kk => ?_⟩
      have hh : RP X.K N R' (WE W σ) F r H Q (((evE T cf k env m).bind fun x m1 => (evE T cf v env m1).bind fun y m2 => match toKey x with
        | some q => evPs T cf n env (putK acc q y) m2
        | none => .bad).bind g) := hh
      rw [bind_bind] at hh
      refine RP.split S1 SE hh fun F1 r1 H1 m1 dx x x1 S2 qx h1 => ?_
      rw [bind_bind] at h1
      refine RP.split S2 (SE.ext x1) h1 fun F2 r2 H2 m2 dy y x2 S3 qy h2 => ?_
      cases ek : toKey dx with
      | none => rw [ek] at h2; exact h2.elim
      | some q =>
        rw [ek] at h2
        have ex : x = kV q := toKey_rel ek qx
        subst ex
        have rel2 : RelP N F2 r2 H2 acc ws0 := relK_P.mp (RelK.ext (x1.trans x2) (relK_P.mpr rel))
        refine q4 S3 ((SE.ext x1).ext x2) (rel2.put qy) h2 fun kvs H3 F3 r3 m3 acc3 hl x3 S4 rel3 h4 => ?_
        exact kk ((q, y) :: kvs) H3 F3 r3 m3 acc3 (by simp [hl]) ((x1.trans x2).trans x3) S4 rel3 h4
    · cases hk
theorem okO : ∀ (n : SO) {X : Cx} {W : WX} {sc raw : Scope} (o : Option Expr), Here X N T S cf j nm sc raw → Takes X W → chkO S T N nm n sc o = true → PO X o (tOO X.K N W (evO T cf n))
  | .no, X, W, sc, raw, o, h, tk, hk => by
    unfold chkO at hk
    cases o with
    | none => exact o_none
    | some => cases hk
  | .yes n, X, W, sc, raw, o, h, tk, hk => by
    unfold chkO at hk
    cases o with
    | none => cases hk
    | some e => exact o_some (okE n e h tk hk).pe
theorem okC : ∀ (n : SO) {X : Cx} {W : WX} {sc raw : Scope} (o : Option Expr), Here X N T S cf j nm sc raw → Takes X W → chkC S T N nm n sc o = true → PTs X o.toList (tTT X.K N W (evC T cf n))
  | .no, X, W, sc, raw, o, h, tk, hk => by
    unfold chkC at hk
    cases o with
    | none => exact pts_imp pts_nil fun σ H Q ⟨F, r, env, m, S1, SE, h⟩ => RP.here S1 h rfl
    | some => cases hk
  | .yes n, X, W, sc, raw, o, h, tk, hk => by
    unfold chkC at hk
    cases o with
    | none => cases hk
    | some e => exact pts_one (okE n e h tk hk).pt
theorem okI : ∀ (n : IT) {X : Cx} {W : WX} {sc raw : Scope} (tg x : Expr), Here X N T S cf j nm sc raw → Takes X W → chkI S T N nm n sc tg x = true → PI X tg x (tII X.K N W (evI T cf n))
  | .seq n, X, W, sc, raw, tg, x, h, tk, hk => by
    unfold chkI at hk
    exact i_seq (okE n x h tk hk).pe
  | .rng1 a, X, W, sc, raw, tg, x, h, tk, hk => by
    unfold chkI at hk
    split at hk
    · obtain ⟨hk, h4⟩ := and2 hk
      obtain ⟨hk, h3⟩ := and2 hk
      obtain ⟨h1, h2⟩ := and2 hk
      cases of_decide_eq_true h1
      exact i_rng1 (okName_of h h2).1 (h.facts.bl _ (by decide)) (okE a _ h tk h4).pe h3
    · cases hk
  | .rng2 a b, X, W, sc, raw, tg, x, h, tk, hk => by
    unfold chkI at hk
    split at hk
    · obtain ⟨hk, h6⟩ := and2 hk
      obtain ⟨hk, h5⟩ := and2 hk
      obtain ⟨hk, h4⟩ := and2 hk
      obtain ⟨hk, h3⟩ := and2 hk
      obtain ⟨h1, h2⟩ := and2 hk
      cases of_decide_eq_true h1
      exact i_rng2 (okName_of h h2).1 (h.facts.bl _ (by decide)) (okE a _ h tk h5).pe (okE b _ h tk h6).pe h3 h4
    · cases hk
  | .enum a, X, W, sc, raw, tg, x, h, tk, hk => by
    unfold chkI at hk
    split at hk
    · obtain ⟨hk, h4⟩ := and2 hk
      obtain ⟨hk, h3⟩ := and2 hk
      obtain ⟨h1, h2⟩ := and2 hk
      cases of_decide_eq_true h1
      exact i_enum (okName_of h h2).1 (h.facts.bl _ (by decide)) (okE a _ h tk h4).pe h3
    · cases hk
  | .zip a b, X, W, sc, raw, tg, x, h, tk, hk => by
    unfold chkI at hk
    split at hk
    · obtain ⟨hk, h6⟩ := and2 hk
      obtain ⟨hk, h5⟩ := and2 hk
      obtain ⟨hk, h4⟩ := and2 hk
      obtain ⟨hk, h3⟩ := and2 hk
      obtain ⟨h1, h2⟩ := and2 hk
      cases of_decide_eq_true h1
      exact i_zip (okName_of h h2).1 (h.facts.bl _ (by decide)) (okE a _ h tk h5).pe (okE b _ h tk h6).pe h3 h4
    · cases hk
  | .rev a, X, W, sc, raw, tg, x, h, tk, hk => by
    unfold chkI at hk
    split at hk
    · obtain ⟨hk, h4⟩ := and2 hk
      obtain ⟨hk, h3⟩ := and2 hk
      obtain ⟨h1, h2⟩ := and2 hk
      cases of_decide_eq_true h1
      exact i_rev (okName_of h h2).1 (h.facts.bl _ (by decide)) (okE a _ h tk h4).pe h3
    · cases hk
  | .keys _, X, W, sc, raw, tg, x, h, tk, hk => by unfold chkI at hk; cases hk
  | .vals _, X, W, sc, raw, tg, x, h, tk, hk => by unfold chkI at hk; cases hk
  | .items _, X, W, sc, raw, tg, x, h, tk, hk => by unfold chkI at hk; cases hk
end
end
end Ev
/-! EvP: statements. -/
namespace Ev
open PySem L2

section
variable (K : PySem.W.Frag) (N : Nm)
/-- what a statement's end makes sure of -/
def RSp (W : WX) (F : Addr → Prop) (r : List Addr) (H : Hp) (D : Ends) : SR → Prop
  | .ok .nx env m => ∀ F' r' H' σ', Ext F r H F' r' H' → Sim K N F' r' m H' → SimE N F' r' H' env σ' → D.nx σ' H'
  | .ok (.rt d) _ m => ∀ F' r' H' v, Ext F r H F' r' H' → Sim K N F' r' m H' → RelD N F' r' H' d v → D.rt v H'
  | .ok .bk env m => ∀ F' r' H' σ', Ext F r H F' r' H' → Sim K N F' r' m H' → SimE N F' r' H' env σ' → D.bk σ' H'
  | .ok .ct env m => ∀ F' r' H' σ', Ext F r H F' r' H' → Sim K N F' r' m H' → SimE N F' r' H' env σ' → D.ct σ' H'
  | .exc x env m => ∀ F' r' H' σ' cls dd, Ext F r H F' r' H' → Sim K N F' r' m H' → SimE N F' r' H' env σ' → RelX N F' r' x cls dd H' → W cls dd σ' H'
  | .bad => False
def tS (W : WX) (f : Env → Mem → SR) : TS := fun D σ H => ∃ F r env m, Sim K N F r m H ∧ SimE N F r H env σ ∧ RSp K N W F r H D (f env m)
end
section
variable {K : PySem.W.Frag} {N : Nm} {W : WX} {F F1 : Addr → Prop} {r r1 : List Addr} {H H1 : Hp} {m : Mem} {D : Ends}
theorem RSp.ext {x : SR} (h : RSp K N W F r H D x) (e : Ext F r H F1 r1 H1) : RSp K N W F1 r1 H1 D x := by
  cases x with
  | ok f env m =>
    cases f with
    | nx => exact fun F' r' H' σ' x' S q => h F' r' H' σ' (e.trans x') S q
    | rt d => exact fun F' r' H' v x' S q => h F' r' H' v (e.trans x') S q
    | bk => exact fun F' r' H' σ' x' S q => h F' r' H' σ' (e.trans x') S q
    | ct => exact fun F' r' H' σ' x' S q => h F' r' H' σ' (e.trans x') S q
  | exc x env m => exact fun F' r' H' σ' c d x' S q => h F' r' H' σ' c d (e.trans x') S q
  | bad => exact h
/-- an expression, then the rest of the statement -/
theorem s_one {α β : Type} {R : (Addr → Prop) → List Addr → Hp → α → β → Prop} {f : Env → Mem → Res α} {g : α → Mem → SR} {σ : L2.St} {P : β → Hp → Prop} {env : Env}
    (S : Sim K N F r m H) (SE : SimE N F r H env σ) (h : RSp K N W F r H D ((f env m).st env g))
    (k : ∀ F1 r1 H1 m1 d v, Ext F r H F1 r1 H1 → Sim K N F1 r1 m1 H1 → SimE N F1 r1 H1 env σ → R F1 r1 H1 d v → RSp K N W F1 r1 H1 D (g d m1) → P v H1) : tE K N R W f σ H P := by
  refine ⟨F, r, env, m, S, SE, ?_⟩
  cases e : f env m with
  | ok d m1 =>
    rw [e] at h
    exact fun F' r' H' v x S' q => k F' r' H' m1 d v x S' (SE.ext x) q (RSp.ext h x)
  | exc x m1 =>
    rw [e] at h
    exact fun F' r' H' c d x' S' q => h F' r' H' σ c d x' S' (SE.ext x') q
  | bad =>
    rw [e] at h
    exact h
theorem RSp.nx_ {σ : L2.St} {env : Env} (S : Sim K N F r m H) (SE : SimE N F r H env σ) (h : RSp K N W F r H D (.ok .nx env m)) : D.nx σ H := h F r H σ (Ext.refl _ _ _) S SE
end

structure HereS (X : Cx) (N : Nm) (T : Tab) (S : Stat) (cf : CF) (j : Nat) (nm : List Str) (sc raw : Scope) (W : WX) : Prop where
  he : Here X N T S cf j nm sc raw
  tk : Takes X W
  own : PassesOwn (model X.prog X.w) X.A X.env X.xe
  kind : sc.kind = .function
  stk : X.stack = X.env :: X.outer
  frm : X.env.frame = some X.env.locals
  nox : X.ex = []

section
variable {X : Cx} {N : Nm} {W : WX} {pos : Pos} {e : Expr} {f : Env → Mem → Res D}
theorem s_stk {st : Stmt} : PS X st (tS X.K N W fun _ _ => .bad) := ⟨fun _ _ _ _ _ _ ⟨_, _, _, _, _, _, h⟩ => h.elim⟩
theorem s_pass : PS X (.Pass pos) (tS X.K N W fun env m => .ok .nx env m) := ps_imp ps_pass fun D σ H ⟨F, r, env, m, S, SE, h⟩ => RSp.nx_ S SE h
theorem s_brk : PS X (.Break pos) (tS X.K N W fun env m => .ok .bk env m) := ps_imp ps_break fun D σ H ⟨F, r, env, m, S, SE, h⟩ => h F r H σ (Ext.refl _ _ _) S SE
theorem s_cont : PS X (.Continue pos) (tS X.K N W fun env m => .ok .ct env m) := ps_imp ps_continue fun D σ H ⟨F, r, env, m, S, SE, h⟩ => h F r H σ (Ext.refl _ _ _) S SE
theorem s_expr (he : PE X e (tD X.K N W f)) (hc : notComp e = true) : PS X (.Expr e pos) (tS X.K N W fun env m => (f env m).st env fun _ m1 => .ok .nx env m1) :=
  ps_imp (ps_expr he (notComp_sw hc)) fun D σ H ⟨F, r, env, m, S, SE, h⟩ => s_one S SE h fun F1 r1 H1 m1 d v x S1 SE1 q h1 => RSp.nx_ S1 SE1 h1
theorem s_ret (he : PE X e (tD X.K N W f)) : PS X (.Return (some e) pos) (tS X.K N W fun env m => (f env m).st env fun d m1 => .ok (.rt d) env m1) :=
  ps_imp (ps_ret he) fun D σ H ⟨F, r, env, m, S, SE, h⟩ => s_one S SE h fun F1 r1 H1 m1 d v x S1 SE1 q h1 => h1 F1 r1 H1 v (Ext.refl _ _ _) S1 q
theorem s_retN : PS X (.Return none pos) (tS X.K N W fun env m => .ok (.rt .non) env m) :=
  ps_imp ps_retN fun D σ H ⟨F, r, env, m, S, SE, h⟩ => h F r H .non (Ext.refl _ _ _) S rfl
theorem s_asg {tg : Expr} {g : Tg} (he : PE X e (tD X.K N W f)) (hg : PG X tg (tG X.K N g)) (hs : swapsWithSole [tg] e pos.line X.env = pure false) (hw : swappedStores [tg] e X.env = pure none) (hn : noStar tg = true) :
    PS X (.Assign [tg] e pos) (tS X.K N W fun env m => (f env m).st env fun d m1 => optE (setT g d env m1) m1) := by
  have h1 : (assignEach [tg] X.env).map (·.2) = [assign tg X.env] := by cases tg <;> first | rfl | cases hn
  refine ps_imp (ps_asg he hg hs hw h1) fun D σ H ⟨F, r, env, m, S, SE, h⟩ => s_one S SE h fun F1 r1 H1 m1 d v x S1 SE1 q h1 => ?_
  cases es : setT g d env m1 with
  | none => rw [es] at h1; exact h1.elim
  | some env' =>
    rw [es] at h1
    exact ⟨F1, r1, env, m1, d, env', S1, SE1, q, es, fun σ' _ SE' => RSp.nx_ S1 SE' h1⟩
/-- name = [..] on one line -/
theorem s_lc {i : Nat} {y : Str} {py : Pos} {elt tg iter : Expr} {ifs : List Expr} {scope : Scope} {own : List (Str × Nat)} {p : Pos} {wi : TI} {g : TG} {tt : TT} {te : TE} (hc : X.calm = true) (hN : X.N.Nodup) (hy : X.N[i]? = some y) (hyl : X.env.scope.names.lookup y = some .local)
    (hsw : swapsWith (.ListComp elt [⟨tg, iter, ifs, 0⟩] scope p) (some (.Name y py)) pos.line X.env = pure true) (hi : PI X tg iter wi) (ok : BlkOk X.N X.env.scope scope own)
    (hg : ∀ (s : Shared) (H : Hp) (C : Addr) (cl : List (Str × Addr)) (fp : List Addr), PG (X.blk s H scope (compEnvC scope cl C X.env) fp) tg g) (ht : ∀ (s : Shared) (H : Hp) (C : Addr) (cl : List (Str × Addr)) (fp : List Addr), PTs (X.blk s H scope (compEnvC scope cl C X.env) fp) ifs tt)
    (he : ∀ (s : Shared) (H : Hp) (C : Addr) (cl : List (Str × Addr)) (fp : List Addr), PE (X.blk s H scope (compEnvC scope cl C X.env) fp) elt te) (hs : ∀ x, foldedSetIterable iter X.env x = pure x)
    (hr : ∀ σ H Q, tD X.K N W f σ H Q → tLc wi g tt te (own.map (·.2)) σ H Q) :
    PS X (.Assign [.Name y py] (.ListComp elt [⟨tg, iter, ifs, 0⟩] scope p) pos) (tS X.K N W fun env m => (f env m).st env fun d m1 => optE (setT (.nm i) d env m1) m1) := by
  refine ps_imp (ps_setLc hc hN hy hyl hsw hi ok hg ht he hs) fun D σ H ⟨F, r, env, m, S, SE, h⟩ => hr σ H _ (s_one S SE h fun F1 r1 H1 m1 d v x S1 SE1 q h1 => ?_)
  cases es : setT (.nm i) d env m1 with
  | none => rw [es] at h1; exact h1.elim
  | some env' =>
    rw [es] at h1
    unfold setT at es
    split at es
    · cases es
      exact RSp.nx_ S1 (SE1.set q) h1
    · cases es
/-- a, b = x, y -/
theorem s_par {i j : Nat} {x y : Str} {a b : Expr} {fa fb : Env → Mem → Res D} {px py pt : Pos} {kt k2 : Nat} {pt2 : Pos} (hc : X.calm = true) (hN : X.N.Nodup) (hi : X.N[i]? = some x) (hj : X.N[j]? = some y) (hij : i ≠ j)
    (hx : X.env.scope.names.lookup x = some .local) (hy : X.env.scope.names.lookup y = some .local) (ha : PE X a (tD X.K N W fa)) (hb : PE X b (tD X.K N W fb)) (sa : noStar a = true) (sb : noStar b = true)
    (hw : swappedStores [.Tuple [.Name x px, .Name y py] kt pt] (.Tuple [a, b] k2 pt2) X.env = pure (some [x, y])) :
    PS X (.Assign [.Tuple [.Name x px, .Name y py] kt pt] (.Tuple [a, b] k2 pt2) pos) (tS X.K N W fun env m => (fa env m).st env fun x m1 => (fb env m1).st env fun y m2 => if i < env.length ∧ j < env.length then .ok .nx ((env.set i (some x)).set j (some y)) m2 else .bad) := by
  refine ps_imp (ps_par hc hN hi hj hij hx hy (pa_cons ha (pa_cons hb pa_nil (noStar_eq sb)) (noStar_eq sa)) hw) fun D σ H ⟨F, r, env, m, S, SE, h⟩ => ?_
  refine s_one S SE h fun F1 r1 H1 m1 d v x1 S1 SE1 q h1 => ?_
  refine s_one S1 SE1 h1 fun F2 r2 H2 m2 d2 v2 x2 S2 SE2 q2 h2 => ?_
  split at h2
  · exact ⟨v, v2, rfl, RSp.nx_ S2 ((SE2.set (q.ext x2)).set q2) h2⟩
  · exact h2.elim
theorem dput_rel {K : PySem.W.Frag} {F : Addr → Prop} {r : List Addr} {H : Hp} {m m' : Mem} {dx dy dv : D} {x y v : V} (S : Sim K N F r m H) (h1 : RelD N F r H dx x) (h2 : RelD N F r H dy y) (h3 : RelD N F r H dv v) (e : stoD dx dy dv m = some m') :
    ∃ a o, x = .ref a ∧ a ∈ r ∧ Sim K N F r m' (upd H a o) ∧ Ext F r H F r (upd H a o) ∧ (rSetL x y v H (fun H' => H' = upd H a o) ∨ rSetD x y v H (fun H' => H' = upd H a o)) := by
  unfold stoD at e
  split at e
  · rename_i k
    obtain ⟨a, hi, rfl⟩ := h1
    have ha := List.mem_of_getElem? hi
    split at e
    · rename_i xs em
      obtain ⟨vs, eH, l⟩ := S.ref em hi
      split at e
      · rename_i n
        cases (show y = V.int n from h2)
        split at e
        · rename_i q eq
          cases e
          have x0 : Ext F r H F r (upd H a (.lst (vs.set q v))) := Ext.set S ha eH
          refine ⟨a, .lst (vs.set q v), rfl, ha, S.set hi eH ⟨_, upd_same, (l.set q h3).ext x0⟩, x0, .inl ⟨a, vs, n, q, rfl, rfl, eH, by rw [← l.length]; exact eq, rfl⟩⟩
        · cases e
      · cases e
    · rename_i kvs em
      obtain ⟨ws, eH, l⟩ := S.ref em hi
      split at e
      · rename_i key ek
        split at e
        · rename_i hf
          cases e
          have x0 : Ext F r H F r (upd H a (.dK (L2.putK ws key v))) := Ext.set S ha eH
          refine ⟨a, .dK (L2.putK ws key v), rfl, ha, S.set hi eH ⟨_, upd_same, (relK_P.mpr ((relK_P.mp l).put h3)).ext x0⟩, x0, .inr ⟨a, _, rfl, .inl ⟨ws, key, eH, toKey_rel ek h2, ?_, rfl⟩, rfl⟩⟩
          have := fits_le hf
          rw [← RelK.length l]
          exact this
        · cases e
      · cases e
    · rename_i kvs em
      obtain ⟨ws, eH, l⟩ := S.ref em hi
      split at e
      · rename_i ks
        split at e
        · rename_i key ek
          split at e
          · rename_i hf
            cases e
            have x0 : Ext F r H F r (upd H a (.dT (L2.putK ws key v))) := Ext.set S ha eH
            obtain ⟨b, us, rfl, eb, lb⟩ := h2
            refine ⟨a, .dT (L2.putK ws key v), rfl, ha, S.set hi eH ⟨_, upd_same, (relT_P.mpr ((relT_P.mp l).put h3)).ext x0⟩, x0, .inr ⟨a, _, rfl, .inr ⟨ws, key, b, eH, rfl, by rw [eb, toKeys_rel ek lb], ?_, rfl⟩, rfl⟩⟩
            have := fits_le hf
            rw [← RelT.length l]
            exact this
          · cases e
        · cases e
      · cases e
    · cases e
  · cases e
/-- o[i] = v: what dput_rel tells, as a store by values -/
theorem set_any (hu : X.A.units + 1 < cLine) : PSet X (fun o i v H Q => rSetL o i v H Q ∨ rSetD o i v H Q) := by
  intro pins s σ H o i v ov iv u Q I ro ri rv h
  rcases h with h | h
  · exact set_list pins s σ H o i v ov iv u Q I ro ri rv h
  · exact set_dict hu pins s σ H o i v ov iv u Q I ro ri rv h
/-- a comprehension may be put at a place at once -/
theorem sub_sw {o i e : Expr} {tpos : Pos} {l : Nat} {env : PySem.Env} : swapsWith e (some (.Subscript o i tpos)) l env = pure false := by
  unfold swapsWith
  cases e <;> rfl
theorem s_asgI {o i : Expr} {fo fi : Env → Mem → Res D} {tpos : Pos} (hu : X.A.units + 1 < cLine) (he : PE X e (tD X.K N W f)) (ho : PE X o (tD X.K N W fo)) (hi : PE X i (tD X.K N W fi)) (hs : notSl i = true) :
    PS X (.Assign [.Subscript o i tpos] e pos) (tS X.K N W fun env m => (f env m).st env fun v m1 => (fo env m1).st env fun x m2 => (fi env m2).st env fun y m3 => optS (stoD x y v m3) env) := by
  have ha : ∀ v, assign (.Subscript o i tpos) X.env v = (do
      let ov ← holding [v] (eval o X.env)
      let iv ← holding [v, ov] (eval i X.env)
      standAt tpos
      holding [v, ov, iv] (setItem ov iv v)
      release [v, ov, iv] []) := by intro v; cases i <;> first | rfl | cases hs
  refine ps_imp (ps_asg he (pg_sub ho hi (set_any hu) ha) (show swapsWithSole [Expr.Subscript o i tpos] e pos.line X.env = pure false from sub_sw (o := o) (i := i) (tpos := tpos) (l := pos.line) (env := X.env)) rfl) fun D σ H ⟨F, r, env, m, S, SE, h⟩ => ?_
  refine s_one S SE h fun F1 r1 H1 m1 dv v x1 S1 SE1 q1 h1 => ?_
  refine s_one S1 SE1 h1 fun F2 r2 H2 m2 dx x x2 S2 SE2 q2 h2 => ?_
  refine s_one S2 SE2 h2 fun F3 r3 H3 m3 dy y x3 S3 SE3 q3 h3 => ?_
  cases es : stoD dx dy dv m3 with
  | none => rw [es] at h3; exact h3.elim
  | some m' =>
    rw [es] at h3
    obtain ⟨a, ob, rfl, har, S4, x4, h4⟩ := dput_rel S3 (q2.ext x3) q3 ((q1.ext x2).ext x3) es
    have fin : D.nx σ (upd H3 a ob) := h3 _ _ _ σ x4 S4 (SE3.ext x4)
    rcases h4 with ⟨p, xs, k, j, e1, e2, e3, e4, e5⟩ | ⟨p, H', e1, e2, e3⟩
    · exact .inl ⟨p, xs, k, j, e1, e2, e3, e4, by rw [e5]; exact fin⟩
    · exact .inr ⟨p, H', e1, e2, by rw [e3]; exact fin⟩
/-- o.f = v -/
theorem s_asgF {T : Tab} {o : Expr} {fo : Env → Mem → Res D} {tpos : Pos} {i : Nat} (hcl : ∀ c, T.ic c = true → Cls X.K (N.cl c)) (hn : ∀ c, T.ic c = true → NoAttr X.K (N.cl c) (N.fn i)) (he : PE X e (tD X.K N W f)) (ho : PE X o (tD X.K N W fo)) (hc : notComp e = true) :
    PS X (.Assign [.Attribute o (N.fn i) tpos] e pos) (tS X.K N W fun env m => (f env m).st env fun v m1 => (fo env m1).st env fun x m2 => optS (stoF T x i v m2) env) := by
  refine ps_imp (ps_fld ho he (notComp_sw hc)) fun D σ H ⟨F, r, env, m, S, SE, h⟩ => ?_
  refine s_one S SE h fun F1 r1 H1 m1 dv v x1 S1 SE1 q1 h1 => ?_
  refine s_one S1 SE1 h1 fun F2 r2 H2 m2 dx x x2 S2 SE2 q2 h2 => ?_
  cases es : stoF T dx i dv m2 with
  | none => rw [es] at h2; exact h2.elim
  | some m' =>
    rw [es] at h2
    unfold stoF at es
    split at es
    · rename_i k
      split at es
      · rename_i c fs em
        split at es
        · rename_i hf
          cases es
          obtain ⟨a, hi, rfl⟩ := q2
          obtain ⟨dx, ws, eH, rf⟩ := S2.ref em hi
          have ha := List.mem_of_getElem? hi
          have x0 : Ext F2 r2 H2 F2 r2 (upd H2 a (.ins (N.cl c) dx (L2.putF (N.fn i) v ws))) := Ext.set S2 ha eH
          refine ⟨a, N.cl c, dx, ws, rfl, eH, hcl c hf.2, hn c hf.2, by rw [RelF.len rf]; omega, ?_⟩
          exact h2 _ _ _ σ x0 (S2.set hi eH ⟨dx, _, upd_same, (RelF.put (q1.ext x2) rf).ext x0⟩) (SE2.ext x0)
        · cases es
      · cases es
    · cases es
variable {c : Expr} {fc : Env → Mem → Res Bool} {sa sb : List Stmt} {ga gb : Env → Mem → SR}
theorem s_ite (hc : PT X c (tTT X.K N W fc)) (ha : PSs X sa (tS X.K N W ga)) (hb : PSs X sb (tS X.K N W gb)) : PS X (.If c sa sb pos) (tS X.K N W fun env m => (fc env m).st env fun t m1 => if t then ga env m1 else gb env m1) := by
  refine ps_imp (ps_if hc ha hb) fun D σ H ⟨F, r, env, m, S, SE, h⟩ => s_one S SE h fun F1 r1 H1 m1 d v x S1 SE1 q h1 => ?_
  cases (show v = d from q)
  cases d with
  | true => exact ⟨F1, r1, env, m1, S1, SE1, h1⟩
  | false => exact ⟨F1, r1, env, m1, S1, SE1, h1⟩
theorem ss_nil : PSs X [] (tS X.K N W fun env m => .ok .nx env m) := pss_imp pss_nil fun D σ H ⟨F, r, env, m, S, SE, h⟩ => RSp.nx_ S SE h
theorem ss_cons {st : Stmt} {rest : List Stmt} (h1 : PS X st (tS X.K N W ga)) (h2 : PSs X rest (tS X.K N W gb)) : PSs X (st :: rest) (tS X.K N W fun env m => (ga env m).then fun env1 m1 => gb env1 m1) := by
  refine pss_imp (pss_cons h1 h2) fun D σ H ⟨F, r, env, m, S, SE, h⟩ => ⟨F, r, env, m, S, SE, ?_⟩
  dsimp only at h
  cases e : ga env m with
  | bad => rw [e] at h; exact h.elim
  | exc x env1 m1 => rw [e] at h; exact h
  | ok fl env1 m1 =>
    rw [e] at h
    cases fl with
    | nx => exact fun F' r' H' σ' x S' SE' => ⟨F', r', env1, m1, S', SE', RSp.ext h x⟩
    | rt d => exact h
    | bk => exact h
    | ct => exact h
/-! ### loops -/
def forR (body : D → Env → Mem → SR) : Ev.Its → Nat → Env → Mem → SR
  | .all xs, i, env, m => forL body (xs.drop i) env m
  | .by n get, i, env, m => forB get body (n - i) i env m
theorem forR_step (body : D → Env → Mem → SR) (its : Ev.Its) (i : Nat) (env : Env) (m : Mem) (hi : i ≤ lenI its) :
    (its.at m i = some none ∧ forR body its i env m = .ok .nx env m) ∨ (forR body its i env m = .bad) ∨ (i < lenI its ∧ ∃ x, its.at m i = some (some x) ∧ forR body its i env m = match body x env m with
      | .ok .nx env' m' => forR body its (i + 1) env' m'
      | .ok .ct env' m' => forR body its (i + 1) env' m'
      | .ok .bk env' m' => .ok .nx env' m'
      | q => q) := by
  cases its with
  | all xs =>
    have hi : i ≤ xs.length := hi
    by_cases h : i < xs.length
    · refine .inr (.inr ⟨h, xs[i], by show some xs[i]? = _; rw [List.getElem?_eq_getElem h], ?_⟩)
      show forL body (xs.drop i) env m = _
      rw [List.drop_eq_getElem_cons h]
      rfl
    · have e : i = xs.length := by omega
      subst e
      refine .inl ⟨by show some xs[xs.length]? = _; rw [List.getElem?_eq_none (Nat.le_refl _)], ?_⟩
      show forL body (xs.drop xs.length) env m = _
      rw [List.drop_length]
      rfl
  | «by» n get =>
    have hi : i ≤ n := hi
    by_cases h : i < n
    · obtain ⟨k, hk⟩ : ∃ k, n - i = k + 1 := ⟨n - i - 1, by omega⟩
      have hk2 : n - (i + 1) = k := by omega
      show (get m i = _ ∧ forB get body (n - i) i env m = _) ∨ forB get body (n - i) i env m = _ ∨ (_ ∧ ∃ x, get m i = _ ∧ forB get body (n - i) i env m = match body x env m with
        | .ok .nx env' m' => forB get body (n - (i + 1)) (i + 1) env' m'
        | .ok .ct env' m' => forB get body (n - (i + 1)) (i + 1) env' m'
        | .ok .bk env' m' => .ok .nx env' m'
        | q => q)
      rw [hk, hk2, show forB get body (k + 1) i env m = (match get m i with
        | none => .bad
        | some none => .bad
        | some (some x) => match body x env m with
          | .ok .nx env' m' => forB get body k (i + 1) env' m'
          | .ok .ct env' m' => forB get body k (i + 1) env' m'
          | .ok .bk env' m' => .ok .nx env' m'
          | q => q) from rfl]
      cases e : get m i with
      | none => exact .inr (.inl rfl)
      | some q =>
        cases q with
        | none => exact .inr (.inl rfl)
        | some x => exact .inr (.inr ⟨h, x, rfl, rfl⟩)
    · have e : n - i = 0 := by omega
      show (get m i = _ ∧ forB get body (n - i) i env m = _) ∨ forB get body (n - i) i env m = _ ∨ _
      rw [e, show forB get body 0 i env m = (match get m i with
        | some none => .ok .nx env m
        | _ => .bad) from rfl]
      cases e2 : get m i with
      | none => exact .inr (.inl rfl)
      | some q =>
        cases q with
        | none => exact .inl ⟨rfl, rfl⟩
        | some x => exact .inr (.inl rfl)
def bodyG (g : Tg) (fb : Env → Mem → SR) : D → Env → Mem → SR := fun x env m => match setT g x env m with
      | some env' => fb env' m
      | none => .bad
theorem for_in {g : Tg} {fb : Env → Mem → SR} {D : Ends} {σ : L2.St} {F1 : Addr → Prop} {r1 : List Addr} {H1 : Hp} {env : Env} {m1 : Mem} {its : Ev.Its} {J : It} (S1 : Sim X.K N F1 r1 m1 H1) (SE1 : SimE N F1 r1 H1 env σ) (ok : ItOk X.K N F1 r1 H1 its J) (h1 : RSp X.K N W F1 r1 H1 D (forR (bodyG g fb) its 0 env m1)) :
    tFor (fun _ H R => R J H) (tG X.K N g) (tS X.K N W fb) D σ H1 := by
  let inv : Nat → L2.St → Hp → Prop := fun i σk Hk => ∃ F' r' ek mk, Ext F1 r1 H1 F' r' Hk ∧ Sim X.K N F' r' mk Hk ∧ SimE N F' r' Hk ek σk ∧ i ≤ lenI its ∧ RSp X.K N W F1 r1 H1 D (forR (bodyG g fb) its i ek mk)
  refine ⟨fun i k σk Hk => k = lenI its - i ∧ inv i σk Hk, ⟨_, rfl, F1, r1, env, m1, Ext.refl _ _ _, S1, SE1, Nat.zero_le _, h1⟩, ?_⟩
  rintro i k σk Hk ⟨rfl, F', r', ek, mk, x, Sk, SEk, hi, hr⟩
  rcases forR_step (bodyG g fb) its i ek mk hi with ⟨e1, e2⟩ | e2 | ⟨hlt, d, e1, e2⟩
  · refine .inl ⟨ok.stop i F' r' Hk mk x Sk e1, ?_⟩
    rw [e2] at hr
    exact hr F' r' Hk σk x Sk SEk
  · rw [e2] at hr; exact hr.elim
  · refine .inr ⟨ok.go i d F' r' Hk mk x Sk e1, fun σ' H' => inv (i + 1) σ' H', fun σ' H' hn => ⟨lenI its - (i + 1), by omega, rfl, hn⟩, fun v H2 y => ?_⟩
    obtain ⟨F2, r2, x2, S2, q2⟩ := ok.yld i d F' r' Hk mk v H2 x Sk e1 y
    rw [e2] at hr
    cases es : setT g d ek mk with
    | none =>
      have ee : bodyG g fb d ek mk = .bad := by unfold bodyG; rw [es]
      rw [ee] at hr; exact hr.elim
    | some e' =>
      have ee : bodyG g fb d ek mk = fb e' mk := by unfold bodyG; rw [es]
      rw [ee] at hr
      refine ⟨F2, r2, ek, mk, d, e', S2, SEk.ext x2, q2, es, fun σ2 _ SE3 => ⟨F2, r2, e', mk, S2, SE3, ?_⟩⟩
      cases eb : fb e' mk with
      | bad => rw [eb] at hr; exact hr.elim
      | exc c e3 m3 =>
        rw [eb] at hr
        exact fun F3 r3 H3 σ3 cl dd x3 S3 SE4 rx => hr F3 r3 H3 σ3 cl dd ((x.trans x2).trans x3) S3 SE4 rx
      | ok fl e3 m3 =>
        rw [eb] at hr
        cases fl with
        | nx => exact fun F3 r3 H3 σ3 x3 S3 SE4 => ⟨F3, r3, e3, m3, (x.trans x2).trans x3, S3, SE4, hlt, hr⟩
        | ct => exact fun F3 r3 H3 σ3 x3 S3 SE4 => ⟨F3, r3, e3, m3, (x.trans x2).trans x3, S3, SE4, hlt, hr⟩
        | bk => exact fun F3 r3 H3 σ3 x3 S3 SE4 => hr F3 r3 H3 σ3 ((x.trans x2).trans x3) S3 SE4
        | rt dv => exact fun F3 r3 H3 w x3 S3 qd => hr F3 r3 H3 w ((x.trans x2).trans x3) S3 qd
theorem s_for {tg iter : Expr} {body : List Stmt} {g : Tg} {fi : Env → Mem → Res Ev.Its} {fb : Env → Mem → SR} (hp : PassesOwn (model X.prog X.w) X.A X.env X.xe) (hc : X.calm = true) (hi : PI X tg iter (tII X.K N W fi)) (hg : PG X tg (tG X.K N g)) (hb : PSs X body (tS X.K N W fb)) (hs : notSet iter = true) :
    PS X (.For tg iter body [] pos) (tS X.K N W fun env m => (fi env m).st env fun its m1 => forR (bodyG g fb) its 0 env m1) := by
  refine ps_imp (ps_for hp hc hi hg hb (notSet_eq hs)) fun D σ H ⟨F, r, env, m, S, SE, h⟩ => s_one S SE h fun F1 r1 H1 m1 its J x0 S1 SE1 ok h1 => for_in S1 SE1 ok h1
theorem s_whl {body : List Stmt} {fb : Env → Mem → SR} (hp : PassesOwn (model X.prog X.w) X.A X.env X.xe) (hc : PT X c (tTT X.K N W fc)) (hb : PSs X body (tS X.K N W fb)) :
    PS X (.While c body [] pos) (tS X.K N W fun env m => match loop (whlF fc fb) (env, m) with
      | some r => r
      | none => .bad) := by
  refine ps_imp (ps_while hp hc hb) fun D σ H ⟨F, r, env, m, S, SE, h⟩ => ?_
  dsimp only at h
  cases el : loop (whlF fc fb) (env, m) with
  | none => rw [el] at h; exact h.elim
  | some res =>
    rw [el] at h
    obtain ⟨n, hn⟩ := of_loop el
    refine ⟨fun n σk Hk => ∃ F' r' ek mk, Ext F r H F' r' Hk ∧ Sim X.K N F' r' mk Hk ∧ SimE N F' r' Hk ek σk ∧ loopN (whlF fc fb) n (ek, mk) = some res, ⟨n, F, r, env, m, Ext.refl _ _ _, S, SE, hn⟩, ?_⟩
    rintro n σk Hk ⟨F', r', ek, mk, x, Sk, SEk, hl⟩
    cases n with
    | zero => cases hl
    | succ n =>
      refine ⟨F', r', ek, mk, Sk, SEk, ?_⟩
      unfold loopN whlF at hl
      dsimp only at hl
      cases ec : fc ek mk with
      | bad =>
        rw [ec] at hl
        have hl : some SR.bad = some res := hl
        cases hl
        exact h.elim
      | exc y m1 =>
        rw [ec] at hl
        have hl : some (SR.exc y ek m1) = some res := hl
        cases hl
        exact fun F1 r1 H1 c d x1 S1 rx => h F1 r1 H1 σk c d (x.trans x1) S1 (SEk.ext x1) rx
      | ok b m1 =>
        intro F1 r1 H1 b' x1 S1 qb
        cases (show b' = b from qb)
        rw [ec] at hl
        cases b with
        | false =>
          have hl : some (SR.ok .nx ek m1) = some res := hl
          cases hl
          rw [if_neg Bool.false_ne_true]
          exact h F1 r1 H1 σk (x.trans x1) S1 (SEk.ext x1)
        | true =>
          rw [if_pos rfl]
          refine ⟨fun σ' H' => ∃ F' r' ek mk, Ext F r H F' r' H' ∧ Sim X.K N F' r' mk H' ∧ SimE N F' r' H' ek σ' ∧ loopN (whlF fc fb) n (ek, mk) = some res, fun σ' H' hw => ⟨n, Nat.lt_succ_self _, hw⟩, F1, r1, ek, m1, S1, SEk.ext x1, ?_⟩
          cases eb : fb ek m1 with
          | bad =>
            have hl : some SR.bad = some res := by simp only [eb] at hl; exact hl
            cases hl
            exact h.elim
          | exc y e2 m2 =>
            have hl : some (SR.exc y e2 m2) = some res := by simp only [eb] at hl; exact hl
            cases hl
            exact fun F2 r2 H2 σ2 c d x2 S2 SE2 rx => h F2 r2 H2 σ2 c d ((x.trans x1).trans x2) S2 SE2 rx
          | ok fl e2 m2 =>
            cases fl with
            | nx =>
              have hl : loopN (whlF fc fb) n (e2, m2) = some res := by simp only [eb] at hl; exact hl
              exact fun F2 r2 H2 σ2 x2 S2 SE2 => ⟨F2, r2, e2, m2, (x.trans x1).trans x2, S2, SE2, hl⟩
            | ct =>
              have hl : loopN (whlF fc fb) n (e2, m2) = some res := by simp only [eb] at hl; exact hl
              exact fun F2 r2 H2 σ2 x2 S2 SE2 => ⟨F2, r2, e2, m2, (x.trans x1).trans x2, S2, SE2, hl⟩
            | bk =>
              have hl : some (SR.ok .nx e2 m2) = some res := by simp only [eb] at hl; exact hl
              cases hl
              exact fun F2 r2 H2 σ2 x2 S2 SE2 => h F2 r2 H2 σ2 ((x.trans x1).trans x2) S2 SE2
            | rt dv =>
              have hl : some (SR.ok (.rt dv) e2 m2) = some res := by simp only [eb] at hl; exact hl
              cases hl
              exact fun F2 r2 H2 v x2 S2 qd => h F2 r2 H2 v ((x.trans x1).trans x2) S2 qd
end
end Ev
/-! EvP2: raise, try. -/
namespace Ev
open PySem L2
section
variable {K : PySem.W.Frag} {N : Nm} {F F1 : Addr → Prop} {r r1 : List Addr} {H H1 : Hp}
theorem RelF.append : ∀ {a b : List (Nat × D)} {x y : List (Str × V)}, RelF N F r H a x → RelF N F r H b y → RelF N F r H (a ++ b) (x ++ y)
  | [], _, _, _, h, g => by cases (show _ = [] from h); exact g
  | (k, d) :: a, b, x, y, h, g => by
    obtain ⟨v, ws, rfl, q, t⟩ := h
    exact ⟨v, ws ++ y, rfl, q, RelF.append t g⟩
/-- fields and what stands by them, the last one first -/
theorem RelF.zipR : ∀ {fs : List Nat} {xs : List D} {vs : List V}, RelL N F r H xs vs → RelF N F r H (fs.zip xs).reverse (((fs.map N.fn).zip vs).reverse)
  | [], _, _, _ => rfl
  | _ :: _, [], _, h => by cases (show _ = [] from h); exact rfl
  | f :: fs, x :: xs, _, h => by
    obtain ⟨v, ws, rfl, q, t⟩ := h
    rw [List.map_cons, List.zip_cons_cons, List.zip_cons_cons, List.reverse_cons, List.reverse_cons]
    exact RelF.append (RelF.zipR t) ⟨v, [], rfl, q, rfl⟩
end
section
variable {X : Cx} {N : Nm} {T : Tab} {S : Stat} {cf : CF} {j : Nat} {nm : List Str} {W : WX} {e : Expr} {es : List Expr} {x : Str} {p pos pos2 : Pos} {fL : Env → Mem → Res (List D)}
/-- C(), an own class without own __init__ -/
theorem pmk_own0 {C : Addr} (q : PySem.W.excIn X.K C [.type "ValueError", .type "Exception", .type "BaseException", .type "object"] "ValueError.__new__" = true) (gC : X.mg x = some (.ref C)) (kC : PySem.W.keepIn X.K (.ref C) = true) (rz : Raises X (.ref C)) (hg : Gl X x) (hdb : (x == ("__debug__" : Str)) = false) :
    PMk X (.Call (.Name x p) [] [] pos) (fun _ H Q => Q (.ref C) none H) := by
  intro pins s σ H Q I h
  refine wpAny_Call_Name_kw (ld_glob I hg gC ?_ hdb)
  refine PySem.W.callWith_K0 I.kIn kC ?_
  show wpAny _ _ (call (.ref C) []) _ _ _
  obtain ⟨bm, NN, nn, qn, bs, hdct, sn, sub, ab, col, dd, k0, k1, k2, k3, k5, mN, hC, hN, hni, TT⟩ := exc_obj I.kIn q
  exact wpAny_call_exc_subT F.excBase_ValueError TT hC hN hni (fun h' e2 hm => mk_of I hm rz h (I.hok.gone hm.new)) (by show 0 ≤ sizeLine; omega)
def raiseG (T : Tab) (c : Nat) (env : Env) : List D → Mem → SR := fun xs m1 => match T.xfs c with
    | some fs => if fs.length = xs.length then .exc ⟨c, (fs.zip xs).reverse⟩ env m1 else .bad
    | none => .bad
theorem s_raise {c : Nat} {fs : List Nat} (F : Facts X.K X.mg N T S) (xi : ∀ c f fs, T.xfs c = some (f :: fs) → FnOk X.prog X.w X.K X.mg X.base (L2.CX X.prog X.w) j (S.xa c) (S.xd c) (S.xp c) (spX N (N.cl c) (f :: fs))) (calm : X.calm = true) (hr : Room (j + 1) X.A) (tk : Takes X W)
    (hk : S.cn.lookup x = some c) (hf : T.xfs c = some fs) (hg : Gl X x) (hd : (x == ("__debug__" : Str)) = false) (ha : PA X es (tAA X.K N W fL)) (hs : es.all noStar = true) (hnil : es = [] → fL = fun _ m => .ok [] m) (hlen : fs.length = es.length) (hsz : es.length ≤ 900) :
    PS X (.Raise (some (.Call (.Name x p) es [] pos)) none pos2) (tS X.K N W fun env m => (fL env m).st env fun xs m1 => raiseG T c env xs m1) := by
  have hm := F.cn x c hk
  have ok := F.xok c fs hf
  cases fs with
  | nil =>
    cases es with
    | cons => cases hlen
    | nil =>
      obtain ⟨o1, o2, o3, o4⟩ := ok
      rw [hnil rfl]
      refine ps_imp (ps_raise (W := W) calm tk (pmk_own0 o1 hm o2 (raises_own o3 o4) hg hd)) fun D σ H ⟨Fr, r, env, m, Si, SE, h⟩ => ?_
      have h : RSp X.K N W Fr r H D (raiseG T c env [] m) := h
      unfold raiseG at h
      rw [hf] at h
      exact h Fr r H σ _ none (Ext.refl _ _ _) Si SE ⟨rfl, .inl ⟨rfl, rfl⟩⟩
  | cons f fs =>
    cases es with
    | nil => cases hlen
    | cons e es =>
      obtain ⟨o1, o2, o3, o4, _⟩ := ok
      rw [List.all_cons, Bool.and_eq_true] at hs
      have pm := pmk_oex (p := p) (pos := pos) o1 o2 o3 (xi c f fs hf) hr o4 (dvs := []) .nil (passes_call tk fun _ _ _ _ z => z.elim) hg hm ha hd (noStar_eq hs.1) (noStars hs.2).1
      refine ps_imp (ps_raise (W := W) calm tk pm) fun D σ H ⟨Fr, r, env, m, Si, SE, h⟩ => ?_
      refine s_one Si SE h fun F1 r1 H1 m1 ds vs x1 S1 SE1 q1 h1 => ?_
      unfold raiseG at h1
      rw [hf] at h1
      dsimp only at h1
      split at h1
      · rename_i hl
        have hv : vs.length = (f :: fs).length := by rw [← q1.length, ← hl]
        refine ⟨by rw [hv, hlen]; omega, fun a hna => ⟨a, vs ++ [], rfl, by rw [List.append_nil]; exact hv, upd_same, fun d H' hd1 hda e1 e2 e3 => ⟨rfl, d, _, e1, e2, ?_, ?_⟩⟩⟩
        · rw [upd_ne hda] at hd1
          exact hd1
        · rw [upd_ne hda] at hd1
          have eH : upd (L2.del H' a) d (.xd (((List.map N.fn (f :: fs)).zip (vs ++ [])).reverse)) = upd H1 d (.xd (((List.map N.fn (f :: fs)).zip vs).reverse)) := by
            rw [List.append_nil]
            funext b
            by_cases hbd : b = d
            · rw [hbd, upd_same, upd_same]
            · rw [upd_ne hbd, upd_ne hbd]
              by_cases hba : b = a
              · rw [hba, del_same, hna]
              · rw [del_ne hba, e3 b hba hbd, upd_ne hba]
          rw [eH]
          have x2 := Ext.fresh (o := .xd (((List.map N.fn (f :: fs)).zip vs).reverse)) S1 hd1
          exact h1 _ _ _ σ _ _ x2 (S1.fresh_ hd1) (SE1.ext x2) ⟨rfl, .inr ⟨d, _, rfl, upd_same, RelF.zipR (q1.ext x2)⟩⟩
      · exact h1.elim
end
end Ev
/-! EvP3: what is caught stays at hand; an except suite of one statement; try. -/
namespace Ev
open PySem L2
section
variable {X : Cx} {pins : List (Addr × Obj)} {σ : L2.St} {H : Hp} {s : Shared}
/-- a caught exception becomes one of the things that are tracked -/
theorem adopt {a : Addr} {oe : Obj} {vs : Array Value} (I : Inv X pins σ H s) (ha : s.heap.get? a = some oe) (hd : oe.data = .fields vs) (na : H a = none) (h0 : X.s_0.heap.get? a = none) (nL : a ≠ X.env.locals) (np : ∀ p ∈ X.pn ++ pins, p.1 ≠ a) : Inv X pins σ (upd H a (.frz oe xM)) s := by
  have up : ∀ {b : Addr} {o : HO}, H b = some o → upd H a (.frz oe xM) b = some o := fun {b o} e => by rw [upd_ne (ne_of_none e na)]; exact e
  refine ⟨I.ok, I.os, I.bare, ⟨I.base.keep, I.base.slot, fun b o e n hx => ?_, I.base.there, fun b xs e => up (I.base.tups b xs e), fun b o u e => up (I.base.frzs b o u e), fun b ps e => ?_⟩, I.loc, I.cell, ?_, fun x c e => ?_, fun p hp => ?_, fun b u e => ?_, I.len⟩
  · have hb : b ≠ a := fun z => by rw [z, h0] at e; cases e
    rw [upd_ne hb]
    exact I.base.free b o e n hx
  · obtain ⟨m, e1⟩ := I.base.tbls b ps e
    exact ⟨m, up e1⟩
  · rw [upd_ne (Ne.symm nL)]; exact I.free
  · have hc : c ≠ a := fun z => by
      obtain ⟨v, o, ho, hv⟩ := I.cell x c e
      rw [z, ha] at ho
      cases ho
      rw [hd] at hv
      cases hv
    rw [upd_ne hc]; exact I.freeC x c e
  · obtain ⟨e, n, q⟩ := I.pin p hp
    exact ⟨e, by rw [upd_ne (np p hp)]; exact n, q⟩
  · by_cases hb : b = a
    · subst hb
      rw [upd_same] at e
      cases e
      exact ⟨ha, trivial, ⟨oe, ha⟩, fun _ _ _ _ => trivial⟩
    · rw [upd_ne hb] at e
      exact (I.hok b u e).stay (fun c v _ q => q) (fun c q => up q) fun c xs q => up q
/-- slot i is the clause's name -/
def offD (o : Option Nat) (D : Ends) : Ends := match o with
  | none => D
  | some i => { nx := fun σ' H' => D.nx (σ'.set i none) H', rt := D.rt, bk := fun σ' H' => D.bk (σ'.set i none) H', ct := fun σ' H' => D.ct (σ'.set i none) H' }
def onS (o : Option Nat) (a : Addr) (σ : L2.St) : L2.St := match o with
  | none => σ
  | some i => σ.set i (some (.ref a))
/-- what the clauses wish of an exception of the body -/
def wHs (K : PySem.W.Frag) (Wout : WX) (D : Ends) : List (Option Nat × Value × TS) → WX
  | [] => Wout
  | (o, c, ts) :: r => fun cls d σ H => ∃ b, PySem.W.exmOne K cls c = some b ∧ (b = true → ∀ a oe, H a = none → Zc cls d oe → (∃ vs, oe.data = .fields vs) → ts (offD o D) (onS o a σ) (upd H a (.frz oe xM))) ∧ (b = false → wHs K Wout D r cls d σ H)
inductive Clauses (X : Cx) : List ExceptHandler → List (Option Nat × Value × TS) → Prop
  | nil : Clauses X [] []
  | cons0 {x : Str} {c : Value} {ts : TS} {b0 : Stmt} {suite : List Stmt} {np pos' : Pos} {hds : List ExceptHandler} {l : List (Option Nat × Value × TS)} (hc : Names X x c) (hsu : ∀ a, PSs (X.suite a X.pn) (b0 :: suite) ts) (r : Clauses X hds l) :
      Clauses X (.ExceptHandler (some (.Name x np)) none (b0 :: suite) pos' :: hds) ((none, c, ts) :: l)
  | consA {x n : Str} {i : Nat} {c : Value} {ts : TS} {b0 : Stmt} {suite : List Stmt} {np pos' : Pos} {hds : List ExceptHandler} {l : List (Option Nat × Value × TS)} (hc : Names X x c) (hi : X.N[i]? = some n) (hln : X.env.kindOf n = some .local) (hsu : ∀ a, PSs (X.suite a X.pn) (b0 :: suite) ts) (r : Clauses X hds l) :
      Clauses X (.ExceptHandler (some (.Name x np)) (some n) (b0 :: suite) pos' :: hds) ((some i, c, ts) :: l)
theorem in_suite (I : Inv X pins σ H s) (a : Addr) : Inv (X.suite a X.pn) pins σ H s := ⟨I.ok.suite _ _, I.os, I.bare, I.base, I.loc, I.cell, I.free, I.freeC, I.pin, I.hok, I.len⟩
theorem off_suite {a : Addr} (I : Inv (X.suite a X.pn) pins σ H s) (ok : X.Ok) : Inv X pins σ H s := ⟨ok, I.os, I.bare, I.base, I.loc, I.cell, I.free, I.freeC, I.pin, I.hok, I.len⟩
end
section
variable {X : Cx} {body : List Stmt} {h0 : ExceptHandler} {hds : List ExceptHandler} {l : List (Option Nat × Value × TS)} {pos : Pos} {tb : WX → TS} {Wout : WX}
/-- try, any clauses, with or without names; else -/
theorem ps_try_own {orelse : List Stmt} {u : TS} (ho : PSs X orelse u) (hs : X.stack = X.env :: X.outer) (hf : X.env.frame = some X.env.locals) (hx : X.ex = []) (hN : X.N.Nodup) (tk : Takes X Wout)
    (hb : ∀ (W : WX) (pn : List (Addr × Obj)) (xe : Value → Shared → Prop), Takes (X.tr pn xe) W → PassesOwn (model X.prog X.w) X.A X.env xe → PSs (X.tr pn xe) body (tb W))
    (hh : Clauses X (h0 :: hds) l) : PS X (.Try body (h0 :: hds) orelse [] pos) (fun D σ H => tb (wHs X.K Wout D l) { D with nx := u D } σ H) := by
  refine ⟨fun pins s σ H D I h => ?_⟩
  have ok := I.ok
  have hfr : X.A.frames = some (X.env :: X.outer) := by rw [ok.frames, hs]
  refine wpAny_Try_except (wpAny_mono ((hb (wHs X.K Wout D l) (X.pn ++ pins) (fun e s₁ => wpAny (model X.prog X.w) X.A (noteFrame e X.env) (fun _ s₂ => wpAny (model X.prog X.w) X.A (setFlight e none) (fun _ s₃ =>
    wpAny (model X.prog X.w) X.A (handleBy e X.env (h0 :: hds)) (SP X pins D) X.xe s₃) X.xe s₂) X.xe s₁) (fun u s' xx => ?_) PassesOwn.looking).run [] s σ H { D with nx := u D } (I.toTry _) h) (fun f s1 hsp => ?_) (fun e s1 he => he))
  · obtain ⟨a, B, sI, pins', σ', H', cls, d, rfl, J', nb, up, sky, na, os, ag, w⟩ := xx
    have J : Inv X pins σ' H' sI := J'.ofTry ok
    rw [show (X.tr (X.pn ++ pins) _).stack = X.env :: X.outer from hs] at sky
    show wpAny (model X.prog X.w) X.A (noteFrame (.ref a) X.env) _ _ _
    refine Sky.land Zc.steady hfr hf sky fun h3 fl3 up3 => ?_
    have J3 : Inv X pins σ' H' { s' with heap := h3 } := J.landed nb fl3.1 (up.trans up3) os ag
    obtain ⟨oe3, vs3, he3, hz3, hd3⟩ := fl3.there
    have nfr : a ∉ frs (X.env :: X.outer) := fun hm => by
      obtain ⟨_, o', e', hnf⟩ := fl3.2.2.1.mem hm
      rw [he3] at e'; cases e'
      exact hnf _ hd3
    have nL : a ≠ X.env.locals := fun z => nfr (List.mem_filterMap.mpr ⟨X.env, List.mem_cons_self, by rw [hf, z]⟩)
    have aI : sI.heap.get? a = none := by
      cases q : sI.heap.get? a with
      | none => rfl
      | some o =>
        have z := nb a o q (by rw [show (X.tr (X.pn ++ pins) _).stack = X.env :: X.outer from hs]; exact nfr)
        rw [fl3.2.1] at z; cases z
    have a0 : X.s_0.heap.get? a = none := by
      cases q : X.s_0.heap.get? a with
      | none => rfl
      | some o =>
        obtain ⟨o', z⟩ := J.base.there a o q (by rw [hx]; exact fun z => nomatch z)
        rw [aI] at z; cases z
    have hpin : ∀ p ∈ X.pn ++ pins, p.1 ≠ a := fun p hp z => by
      have := (J.pin p hp).1
      rw [z, aI] at this; cases this
    have go : ∀ {hds' : List ExceptHandler} {l' : List (Option Nat × Value × TS)}, Clauses X hds' l' → wHs X.K Wout D l' cls d σ' H' → wpAny (model X.prog X.w) X.A (handleBy (.ref a) X.env hds') (SP X pins D) X.xe { s' with heap := h3 } := by
      have test : ∀ {x : Str} {c : Value} {np : Pos} {b : Bool} {R : Bool → Shared → Prop} {E' : Value → Shared → Prop}, Names X x c → PySem.W.exmOne X.K cls c = some b → R b { s' with heap := h3 } →
          wpAny (model X.prog X.w) (X.A.mark (some (.ref a))) (eval (.Name x np) X.env) (fun c s₁ => wpAny (model X.prog X.w) (X.A.mark (some (.ref a))) (excMatches (.ref a) c) R E' s₁) E' { s' with heap := h3 } := fun {x c np b R E'} hc hb1 q => by
        have LT : PySem.W.Looks (model X.prog X.w) h3 (typeOf (.ref a)) cls := fun A Q E s k q => wpAny_typeOf_ref (k _ _ he3) (by rw [hz3.1]; exact q)
        have LM := PySem.W.exm_one (M := model X.prog X.w) J3.kIn LT hb1
        have S3 := in_suite J3 a
        obtain ⟨hg, hdbg, hm | ⟨hm, hv, hnn⟩⟩ := hc
        · exact ld_glob (X := X.suite a X.pn) S3 hg hm (LM.here q) hdbg
        · exact ld_blt (X := X.suite a X.pn) S3 hg hm hv (LM.here q) hnn hdbg
      intro hds' l' hk
      induction hk with
      | nil =>
        intro w
        refine wpAny_handleBy_nil ?_
        obtain ⟨k1, k2, k3, oe, vs, T, oT, ts', he, hz, hd, h1, hr⟩ := id fl3
        have fin : wpAny (model X.prog X.w) X.A (setFlight (.ref a) X.env.frame) (fun _ s4 => wpAny (model X.prog X.w) X.A (throw (.ref a) : Sem PySem.Flow) (SP X pins D) X.xe s4) X.xe { s' with heap := h3 } := by
          rw [hf]
          refine HandSPX.setFlight_upZ fl3 fun h4 hh4 up4 => wpAny_throw (tk _ _ ?_)
          exact ⟨a, B, sI, pins, σ', H', cls, d, rfl, J, nb, (up.trans up3).trans up4, .inr (.inr (by rw [hs]; exact hh4)), na, os, ag, w⟩
        unfold PySem.passOn
        refine wpAny_bind (wpAny_field he hd h1 ?_)
        rw [if_neg (show ¬ ((Value.ref T == Value.none) = true) from by simp)]
        first
          | exact wpAny_bind (wpAny_pure (wpAny_bind fin))
          | exact wpAny_bind fin
      | @cons0 x c ts b0 suite np pos' hds2 l2 hc hsu r ih =>
        intro w
        obtain ⟨b, hb1, hyes, hno⟩ := w
        refine wpAny_handleBy_cons (codeAny_handlers_test (test hc hb1 ?_)) (by intro q; cases q)
        cases b with
        | true =>
          refine codeAny_handlers_suite (HandSPX.lands_againZ fl3 fun h4 fl4 up4 => ?_)
          have J4 : Inv X pins σ' H' { s' with heap := h4 } := J.landed nb fl4.1 ((up.trans up3).trans up4) os ag
          obtain ⟨oe4, vs4, he4, hz4, hd4⟩ := fl4.there
          have S4 := in_suite (adopt J4 he4 hd4 na a0 nL hpin) a
          refine wpAny_mono ((hsu a).run pins _ _ _ _ S4 (hyes rfl a oe4 na hz4 ⟨_, hd4⟩)) (fun f s6 hsp => ?_) (fun _ _ z => False.elim z)
          cases f with
          | next => obtain ⟨σ6, H6, S6, q6⟩ := hsp; exact ⟨_, _, off_suite S6 ok, q6⟩
          | brk => obtain ⟨σ6, H6, S6, q6⟩ := hsp; exact ⟨_, _, off_suite S6 ok, q6⟩
          | cont => obtain ⟨σ6, H6, S6, q6⟩ := hsp; exact ⟨_, _, off_suite S6 ok, q6⟩
          | ret u => obtain ⟨v6, σ6, H6, S6, r6, q6⟩ := hsp; exact ⟨_, _, _, off_suite S6 ok, r6, q6⟩
        | false => exact ih (hno rfl)
      | @consA x n i c ts b0 suite np pos' hds2 l2 hc hi hln hsu r ih =>
        intro w
        obtain ⟨b, hb1, hyes, hno⟩ := w
        refine wpAny_handleBy_cons (codeAny_handlers_test (test hc hb1 ?_)) (by intro q; cases q)
        cases b with
        | true =>
          refine codeAny_handlers_suite_as (HandSPX.lands_againZ fl3 fun h4 fl4 up4 => ?_)
          have J4 : Inv X pins σ' H' { s' with heap := h4 } := J.landed nb fl4.1 ((up.trans up3).trans up4) os ag
          obtain ⟨oe4, vs4, he4, hz4, hd4⟩ := fl4.there
          have S4 := in_suite (adopt J4 he4 hd4 na a0 nL hpin) a
          refine store_ok (X := X.suite a X.pn) (v := .ref a) S4 hN hi (.inl hln) rfl (fun s5 S5 => ?_) (.inr hln)
          have end_ : ∀ {σ6 : L2.St} {H6 : Hp} {s6 : Shared} {Q : Shared → Prop}, Inv (X.suite a X.pn) pins σ6 H6 s6 → (∀ s7, Inv X pins (σ6.set i none) H6 s7 → Q s7) →
              wpAny (model X.prog X.w) X.A (do bindName X.env n .none; unbindBehindTheSuite X.env n pos') (fun _ s7 => Q s7) X.xe s6 := fun {σ6 H6 s6 Q} S6 hq => gone_ok (off_suite S6 ok) hN hi hln hq
          refine wpAny_mono ((hsu a).run pins s5 _ _ _ S5 (hyes rfl a oe4 na hz4 ⟨_, hd4⟩)) (fun f s6 hsp => ?_) (fun _ _ z => False.elim z)
          cases f with
          | next => obtain ⟨σ6, H6, S6, q6⟩ := hsp; exact end_ S6 fun s7 J7 => ⟨_, _, J7, q6⟩
          | brk => obtain ⟨σ6, H6, S6, q6⟩ := hsp; exact end_ S6 fun s7 J7 => ⟨_, _, J7, q6⟩
          | cont => obtain ⟨σ6, H6, S6, q6⟩ := hsp; exact end_ S6 fun s7 J7 => ⟨_, _, J7, q6⟩
          | ret u => obtain ⟨v6, σ6, H6, S6, r6, q6⟩ := hsp; exact end_ S6 fun s7 J7 => ⟨_, _, _, J7, r6, q6⟩
        | false => exact ih (hno rfl)
    exact go hh w
  · cases f with
    | next => obtain ⟨σ', H', J', q⟩ := hsp; exact ho.run pins s1 σ' H' D (J'.ofTry ok) q
    | brk => obtain ⟨σ', H', J', q⟩ := hsp; exact ⟨σ', H', J'.ofTry ok, q⟩
    | cont => obtain ⟨σ', H', J', q⟩ := hsp; exact ⟨σ', H', J'.ofTry ok, q⟩
    | ret u => obtain ⟨v, σ', H', J', r, q⟩ := hsp; exact ⟨v, σ', H', J'.ofTry ok, r, q⟩
end

/-! ### the suite's expressions -/
section
variable (S : Stat) (N : Nm) (nm : List Str)
mutual
def chkQ : SE → Scope → Expr → Bool
  | .var k, sc, e => match e with
    | .Name x _ => decide (nm[k]? = some x) && visB sc x && ndB x
    | _ => false
  | .cst d, _, e => match e with
    | .Constant c _ _ => cstB d c
    | _ => false
  | .xfld k f, sc, e => match e with
    | .Attribute (.Name x _) y _ => decide (nm[k]? = some x) && visB sc x && ndB x && decide (y = N.fn f)
    | _ => false
  | .tup es, sc, e => match e with
    | .Tuple es' _ _ => chkQs es sc es'
    | _ => false
  | .blt b es, sc, e => match b, es, e with
    | .tuple, .cons (.var k) .nil, .Call (.Name t _) [.Name x _] [] _ => decide (t = "tuple") && okName sc t && decide (nm[k]? = some x) && visB sc x && ndB x
    | _, _, _ => false
  | _, _, _ => false
def chkQs : SEs → Scope → List Expr → Bool
  | .nil, _, es => es.isEmpty
  | .cons e es, sc, l => match l with
    | e' :: es' => noStar e' && chkQ e sc e' && chkQs es sc es'
    | [] => false
end
def chkH : SSs → Scope → List Stmt → Bool
  | .cons s .nil, sc, [st] => match s, st with
    | .ret e, .Return (some e') _ => chkQ N nm e sc e'
    | .asg (.nm k) e, .Assign [.Name y _] e' _ => decide (nm[k]? = some y) && decide (sc.names.lookup y = some .local) && notComp e' && (match e' with | .Tuple _ _ _ => false | _ => true) && chkQ N nm e sc e'
    | .pass, .Pass _ => true
    | .cont, .Continue _ => true
    | .brk, .Break _ => true
    | _, _ => false
  | _, _, _ => false
def chkHs : SHs → Scope → List ExceptHandler → Bool
  | .nil, _, l => l.isEmpty
  | .cons c as_ h hs, sc, l => match l with
    | .ExceptHandler (some (.Name x _)) nm' (b0 :: suite) _ :: l' => decide (S.cn.lookup x = some c) && glB sc x && ndB x && chkH N nm h sc (b0 :: suite) && (match as_, nm' with
      | some i, some n => decide (nm[i]? = some n) && decide (sc.names.lookup n = some .local)
      | none, none => true
      | _, _ => false) && chkHs hs sc l'
    | _ => false
end
section
variable {X : Cx} {N : Nm} {T : Tab} {S : Stat} {cf : CF} {j : Nat} {nm : List Str} {sc raw : Scope} {W : WX}
variable (h : Here X N T S cf j nm sc raw) (a : Addr)
include h
mutual
theorem okQ : ∀ (n : SE) (e : Expr), chkQ N nm n sc e = true → PE (X.suite a X.pn) e (tD X.K N W (evE T cf n))
  | .var k, e, hk => by
    unfold chkQ at hk
    split at hk
    · obtain ⟨hk, h3⟩ := and2 hk
      obtain ⟨h1, h2⟩ := and2 hk
      exact x_var (X := X.suite a X.pn) (by rw [show (X.suite a X.pn).N = nm from h.hN]; exact of_decide_eq_true h1) (h.vis h2) (nd_of h3).1 (nd_of h3).2
    · cases hk
  | .cst d, e, hk => by
    unfold chkQ at hk
    split at hk
    · exact x_cst (X := X.suite a X.pn) hk
    · cases hk
  | .xfld k f, e, hk => by
    unfold chkQ at hk
    split at hk
    · obtain ⟨hk, h4⟩ := and2 hk
      obtain ⟨hk, h3⟩ := and2 hk
      obtain ⟨h1, h2⟩ := and2 hk
      cases of_decide_eq_true h4
      exact x_xfld (X := X.suite a X.pn) h.facts (by rw [show (X.suite a X.pn).N = nm from h.hN]; exact of_decide_eq_true h1) (h.vis h2) (nd_of h3).1 (nd_of h3).2
    · cases hk
  | .tup es, e, hk => by
    unfold chkQ at hk
    split at hk
    · exact x_tup (X := X.suite a X.pn) (okQs es _ hk).1
    · cases hk
  | .blt b es, e, hk => by
    unfold chkQ at hk
    split at hk
    · rename_i k t tp x xp pos
      obtain ⟨hk, h5⟩ := and2 hk
      obtain ⟨hk, h4⟩ := and2 hk
      obtain ⟨hk, h3⟩ := and2 hk
      obtain ⟨h1, h2⟩ := and2 hk
      cases of_decide_eq_true h1
      have pv := x_var (X := X.suite a X.pn) (N := N) (W := W) (pos := xp) (by rw [show (X.suite a X.pn).N = nm from h.hN]; exact of_decide_eq_true h3) (h.vis h4) (nd_of h5).1 (nd_of h5).2
      obtain ⟨n1, n2, n3⟩ := okName_of h h2
      exact x_bltT (X := X.suite a X.pn) (p := tp) (pos := pos) (clr_tuple (N := N) (W := WT)) n1 (h.facts.bl _ (by decide)) (by decide +kernel) n3 n2 (a_cons pv a_nil rfl) rfl
    · cases hk
  | .glb _, e, hk | .bin _ _ _, e, hk | .neg _, e, hk | .cmp _ _ _, e, hk | .chn _ _ _ _ _, e, hk | .isn _ _, e, hk | .isi _ _, e, hk | .and _ _, e, hk | .or _ _, e, hk | .not _, e, hk | .ife _ _ _, e, hk | .lst _, e, hk | .dnew _, e, hk | .ddis _, e, hk
  | .idx _ _, e, hk | .slc _ _ _, e, hk | .call _ _, e, hk | .make _ _, e, hk | .omet _ _ _, e, hk | .fld _ _, e, hk | .mth _ _ _, e, hk | .comp _ _ _ _ _, e, hk | .isb _ _ _, e, hk | .rev _, e, hk | .revt _, e, hk | .stp _ _, e, hk | .iso _ _, e, hk | .lvals _, e, hk | .lrng _, e, hk | .stk, e, hk => by unfold chkQ at hk; cases hk
theorem okQs : ∀ (n : SEs) (es : List Expr), chkQs N nm n sc es = true → PA (X.suite a X.pn) es (tAA X.K N W (evEs T cf n)) ∧ es.all noStar = true
  | .nil, es, hk => by
    unfold chkQs at hk
    cases es with
    | nil => exact ⟨a_nil (X := X.suite a X.pn), rfl⟩
    | cons => cases hk
  | .cons n ns, es, hk => by
    unfold chkQs at hk
    cases es with
    | nil => cases hk
    | cons e es =>
      have hk : (noStar e && chkQ N nm n sc e && chkQs N nm ns sc es) = true := hk
      obtain ⟨hk, h3⟩ := and2 hk
      obtain ⟨h1, h2⟩ := and2 hk
      obtain ⟨p1, p2⟩ := okQs ns es h3
      exact ⟨a_cons (X := X.suite a X.pn) (okQ n e h2) p1 (noStar_eq h1), by rw [List.all_cons, h1, p2]; rfl⟩
end
theorem okH {n : SSs} {l : List Stmt} (hk : chkH N nm n sc l = true) : PSs (X.suite a X.pn) l (tS X.K N W (evSs T cf n)) := by
  have one : ∀ {s : SS} {st : Stmt}, PS (X.suite a X.pn) st (tS X.K N W (evS T cf s)) → PSs (X.suite a X.pn) [st] (tS X.K N W (evSs T cf (.cons s .nil))) := fun {s st} p => by
    have := ss_cons p (ss_nil (X := X.suite a X.pn) (N := N) (W := W))
    exact this
  unfold chkH at hk
  split at hk
  · split at hk
    · exact one (s_ret (okQ h a _ _ hk))
    · rename_i k e y py e' pos
      obtain ⟨hk, k5⟩ := and2 hk
      obtain ⟨hk, k4⟩ := and2 hk
      obtain ⟨hk, k3⟩ := and2 hk
      obtain ⟨k1, k2⟩ := and2 hk
      have hl : (X.suite a X.pn).env.scope.names.lookup y = some .local := by
        show X.env.scope.names.lookup y = some .local
        rw [h.sc]
        exact of_decide_eq_true k2
      have pg := g_nm (X := X.suite a X.pn) (N := N) (pos := py) (i := k) (by rw [show (X.suite a X.pn).N = nm from h.hN]; exact h.nd) (by rw [show (X.suite a X.pn).N = nm from h.hN]; exact of_decide_eq_true k1) (.inl hl) (.inr hl)
      have hw : swappedStores [Expr.Name y py] e' (X.suite a X.pn).env = pure none := by
        unfold swappedStores
        cases e' <;> rfl
      exact one (s_asg (g := .nm k) (okQ h a _ _ k5) pg (notComp_sw (t := some (.Name y py)) (l := pos.line) k3) hw rfl)
    · exact one s_pass
    · exact one s_cont
    · exact one s_brk
    · cases hk
  · cases hk
end
section
variable {K : PySem.W.Frag} {N : Nm} {F : Addr → Prop} {r : List Addr} {H : Hp} {W : WX} {D : Ends}
theorem RSp.drop {i : Nat} {x : SR} (h : RSp K N W F r H D (x.drop i)) : RSp K N (fun cls d σ H => W cls d (σ.set i none) H) F r H (offD (some i) D) x := by
  have wp : ∀ {F' : Addr → Prop} {r' : List Addr} {H' : Hp} {env : Env} {σ : L2.St}, SimE N F' r' H' env σ → SimE N F' r' H' (env.set i none) (σ.set i none) := fun SE => SE.wipe (own := [i])
  cases x with
  | ok f env m =>
    cases f with
    | nx => exact fun F' r' H' σ' x S SE => h F' r' H' _ x S (wp SE)
    | rt d => exact h
    | bk => exact fun F' r' H' σ' x S SE => h F' r' H' _ x S (wp SE)
    | ct => exact fun F' r' H' σ' x S SE => h F' r' H' _ x S (wp SE)
  | exc x env m => exact fun F' r' H' σ' c d x' S SE q => h F' r' H' _ c d x' S (wp SE) q
  | bad => exact h
/-- what was caught, as data -/
theorem RelX.data {y : Xn} {cls : Value} {d : Option Addr} {a : Addr} {oe : Obj} (rx : RelX N F r y cls d H) (hz : Zc cls d oe) (hf : ∃ vs, oe.data = .fields vs) (na : H a = none) (x : Ext F r H F r (upd H a (.frz oe xM))) : RelD N F r (upd H a (.frz oe xM)) (.exn y.cls y.fs) (.ref a) := by
  refine ⟨a, oe, rfl, upd_same, by rw [hz.1]; exact rx.1, hf, ?_⟩
  rcases rx.2 with ⟨e, e2⟩ | ⟨dd, ws, e, e2, rf⟩
  · exact .inl ⟨e, by rw [hz.2]; exact e2⟩
  · exact .inr ⟨dd, ws, by rw [hz.2]; exact e, x.xds _ _ e2, rf.ext x⟩
end
section
variable {X : Cx} {N : Nm} {T : Tab} {S : Stat} {cf : CF} {j : Nat} {nm : List Str} {sc raw : Scope} {W : WX}
/-- the clauses: the readings, and that they take what the evaluator tells -/
theorem okHs (h : Here X N T S cf j nm sc raw) : ∀ (hs : SHs) (l : List ExceptHandler), chkHs S N nm hs sc l = true → ∃ ts, Clauses X l ts ∧ ∀ (D : Ends) (y : Xn) (env : Env) (m : Mem) (F : Addr → Prop) (r : List Addr) (H : Hp) (σ : L2.St) (cls : Value) (d : Option Addr),
      Sim X.K N F r m H → SimE N F r H env σ → RelX N F r y cls d H → RSp X.K N W F r H D (evHs T cf hs y env m) → wHs X.K W D ts cls d σ H
  | .nil, l, hk => by
    unfold chkHs at hk
    obtain rfl : l = [] := by simpa using hk
    exact ⟨[], .nil, fun D y env m F r H σ cls d S1 SE rx q => q F r H σ cls d (Ext.refl _ _ _) S1 SE rx⟩
  | .cons c as_ q hs, l, hk => by
    unfold chkHs at hk
    split at hk
    · rename_i x np nm' b0 suite pos' l'
      obtain ⟨hk, k6⟩ := and2 hk
      obtain ⟨hk, k5⟩ := and2 hk
      obtain ⟨hk, k4⟩ := and2 hk
      obtain ⟨hk, k3⟩ := and2 hk
      obtain ⟨k1, k2⟩ := and2 hk
      obtain ⟨ts, cl, hr⟩ := okHs h hs l' k6
      have names : Names X x (.ref (N.cl c)) := ⟨h.gl_ k2, (nd_of k3).1, .inl (h.facts.cn x c (of_decide_eq_true k1))⟩
      have miss : ∀ (D : Ends) (y : Xn) (env : Env) (m : Mem) (F : Addr → Prop) (r : List Addr) (H : Hp) (cls : Value) (d : Option Addr), RelX N F r y cls d H → ∀ (o : Option Nat), RSp X.K N W F r H D (evHs T cf (.cons c o q hs) y env m) → ∃ b, PySem.W.exmOne X.K cls (.ref (N.cl c)) = some b ∧ T.xm y.cls c = some b := fun D y env m F r H cls d rx o z => by
        unfold evHs at z
        cases em : T.xm y.cls c with
        | none => rw [em] at z; exact z.elim
        | some b =>
          obtain ⟨n1, n2, n3⟩ := h.facts.xm _ _ _ em
          rw [rx.1]
          exact ⟨b, exm_is n1 n2 n3, rfl⟩
      split at k5
      · rename_i i n _
        obtain ⟨k7, k8⟩ := and2 k5
        refine ⟨(some i, .ref (N.cl c), tS X.K N (fun cls d σ H => W cls d (σ.set i none) H) (evSs T cf q)) :: ts, .consA names (by rw [h.hN]; exact of_decide_eq_true k7) (by show X.env.scope.names.lookup n = some .local; rw [h.sc]; exact of_decide_eq_true k8) (fun a => okH h a k4) cl, fun D y env m F r H σ cls d S1 SE rx z => ?_⟩
        obtain ⟨b, e1, em⟩ := miss D y env m F r H cls d rx _ z
        refine ⟨b, e1, fun hb a oe na hz hf => ?_, fun hb => ?_⟩
        · subst hb
          unfold evHs at z
          rw [em] at z
          dsimp only at z
          split at z
          · rename_i hlt
            have hlt2 : i < σ.length := by rw [← SE.len]; exact hlt
            have x := Ext.fresh (o := HO.frz oe xM) S1 na
            exact ⟨F, r, env.set i (some (.exn y.cls y.fs)), m, S1.fresh_ na, (SE.ext x).set (rx.data hz hf na x), RSp.drop (RSp.ext z x)⟩
          · exact z.elim
        · subst hb
          unfold evHs at z
          rw [em] at z
          exact hr D y env m F r H σ cls d S1 SE rx z
      · refine ⟨(none, .ref (N.cl c), tS X.K N W (evSs T cf q)) :: ts, .cons0 names (fun a => okH h a k4) cl, fun D y env m F r H σ cls d S1 SE rx z => ?_⟩
        obtain ⟨b, e1, em⟩ := miss D y env m F r H cls d rx _ z
        refine ⟨b, e1, fun hb a oe na hz hf => ?_, fun hb => ?_⟩
        · subst hb
          unfold evHs at z
          rw [em] at z
          have x := Ext.fresh (o := HO.frz oe xM) S1 na
          exact ⟨F, r, env, m, S1.fresh_ na, SE.ext x, RSp.ext z x⟩
        · subst hb
          unfold evHs at z
          rw [em] at z
          exact hr D y env m F r H σ cls d S1 SE rx z
      · cases k5
    · cases hk
def tryG (fb : Env → Mem → SR) (fh : Xn → Env → Mem → SR) (fe : Env → Mem → SR) : Env → Mem → SR := fun env m => match fb env m with
    | .exc x env1 m1 => fh x env1 m1
    | .ok .nx env1 m1 => fe env1 m1
    | r => r
theorem s_try {body orelse : List Stmt} {h0 : ExceptHandler} {hds : List ExceptHandler} {pos : Pos} {fb fe : Env → Mem → SR} {hs : SHs} (Hx : HereS X N T S cf j nm sc raw W) (hb : ∀ (W : WX) (pn : List (Addr × Obj)) (xe : Value → Shared → Prop), Takes (X.tr pn xe) W → PassesOwn (model X.prog X.w) X.A X.env xe → PSs (X.tr pn xe) body (tS X.K N W fb))
    (ho : PSs X orelse (tS X.K N W fe)) (hk : chkHs S N nm hs sc (h0 :: hds) = true) : PS X (.Try body (h0 :: hds) orelse [] pos) (tS X.K N W (tryG fb (evHs T cf hs) fe)) := by
  obtain ⟨ts, cl, hr⟩ := okHs (W := W) (cf := cf) Hx.he hs _ hk
  have hnd : X.N.Nodup := by rw [Hx.he.hN]; exact Hx.he.nd
  refine ps_imp (ps_try_own (tb := fun W => tS X.K N W fb) ho Hx.stk Hx.frm Hx.nox hnd Hx.tk hb cl) fun D σ H ⟨F, r, env, m, S1, SE, h1⟩ => ⟨F, r, env, m, S1, SE, ?_⟩
  unfold tryG at h1
  cases e : fb env m with
  | bad => rw [e] at h1; exact h1.elim
  | ok f env1 m1 =>
    rw [e] at h1
    cases f with
    | nx => exact fun F1 r1 H1 σ1 x1 S2 SE2 => ⟨F1, r1, env1, m1, S2, SE2, RSp.ext h1 x1⟩
    | rt d => exact h1
    | bk => exact h1
    | ct => exact h1
  | exc y env1 m1 =>
    rw [e] at h1
    exact fun F1 r1 H1 σ1 cls d x1 S2 SE2 rx => hr D y env1 m1 F1 r1 H1 σ1 cls d S2 SE2 rx (RSp.ext h1 x1)
end
end Ev
/-! EvP4: a loop over a dict that is data. -/
namespace Ev
open PySem L2
section
variable {X : Cx} {N : Nm} {W : WX} {pos : Pos}
theorem ps_or {st : Stmt} {t u : TS} (h : PS X st t) (g : PS X st u) : PS X st (fun D σ H => t D σ H ∨ u D σ H) :=
  ⟨fun pins s σ H D I q => q.elim (fun q => h.run pins s σ H D I q) fun q => g.run pins s σ H D I q⟩
theorem noX_eq {r : SR} (h : ∀ y e m, r ≠ .exc y e m) : noX r = r := by
  cases r with
  | ok f e m => rfl
  | exc y e m => exact absurd rfl (h y e m)
  | bad => rfl
theorem RSp.lock {F : Addr → Prop} {r : List Addr} {H : Hp} {a : Addr} {u : HO} {od : Obj} {D : Ends} {res : SR} (h : RSp X.K N W F r H D res) (hn : ∀ y e m, res ≠ .exc y e m) (hF : F a) (ha : H a = some u) (hu : Dct u) :
    RSp X.K N W F r (upd H a (.frz od u)) ⟨fun σ' H' => H' a = some (.frz od u) ∧ D.nx σ' (upd H' a u), fun v H' => H' a = some (.frz od u) ∧ D.rt v (upd H' a u), fun σ' H' => H' a = some (.frz od u) ∧ D.bk σ' (upd H' a u), fun σ' H' => H' a = some (.frz od u) ∧ D.ct σ' (upd H' a u)⟩ res := by
  cases res with
  | ok f e m =>
    cases f with
    | nx =>
      intro F' r' H' σ' x S SE
      have h1 := x.frzs a od u upd_same
      have lk : Lk F' H' (upd H' a u) := Lk.unlock h1 hu
      exact ⟨h1, h F' r' _ σ' (Ext.unlock ha hu x h1) (S.lk lk (x.mono a hF)) (SE.lk lk)⟩
    | rt d =>
      intro F' r' H' v x S q
      have h1 := x.frzs a od u upd_same
      have lk : Lk F' H' (upd H' a u) := Lk.unlock h1 hu
      exact ⟨h1, h F' r' _ v (Ext.unlock ha hu x h1) (S.lk lk (x.mono a hF)) (q.lk lk)⟩
    | bk =>
      intro F' r' H' σ' x S SE
      have h1 := x.frzs a od u upd_same
      have lk : Lk F' H' (upd H' a u) := Lk.unlock h1 hu
      exact ⟨h1, h F' r' _ σ' (Ext.unlock ha hu x h1) (S.lk lk (x.mono a hF)) (SE.lk lk)⟩
    | ct =>
      intro F' r' H' σ' x S SE
      have h1 := x.frzs a od u upd_same
      have lk : Lk F' H' (upd H' a u) := Lk.unlock h1 hu
      exact ⟨h1, h F' r' _ σ' (Ext.unlock ha hu x h1) (S.lk lk (x.mono a hF)) (SE.lk lk)⟩
  | exc y e m => exact absurd rfl (hn y e m)
  | bad => exact h
theorem ownK_eq {m : Mem} {x : D} {j : Nat} {kvs : List (Key × D)} (h : ownK m x = some (j, kvs)) : x = .ref j ∧ m[j]? = some (.dK kvs) := by
  unfold ownK at h
  split at h
  · split at h
    · rename_i e
      cases h
      exact ⟨rfl, e⟩
    · cases h
  · cases h
theorem keys_goO {K : PySem.W.Frag} {F : Addr → Prop} {r : List Addr} {H : Hp} {kd : Kd} {kvs : List (Key × D)} {a : Addr} {o : Obj} {ws : List (Key × V)} {xs : List D} (hf : H a = some (.frz o (.dK ws))) (l : RelK N F r H kvs ws) (hk : keysD kd (.dK kvs) = some xs) : ∃ J, ItOk K N F r H (.all xs) J ∧ ∀ (i : Nat) (σ : L2.St) (R : It → Hp → Prop), σ[i]? = some (some (.ref a)) → R J H → kTI kd (tVr i) σ H R := by
  cases kd with
  | keys =>
    cases hk
    exact ⟨_, it_keys hf (relK_P.mp l), fun i σ R hs hR => ⟨_, hs, a, o, rfl, .inl ⟨ws, hf, hR⟩⟩⟩
  | keysM =>
    cases hk
    exact ⟨_, it_keys hf (relK_P.mp l), fun i σ R hs hR => ⟨_, hs, a, o, ws, rfl, hf, hR⟩⟩
  | vals =>
    cases hk
    exact ⟨_, it_vals hf (relK_P.mp l), fun i σ R hs hR => ⟨_, hs, a, o, ws, rfl, hf, hR⟩⟩
theorem Sim.unlockO {K : PySem.W.Frag} {F : Addr → Prop} {r : List Addr} {H : Hp} {m : Mem} {j : Nat} {a : Addr} {kvs : List (Key × D)} {od : Obj} {ws : List (Key × V)} (S : Sim K N F r m H) (hj : r[j]? = some a) (hm : m[j]? = some (.lk kvs)) (h1 : H a = some (.frz od (.dK ws))) : Sim K N F r (m.set j (.dK kvs)) (upd H a (.dK ws)) := by
  have lk : Lk F H (upd H a (.dK ws)) := Lk.unlock h1 (.inl ⟨ws, rfl⟩)
  obtain ⟨ws2, o2, e2, l⟩ := S.ref hm hj
  rw [h1] at e2
  cases e2
  refine ⟨S.nd, by simp [S.len], S.nf, fun b f z => ?_, fun i o e => ?_⟩
  · by_cases hb : b = a
    · rw [hb, upd_same] at z; cases z
    · rw [upd_ne hb] at z; exact S.fh b f z
  · by_cases hi : i = j
    · subst hi
      rw [List.getElem?_set_self (List.getElem?_eq_some_iff.mp hm).1] at e
      cases e
      exact ⟨a, hj, ws, upd_same, l.lk lk⟩
    · rw [List.getElem?_set_ne (Ne.symm hi)] at e
      obtain ⟨b, hb, ro⟩ := S.ob i o e
      refine ⟨b, hb, ro.lk lk (upd_ne fun z => hi ?_)⟩
      subst z
      obtain ⟨l1, q1⟩ := List.getElem?_eq_some_iff.mp hj
      obtain ⟨l2, q2⟩ := List.getElem?_eq_some_iff.mp hb
      exact (List.getElem_inj S.nd).mp (q2.trans q1.symm)
theorem RSp.lockO {F : Addr → Prop} {r : List Addr} {H : Hp} {j : Nat} {a : Addr} {ws : List (Key × V)} {od : Obj} {D : Ends} {res : SR} (h : RSp X.K N W F r H D (unlk j res)) (ha : r[j]? = some a) (eH : H a = some (.dK ws)) :
    RSp X.K N W F r (upd H a (.frz od (.dK ws))) ⟨fun σ' H' => H' a = some (.frz od (.dK ws)) ∧ D.nx σ' (upd H' a (.dK ws)), fun v H' => H' a = some (.frz od (.dK ws)) ∧ D.rt v (upd H' a (.dK ws)), fun σ' H' => H' a = some (.frz od (.dK ws)) ∧ D.bk σ' (upd H' a (.dK ws)), fun σ' H' => H' a = some (.frz od (.dK ws)) ∧ D.ct σ' (upd H' a (.dK ws))⟩ res := by
  have hu : Dct (.dK ws) := .inl ⟨ws, rfl⟩
  cases res with
  | ok f e m =>
    unfold unlk at h
    dsimp only at h
    split at h
    · rename_i kvs hm
      cases f with
      | nx =>
        intro F' r' H' σ' x S SE
        have h1 := x.frzs a od _ upd_same
        have lk : Lk F' H' (upd H' a (.dK ws)) := Lk.unlock h1 hu
        exact ⟨h1, h F' r' _ σ' (Ext.unlock eH hu x h1) (S.unlockO (x.get ha) hm h1) (SE.lk lk)⟩
      | rt d =>
        intro F' r' H' v x S q
        have h1 := x.frzs a od _ upd_same
        have lk : Lk F' H' (upd H' a (.dK ws)) := Lk.unlock h1 hu
        exact ⟨h1, h F' r' _ v (Ext.unlock eH hu x h1) (S.unlockO (x.get ha) hm h1) (q.lk lk)⟩
      | bk =>
        intro F' r' H' σ' x S SE
        have h1 := x.frzs a od _ upd_same
        have lk : Lk F' H' (upd H' a (.dK ws)) := Lk.unlock h1 hu
        exact ⟨h1, h F' r' _ σ' (Ext.unlock eH hu x h1) (S.unlockO (x.get ha) hm h1) (SE.lk lk)⟩
      | ct =>
        intro F' r' H' σ' x S SE
        have h1 := x.frzs a od _ upd_same
        have lk : Lk F' H' (upd H' a (.dK ws)) := Lk.unlock h1 hu
        exact ⟨h1, h F' r' _ σ' (Ext.unlock eH hu x h1) (S.unlockO (x.get ha) hm h1) (SE.lk lk)⟩
    · exact h.elim
  | exc y e m => exact h.elim
  | bad => exact h.elim
theorem s_forK {kd : Kd} {i : Nat} {tg iter : Expr} {body : List Stmt} {g : Tg} {fb : Env → Mem → SR} (hp : PassesOwn (model X.prog X.w) X.A X.env X.xe) (hc : X.calm = true) (hi : PI X tg iter (kTI kd (tVr i))) (hg : PG X tg (tG X.K N g)) (hb : PSs X body (tS X.K N W fb)) (hs : notSet iter = true) :
    PS X (.For tg iter body [] pos) (tS X.K N W fun env m => match env[i]? with
      | some (some x) => (match keysD kd x with
        | some xs => noX (forL (bodyG g fb) xs env m)
        | none => (match ownK m x with
          | some (j, kvs) => (match keysD kd (.dK kvs) with
            | some xs => unlk j (forL (bodyG g fb) xs env (m.set j (.lk kvs)))
            | none => .bad)
          | none => .bad))
      | _ => .bad) := by
  have p0 := ps_for (pos := pos) hp hc hi hg hb (notSet_eq hs)
  refine ps_imp (ps_or p0 (ps_lock p0)) fun D σ H ⟨F, r, env, m, S, SE, h⟩ => ?_
  dsimp only at h
  split at h
  · rename_i x ex
    split at h
    · rename_i xs hk
      have hn : ∀ y e' m', forL (bodyG g fb) xs env m ≠ .exc y e' m' := fun y e' m' z => by
        rw [z] at h; exact h
      rw [noX_eq hn] at h
      obtain ⟨v, e1, q⟩ := SE.at_ i x ex
      obtain ⟨a, u, rfl, f, hu, s⟩ := keys_at q hk
      rcases s with s | ⟨o, s⟩
      · refine .inr ⟨a, u, s, hu.mut, fun od => ?_⟩
        have lk : Lk F H (upd H a (.frz od u)) := Lk.lock s hu
        obtain ⟨J, ok', go⟩ := keys_go (K := X.K) (q.lk lk) hu upd_same hk
        exact go i σ _ e1 (for_in (S.lk lk f) (SE.lk lk) ok' (RSp.lock h hn f s hu))
      · obtain ⟨J, ok', go⟩ := keys_go (K := X.K) q hu s hk
        exact .inl (go i σ _ e1 (for_in S SE ok' h))
    · split at h
      · rename_i j kvs ho
        split at h
        · rename_i xs hk
          obtain ⟨rfl, hm⟩ := ownK_eq ho
          obtain ⟨v, e1, a, ha, rfl⟩ := SE.at_ i _ ex
          obtain ⟨ws, eH, l⟩ := S.ref hm ha
          refine .inr ⟨a, .dK ws, eH, trivial, fun od => ?_⟩
          have x0 : Ext F r H F r (upd H a (.frz od (.dK ws))) := Ext.set S (List.mem_of_getElem? ha) eH
          have S1 : Sim X.K N F r (m.set j (.lk kvs)) (upd H a (.frz od (.dK ws))) := S.set ha eH ⟨ws, od, upd_same, l.ext x0⟩
          obtain ⟨J, ok', go⟩ := keys_goO (K := X.K) (F := F) (r := r) (N := N) (H := upd H a (.frz od (.dK ws))) (a := a) (o := od) upd_same (l.ext x0) hk
          exact go i σ _ e1 (for_in S1 (SE.ext x0) ok' (RSp.lockO h ha eH))
        · exact h.elim
      · exact h.elim
  · exact h.elim
end
end Ev
/-! EvQ: the check of statements; every statement that passes keeps the reading. -/
namespace Ev
open PySem L2

def notPar : Expr → Expr → Bool
  | .Tuple _ _ _, .Tuple _ _ _ => false
  | .List _ _, .Tuple _ _ _ => false
  | _, _ => true
theorem notPar_sw {tg e : Expr} {env : PySem.Env} (h : notPar tg e = true) : swappedStores [tg] e env = pure none := by
  unfold swappedStores
  cases tg <;> cases e <;> first | rfl | cases h
/-- a comprehension may be stored at once -/
def swB (sc : Scope) (e tg : Expr) : Bool := match e, tg with
  | .ListComp _ _ scope pos, .Name y py => decide (sc.names.lookup y = some .local) && (py.line == pos.line) && !(scope.names.any fun (n, k) => n == y && (k == .local || k == .cell))
  | _, _ => false
def notK : SE → Bool
  | .compK _ _ _ _ _ _ => false
  | _ => true
/-- .. may not, its name a cell -/
def swC (sc : Scope) (e tg : Expr) : Bool := match e, tg with
  | .ListComp _ _ _ _, .Name y _ => decide (sc.names.lookup y = some .cell)
  | .ListComp _ _ _ _, .Tuple _ _ _ => true
  | _, _ => false
theorem swC_eq {e tg : Expr} {l : Nat} {env : PySem.Env} (h : swC env.scope e tg = true) : swapsWithSole [tg] e l env = pure false := by
  unfold swC at h
  split at h
  · rename_i a b scope pos y py
    have h := of_decide_eq_true h
    show swapsWith (.ListComp a b scope pos) (some (.Name y py)) l env = pure false
    have ky : env.kindOf y = some .cell := h
    unfold swapsWith
    simp only [ky]
    have : (env.blockKind == .function && (some NameKind.cell == some NameKind.local) && py.line == (Expr.ListComp a b scope pos).pos.line && !(scope.names.any fun (n, k) => n == y && (k == .local || k == .cell))) = false := by
      have h2 : (some NameKind.cell == some NameKind.local) = false := by decide
      rw [h2]; simp
    show (pure _ : Sem Bool) = pure false
    rw [this]
  · rfl
  · cases h
theorem swap_eq {env : PySem.Env} {x y : Str} {px py pt pt2 : Pos} {kt k2 : Nat} {a b : Expr} (hk : env.scope.kind = .function) (hx : env.scope.names.lookup x = some .local) (hy : env.scope.names.lookup y = some .local) (hl : (py.line == px.line) = true) (hxy : x ≠ y)
    (sa : noStar a = true) (sb : noStar b = true) (hf : ([a, b]).all (foldedForSure 8) = false) (hc : ([a, b]).all (constantsAlone 8) = false) :
    swappedStores [.Tuple [.Name x px, .Name y py] kt pt] (.Tuple [a, b] k2 pt2) env = pure (some [x, y]) := by
  have kx : env.kindOf x = some .local := hx
  have ky : env.kindOf y = some .local := hy
  have hb : env.blockKind = .function := by unfold Env.blockKind; rw [hk]; rfl
  have hs : ([a, b]).any (fun | .Starred .. => true | _ => false) = false := by
    cases a <;> first | (cases sa; done) | (cases b <;> first | rfl | cases sb)
  have hyl : py.line = px.line := by simpa using hl
  have hxy' : (y == x) = false := by simpa using fun e => hxy e.symm
  unfold swappedStores
  simp only [hs, hb, kx, ky, hf, hc, List.length_cons, List.length_nil, List.filterMap_cons, List.filterMap_nil, List.head?_cons, Option.map_some, Option.getD_some]
  simp [Expr.pos, hyl, List.eraseDups_cons, hxy', hxy]
  intro h
  rcases h with h | h
  · cases a <;> first | (cases sa; done) | (cases h; done)
  · cases b <;> first | (cases sb; done) | (cases h; done)
def isNil : SSs → Bool
  | .nil => true
  | _ => false
theorem HereS.tr {X : Cx} {N : Nm} {T : Tab} {S : Stat} {cf : CF} {j : Nat} {nm : List Str} {sc raw : Scope} {W W' : WX} (h : HereS X N T S cf j nm sc raw W) {pn : List (Addr × Obj)} {xe : Value → Shared → Prop} (tk : Takes (X.tr pn xe) W') (po : PassesOwn (model X.prog X.w) X.A X.env xe) :
    HereS (X.tr pn xe) N T S cf j nm sc raw W' := ⟨⟨h.he.hN, h.he.nd, h.he.sc, h.he.fnc, h.he.calm, h.he.room, h.he.facts, h.he.fns, h.he.xi⟩, tk, po, h.kind, h.stk, h.frm, h.nox⟩
section
variable (S : Stat) (T : Tab) (N : Nm) (nm : List Str)
mutual
def chkS : SS → Scope → Scope → Stmt → Bool
  | .stk, _, _, _ => true
  | .asg g e, sc, raw, st => match st with
    | .Assign [tg] e' _ => noStar tg && chkG nm g sc raw tg && chkE S T N nm e sc e' && ((notPar tg e' && (notComp e' || swC sc e' tg)) || (swB sc e' tg && notK e))
    | _ => false
  | .par i j a b, sc, raw, st => match st with
    | .Assign [.Tuple [.Name x px, .Name y py] _ _] (.Tuple [a', b'] _ _) _ => decide (nm[i]? = some x) && decide (nm[j]? = some y) && decide (i ≠ j) && decide (sc.names.lookup x = some .local) && decide (sc.names.lookup y = some .local) &&
        (py.line == px.line) && decide (x ≠ y) && noStar a' && noStar b' && !([a', b']).all (foldedForSure 8) && !([a', b']).all (constantsAlone 8) && chkE S T N nm a sc a' && chkE S T N nm b sc b'
    | _ => false
  | .asgI o i e, sc, raw, st => match st with
    | .Assign [.Subscript o' i' _] e' _ => notSl i' && chkE S T N nm e sc e' && chkE S T N nm o sc o' && chkE S T N nm i sc i'
    | _ => false
  | .asgF o f e, sc, raw, st => match st with
    | .Assign [.Attribute o' x _] e' _ => notComp e' && decide (x = N.fn f) && decide (f < S.nf) && chkE S T N nm e sc e' && chkE S T N nm o sc o'
    | _ => false
  | .expr e, sc, raw, st => match st with
    | .Expr e' _ => notComp e' && chkE S T N nm e sc e'
    | _ => false
  | .ret e, sc, raw, st => match st with
    | .Return (some e') _ => chkE S T N nm e sc e'
    | _ => false
  | .retN, _, _, st => match st with
    | .Return none _ => true
    | _ => false
  | .ite c a b, sc, raw, st => match st with
    | .If c' a' b' _ => chkE S T N nm c sc c' && chkSs a sc raw a' && chkSs b sc raw b'
    | _ => false
  | .for_ g it b, sc, raw, st => match st with
    | .For tg iter body [] _ => notSet iter && chkI S T N nm it sc tg iter && chkG nm g sc raw tg && chkSs b sc raw body
    | _ => false
  | .forK kd g i b, sc, raw, st => match st with
    | .For tg iter body [] _ => notSet iter && chkK nm kd i sc iter && chkG nm g sc raw tg && chkSs b sc raw body
    | _ => false
  | .whl c b, sc, raw, st => match st with
    | .While c' body [] _ => chkE S T N nm c sc c' && chkSs b sc raw body
    | _ => false
  | .raise c es, sc, raw, st => match st with
    | .Raise (some (.Call (.Name x _) es' [] _)) none _ => decide (S.cn.lookup x = some c) && okName sc x && (match T.xfs c with
      | some fs => decide (fs.length = es'.length)
      | none => false) && decide (es'.length ≤ 900) && chkEs S T N nm es sc es'
    | _ => false
  | .try_ b hs el, sc, raw, st => match st with
    | .Try body (h0 :: hds) orelse [] _ => chkSs b sc raw body && chkHs S N nm hs sc (h0 :: hds) && chkSs el sc raw orelse
    | _ => false
  | .pass, _, _, st => match st with
    | .Pass _ => true
    | _ => false
  | .brk, _, _, st => match st with
    | .Break _ => true
    | _ => false
  | .cont, _, _, st => match st with
    | .Continue _ => true
    | _ => false
def chkSs : SSs → Scope → Scope → List Stmt → Bool
  | .nil, _, _, l => l.isEmpty
  | .cons s ss, sc, raw, l => match l with
    | st :: rest => chkS s sc raw st && chkSs ss sc raw rest
    | [] => false
end
end
section
variable {N : Nm} {T : Tab} {S : Stat} {cf : CF} {j : Nat} {nm : List Str} {X : Cx} {W : WX} {sc raw : Scope}
/-- the parts of a comprehension that passes -/
theorem comp_parts {el : SE} {g : Tg} {it : IT} {c : SO} {own : List Nat} {el' tg iter : Expr} {ifs : List Expr} {scope : Scope} {pos : Pos} (h : Here X N T S cf j nm sc raw) (tk : Takes X W) (hk : chkE S T N nm (.comp el g it c own) sc (.ListComp el' [⟨tg, iter, ifs, 0⟩] scope pos) = true) :
    ∃ own' : List (Str × Nat), PI X tg iter (tII X.K N W (evI T cf it)) ∧ BlkOk X.N X.env.scope scope own' ∧
    (∀ (s : Shared) (H : Hp) (C : Addr) (cl : List (Str × Addr)) (fp : List Addr), PG (X.blk s H scope (compEnvC scope cl C X.env) fp) tg (tG X.K N g)) ∧ (∀ (s : Shared) (H : Hp) (C : Addr) (cl : List (Str × Addr)) (fp : List Addr), PTs (X.blk s H scope (compEnvC scope cl C X.env) fp) ifs (tTT X.K N WF (evC T cf c))) ∧
    (∀ (s : Shared) (H : Hp) (C : Addr) (cl : List (Str × Addr)) (fp : List Addr), PE (X.blk s H scope (compEnvC scope cl C X.env) fp) el' (tD X.K N WF (evE T cf el))) ∧ (∀ x, foldedSetIterable iter X.env x = pure x) ∧
    ∀ σ H Q, tD X.K N W (evE T cf (.comp el g it c own)) σ H Q → tLc (tII X.K N W (evI T cf it)) (tG X.K N g) (tTT X.K N WF (evC T cf c)) (tD X.K N WF (evE T cf el)) (own'.map (·.2)) σ H Q := by
  unfold chkE at hk
  obtain ⟨hk, h8⟩ := and2 hk
  obtain ⟨hk, h7⟩ := and2 hk
  obtain ⟨hk, h6⟩ := and2 hk
  obtain ⟨hk, h5⟩ := and2 hk
  obtain ⟨hk, h4⟩ := and2 hk
  obtain ⟨hk, h3⟩ := and2 hk
  obtain ⟨h1, h2⟩ := and2 hk
  have h3 := of_decide_eq_true h3
  have hc : ∀ (s : Shared) (H : Hp) (C : Addr) (cl : List (Str × Addr)) (fp : List Addr), PTs (X.blk s H scope (compEnvC scope cl C X.env) fp) ifs (tTT X.K N WF (evC T cf c)) := fun s H C cl fp => by
    have hb := h.blk s H scope C cl fp
    match ifs, h8 with
    | [], h8 => exact okC c none hb takesF h8
    | [c'], h8 => exact okC c (some c') hb takesF h8
    | _ :: _ :: _, h8 => cases h8
  refine ⟨_, okI it tg iter h tk h2, blkOk_by (by rw [h.hN, h.sc]; exact h4), fun s H C cl fp => chkG_ok (h.blk s H scope C cl fp) g tg h6, hc, fun s H C cl fp => (okE el el' (h.blk s H scope C cl fp) takesF h7).pe, notSet_eq h1, ?_⟩
  rw [h3]
  have ee : evE T cf (.comp el g it c own) = fun env m => (evI T cf it env m).bind fun its m1 => compG g own (evC T cf c) (evE T cf el) env its m1 := by
    funext env m
    show (evI T cf it env m).bind _ = (evI T cf it env m).bind _
    congr 1
    funext its m1
    cases its <;> rfl
  rw [ee]
  intro σ H Q
  refine lc_read (fun i hi => ?_) σ H Q
  have := List.all_eq_true.mp h5 i hi
  simpa using this
theorem asg_of {g : Tg} {e : SE} {tg e' : Expr} {pos : Pos} (h : HereS X N T S cf j nm sc raw W) (h1 : noStar tg = true) (h2 : chkG nm g sc raw tg = true) (h3 : chkE S T N nm e sc e' = true) (h4 : ((notPar tg e' && (notComp e' || swC sc e' tg)) || (swB sc e' tg && notK e)) = true) :
    PS X (.Assign [tg] e' pos) (tS X.K N W (evS T cf (.asg g e))) := by
  rw [Bool.or_eq_true] at h4
  rcases h4 with h4 | h4
  · obtain ⟨h5, h6⟩ := and2 h4
    refine s_asg (okE e e' h.he h.tk h3).pe (chkG_ok h.he g tg h2) ?_ (notPar_sw h5) h1
    rw [Bool.or_eq_true] at h6
    rcases h6 with h6 | h6
    · exact notComp_sw (t := some tg) (l := pos.line) (env := X.env) h6
    · exact swC_eq (by rw [h.he.sc]; exact h6)
  · obtain ⟨h4', hK⟩ := and2 h4
    clear h4
    have h4 := h4'
    clear h4'
    unfold swB at h4
    split at h4
    · rename_i el' gs scope p y py
      obtain ⟨h5, h6⟩ := and2 h4
      obtain ⟨h7, h8⟩ := and2 h5
      have h7 := of_decide_eq_true h7
      have h6 : (scope.names.any fun (n, k) => n == y && (k == .local || k == .cell)) = false := by simpa using h6
      have hnd : X.N.Nodup := by rw [h.he.hN]; exact h.he.nd
      cases g with
      | tup ts => unfold chkG at h2; cases h2
      | nm i =>
        unfold chkG at h2
        have hi : X.N[i]? = some y := by rw [h.he.hN]; exact of_decide_eq_true (and2 h2).1
        have hyl : X.env.scope.names.lookup y = some .local := by rw [h.he.sc]; exact h7
        have hsw : swapsWith (.ListComp el' gs scope p) (some (.Name y py)) pos.line X.env = pure true := sw_true (by rw [h.he.sc]; exact h.kind) hyl h8 h6
        cases e with
        | comp el g' it c own =>
          match gs, h3, hsw with
          | [⟨tg', iter, ifs, k⟩], h3, hsw =>
            have hk0 : k = 0 := by
              unfold chkE at h3
              split at h3
              · rename_i he
                cases he
                rfl
              · cases h3
            subst hk0
            obtain ⟨own', q1, q2, q3, q4, q5, q6, q7⟩ := comp_parts h.he h.tk h3
            exact s_lc h.he.calm hnd hi hyl hsw q1 q2 q3 q4 q5 q6 q7
          | [], h3, hsw => unfold chkE at h3; cases h3
          | _ :: _ :: _, h3, hsw => unfold chkE at h3; simp at h3
        | stk => exact ⟨fun _ _ _ _ _ _ ⟨_, _, _, _, _, _, z⟩ => z.elim⟩
        | compK kd el g' i' c own => cases hK
        | _ => unfold chkE at h3; cases h3
    · cases h4
mutual
theorem okS : ∀ (n : SS) {X : Cx} {W : WX} (st : Stmt), HereS X N T S cf j nm sc raw W → chkS S T N nm n sc raw st = true → PS X st (tS X.K N W (evS T cf n))
  | .stk, X, W, st, h, hk => s_stk
  | .asg g e, X, W, st, h, hk => by
    unfold chkS at hk
    split at hk
    · obtain ⟨hk, h4⟩ := and2 hk
      obtain ⟨hk, h3⟩ := and2 hk
      obtain ⟨h1, h2⟩ := and2 hk
      exact asg_of h h1 h2 h3 h4
    · cases hk
  | .par i k a b, X, W, st, h, hk => by
    unfold chkS at hk
    split at hk
    · rename_i x px y py _ _ _ _ _ _ _
      obtain ⟨hk, a13⟩ := and2 hk
      obtain ⟨hk, a12⟩ := and2 hk
      obtain ⟨hk, a11⟩ := and2 hk
      obtain ⟨hk, a10⟩ := and2 hk
      obtain ⟨hk, a9⟩ := and2 hk
      obtain ⟨hk, a8⟩ := and2 hk
      obtain ⟨hk, a7⟩ := and2 hk
      obtain ⟨hk, a6⟩ := and2 hk
      obtain ⟨hk, a5⟩ := and2 hk
      obtain ⟨hk, a4⟩ := and2 hk
      obtain ⟨hk, a3⟩ := and2 hk
      obtain ⟨a1, a2⟩ := and2 hk
      have hnd : X.N.Nodup := by rw [h.he.hN]; exact h.he.nd
      have hx : X.env.scope.names.lookup x = some .local := by rw [h.he.sc]; exact of_decide_eq_true a4
      have hy : X.env.scope.names.lookup y = some .local := by rw [h.he.sc]; exact of_decide_eq_true a5
      exact s_par h.he.calm hnd (by rw [h.he.hN]; exact of_decide_eq_true a1) (by rw [h.he.hN]; exact of_decide_eq_true a2) (of_decide_eq_true a3) hx hy (okE a _ h.he h.tk a12).pe (okE b _ h.he h.tk a13).pe a8 a9
        (swap_eq (by rw [h.he.sc]; exact h.kind) hx hy a6 (of_decide_eq_true a7) a8 a9 ((Bool.not_eq_true' _).mp a10) ((Bool.not_eq_true' _).mp a11))
    · cases hk
  | .asgI o i e, X, W, st, h, hk => by
    unfold chkS at hk
    split at hk
    · obtain ⟨hk, h5⟩ := and2 hk
      obtain ⟨hk, h4⟩ := and2 hk
      obtain ⟨h2, h3⟩ := and2 hk
      exact s_asgI (by have := h.he.hu; omega) (okE e _ h.he h.tk h3).pe (okE o _ h.he h.tk h4).pe (okE i _ h.he h.tk h5).pe h2
    · cases hk
  | .asgF o f e, X, W, st, h, hk => by
    unfold chkS at hk
    split at hk
    · obtain ⟨hk, h5⟩ := and2 hk
      obtain ⟨hk, h4⟩ := and2 hk
      obtain ⟨hk, h3⟩ := and2 hk
      obtain ⟨h1, h2⟩ := and2 hk
      cases of_decide_eq_true h2
      exact s_asgF (T := T) h.he.facts.cls (fun c hc => h.he.facts.nat c f hc (of_decide_eq_true h3)) (okE e _ h.he h.tk h4).pe (okE o _ h.he h.tk h5).pe h1
    · cases hk
  | .expr e, X, W, st, h, hk => by
    unfold chkS at hk
    split at hk
    · obtain ⟨h1, h2⟩ := and2 hk
      exact s_expr (okE e _ h.he h.tk h2).pe h1
    · cases hk
  | .ret e, X, W, st, h, hk => by
    unfold chkS at hk
    split at hk
    · exact s_ret (okE e _ h.he h.tk hk).pe
    · cases hk
  | .retN, X, W, st, h, hk => by
    unfold chkS at hk
    split at hk
    · exact s_retN
    · cases hk
  | .ite c a b, X, W, st, h, hk => by
    unfold chkS at hk
    split at hk
    · obtain ⟨hk, h3⟩ := and2 hk
      obtain ⟨h1, h2⟩ := and2 hk
      exact s_ite (okE c _ h.he h.tk h1).pt (okSs a _ h h2) (okSs b _ h h3)
    · cases hk
  | .for_ g it b, X, W, st, h, hk => by
    unfold chkS at hk
    split at hk
    · obtain ⟨hk, h4⟩ := and2 hk
      obtain ⟨hk, h3⟩ := and2 hk
      obtain ⟨h1, h2⟩ := and2 hk
      have ee : evS T cf (.for_ g it b) = fun env m => (evI T cf it env m).st env fun its m1 => forR (bodyG g (evSs T cf b)) its 0 env m1 := by
        funext env m
        show (evI T cf it env m).st env _ = (evI T cf it env m).st env _
        congr 1
        funext its m1
        cases its <;> rfl
      rw [ee]
      exact s_for h.own h.he.calm (okI it _ _ h.he h.tk h2) (chkG_ok h.he g _ h3) (okSs b _ h h4) h1
    · cases hk
  | .forK kd g i b, X, W, st, h, hk => by
    unfold chkS at hk
    split at hk
    · obtain ⟨hk, h4⟩ := and2 hk
      obtain ⟨hk, h3⟩ := and2 hk
      obtain ⟨h1, h2⟩ := and2 hk
      have ee : evS T cf (.forK kd g i b) = fun env m => match env[i]? with
        | some (some x) => (match keysD kd x with
          | some xs => noX (forL (bodyG g (evSs T cf b)) xs env m)
          | none => (match ownK m x with
            | some (j, kvs) => (match keysD kd (.dK kvs) with
              | some xs => unlk j (forL (bodyG g (evSs T cf b)) xs env (m.set j (.lk kvs)))
              | none => .bad)
            | none => .bad))
        | _ => .bad := rfl
      rw [ee]
      exact s_forK h.own h.he.calm (chkK_ok h.he kd i _ _ h2) (chkG_ok h.he g _ h3) (okSs b _ h h4) h1
    · cases hk
  | .whl c b, X, W, st, h, hk => by
    unfold chkS at hk
    split at hk
    · obtain ⟨h1, h2⟩ := and2 hk
      exact s_whl h.own (okE c _ h.he h.tk h1).pt (okSs b _ h h2)
    · cases hk
  | .raise c es, X, W, st, h, hk => by
    unfold chkS at hk
    split at hk
    · rename_i x p es' pos pos2
      obtain ⟨hk, h5⟩ := and2 hk
      obtain ⟨hk, h4⟩ := and2 hk
      obtain ⟨hk, h3⟩ := and2 hk
      obtain ⟨h1, h2⟩ := and2 hk
      obtain ⟨n1, n2, n3⟩ := okName_of h.he h2
      obtain ⟨a1, a2, a3⟩ := okEs es es' h.he h.tk h5
      split at h3
      · rename_i fs hf
        exact s_raise h.he.facts h.he.xi h.he.calm h.he.room h.tk (of_decide_eq_true h1) hf n1 n2 a1 a2 a3 (of_decide_eq_true h3) (of_decide_eq_true h4)
      · cases h3
    · cases hk
  | .try_ b q el, X, W, st, h, hk => by
    unfold chkS at hk
    split at hk
    · rename_i body h0 hds orelse pos
      obtain ⟨hk, h3⟩ := and2 hk
      obtain ⟨h1, h2⟩ := and2 hk
      have ee : evS T cf (.try_ b q el) = tryG (evSs T cf b) (evHs T cf q) (evSs T cf el) := by
        funext env m
        show _ = (match evSs T cf b env m with
          | .exc x env1 m1 => evHs T cf q x env1 m1
          | .ok .nx env1 m1 => evSs T cf el env1 m1
          | r => r)
        rfl
      rw [ee]
      exact s_try h (fun W' pn xe tk po => okSs b body (h.tr tk po) h1) (okSs el orelse h h3) h2
    · cases hk
  | .pass, X, W, st, h, hk => by
    unfold chkS at hk
    split at hk
    · exact s_pass
    · cases hk
  | .brk, X, W, st, h, hk => by
    unfold chkS at hk
    split at hk
    · exact s_brk
    · cases hk
  | .cont, X, W, st, h, hk => by
    unfold chkS at hk
    split at hk
    · exact s_cont
    · cases hk
theorem okSs : ∀ (n : SSs) {X : Cx} {W : WX} (l : List Stmt), HereS X N T S cf j nm sc raw W → chkSs S T N nm n sc raw l = true → PSs X l (tS X.K N W (evSs T cf n))
  | .nil, X, W, l, h, hk => by
    unfold chkSs at hk
    cases l with
    | nil => exact ss_nil
    | cons => cases hk
  | .cons s ss, X, W, l, h, hk => by
    unfold chkSs at hk
    cases l with
    | nil => cases hk
    | cons st rest =>
      obtain ⟨h1, h2⟩ := and2 (show (chkS S T N nm s sc raw st && chkSs S T N nm ss sc raw rest) = true from hk)
      exact ss_cons (okS s st h h1) (okSs ss rest h h2)
end
end
end Ev
/-! EvR: defs: their bodies keep the promise that the evaluator tells. -/
namespace Ev
open PySem L2

/-! ### data without objects of ours -/
section
variable {K : PySem.W.Frag} {N : Nm} {F F1 : Addr → Prop} {r r1 : List Addr} {H H1 : Hp} {m : Mem}
mutual
theorem pure_rel (hF : ∀ a, F a → F1 a) : ∀ {d : D} {v : V}, d.pure = true → RelD N F r H d v → RelD N F1 r1 H d v
  | .non, _, _, h => h
  | .bl _, _, _, h => h
  | .int _, _, _, h => h
  | .str _, _, _, h => h
  | .tup xs, _, p, h => by
    obtain ⟨a, vs, e, s, l⟩ := h
    exact ⟨a, vs, e, s, pure_relL hF (show pureL xs = true from p) l⟩
  | .lst xs, _, p, h => by
    obtain ⟨a, vs, e, f, s, l⟩ := h
    exact ⟨a, vs, e, hF _ f, s, pure_relL hF (show pureL xs = true from p) l⟩
  | .dK xs, _, p, h => by
    obtain ⟨a, vs, e, f, s, l⟩ := h
    exact ⟨a, vs, e, hF _ f, s, pure_relK hF (show pureK xs = true from p) l⟩
  | .dT xs, _, p, h => by
    obtain ⟨a, vs, e, f, s, l⟩ := h
    exact ⟨a, vs, e, hF _ f, s, pure_relT hF (show pureT xs = true from p) l⟩
  | .ref _, _, p, _ => by cases p
  | .exn _ _, _, p, _ => by cases p
theorem pure_relL (hF : ∀ a, F a → F1 a) : ∀ {d : List D} {v : List V}, pureL d = true → RelL N F r H d v → RelL N F1 r1 H d v
  | [], _, _, h => h
  | d :: ds, _, p, h => by
    obtain ⟨p1, p2⟩ := and2 (show (d.pure && pureL ds) = true from p)
    obtain ⟨v, ws, e, a, b⟩ := h
    exact ⟨v, ws, e, pure_rel hF p1 a, pure_relL hF p2 b⟩
theorem pure_relK (hF : ∀ a, F a → F1 a) : ∀ {d : List (Key × D)} {v : List (Key × V)}, pureK d = true → RelK N F r H d v → RelK N F1 r1 H d v
  | [], _, _, h => h
  | (k, d) :: ds, _, p, h => by
    obtain ⟨p1, p2⟩ := and2 (show (d.pure && pureK ds) = true from p)
    obtain ⟨v, ws, e, a, b⟩ := h
    exact ⟨v, ws, e, pure_rel hF p1 a, pure_relK hF p2 b⟩
theorem pure_relT (hF : ∀ a, F a → F1 a) : ∀ {d : List (List Key × D)} {v : List (List Key × V)}, pureT d = true → RelT N F r H d v → RelT N F1 r1 H d v
  | [], _, _, h => h
  | (k, d) :: ds, _, p, h => by
    obtain ⟨p1, p2⟩ := and2 (show (d.pure && pureT ds) = true from p)
    obtain ⟨v, ws, e, a, b⟩ := h
    exact ⟨v, ws, e, pure_rel hF p1 a, pure_relT hF p2 b⟩
end
mutual
theorem bare_rel : ∀ {d : D} {v : V}, d.bare = true → RelD N F r H d v → RelD N F1 r1 H d v
  | .non, _, _, h => h
  | .bl _, _, _, h => h
  | .int _, _, _, h => h
  | .str _, _, _, h => h
  | .tup xs, _, p, h => by
    obtain ⟨a, vs, e, s, l⟩ := h
    exact ⟨a, vs, e, s, bare_relL (show bareL xs = true from p) l⟩
  | .lst _, _, p, _ => by cases p
  | .dK _, _, p, _ => by cases p
  | .dT _, _, p, _ => by cases p
  | .ref _, _, p, _ => by cases p
  | .exn _ _, _, p, _ => by cases p
theorem bare_relL : ∀ {d : List D} {v : List V}, bareL d = true → RelL N F r H d v → RelL N F1 r1 H d v
  | [], _, _, h => h
  | d :: ds, _, p, h => by
    obtain ⟨p1, p2⟩ := and2 (show (d.bare && bareL ds) = true from p)
    obtain ⟨v, ws, e, a, b⟩ := h
    exact ⟨v, ws, e, bare_rel p1 a, bare_relL p2 b⟩
end
mutual
/-- data without lists stays so where the places of its dicts stay -/
theorem apart_rel {F3 : Addr → Prop} {r2 : List Addr} (hF : ∀ a, F a → (∃ w, Rd H a (.dK w)) ∨ (∃ w, Rd H a (.dT w)) → F3 a) : ∀ {d : D} {v : V}, d.pure = true → d.hasL = false → RelD N F r1 H d v → RelD N F3 r2 H d v
  | .non, _, _, _, h => h
  | .bl _, _, _, _, h => h
  | .int _, _, _, _, h => h
  | .str _, _, _, _, h => h
  | .tup xs, _, p, q, h => by
    obtain ⟨a, vs, e, s, l⟩ := h
    exact ⟨a, vs, e, s, apart_relL hF (show pureL xs = true from p) (show hasLL xs = false from q) l⟩
  | .lst xs, _, _, q, _ => by cases q
  | .dK kvs, _, p, q, h => by
    obtain ⟨a, ws, e, f, s, l⟩ := h
    exact ⟨a, ws, e, hF a f (.inl ⟨ws, s⟩), s, apart_relK hF (show pureK kvs = true from p) (show hasLK kvs = false from q) l⟩
  | .dT kvs, _, p, q, h => by
    obtain ⟨a, ws, e, f, s, l⟩ := h
    exact ⟨a, ws, e, hF a f (.inr ⟨ws, s⟩), s, apart_relT hF (show pureT kvs = true from p) (show hasLT kvs = false from q) l⟩
  | .ref _, _, p, _, _ => by cases p
  | .exn _ _, _, p, _, _ => by cases p
theorem apart_relL {F3 : Addr → Prop} {r2 : List Addr} (hF : ∀ a, F a → (∃ w, Rd H a (.dK w)) ∨ (∃ w, Rd H a (.dT w)) → F3 a) : ∀ {d : List D} {v : List V}, pureL d = true → hasLL d = false → RelL N F r1 H d v → RelL N F3 r2 H d v
  | [], _, _, _, h => h
  | d :: ds, _, p, q, h => by
    obtain ⟨p1, p2⟩ := and2 (show (d.pure && pureL ds) = true from p)
    obtain ⟨q1, q2⟩ : d.hasL = false ∧ hasLL ds = false := by
      have q : (d.hasL || hasLL ds) = false := q
      simpa using q
    obtain ⟨v, ws, e, a, b⟩ := h
    exact ⟨v, ws, e, apart_rel hF p1 q1 a, apart_relL hF p2 q2 b⟩
theorem apart_relK {F3 : Addr → Prop} {r2 : List Addr} (hF : ∀ a, F a → (∃ w, Rd H a (.dK w)) ∨ (∃ w, Rd H a (.dT w)) → F3 a) : ∀ {d : List (Key × D)} {v : List (Key × V)}, pureK d = true → hasLK d = false → RelK N F r1 H d v → RelK N F3 r2 H d v
  | [], _, _, _, h => h
  | (k, d) :: ds, _, p, q, h => by
    obtain ⟨p1, p2⟩ := and2 (show (d.pure && pureK ds) = true from p)
    obtain ⟨q1, q2⟩ : d.hasL = false ∧ hasLK ds = false := by
      have q : (d.hasL || hasLK ds) = false := q
      simpa using q
    obtain ⟨v, ws, e, a, b⟩ := h
    exact ⟨v, ws, e, apart_rel hF p1 q1 a, apart_relK hF p2 q2 b⟩
theorem apart_relT {F3 : Addr → Prop} {r2 : List Addr} (hF : ∀ a, F a → (∃ w, Rd H a (.dK w)) ∨ (∃ w, Rd H a (.dT w)) → F3 a) : ∀ {d : List (List Key × D)} {v : List (List Key × V)}, pureT d = true → hasLT d = false → RelT N F r1 H d v → RelT N F3 r2 H d v
  | [], _, _, _, h => h
  | (k, d) :: ds, _, p, q, h => by
    obtain ⟨p1, p2⟩ := and2 (show (d.pure && pureT ds) = true from p)
    obtain ⟨q1, q2⟩ : d.hasL = false ∧ hasLT ds = false := by
      have q : (d.hasL || hasLT ds) = false := q
      simpa using q
    obtain ⟨v, ws, e, a, b⟩ := h
    exact ⟨v, ws, e, apart_rel hF p1 q1 a, apart_relT hF p2 q2 b⟩
end
theorem bare_relF : ∀ {d : List (Nat × D)} {v : List (Str × V)}, d.all (fun p => p.2.bare) = true → RelF N F r H d v → RelF N F1 r1 H d v
  | [], _, _, h => h
  | (k, d) :: ds, _, p, h => by
    obtain ⟨p1, p2⟩ := and2 (show (d.bare && ds.all (fun p => p.2.bare)) = true from p)
    obtain ⟨v, ws, e, a, b⟩ := h
    exact ⟨v, ws, e, bare_rel p1 a, bare_relF p2 b⟩
/-- all objects of ours, known too -/
theorem mapM_rel {n : Nat} (ih : ∀ {d x : D} {v : V}, frz m n d = some x → RelD N F r H d v → RelD N (plusF F r) r1 H x v) : ∀ {xs ys : List D} {vs : List V}, xs.mapM (frz m n) = some ys → RelL N F r H xs vs → RelL N (plusF F r) r1 H ys vs
  | [], ys, vs, e, h => by
    rw [List.mapM_nil] at e
    cases e
    exact h
  | x :: xs, ys, vs, e, h => by
    rw [List.mapM_cons] at e
    cases e1 : frz m n x with
    | none => rw [e1] at e; cases e
    | some y =>
      rw [e1] at e
      cases e2 : xs.mapM (frz m n) with
      | none => rw [e2] at e; cases e
      | some zs =>
        rw [e2] at e
        cases e
        obtain ⟨v, ws, rfl, a, b⟩ := h
        exact ⟨v, ws, rfl, ih e1 a, mapM_rel ih e2 b⟩
theorem mapM_relP {κ : Type} {n : Nat} (ih : ∀ {d x : D} {v : V}, frz m n d = some x → RelD N F r H d v → RelD N (plusF F r) r1 H x v) : ∀ {xs ys : List (κ × D)} {vs : List (κ × V)}, xs.mapM (fun p => (frz m n p.2).map fun d => (p.1, d)) = some ys → RelP N F r H xs vs → RelP N (plusF F r) r1 H ys vs
  | [], ys, vs, e, h => by
    rw [List.mapM_nil] at e
    cases e
    exact h
  | (k, x) :: xs, ys, vs, e, h => by
    rw [List.mapM_cons] at e
    cases e1 : frz m n x with
    | none => simp only [e1] at e; cases e
    | some y =>
      simp only [e1, Option.map_some] at e
      cases e2 : xs.mapM (fun p => (frz m n p.2).map fun d => (p.1, d)) with
      | none => rw [e2] at e; cases e
      | some zs =>
        rw [e2] at e
        cases e
        obtain ⟨v, ws, rfl, a, b⟩ := h
        exact ⟨v, ws, rfl, ih e1 a, mapM_relP ih e2 b⟩
theorem frz_rel (S : Sim K N F r m H) : ∀ (n : Nat) {d x : D} {v : V}, frz m n d = some x → RelD N F r H d v → RelD N (plusF F r) r1 H x v
  | 0, d, x, v, e, h => by
    unfold frz at e
    split at e
    · rename_i hp
      cases e
      exact pure_rel (fun _ z => .inl z) hp h
    · cases e
  | n + 1, d, x, v, e, h => by
    unfold frz at e
    split at e
    · rename_i hp
      cases e
      exact pure_rel (fun _ z => .inl z) hp h
    · split at e
      · rename_i xs
        obtain ⟨ys, e1, rfl⟩ := opt_map_some e
        obtain ⟨a, vs, rfl, hA, l⟩ := h
        exact ⟨a, vs, rfl, hA, mapM_rel (frz_rel S n) e1 l⟩
      · rename_i i
        obtain ⟨a, hi, rfl⟩ := h
        have ha : plusF F r a := .inr (List.mem_of_getElem? hi)
        split at e
        · rename_i xs em
          obtain ⟨ys, e1, rfl⟩ := opt_map_some e
          obtain ⟨vs, eH, l⟩ := S.ref em hi
          exact ⟨a, vs, rfl, ha, .inl eH, mapM_rel (frz_rel S n) e1 l⟩
        · rename_i xs em
          obtain ⟨ys, e1, rfl⟩ := opt_map_some e
          obtain ⟨vs, eH, l⟩ := S.ref em hi
          exact ⟨a, vs, rfl, ha, .inl eH, relK_P.mpr (mapM_relP (frz_rel S n) e1 (relK_P.mp l))⟩
        · rename_i xs em
          obtain ⟨ys, e1, rfl⟩ := opt_map_some e
          obtain ⟨vs, eH, l⟩ := S.ref em hi
          exact ⟨a, vs, rfl, ha, .inl eH, relT_P.mpr (mapM_relP (frz_rel S n) e1 (relT_P.mp l))⟩
        · cases e
      · cases e
end

/-! ### new objects become data behind a def -/
section
variable {K : PySem.W.Frag} {N : Nm} {F F1 F2 : Addr → Prop} {r r1 t : List Addr} {H : Hp} {m : Mem}
/- what is related has no objects but ours -/
mutual
theorem low_of : ∀ {d : D} {v : V}, RelD N F r H d v → d.low r.length = true
  | .non, _, _ => rfl
  | .bl _, _, _ => rfl
  | .int _, _, _ => rfl
  | .str _, _, _ => rfl
  | .tup xs, _, h => by
    obtain ⟨a, vs, e, s, l⟩ := h
    exact low_ofL l
  | .lst xs, _, h => by
    obtain ⟨a, vs, e, f, s, l⟩ := h
    exact low_ofL l
  | .dK xs, _, h => by
    obtain ⟨a, vs, e, f, s, l⟩ := h
    exact low_ofK l
  | .dT xs, _, h => by
    obtain ⟨a, vs, e, f, s, l⟩ := h
    exact low_ofT l
  | .ref i, _, h => by
    obtain ⟨a, e, q⟩ := h
    exact decide_eq_true (List.getElem?_eq_some_iff.mp e).1
  | .exn c fs, _, h => by
    obtain ⟨a, oe, e, s, h1, h2, h3⟩ := h
    rcases h3 with ⟨rfl, _⟩ | ⟨dd, ws, e2, s2, l⟩
    · rfl
    · exact low_ofF l
theorem low_ofL : ∀ {d : List D} {v : List V}, RelL N F r H d v → lowoL r.length d = true
  | [], _, _ => rfl
  | d :: ds, _, h => by
    obtain ⟨v, ws, e, a, b⟩ := h
    show (d.low r.length && lowoL r.length ds) = true
    rw [low_of a, low_ofL b]; rfl
theorem low_ofK : ∀ {d : List (Key × D)} {v : List (Key × V)}, RelK N F r H d v → lowoK r.length d = true
  | [], _, _ => rfl
  | (k, d) :: ds, _, h => by
    obtain ⟨v, ws, e, a, b⟩ := h
    show (d.low r.length && lowoK r.length ds) = true
    rw [low_of a, low_ofK b]; rfl
theorem low_ofT : ∀ {d : List (List Key × D)} {v : List (List Key × V)}, RelT N F r H d v → lowoT r.length d = true
  | [], _, _ => rfl
  | (k, d) :: ds, _, h => by
    obtain ⟨v, ws, e, a, b⟩ := h
    show (d.low r.length && lowoT r.length ds) = true
    rw [low_of a, low_ofT b]; rfl
theorem low_ofF : ∀ {d : List (Nat × D)} {v : List (Str × V)}, RelF N F r H d v → lowoF r.length d = true
  | [], _, _ => rfl
  | (k, d) :: ds, _, h => by
    obtain ⟨v, ws, e, a, b⟩ := h
    show (d.low r.length && lowoF r.length ds) = true
    rw [low_of a, low_ofF b]; rfl
end
theorem low_ofO {o : O} {a : Addr} (h : RelO N F r H o a) : o.low r.length = true := by
  cases o with
  | lst xs => obtain ⟨vs, e, l⟩ := h; exact low_ofL l
  | dK xs => obtain ⟨vs, e, l⟩ := h; exact low_ofK l
  | dT xs => obtain ⟨vs, e, l⟩ := h; exact low_ofT l
  | ins c fs => obtain ⟨dx, vs, e, l⟩ := h; exact low_ofF l
  | dead => exact h.elim
  | lk xs => obtain ⟨vs, o, e, l⟩ := h; exact low_ofK l
/- what has no object from r on is related without them -/
mutual
theorem low_rel (hF : ∀ a, F a → F1 a) : ∀ {d : D} {v : V}, d.low r.length = true → RelD N F (r ++ t) H d v → RelD N F1 r H d v
  | .non, _, _, h => h
  | .bl _, _, _, h => h
  | .int _, _, _, h => h
  | .str _, _, _, h => h
  | .tup xs, _, p, h => by
    obtain ⟨a, vs, e, s, l⟩ := h
    exact ⟨a, vs, e, s, low_relL hF p l⟩
  | .lst xs, _, p, h => by
    obtain ⟨a, vs, e, f, s, l⟩ := h
    exact ⟨a, vs, e, hF _ f, s, low_relL hF p l⟩
  | .dK xs, _, p, h => by
    obtain ⟨a, vs, e, f, s, l⟩ := h
    exact ⟨a, vs, e, hF _ f, s, low_relK hF p l⟩
  | .dT xs, _, p, h => by
    obtain ⟨a, vs, e, f, s, l⟩ := h
    exact ⟨a, vs, e, hF _ f, s, low_relT hF p l⟩
  | .ref i, _, p, h => by
    obtain ⟨a, e, q⟩ := h
    have hi : i < r.length := of_decide_eq_true p
    rw [List.getElem?_append_left hi] at e
    exact ⟨a, e, q⟩
  | .exn c fs, _, p, h => by
    obtain ⟨a, oe, e, s, h1, h2, h3⟩ := h
    refine ⟨a, oe, e, s, h1, h2, ?_⟩
    rcases h3 with h3 | ⟨dd, ws, e2, s2, l⟩
    · exact .inl h3
    · exact .inr ⟨dd, ws, e2, s2, low_relF hF p l⟩
theorem low_relL (hF : ∀ a, F a → F1 a) : ∀ {d : List D} {v : List V}, lowoL r.length d = true → RelL N F (r ++ t) H d v → RelL N F1 r H d v
  | [], _, _, h => h
  | d :: ds, _, p, h => by
    obtain ⟨p1, p2⟩ := and2 (show (d.low r.length && lowoL r.length ds) = true from p)
    obtain ⟨v, ws, e, a, b⟩ := h
    exact ⟨v, ws, e, low_rel hF p1 a, low_relL hF p2 b⟩
theorem low_relK (hF : ∀ a, F a → F1 a) : ∀ {d : List (Key × D)} {v : List (Key × V)}, lowoK r.length d = true → RelK N F (r ++ t) H d v → RelK N F1 r H d v
  | [], _, _, h => h
  | (k, d) :: ds, _, p, h => by
    obtain ⟨p1, p2⟩ := and2 (show (d.low r.length && lowoK r.length ds) = true from p)
    obtain ⟨v, ws, e, a, b⟩ := h
    exact ⟨v, ws, e, low_rel hF p1 a, low_relK hF p2 b⟩
theorem low_relT (hF : ∀ a, F a → F1 a) : ∀ {d : List (List Key × D)} {v : List (List Key × V)}, lowoT r.length d = true → RelT N F (r ++ t) H d v → RelT N F1 r H d v
  | [], _, _, h => h
  | (k, d) :: ds, _, p, h => by
    obtain ⟨p1, p2⟩ := and2 (show (d.low r.length && lowoT r.length ds) = true from p)
    obtain ⟨v, ws, e, a, b⟩ := h
    exact ⟨v, ws, e, low_rel hF p1 a, low_relT hF p2 b⟩
theorem low_relF (hF : ∀ a, F a → F1 a) : ∀ {d : List (Nat × D)} {v : List (Str × V)}, lowoF r.length d = true → RelF N F (r ++ t) H d v → RelF N F1 r H d v
  | [], _, _, h => h
  | (k, d) :: ds, _, p, h => by
    obtain ⟨p1, p2⟩ := and2 (show (d.low r.length && lowoF r.length ds) = true from p)
    obtain ⟨v, ws, e, a, b⟩ := h
    exact ⟨v, ws, e, low_rel hF p1 a, low_relF hF p2 b⟩
end
theorem low_relO (hF : ∀ a, F a → F1 a) {o : O} {a : Addr} (p : o.low r.length = true) (h : RelO N F (r ++ t) H o a) : RelO N F1 r H o a := by
  cases o with
  | lst xs => obtain ⟨vs, e, l⟩ := h; exact ⟨vs, e, low_relL hF p l⟩
  | dK xs => obtain ⟨vs, e, l⟩ := h; exact ⟨vs, e, low_relK hF p l⟩
  | dT xs => obtain ⟨vs, e, l⟩ := h; exact ⟨vs, e, low_relT hF p l⟩
  | ins c fs => obtain ⟨dx, vs, e, l⟩ := h; exact ⟨dx, vs, e, low_relF hF p l⟩
  | dead => exact h.elim
  | lk xs => obtain ⟨vs, o, e, l⟩ := h; exact ⟨vs, o, e, low_relK hF p l⟩
/- the new ones as data -/
theorem mapN_rel {lo n : Nat} (ih : ∀ {d x : D} {v : V}, frzN lo m n d = some x → RelD N F r H d v → RelD N F1 r1 H x v) : ∀ {xs ys : List D} {vs : List V}, xs.mapM (frzN lo m n) = some ys → RelL N F r H xs vs → RelL N F1 r1 H ys vs
  | [], ys, vs, e, h => by
    rw [List.mapM_nil] at e
    cases e
    exact h
  | x :: xs, ys, vs, e, h => by
    rw [List.mapM_cons] at e
    cases e1 : frzN lo m n x with
    | none => rw [e1] at e; cases e
    | some y =>
      rw [e1] at e
      cases e2 : xs.mapM (frzN lo m n) with
      | none => rw [e2] at e; cases e
      | some zs =>
        rw [e2] at e
        cases e
        obtain ⟨v, ws, rfl, a, b⟩ := h
        exact ⟨v, ws, rfl, ih e1 a, mapN_rel ih e2 b⟩
theorem mapN_relP {κ : Type} {lo n : Nat} (ih : ∀ {d x : D} {v : V}, frzN lo m n d = some x → RelD N F r H d v → RelD N F1 r1 H x v) : ∀ {xs ys : List (κ × D)} {vs : List (κ × V)}, xs.mapM (fun p => (frzN lo m n p.2).map fun d => (p.1, d)) = some ys → RelP N F r H xs vs → RelP N F1 r1 H ys vs
  | [], ys, vs, e, h => by
    rw [List.mapM_nil] at e
    cases e
    exact h
  | (k, x) :: xs, ys, vs, e, h => by
    rw [List.mapM_cons] at e
    cases e1 : frzN lo m n x with
    | none => simp only [e1] at e; cases e
    | some y =>
      simp only [e1, Option.map_some] at e
      cases e2 : xs.mapM (fun p => (frzN lo m n p.2).map fun d => (p.1, d)) with
      | none => rw [e2] at e; cases e
      | some zs =>
        rw [e2] at e
        cases e
        obtain ⟨v, ws, rfl, a, b⟩ := h
        exact ⟨v, ws, rfl, ih e1 a, mapN_relP ih e2 b⟩
theorem frzN_rel (S : Sim K N F r m H) (hF : ∀ a, F a → F1 a) {lo : Nat} (ht : ∀ (i : Nat) (a : Addr), lo ≤ i → r[i]? = some a → F1 a) : ∀ (n : Nat) {d x : D} {v : V}, frzN lo m n d = some x → RelD N F r H d v → RelD N F1 r1 H x v
  | 0, d, x, v, e, h => by
    unfold frzN at e
    split at e
    · rename_i hp
      cases e
      exact pure_rel (fun _ z => hF _ z) hp h
    · cases e
  | n + 1, d, x, v, e, h => by
    unfold frzN at e
    split at e
    · rename_i hp
      cases e
      exact pure_rel (fun _ z => hF _ z) hp h
    · split at e
      · rename_i xs
        obtain ⟨ys, e1, rfl⟩ := opt_map_some e
        obtain ⟨a, vs, rfl, hA, l⟩ := h
        exact ⟨a, vs, rfl, hA, mapN_rel (frzN_rel S hF ht n) e1 l⟩
      · rename_i i
        obtain ⟨a, hi, rfl⟩ := h
        split at e
        · rename_i hlo
          have ha : F1 a := ht _ a hlo hi
          split at e
          · rename_i xs em
            obtain ⟨ys, e1, rfl⟩ := opt_map_some e
            obtain ⟨vs, eH, l⟩ := S.ref em hi
            exact ⟨a, vs, rfl, ha, .inl eH, mapN_rel (frzN_rel S hF ht n) e1 l⟩
          · rename_i xs em
            obtain ⟨ys, e1, rfl⟩ := opt_map_some e
            obtain ⟨vs, eH, l⟩ := S.ref em hi
            exact ⟨a, vs, rfl, ha, .inl eH, relK_P.mpr (mapN_relP (frzN_rel S hF ht n) e1 (relK_P.mp l))⟩
          · rename_i xs em
            obtain ⟨ys, e1, rfl⟩ := opt_map_some e
            obtain ⟨vs, eH, l⟩ := S.ref em hi
            exact ⟨a, vs, rfl, ha, .inl eH, relT_P.mpr (mapN_relP (frzN_rel S hF ht n) e1 (relT_P.mp l))⟩
          · cases e
        · cases e
      · cases e
end
section
variable {K : PySem.W.Frag} {N : Nm} {F F' : Addr → Prop} {r r' : List Addr} {H H' : Hp} {m m1 : Mem}
/-- the caller's view behind such a def -/
theorem melt_view (Si : Sim K N F r m H) (x : Ext F r H F' r' H') (S' : Sim K N F' r' m1 H') (hk : Kept m m1) :
    ∃ t, r' = r ++ t ∧ Ext F r H (fun a => F' a ∨ a ∈ t) r H' ∧ Sim K N (fun a => F' a ∨ a ∈ t) r (m1.take m.length) H' := by
  obtain ⟨t, et⟩ := x.pre
  have nd := S'.nd
  rw [et] at nd
  have dj : ∀ a, a ∈ r → a ∈ t → False := fun a h1 h2 => (List.nodup_append.mp nd).2.2 a h1 a h2 rfl
  have lt : m.length ≤ m1.length := by rw [← Si.len, ← S'.len, et]; simp
  refine ⟨t, et, ⟨x.keep, x.keepF, x.tups, x.frzs, x.xds, fun a z => .inl (x.mono a z), ⟨[], by simp⟩, fun a z => ?_, fun a z => .inl z⟩, Si.nd, ?_, fun a ha z => ?_, fun a z => ?_, fun i o em => ?_⟩
  · rcases z with z | z
    · exact x.newF a z
    · rcases x.newR a (by rw [et]; exact List.mem_append_right _ z) with h | h
      · exact (dj a h z).elim
      · exact .inr (.inr h)
  · rw [Si.len, List.length_take]; omega
  · rcases z with z | z
    · exact S'.nf a (by rw [et]; exact List.mem_append_left _ ha) z
    · exact dj a ha z
  · rcases z with z | z
    · exact S'.fh a z
    · obtain ⟨u, e, _⟩ := S'.here (show a ∈ r' by rw [et]; exact List.mem_append_right _ z)
      rw [e]; simp
  · have hi : i < m.length := by
      have := (List.getElem?_eq_some_iff.mp em).1
      rw [List.length_take] at this
      omega
    rw [List.getElem?_take, if_pos hi] at em
    obtain ⟨a, ha, ro⟩ := S'.ob i o em
    have lo : o.low r.length = true := by
      rcases hk i o hi em with h | h
      · obtain ⟨b, _, rb⟩ := Si.ob i o h
        exact low_ofO rb
      · rw [Si.len]; exact h
    rw [et] at ha ro
    rw [List.getElem?_append_left (by rw [Si.len]; exact hi)] at ha
    exact ⟨a, ha, low_relO (F1 := fun a => F' a ∨ a ∈ t) (fun a z => .inl z) lo ro⟩
end

/-! ### the entry -/
theorem start_env {F : Addr → Prop} {r : List Addr} {H : Hp} {nm : List Str} {n : Nat} {ds : List D} {vs : List V} (hn : n = nm.length) (hl : ds.length ≤ n) (q : RelL N F r H ds vs) : SimE N F r H (startE n ds) (L2.start nm vs) := by
  subst hn
  have ql := q.length
  refine ⟨by unfold startE L2.start; simp [ql], fun i d e => ?_⟩
  unfold startE at e
  by_cases hi : i < ds.length
  · rw [List.getElem?_append_left (by simpa using hi), List.getElem?_map] at e
    cases e2 : ds[i]? with
    | none => rw [e2] at e; cases e
    | some d' =>
      rw [e2] at e
      cases e
      obtain ⟨v, e3, q3⟩ := q.get e2
      refine ⟨v, ?_, q3⟩
      unfold L2.start
      rw [List.getElem?_append_left (by rw [List.length_map, ← ql]; exact hi), List.getElem?_map, e3]
      rfl
  · rw [List.getElem?_append_right (by simpa using hi), List.getElem?_replicate] at e
    split at e <;> cases e
/-- a body's end from the answer that is wanted -/
theorem rsp_of {K : PySem.W.Frag} {N : Nm} {F : Addr → Prop} {r : List Addr} {H : Hp} {E : XK} {Q : VK} {x : SR} (h : RP K N (RelD N) E F r H Q x.res) : RSp K N (fun cls d _ H => E cls d H) F r H { nx := fun _ H' => Q .non H', rt := Q } x := by
  cases x with
  | ok fl env m =>
    cases fl with
    | nx => exact fun F' r' H' σ' x S SE => h F' r' H' .non x S rfl
    | rt d => exact fun F' r' H' v x S q => h F' r' H' v x S q
    | bk => exact h.elim
    | ct => exact h.elim
  | exc x env m => exact fun F' r' H' σ' cls dd x S SE rx => h F' r' H' cls dd x S rx
  | bad => exact h.elim
/-! ### an exception's own __init__ -/
section
variable (N : Nm) (nm : List Str)
def chkXs : List Nat → Nat → Scope → List Stmt → Bool
  | [], _, _, l => l.isEmpty
  | f :: fs, k, sc, l => match l with
    | .Assign [.Attribute (.Name s _) g _] (.Name p _) _ :: rest => decide (nm[0]? = some s) && visB sc s && ndB s && decide (g = N.fn f) && decide (nm[k]? = some p) && visB sc p && ndB p && chkXs fs (k + 1) sc rest
    | _ => false
def chkXi (B : Str) (fs : List Nat) (sc : Scope) : List Stmt → Bool
  | .Expr (.Call (.Attribute (.Name y _) mt apos) [.Name s _, .Constant (.str _) _ _] [] pos) _ :: rest => decide (y = B) && okName sc y && decide (mt = "__init__") && (apos.endLine == pos.line) && decide (nm[0]? = some s) && visB sc s && ndB s && chkXs N nm fs 1 sc rest
  | _ => false
end
structure XiOk (K : PySem.W.Frag) (mg : Str → Option Value) (N : Nm) (S : Stat) (c : Nat) (fs : List Nat) : Prop where
  ex : ∃ (x qual : Str) (st : Stmt) (nm : List Str) (B : Str) (CB : Addr), Fun K x qual st (S.xa c) (S.xd c) ∧ FnScope nm (S.xp c) (defScope st) ∧ (S.xp c).length = fs.length + 1 ∧ mg B = some (.ref CB) ∧ XbOk K CB ∧ chkXi N nm B fs (defScope st) (defBody st) = true
section
variable {X : Cx} {N : Nm} {nm : List Str} {sc : Scope} {C : Addr}
theorem vis_of (hsc : X.env.scope = sc) {x : Str} (hx : visB sc x = true) : Vis X.env.scope x := by
  rw [hsc]
  unfold visB at hx
  unfold Vis
  split at hx
  · exact .inl (by assumption)
  · exact .inr (.inl (by assumption))
  · exact .inr (.inr (by assumption))
  · cases hx
theorem xs_ok (hN : X.N = nm) (hsc : X.env.scope = sc) (T : OexC X.K C) : ∀ (fs : List Nat) (k : Nat) (l : List Stmt), (∀ f ∈ fs, PySem.W.findIn X.K (.ref C) (N.fn f) = some none) → chkXs N nm fs k sc l = true →
    ∃ t, PSs X l t ∧ ∀ (D : Ends) (σ : L2.St) (H : Hp) (a dx : Addr) (gs : List (Str × V)) (ws : List V), a ≠ dx → σ[0]? = some (some (.ref a)) → ws.length = fs.length → (∀ (j : Nat) (w : V), ws[j]? = some w → σ[k + j]? = some (some w)) → H a = some (exo a C (some dx)) → H dx = some (exd dx gs) → gs.length + fs.length ≤ 900 →
      (∀ H', H' a = some (exo a C (some dx)) → H' dx = some (exd dx (((fs.map N.fn).zip ws).reverse ++ gs)) → (∀ b, b ≠ dx → H' b = H b) → D.nx σ H') → t D σ H
  | [], k, l, hf, hk => by
    unfold chkXs at hk
    cases l with
    | cons => cases hk
    | nil => exact ⟨_, pss_nil, fun D σ H a dx gs ws hne h0 hl hw e1 e2 hz h => h H e1 (by simpa using e2) fun _ _ => rfl⟩
  | f :: fs, k, l, hf, hk => by
    unfold chkXs at hk
    split at hk
    · rename_i s p1 g p2 p p3 p4 rest
      obtain ⟨hk, h8⟩ := and2 hk
      obtain ⟨hk, h7⟩ := and2 hk
      obtain ⟨hk, h6⟩ := and2 hk
      obtain ⟨hk, h5⟩ := and2 hk
      obtain ⟨hk, h4⟩ := and2 hk
      obtain ⟨hk, h3⟩ := and2 hk
      obtain ⟨h1, h2⟩ := and2 hk
      cases of_decide_eq_true h4
      obtain ⟨t, ht, hq⟩ := xs_ok hN hsc T fs (k + 1) rest (fun g hg => hf g (List.mem_cons_of_mem _ hg)) h8
      have v0 : PE X (.Name s p1) (tVar 0) := pe_var (by rw [hN]; exact of_decide_eq_true h1) (vis_of hsc h2) (nd_of h3).1 (nd_of h3).2
      have vk : PE X (.Name p p3) (tVar k) := pe_var (by rw [hN]; exact of_decide_eq_true h5) (vis_of hsc h6) (nd_of h7).1 (nd_of h7).2
      refine ⟨_, pss_cons (ps_ost v0 vk (notComp_sw rfl)) ht, fun D σ H a dx gs ws hne h0 hl hw e1 e2 hz h => ?_⟩
      cases ws with
      | nil => cases hl
      | cons w ws =>
        refine ⟨w, by have := hw 0 w rfl; simpa using this, _, h0, a, C, rfl, T, hf f List.mem_cons_self, .inr ⟨dx, gs, e1, e2, by simp at hz; omega, ?_⟩⟩
        refine hq D σ _ a dx ((N.fn f, w) :: gs) ws hne h0 (by simpa using hl) (fun j v hv => by have := hw (j + 1) v (by simpa using hv); rw [← this]; congr 1; omega) (by rw [upd_ne hne]; exact e1) upd_same (by simp at hz ⊢; omega) fun H' q1 q2 q3 => h H' q1 (by rw [q2]; simp) fun b hb => by rw [q3 b hb, upd_ne hb]
    · cases hk
end
section
variable {P : Program} {w : World} {K : PySem.W.Frag} {mg : Str → Option Value} {base : Heap} {N : Nm} {T : Tab} {S : Stat}
theorem start_at {nm : List Str} {vs : List V} {i : Nat} {v : V} (h : vs[i]? = some v) : (L2.start nm vs)[i]? = some (some v) := by
  unfold L2.start
  have hi : i < vs.length := (List.getElem?_eq_some_iff.mp h).1
  rw [List.getElem?_append_left (by simpa using hi), List.getElem?_map, h]
  rfl
theorem xi_ok {c f : Nat} {fs : List Nat} (ok : XcOk K N S c (f :: fs)) (hz : fs.length ≤ 800) (Xk : XiOk K mg N S c (f :: fs)) : FnOk P w K mg base (L2.CX P w) 2 (S.xa c) (S.xd c) (S.xp c) (spX N (N.cl c) (f :: fs)) := by
  obtain ⟨o1, o2, o3, o4, o5, o6, o7, no⟩ := ok
  obtain ⟨x, qual, st, nm, B, CB, hF, hS, hp, hB, xb, hk⟩ := Xk.ex
  refine hF.okX hS (fun vs H Q E ⟨a, ws, e, hl, _⟩ => ?_) (fun cdv A outer s H vs Q E hr ⟨a, ws, e, hl, ea, q⟩ => ?_)
  · rw [e, List.length_cons, hl, hp]
  · subst e
    unfold chkXi at hk
    split at hk
    · rename_i y p1 mt apos sx p2 m kk p3 pos pos2 rest hbody
      obtain ⟨hk, h8⟩ := and2 hk
      obtain ⟨hk, h7⟩ := and2 hk
      obtain ⟨hk, h6⟩ := and2 hk
      obtain ⟨hk, h5⟩ := and2 hk
      obtain ⟨hk, h4⟩ := and2 hk
      obtain ⟨hk, h3⟩ := and2 hk
      obtain ⟨h1, h2⟩ := and2 hk
      cases of_decide_eq_true h1
      cases of_decide_eq_true h3
      let X := cxOf (L2.CX P w) P w K mg base nm qual (defScope st) (S.xa c) cdv A outer s H E
      have hN : X.N = nm := rfl
      have hsc : X.env.scope = defScope st := rfl
      have n1 : Gl X B := by
        show (defScope st).names.lookup B = _
        have := (and2 (and2 h2).1).1
        unfold glB at this
        split at this
        · assumption
        · cases this
      have n2 := (nd_of (and2 (and2 h2).1).2).1
      have v0 : PE X (.Name sx p2) (tVar 0) := pe_var (of_decide_eq_true h5) (vis_of hsc h6) (nd_of h7).1 (nd_of h7).2
      have ps : PE X (.Constant (.str m) kk p3) (tC (.str m)) := pe_str
      have pa := pa_cons v0 (pa_cons ps pa_nil rfl) rfl
      have st1 := ps_expr (pos := pos2) (pe_xin (pos := pos) (p1 := p1) xb n1 hB n2 pa rfl (by simp) h4) (notComp_sw rfl)
      unfold chkXs at h8
      split at h8
      · rename_i s3 q1 g q2 pp q3 q4 rest2
        obtain ⟨hk, k8⟩ := and2 h8
        obtain ⟨hk, k7⟩ := and2 hk
        obtain ⟨hk, k6⟩ := and2 hk
        obtain ⟨hk, k5⟩ := and2 hk
        obtain ⟨hk, k4⟩ := and2 hk
        obtain ⟨hk, k3⟩ := and2 hk
        obtain ⟨k1, k2⟩ := and2 hk
        cases of_decide_eq_true k4
        have u0 : PE X (.Name s3 q1) (tVar 0) := pe_var (of_decide_eq_true k1) (vis_of hsc k2) (nd_of k3).1 (nd_of k3).2
        have u1 : PE X (.Name pp q3) (tVar 1) := pe_var (of_decide_eq_true k5) (vis_of hsc k6) (nd_of k7).1 (nd_of k7).2
        obtain ⟨t, ht, hq⟩ := xs_ok (X := X) hN hsc o1 fs 2 rest2 (fun g hg => no g (List.mem_cons_of_mem _ hg)) k8
        have all := pss_cons st1 (pss_cons (ps_ost (pos := q4) (p' := q2) (f := N.fn f) u0 u1 (notComp_sw rfl)) ht)
        refine ⟨_, by rw [hbody]; exact all, ?_⟩
        cases ws with
        | nil => cases hl
        | cons w1 ws =>
          have s0 : (L2.start nm (V.ref a :: w1 :: ws))[0]? = some (some (V.ref a)) := start_at rfl
          have s1 : (L2.start nm (V.ref a :: w1 :: ws))[1]? = some (some w1) := start_at rfl
          refine ⟨V.ref a, s0, a, N.cl c, [V.str m], rfl, by simp, o1, ea, ?_⟩
          refine ⟨w1, s1, _, s0, a, N.cl c, rfl, o1, no f List.mem_cons_self, .inl ⟨ea, fun dx hdx hne => ?_⟩⟩
          refine hq _ _ _ a dx [(N.fn f, w1)] ws (Ne.symm hne) s0 (by simpa using hl) (fun j v hv => start_at (by rw [show 2 + j = j + 2 by omega]; exact hv)) upd_same (by rw [upd_ne hne, upd_same]) (by simp; omega) fun H' q1 q2 q3 => ?_
          refine q dx H' hdx hne q1 (by rw [q2]; simp) fun b hb1 hb2 => ?_
          rw [q3 b hb2, upd_ne hb1, upd_ne hb2]
      · cases h8
    · cases hk
end
/-- a def of the text, with what was found about it -/
structure DefOk (K : PySem.W.Frag) (N : Nm) (T : Tab) (S : Stat) (g : Nat) (fd : FD) : Prop where
  ex : ∃ (x qual : Str) (st : Stmt) (nm : List Str), Fun K x qual st (S.fa g) (S.fd g) ∧ FnScope nm (S.ps g) (defScope st) ∧ (S.ps g).length = fd.np ∧ fd.ns = nm.length ∧ chkSs S T N nm fd.body (defScope st) (defScope st) (defBody st) = true
section
variable {P : Program} {w : World} {K : PySem.W.Frag} {mg : Str → Option Value} {base : Heap} {N : Nm} {T : Tab} {S : Stat}
theorem fn_ok {Fn : Nat → Option FD} {k j g : Nat} {fd : FD} (hf : Fn g = some fd) (Dk : DefOk K N T S g fd) (facts : Facts K mg N T S) (hj : 2 ≤ j) (xis : ∀ c f fs, T.xfs c = some (f :: fs) → fs.length ≤ 800 ∧ XiOk K mg N S c (f :: fs)) (fns : ∀ i, FnOk P w K mg base (L2.CX P w) j (S.fa i) (S.fd i) (S.ps i) (spC K N (callF T Fn k i))) :
    FnOk P w K mg base (L2.CX P w) (j + 2) (S.fa g) (S.fd g) (S.ps g) (spC K N (callF T Fn (k + 1) g)) := by
  obtain ⟨x, qual, st, nm, hF, hS, hp, hn, hk⟩ := Dk.ex
  have hcall : ∀ args m, callF T Fn (k + 1) g args m = (if args.length = fd.np then (match fd.mode with
        | .plain => runB T (callF T Fn k) fd args m
        | .melt => backM m (runB T (callF T Fn k) fd args m)
        | .pure => match lendAll m args with
          | some xs => backQ m args (runB T (callF T Fn k) fd xs [])
          | none => Res.bad) else Res.bad) := fun args m => by
    show (match Fn g with
      | none => Res.bad
      | some fd => if args.length = fd.np then (match fd.mode with
        | .plain => runB T (callF T Fn k) fd args m
        | .melt => backM m (runB T (callF T Fn k) fd args m)
        | .pure => match lendAll m args with
          | some xs => backQ m args (runB T (callF T Fn k) fd xs [])
          | none => Res.bad) else Res.bad) = _
    rw [hf]
  have hpn : fd.np ≤ fd.ns := by
    have := congrArg List.length hS.pre
    rw [List.length_take] at this
    omega
  refine hF.okX hS (fun vs H Q E ⟨F, r, m, ds, Si, q, h⟩ => ?_) (fun cdv A outer s H vs Q E hr ⟨F, r, m, ds, Si, q, h⟩ => ?_)
  · rw [hcall] at h
    split at h
    · rename_i hl
      rw [← q.length, hl, hp]
    · exact h.elim
  · have Hx : HereS (cxOf (L2.CX P w) P w K mg base nm qual (defScope st) (S.fa g) cdv A outer s H E) N T S (callF T Fn k) j nm (defScope st) (defScope st) (fun cls d _ H => E cls d H) :=
      ⟨⟨rfl, hS.nd, rfl, fun _ _ => rfl, rfl, hr, facts, fns, fun c f fs e => (xi_ok (facts.xok c _ e) (xis c f fs e).1 (xis c f fs e).2).mono hj⟩, takes_of rfl rfl rfl rfl, passes_of rfl, hS.kind, rfl, rfl, rfl⟩
    refine ⟨_, okSs fd.body (defBody st) Hx hk, ?_⟩
    rw [hcall] at h
    split at h
    · rename_i hl
      cases hm : fd.mode with
      | plain =>
        rw [hm] at h
        exact ⟨F, r, startE fd.ns ds, m, Si, start_env hn (by omega) q, rsp_of h⟩
      | melt =>
        rw [hm] at h
        dsimp only at h
        refine ⟨F, r, startE fd.ns ds, m, Si, start_env hn (by omega) q, rsp_of ?_⟩
        show RP K N (RelD N) E F r H Q (runB T (callF T Fn k) fd ds m)
        cases er : runB T (callF T Fn k) fd ds m with
        | bad => rw [er] at h; exact h.elim
        | exc y m1 =>
          rw [er] at h
          unfold backM at h
          dsimp only at h
          split at h
          · rename_i hb
            intro F' r' H' cls dd x S' rx
            obtain ⟨t, et, e1, e2⟩ := melt_view Si x S' hb.1
            exact h _ _ _ cls dd e1 e2 ⟨rx.1, rx.2.imp id fun ⟨d, ws, z1, z2, z3⟩ => ⟨d, ws, z1, z2, bare_relF hb.2 z3⟩⟩
          · exact h.elim
        | ok d m1 =>
          rw [er] at h
          unfold backM at h
          dsimp only at h
          split at h
          · rename_i hb
            intro F' r' H' v x S' qd
            obtain ⟨t, et, e1, e2⟩ := melt_view Si x S' hb
            split at h
            · rename_i y ey
              refine h _ _ _ v e1 e2 (frzN_rel S' (fun a z => .inl z) (fun i a hi ha => .inr ?_) 200 ey qd)
              rw [et, List.getElem?_append_right (by rw [Si.len]; exact hi)] at ha
              exact List.mem_of_getElem? ha
            · exact h.elim
          · exact h.elim
      | pure =>
        rw [hm] at h
        dsimp only at h
        cases hle : lendAll m ds with
        | none => rw [hle] at h; exact h.elim
        | some xs =>
          rw [hle] at h
          dsimp only at h
          have hfh : ∀ a, plusF F r a → H a ≠ none := fun a z => by
            rcases z with z | z
            · exact Si.fh a z
            · obtain ⟨u, e, _⟩ := Si.here z
              rw [e]
              simp
          have S0 : Sim K N (plusF F r) [] [] H := ⟨List.nodup_nil, rfl, (fun _ z => nomatch z), hfh, fun i o e => by simp at e⟩
          -- what is lent, as data
          have lend_rel : ∀ {ds xs : List D} {vs : List V}, lendAll m ds = some xs → RelL N F r H ds vs → RelL N (plusF F r) [] H xs vs ∧ xs.length = ds.length := by
            intro ds
            induction ds with
            | nil => intro xs vs e q; cases e; exact ⟨q, rfl⟩
            | cons d ds ih =>
              intro xs vs e q
              obtain ⟨v, ws, rfl, q1, q2⟩ := q
              unfold lendAll at e
              split at e
              · rename_i y ys e1 e2
                cases e
                obtain ⟨i1, i2⟩ := ih e2 q2
                refine ⟨⟨v, ws, rfl, ?_, i1⟩, by simp [i2]⟩
                unfold lend at e1
                split at e1
                · rename_i hp
                  cases e1
                  exact pure_rel (fun _ z => .inl z) hp q1
                · split at e1
                  · rename_i hp
                    cases e1
                    exact pure_rel (fun _ z => z) hp (shown_rel Si q1)
                  · exact frz_rel Si 200 e1 q1
              · cases e
          obtain ⟨qx, lx⟩ := lend_rel hle q
          -- lists of data alone: their places
          have lst_rel : ∀ {ds xs : List D} {vs : List V}, lstArgs m ds = true → lendAll m ds = some xs → RelL N F r H ds vs → ∃ rl : List Addr, (∀ a ∈ rl, a ∈ r ∧ ∃ us, H a = some (.lst us)) ∧ RelL N (plusF F rl) [] H xs vs ∧ pureL xs = true := by
            intro ds
            induction ds with
            | nil => intro xs vs _ e q; cases e; exact ⟨[], (fun _ z => nomatch z), q, rfl⟩
            | cons d ds ih =>
              intro xs vs hl e q
              obtain ⟨l1, l2⟩ := and2 (show (lstArg m d && lstArgs m ds) = true from hl)
              obtain ⟨v, ws, rfl, q1, q2⟩ := q
              unfold lendAll at e
              split at e
              · rename_i y ys e1 e2
                cases e
                obtain ⟨rl, i1, i2, i3⟩ := ih l2 e2 q2
                unfold lend at e1
                cases hd : d.pure with
                | true =>
                  rw [if_pos hd] at e1
                  cases e1
                  exact ⟨rl, i1, ⟨v, ws, rfl, pure_rel (fun _ z => .inl z) hd q1, i2⟩, by show (d.pure && pureL ys) = true; rw [hd, i3]; rfl⟩
                | false =>
                  unfold lstArg at l1
                  rw [hd, Bool.false_or] at l1
                  split at l1
                  · rename_i i
                    split at l1
                    · rename_i zs hz
                      have hs : shown m (.ref i) = .lst zs := by
                        show (match m[i]? with | some (.lst xs) => D.lst xs | some (.dK kvs) => D.dK kvs | some (.dT kvs) => D.dT kvs | some (.lk kvs) => D.dK kvs | _ => D.ref i) = _
                        rw [hz]
                      rw [if_neg (by rw [hd]; decide), hs, if_pos (show (D.lst zs).pure = true from l1)] at e1
                      cases e1
                      obtain ⟨a, ha, rfl⟩ := q1
                      obtain ⟨a', ha', ro⟩ := Si.ob i _ hz
                      rw [ha] at ha'
                      cases ha'
                      obtain ⟨us, eu, ru⟩ := ro
                      refine ⟨a :: rl, fun b hb => ?_, ⟨.ref a, ws, rfl, ⟨a, us, rfl, .inr (by simp), .inl eu, pure_relL (fun _ z => .inl z) l1 ru⟩, pure_relL (fun b z => z.imp id fun z => List.mem_cons_of_mem _ z) i3 i2⟩, by show (pureL zs && pureL ys) = true; rw [l1, i3]; rfl⟩
                      rcases List.mem_cons.mp hb with rfl | hb
                      · exact ⟨List.mem_of_getElem? ha, us, eu⟩
                      · exact i1 b hb
                    · cases l1
                  · cases l1
              · cases e
          cases hpu : pureL ds with
          | true =>
            -- nothing is lent
            have ex : xs = ds := by
              have : ∀ {ds xs : List D}, pureL ds = true → lendAll m ds = some xs → xs = ds := by
                intro ds
                induction ds with
                | nil => intro xs _ e; cases e; rfl
                | cons d ds ih =>
                  intro xs p e
                  obtain ⟨p1, p2⟩ := and2 (show (d.pure && pureL ds) = true from p)
                  unfold lendAll at e
                  split at e
                  · rename_i y ys e1 e2
                    cases e
                    rw [ih p2 e2]
                    unfold lend at e1
                    rw [if_pos p1] at e1
                    cases e1; rfl
                  · cases e
              exact this hpu hle
            subst ex
            rw [backQ_pure hpu] at h
            have S1 : Sim K N F [] [] H := ⟨List.nodup_nil, rfl, (fun _ z => nomatch z), Si.fh, fun i o e => by simp at e⟩
            have q1 : RelL N F [] H xs vs := pure_relL (fun _ z => z) hpu q
            refine ⟨F, [], startE fd.ns xs, [], S1, start_env hn (by omega) q1, rsp_of ?_⟩
            show RP K N (RelD N) E F [] H Q (runB T (callF T Fn k) fd xs [])
            -- back in the caller's view
            have back : ∀ F' r' H', Ext F [] H F' r' H' → (∀ a, F' a ∨ a ∈ r' → H' a ≠ none) → Ext F r H (plusF F' r') r H' ∧ Sim K N (plusF F' r') r m H' := fun F' r' H' x hx => by
              have old : ∀ a, plusF F' r' a → F a ∨ H a = none := fun a z => by
                rcases z with z | z
                · rcases x.newF a z with z | z | z
                  · exact .inl z
                  · cases z
                  · exact .inr z
                · rcases x.newR a z with z | z
                  · cases z
                  · exact .inr z
              have e : Ext F r H (plusF F' r') r H' := ⟨fun a o _ e => x.keep a o (fun z => nomatch z) e, x.keepF, x.tups, x.frzs, x.xds, fun a z => .inl (x.mono a z), ⟨[], by simp⟩, fun a z => Or.elim (old a z) (fun z => .inl z) (fun z => .inr (.inr z)), fun a z => .inl z⟩
              refine ⟨e, Si.nd, Si.len, fun a ha z => ?_, fun a z => hx a z, fun i o em => ?_⟩
              · rcases old a z with z | z
                · exact Si.nf a ha z
                · obtain ⟨u, e, _⟩ := Si.here ha
                  rw [e] at z; cases z
              · obtain ⟨a, ha, ro⟩ := Si.ob i o em
                obtain ⟨u, eu, _⟩ := ro.some
                exact ⟨a, ha, ro.ext e ((x.keep a u (fun z => nomatch z) eu).trans eu.symm)⟩
            cases er : runB T (callF T Fn k) fd xs [] with
            | bad => rw [er] at h; exact h.elim
            | exc y m1 =>
              rw [er] at h
              unfold backP at h
              dsimp only at h
              split at h
              · rename_i hb
                intro F' r' H' cls dd x S' rx
                obtain ⟨e1, e2⟩ := back F' r' H' x (fun a z => by
                  rcases z with z | z
                  · exact S'.fh a z
                  · obtain ⟨u, e, _⟩ := S'.here z
                    rw [e]; simp)
                refine h _ _ _ cls dd e1 e2 ⟨rx.1, rx.2.imp id fun ⟨d, ws, z1, z2, z3⟩ => ⟨d, ws, z1, z2, bare_relF hb z3⟩⟩
              · exact h.elim
            | ok d m1 =>
              rw [er] at h
              unfold backP at h
              dsimp only at h
              intro F' r' H' v x S' qd
              split at h
              · rename_i y ey
                rw [show (!true && !(y.bare || apartD m y)) = false from rfl, if_neg Bool.false_ne_true] at h
                obtain ⟨e1, e2⟩ := back F' r' H' x (fun a z => by
                  rcases z with z | z
                  · exact S'.fh a z
                  · obtain ⟨u, e, _⟩ := S'.here z
                    rw [e]; simp)
                exact h _ _ _ v e1 e2 (frz_rel S' 200 ey qd)
              · exact h.elim
          | false =>
            unfold backQ at h
            rw [hpu] at h
            cases hls : lstArgs m ds with
            | true =>
              rw [hls, if_pos (show (!false && true) = true from rfl)] at h
              obtain ⟨rl, hrl, qz, _⟩ := lst_rel hls hle q
              have S1 : Sim K N (plusF F rl) [] [] H := ⟨List.nodup_nil, rfl, (fun _ z => nomatch z), fun a z => hfh a (z.imp id fun z => (hrl a z).1), fun i o e => by simp at e⟩
              refine ⟨plusF F rl, [], startE fd.ns xs, [], S1, start_env hn (by omega) qz, rsp_of ?_⟩
              show RP K N (RelD N) E (plusF F rl) [] H Q (runB T (callF T Fn k) fd xs [])
              have back : ∀ F' r' H', Ext (plusF F rl) [] H F' r' H' → Ext F r H F r H' ∧ Sim K N F r m H' := fun F' r' H' x => by
                have e : Ext F r H F r H' := ⟨fun a o _ e => x.keep a o (fun z => nomatch z) e, fun a o z e => x.keepF a o (.inl z) e, x.tups, x.frzs, x.xds, fun a z => z, ⟨[], by simp⟩, fun a z => .inl z, fun a z => .inl z⟩
                exact ⟨e, Si.grow e fun a ha => by
                  obtain ⟨u, eu, _⟩ := Si.here ha
                  exact (x.keep a u (fun z => nomatch z) eu).trans eu.symm⟩
              cases er : runB T (callF T Fn k) fd xs [] with
              | bad => rw [er] at h; exact h.elim
              | exc y m1 =>
                rw [er] at h
                unfold backL at h
                dsimp only at h
                split at h
                · rename_i hb
                  intro F' r' H' cls dd x S' rx
                  obtain ⟨e1, e2⟩ := back F' r' H' x
                  refine h _ _ _ cls dd e1 e2 ⟨rx.1, rx.2.imp id fun ⟨d, ws, z1, z2, z3⟩ => ⟨d, ws, z1, z2, bare_relF hb z3⟩⟩
                · exact h.elim
              | ok d m1 =>
                rw [er] at h
                unfold backL at h
                dsimp only at h
                intro F' r' H' v x S' qd
                split at h
                · rename_i y ey
                  cases hby : y.bare || (y.pure && !y.hasL) with
                  | false => rw [hby] at h; exact h.elim
                  | true =>
                    rw [hby] at h
                    have qy := frz_rel (r1 := []) S' 200 ey qd
                    cases hb2 : y.bare with
                    | true =>
                      obtain ⟨e1, e2⟩ := back F' r' H' x
                      exact h _ _ _ v e1 e2 (bare_rel hb2 qy)
                    | false =>
                      rw [hb2, Bool.false_or] at hby
                      obtain ⟨a0, a1⟩ := and2 hby
                      have hL : y.hasL = false := by simpa using a1
                      have e1 : Ext F r H (fun a => plusF F' r' a ∧ a ∉ r) r H' := ⟨fun a o _ e => x.keep a o (fun z => nomatch z) e, fun a o z e => x.keepF a o (.inl z) e, x.tups, x.frzs, x.xds,
                        fun a z => ⟨.inl (x.mono a (.inl z)), fun ha => Si.nf a ha z⟩, ⟨[], by simp⟩, fun a z => by
                          obtain ⟨z, nr⟩ := z
                          rcases z with z | z
                          · rcases x.newF a z with (z | z) | z | z
                            · exact .inl z
                            · exact absurd (hrl a z).1 nr
                            · cases z
                            · exact .inr (.inr z)
                          · rcases x.newR a z with z | z
                            · cases z
                            · exact .inr (.inr z), fun a z => .inl z⟩
                      have e2 : Sim K N (fun a => plusF F' r' a ∧ a ∉ r) r m H' := ⟨Si.nd, Si.len, fun a ha z => z.2 ha, fun a z => by
                          rcases z.1 with z | z
                          · exact S'.fh a z
                          · obtain ⟨u, e, _⟩ := S'.here z
                            rw [e]; simp, fun i o em => by
                          obtain ⟨a, ha, ro⟩ := Si.ob i o em
                          obtain ⟨u, eu, _⟩ := ro.some
                          exact ⟨a, ha, ro.ext e1 ((x.keep a u (fun z => nomatch z) eu).trans eu.symm)⟩⟩
                      refine h _ _ _ v e1 e2 (apart_rel (fun a fa w => ⟨fa, fun ha => ?_⟩) a0 hL qy)
                      -- an own place that was lent is a list, and no other one is known inside
                      have lst : ∃ us, H' a = some (.lst us) := by
                        have hne : ¬ H a = none := fun z => by
                          obtain ⟨u, e, _⟩ := Si.here ha
                          rw [e] at z; cases z
                        rcases fa with z | z
                        · rcases x.newF a z with (z | z) | z | z
                          · exact absurd z (Si.nf a ha)
                          · obtain ⟨_, us, e⟩ := hrl a z
                            exact ⟨us, x.keep a _ (fun z => nomatch z) e⟩
                          · cases z
                          · exact absurd z hne
                        · rcases x.newR a z with z | z
                          · cases z
                          · exact absurd z hne
                      obtain ⟨us, eo⟩ := lst
                      rcases w with ⟨w, z | ⟨o, z⟩⟩ | ⟨w, z | ⟨o, z⟩⟩ <;> (rw [eo] at z; cases z)
                · exact h.elim
            | false =>
              rw [hls, if_neg (show ¬ (!false && false) = true from by decide)] at h
              refine ⟨plusF F r, [], startE fd.ns xs, [], S0, start_env hn (by omega) qx, rsp_of ?_⟩
              show RP K N (RelD N) E (plusF F r) [] H Q (runB T (callF T Fn k) fd xs [])
              have back : ∀ F' r' H', Ext (plusF F r) [] H F' r' H' → Ext F r H F r H' ∧ Sim K N F r m H' := fun F' r' H' x => by
                have e : Ext F r H F r H' := ⟨fun a o _ e => x.keep a o (fun z => nomatch z) e, fun a o z e => x.keepF a o (.inl z) e, x.tups, x.frzs, x.xds, fun a z => z, ⟨[], by simp⟩, fun a z => .inl z, fun a z => .inl z⟩
                exact ⟨e, Si.grow e fun a ha => by
                  obtain ⟨u, eu, _⟩ := Si.here ha
                  exact (x.keep a u (fun z => nomatch z) eu).trans eu.symm⟩
              cases er : runB T (callF T Fn k) fd xs [] with
              | bad => rw [er] at h; exact h.elim
              | exc y m1 =>
                rw [er] at h
                unfold backP at h
                dsimp only at h
                split at h
                · rename_i hb
                  intro F' r' H' cls dd x S' rx
                  obtain ⟨e1, e2⟩ := back F' r' H' x
                  refine h _ _ _ cls dd e1 e2 ⟨rx.1, rx.2.imp id fun ⟨d, ws, z1, z2, z3⟩ => ⟨d, ws, z1, z2, bare_relF hb z3⟩⟩
                · exact h.elim
              | ok d m1 =>
                rw [er] at h
                unfold backP at h
                dsimp only at h
                intro F' r' H' v x S' qd
                split at h
                · rename_i y ey
                  cases hby : y.bare || apartD m y with
                  | false => rw [hby] at h; exact h.elim
                  | true =>
                    rw [hby] at h
                    have qy := frz_rel (r1 := []) S' 200 ey qd
                    cases hb2 : y.bare with
                    | true =>
                      obtain ⟨e1, e2⟩ := back F' r' H' x
                      exact h _ _ _ v e1 e2 (bare_rel hb2 qy)
                    | false =>
                      rw [hb2, Bool.false_or] at hby
                      obtain ⟨a0, a12⟩ := and2 (show (y.pure && (!y.hasL && m.all isLstO)) = true from hby)
                      obtain ⟨a1, a2⟩ := and2 a12
                      have hL : y.hasL = false := by simpa using a1
                      -- what lies at our own places
                      have own : ∀ a, a ∈ r → (∃ vs, H' a = some (.lst vs)) ∨ ∃ c dx ws, H' a = some (.ins c dx ws) := fun a ha => by
                        obtain ⟨i, hi⟩ := List.mem_iff_getElem?.mp ha
                        have hl : i < m.length := by
                          have := (List.getElem?_eq_some_iff.mp hi).1
                          rw [← Si.len]; exact this
                        obtain ⟨b, hb, ro⟩ := Si.ob i m[i] (List.getElem?_eq_getElem hl)
                        rw [hi] at hb; cases hb
                        have ml : isLstO m[i] = true := List.all_eq_true.mp a2 _ (List.getElem_mem hl)
                        cases ho : m[i] with
                        | lst xs =>
                          rw [ho] at ro
                          obtain ⟨vs, e, _⟩ := ro
                          exact .inl ⟨vs, x.keep a _ (fun z => nomatch z) e⟩
                        | ins c fs =>
                          rw [ho] at ro
                          obtain ⟨dx, ws, e, _⟩ := ro
                          exact .inr ⟨_, dx, ws, x.keep a _ (fun z => nomatch z) e⟩
                        | dK _ => rw [ho] at ml; cases ml
                        | dT _ => rw [ho] at ml; cases ml
                        | dead => rw [ho] at ml; cases ml
                        | lk _ => rw [ho] at ml; cases ml
                      have e1 : Ext F r H (fun a => plusF F' r' a ∧ a ∉ r) r H' := ⟨fun a o _ e => x.keep a o (fun z => nomatch z) e, fun a o z e => x.keepF a o (.inl z) e, x.tups, x.frzs, x.xds,
                        fun a z => ⟨.inl (x.mono a (.inl z)), fun ha => Si.nf a ha z⟩, ⟨[], by simp⟩, fun a z => by
                          obtain ⟨z, nr⟩ := z
                          rcases z with z | z
                          · rcases x.newF a z with (z | z) | z | z
                            · exact .inl z
                            · exact absurd z nr
                            · cases z
                            · exact .inr (.inr z)
                          · rcases x.newR a z with z | z
                            · cases z
                            · exact .inr (.inr z), fun a z => .inl z⟩
                      have e2 : Sim K N (fun a => plusF F' r' a ∧ a ∉ r) r m H' := ⟨Si.nd, Si.len, fun a ha z => z.2 ha, fun a z => by
                          rcases z.1 with z | z
                          · exact S'.fh a z
                          · obtain ⟨u, e, _⟩ := S'.here z
                            rw [e]; simp, fun i o em => by
                          obtain ⟨a, ha, ro⟩ := Si.ob i o em
                          obtain ⟨u, eu, _⟩ := ro.some
                          exact ⟨a, ha, ro.ext e1 ((x.keep a u (fun z => nomatch z) eu).trans eu.symm)⟩⟩
                      refine h _ _ _ v e1 e2 (apart_rel (fun a fa w => ⟨fa, fun ha => ?_⟩) a0 hL qy)
                      rcases own a ha with ⟨vs, eo⟩ | ⟨c, dx, ws, eo⟩ <;> rcases w with ⟨w, z | ⟨o, z⟩⟩ | ⟨w, z | ⟨o, z⟩⟩ <;> (rw [eo] at z; cases z)
                · exact h.elim
    · exact h.elim
theorem no_fn {f : Addr} {fd : FuncData} {ps : List Str} {k : Nat} : FnOk P w K mg base (L2.CX P w) k f fd ps (spC K N fun _ _ => .bad) :=
  ⟨fun _ _ _ _ ⟨_, _, _, _, _, _, h⟩ => h.elim, fun _ _ _ _ _ _ _ _ _ _ _ _ _ ⟨_, _, _, _, _, _, h⟩ => h.elim⟩
/-- every def keeps the promise that the evaluator tells, to the depth k -/
theorem all_ok {Fn : Nat → Option FD} (defs : ∀ g fd, Fn g = some fd → DefOk K N T S g fd) (facts : Facts K mg N T S) (xis : ∀ c f fs, T.xfs c = some (f :: fs) → fs.length ≤ 800 ∧ XiOk K mg N S c (f :: fs)) : ∀ k g, FnOk P w K mg base (L2.CX P w) (2 * k + 2) (S.fa g) (S.fd g) (S.ps g) (spC K N (callF T Fn k g))
  | 0, g => no_fn
  | k + 1, g => by
    cases e : Fn g with
    | none =>
      have : callF T Fn (k + 1) g = fun _ _ => .bad := by
        funext args m
        show (match Fn g with
          | none => Res.bad
          | some fd => if args.length = fd.np then (match fd.mode with
            | .plain => runB T (callF T Fn k) fd args m
            | .melt => backM m (runB T (callF T Fn k) fd args m)
            | .pure => match lendAll m args with
              | some xs => backQ m args (runB T (callF T Fn k) fd xs [])
              | none => Res.bad) else Res.bad) = _
        rw [e]
      rw [this]
      exact no_fn
    | some fd => exact fn_ok (j := 2 * k + 2) e (defs g fd e) facts (by omega) xis (all_ok defs facts xis k)
end
end Ev
/-! EvS: the end: from the evaluator's answer to the walk. -/
namespace Ev
open PySem L2

/-! ### names of fields -/
def fnL (l : List Str) (i : Nat) : Str := match l[i]? with
  | some x => x
  | none => ⟨#[1114112 + i]⟩
def lowL (l : List Str) : Bool := decide l.Nodup && l.all fun x => x.cps.all (· < 1114112)
theorem low_ne {x : Str} {i : Nat} (h : x.cps.all (· < 1114112) = true) : x ≠ ⟨#[1114112 + i]⟩ := by
  rintro rfl
  simp at h
  omega
theorem fnL_inj {l : List Str} (h : lowL l = true) : ∀ i j, fnL l i = fnL l j → i = j := by
  obtain ⟨h1, h2⟩ := and2 h
  have h1 := of_decide_eq_true h1
  intro i j e
  unfold fnL at e
  cases e1 : l[i]? with
  | some x =>
    cases e2 : l[j]? with
    | some y =>
      rw [e1, e2] at e
      obtain ⟨l1, q1⟩ := List.getElem?_eq_some_iff.mp e1
      obtain ⟨l2, q2⟩ := List.getElem?_eq_some_iff.mp e2
      exact (List.getElem_inj h1).mp (by rw [q1, q2]; exact e)
    | none =>
      rw [e1, e2] at e
      exact absurd e (low_ne (List.all_eq_true.mp h2 x (List.mem_of_getElem? e1)))
  | none =>
    cases e2 : l[j]? with
    | some y =>
      rw [e1, e2] at e
      exact absurd e.symm (low_ne (List.all_eq_true.mp h2 y (List.mem_of_getElem? e2)))
    | none =>
      rw [e1, e2] at e
      have e : (⟨#[1114112 + i]⟩ : Str) = ⟨#[1114112 + j]⟩ := e
      simpa using e
theorem fnL_not {l : List Str} {x : Str} (hx : x.cps.all (· < 1114112) = true) (h : x ∉ l) (i : Nat) : fnL l i ≠ x := by
  intro e
  unfold fnL at e
  cases e1 : l[i]? with
  | some y =>
    rw [e1] at e
    have e : y = x := e
    exact h (e ▸ List.mem_of_getElem? e1)
  | none =>
    rw [e1] at e
    exact low_ne hx e.symm
def nmOf (cl : Nat → Addr) (l : List Str) (h : lowL l = true) : Nm := ⟨cl, fnL l, fnL_inj h⟩

/-! ### lists of facts -/
theorem allN {α : Type} {P : α → Prop} : ∀ p ∈ ([] : List α), P p := fun _ h => nomatch h
theorem allC {α : Type} {P : α → Prop} {a : α} {l : List α} (h : P a) (t : ∀ p ∈ l, P p) : ∀ p ∈ a :: l, P p := fun p hp => by
  rcases List.mem_cons.mp hp with z | z
  · rw [z]; exact h
  · exact t p z
theorem look_mem {α β : Type} [BEq α] [LawfulBEq α] : ∀ {l : List (α × β)} {x : α} {g : β}, l.lookup x = some g → (x, g) ∈ l
  | [], _, _, h => by cases h
  | (k, v) :: l, x, g, h => by
    rw [List.lookup_cons] at h
    cases e : x == k with
    | true =>
      rw [e] at h
      cases h
      rw [eq_of_beq e]
      exact List.mem_cons_self
    | false =>
      rw [e] at h
      exact List.mem_cons_of_mem _ (look_mem h)
theorem look_all {α β : Type} [BEq α] [LawfulBEq α] {P : α → β → Prop} {l : List (α × β)} (h : ∀ p ∈ l, P p.1 p.2) {x : α} {g : β} (e : l.lookup x = some g) : P x g := h _ (look_mem e)
theorem getN {α : Type} {P : Nat → α → Prop} {n : Nat} : ∀ (i : Nat) (x : α), ([] : List α)[i]? = some x → P (i + n) x := fun i x h => by simp at h
theorem getC {α : Type} {P : Nat → α → Prop} {n : Nat} {a : α} {l : List α} (h : P n a) (t : ∀ (i : Nat) (x : α), l[i]? = some x → P (i + (n + 1)) x) : ∀ (i : Nat) (x : α), (a :: l)[i]? = some x → P (i + n) x := fun i x e => by
  cases i with
  | zero =>
    have e : some a = some x := e
    cases e
    rw [Nat.zero_add]
    exact h
  | succ i =>
    have := t i x e
    rw [show i + 1 + n = i + (n + 1) by omega]
    exact this

theorem xc0 {K : PySem.W.Frag} {N : Nm} {S : Stat} {c : Nat} (h1 : PySem.W.excIn K (N.cl c) [.type "ValueError", .type "Exception", .type "BaseException", .type "object"] "ValueError.__new__" = true) (h2 : PySem.W.keepIn K (.ref (N.cl c)) = true)
    (h3 : PySem.W.subIn K (.ref (N.cl c)) (.type "BaseException") = some true) (h4 : PySem.W.typeIn K (.ref (N.cl c)) = some (.type "type")) : XcOk K N S c [] := ⟨h1, h2, h3, h4⟩
theorem xcS {K : PySem.W.Frag} {N : Nm} {S : Stat} {c f : Nat} {fs : List Nat} (h1 : OexC K (N.cl c)) (h2 : PySem.W.findIn K (.ref (N.cl c)) "__init__" = some (some (.ref (S.xa c)))) (h3 : PySem.W.typeIn K (.ref (S.xa c)) = some (.type "function")) (h4 : Binds K (S.xd c) (S.xp c) [])
    (h5 : PySem.W.findIn K (.ref (N.cl c)) "__getattribute__" = some (some (.builtin "BaseException.__getattribute__"))) (h6 : PySem.W.findIn K (.ref (N.cl c)) "__getattr__" = some none) (h7 : PySem.W.hasDictIn K (N.cl c) = true)
    (h8 : ∀ g ∈ f :: fs, PySem.W.findIn K (.ref (N.cl c)) (N.fn g) = some none) : XcOk K N S c (f :: fs) := ⟨h1, h2, h3, h4, h5, h6, h7, h8⟩
theorem allF {α : Type} {P : α → Prop} : ∀ g ∈ ([] : List α), P g := fun _ h => nomatch h
/-! ### the walk -/
theorem ints_rel {N : Nm} {F : Addr → Prop} {r : List Addr} {H : Hp} : ∀ ns : List Int, RelL N F r H (ns.map D.int) (ns.map V.int)
  | [] => rfl
  | n :: ns => ⟨.int n, ns.map V.int, rfl, rfl, ints_rel ns⟩
theorem noLst_of {K : PySem.W.Frag} (h : noLst K = true) {a : Addr} {o : Obj} (e : K.lookup a = some o) : o.cls ≠ .type "list" := by
  have := List.all_eq_true.mp h _ (look_mem e)
  intro z
  rw [z] at this
  simp at this
theorem sp_law {K : PySem.W.Frag} {N : Nm} {g : List D → Mem → Res D} {H : Hp} {a : Addr} {ns : List Int} (hK : noLst K = true) (hS : SqL K H a (ns.map V.int)) (hg : g [.lst (ns.map D.int)] [] = .ok (.bl true) []) :
    spC K N g [.ref a] H (fun v _ => v = .bl true) fun _ _ _ => False := by
  have hR : Rd H a (.lst (ns.map V.int)) := by
    rcases hS with h | ⟨o, its, n, e, c, _⟩
    · exact h
    · exact absurd c (noLst_of hK e)
  refine ⟨fun b => b = a, [], [], [.lst (ns.map D.int)], ⟨List.nodup_nil, rfl, (fun _ z => nomatch z), fun b e => ?_, fun i o e => by simp at e⟩, ⟨_, _, rfl, ⟨a, _, rfl, rfl, hR, ints_rel ns⟩, rfl⟩, ?_⟩
  · subst e
    rcases hR with h | ⟨o, h⟩ <;> (rw [h]; simp)
  · rw [hg]
    exact fun F' r' H' v x S q => q
theorem walk_ev2 {l : PySem.W.OpenLaw} {k : Nat} {q : Program} {loose : List Str} {XP : (Str → Option Value) → Heap → Prop} {YP : World → Heap → Prop} {d : DefRec} {x : Str} {T : Tab} {Fn : Nat → Option FD} {gl : Nat}
    (hn : l.most = some 63) (hdf : d.params.defaults = []) (hr : Room (2 * k + 2) callerA)
    (F : ∀ (w : World) (mg : Str → Option Value) (fa : Addr) (h : Heap), YP w h → h.Ns mainGlobals mg → mg d.name = some (.ref fa) →
      ∃ K : PySem.W.Frag, K.In h ∧ noLst K = true ∧ ∃ (N : Nm) (S : Stat), Facts K mg N T S ∧ (∀ c f fs, T.xfs c = some (f :: fs) → fs.length ≤ 800 ∧ XiOk K mg N S c (f :: fs)) ∧ (∀ g fd, Fn g = some fd → DefOk K N T S g fd) ∧ S.fa gl = fa ∧ S.ps gl = [x] ∧ (∀ (s : Shared) (u : Value), BindsTo s (S.fd gl) ⟨[u], []⟩ [(x, u)]))
    (hg : ∀ ns : List Int, ns.length ≤ 63 → callF T Fn k gl [.lst (ns.map D.int)] [] = .ok (.bl true) []) :
    PySem.W.WalkO q loose XP YP l.row.toRowW d [] (fun f vs => PySem.call f vs) := by
  refine Att.attach_call hn hdf fun w s₀ s₁ mg mb fa o pm cd doc a vs ns G Y ho hd hcd hmg hobj hints hlen hgen => ?_
  obtain ⟨K, KX, hL, N, S, facts, xis, defs, e1, e2, hb⟩ := F w mg fa _ Y G.T.g hmg
  refine law_call (CX := L2.CX l.prog w) (fd := S.fd gl) (x := x) (sp := spC K N (callF T Fn k gl)) KX G.T.g G.T.b G.T.builtins G.T.nolimit hgen hobj hints (Nat.le_trans hlen (by decide)) hr (fun base h1 h2 => ?_) hb (fun H hO hS => sp_law hL hS (hg ns hlen)) fun H e s' z => ?_
  · have := all_ok (P := l.prog) (w := w) (base := base) defs facts xis k gl
    rw [e1, e2] at this
    exact this
  · obtain ⟨_, _, _, _, _, _, _, _, _, _, _, _, z⟩ := z
    exact z
end Ev
namespace Ev
theorem getC_all {α : Type} {P : Nat → α → Prop} {l : List α} (h : ∀ (i : Nat) (x : α), l[i]? = some x → P (i + 0) x) : ∀ (i : Nat) (x : α), l[i]? = some x → P i x := h
end Ev
/-! EvT: helps for the mathematics on the evaluator. -/
namespace Ev
open PySem L2

section
variable {T : Tab} {Fn : Nat → Option FD} {k g : Nat} {fd : FD} {args : List D} {m m1 : Mem}
theorem callP (h : Fn g = some fd) (hm : fd.mode = .plain) (hl : args.length = fd.np) : callF T Fn (k + 1) g args m = (evSs T (callF T Fn k) fd.body (startE fd.ns args) m).res := by
  show (match Fn g with
    | none => Res.bad
    | some fd => if args.length = fd.np then (match fd.mode with
        | .plain => runB T (callF T Fn k) fd args m
        | .melt => backM m (runB T (callF T Fn k) fd args m)
        | .pure => match lendAll m args with
          | some xs => backQ m args (runB T (callF T Fn k) fd xs [])
          | none => Res.bad) else Res.bad) = _
  rw [h]
  dsimp only
  rw [if_pos hl, hm]
  rfl
theorem lend_pure : ∀ {ds : List D}, pureL ds = true → lendAll m ds = some ds
  | [], _ => rfl
  | d :: ds, h => by
    obtain ⟨h1, h2⟩ := and2 (show (d.pure && pureL ds) = true from h)
    unfold lendAll lend
    rw [if_pos h1, lend_pure h2]
theorem callU (h : Fn g = some fd) (hm : fd.mode = .pure) (hl : args.length = fd.np) (hp : pureL args = true) : callF T Fn (k + 1) g args m = backP m false (evSs T (callF T Fn k) fd.body (startE fd.ns args) []).res := by
  show (match Fn g with
    | none => Res.bad
    | some fd => if args.length = fd.np then (match fd.mode with
        | .plain => runB T (callF T Fn k) fd args m
        | .melt => backM m (runB T (callF T Fn k) fd args m)
        | .pure => match lendAll m args with
          | some xs => backQ m args (runB T (callF T Fn k) fd xs [])
          | none => Res.bad) else Res.bad) = _
  rw [h]
  dsimp only
  rw [if_pos hl, hm, lend_pure hp]
  exact backQ_pure hp
theorem frz_pure {n : Nat} {d : D} (h : d.pure = true) : frz m n d = some d := by
  cases n <;> (unfold frz; rw [if_pos h])
theorem back_ok {d : D} (h : d.pure = true) : backP m false (.ok d m1) = .ok d m := by
  unfold backP
  dsimp only
  rw [frz_pure h]
  rfl
theorem mapM_pure {n : Nat} : ∀ {xs : List D}, pureL xs = true → xs.mapM (frz m n) = some xs
  | [], _ => rfl
  | x :: xs, h => by
    obtain ⟨h1, h2⟩ := and2 (show (x.pure && pureL xs) = true from h)
    rw [List.mapM_cons, frz_pure h1, mapM_pure h2]
    rfl
theorem back_lst {a : Nat} {xs : List D} (h : m1[a]? = some (.lst xs)) (hp : pureL xs = true) : backP m false (.ok (.ref a) m1) = .ok (.lst xs) m := by
  have : frz m1 200 (.ref a) = some (.lst xs) := by
    unfold frz
    rw [if_neg (by simp [D.pure])]
    simp only [h, mapM_pure hp]
    rfl
  unfold backP
  dsimp only
  rw [this]
  rfl
end
theorem pureL_ints : ∀ ns : List Int, pureL (ns.map D.int) = true
  | [] => rfl
  | _ :: ns => pureL_ints ns
theorem pureL_append : ∀ {xs ys : List D}, pureL xs = true → pureL ys = true → pureL (xs ++ ys) = true
  | [], _, _, h => h
  | x :: xs, ys, h, g => by
    obtain ⟨h1, h2⟩ := and2 (show (x.pure && pureL xs) = true from h)
    show (x.pure && pureL (xs ++ ys)) = true
    rw [h1, pureL_append h2 g]
    rfl
/-- comprehensions whose element is plain -/
theorem compL_map {elt : D → Mem → Res (Option D)} {f : D → D} {m : Mem} : ∀ {xs acc : List D}, (∀ x ∈ xs, elt x m = .ok (some (f x)) m) → acc.length + xs.length ≤ 16777216 → compL elt xs acc m = .ok (acc ++ xs.map f) m
  | [], acc, _, _ => by simp [compL]
  | x :: xs, acc, h, hl => by
    unfold compL
    rw [h x List.mem_cons_self]
    have hf : fits (acc.length + 1) = true := decide_eq_true (by simp at hl; omega)
    dsimp only
    rw [hf, if_pos rfl]
    rw [compL_map (fun y hy => h y (List.mem_cons_of_mem _ hy)) (by simp at hl ⊢; omega)]
    simp
/-! ### loops, in one form -/
theorem evS_for {T : Tab} {cf : CF} {g : Tg} {it : IT} {b : SSs} {env : Env} {m : Mem} : evS T cf (.for_ g it b) env m = (evI T cf it env m).st env fun its m1 => forR (bodyG g (evSs T cf b)) its 0 env m1 := by
  show (evI T cf it env m).st env _ = (evI T cf it env m).st env _
  congr 1
  funext its m1
  cases its <;> rfl
theorem evE_comp {T : Tab} {cf : CF} {el : SE} {g : Tg} {it : IT} {c : SO} {own : List Nat} {env : Env} {m : Mem} : evE T cf (.comp el g it c own) env m = (evI T cf it env m).bind fun its m1 => compG g own (evC T cf c) (evE T cf el) env its m1 := by
  show (evI T cf it env m).bind _ = (evI T cf it env m).bind _
  congr 1
  funext its m1
  cases its <;> rfl
theorem forR_all {body : D → Env → Mem → SR} {xs : List D} {env : Env} {m : Mem} : forR body (.all xs) 0 env m = forL body xs env m := rfl
theorem bodyG_nm {i : Nat} {fb : Env → Mem → SR} {x : D} {env : Env} {m : Mem} (h : i < env.length) : bodyG (.nm i) fb x env m = fb (env.set i (some x)) m := by
  unfold bodyG setT
  rw [if_pos h]
theorem forL_nx {body : D → Env → Mem → SR} {x : D} {xs : List D} {env e' : Env} {m m' : Mem} (h : body x env m = .ok .nx e' m') : forL body (x :: xs) env m = forL body xs e' m' := by
  show (match body x env m with
    | .ok .nx env' m' => forL body xs env' m'
    | .ok .ct env' m' => forL body xs env' m'
    | .ok .bk env' m' => .ok .nx env' m'
    | q => q) = _
  rw [h]
theorem forL_rt {body : D → Env → Mem → SR} {x d : D} {xs : List D} {env e' : Env} {m m' : Mem} (h : body x env m = .ok (.rt d) e' m') : forL body (x :: xs) env m = .ok (.rt d) e' m' := by
  show (match body x env m with
    | .ok .nx env' m' => forL body xs env' m'
    | .ok .ct env' m' => forL body xs env' m'
    | .ok .bk env' m' => .ok .nx env' m'
    | q => q) = _
  rw [h]
/-- a comprehension over items that stay, its target one name, no test, its element plain -/
theorem comp_map {T : Tab} {cf : CF} {el : SE} {i : Nat} {own : List Nat} {env : Env} {m : Mem} {xs : List D} {f : D → D} (hi : i < env.length) (hl : xs.length ≤ 16777216) (h : ∀ x ∈ xs, evE T cf el ((wipeE env own).set i (some x)) m = .ok (f x) m) :
    compG (.nm i) own (evC T cf .no) (evE T cf el) env (.all xs) m = .ok (.ref m.length) (m ++ [.lst (xs.map f)]) := by
  unfold compG
  show ((compL (eltG (.nm i) own (evC T cf .no) (evE T cf el) env) xs [] m).bind fun ys m2 => new m2 (.lst ys)) = _
  rw [compL_map (f := f) (fun x hx => ?_) (by simpa using hl)]
  · rfl
  · unfold eltG setT
    rw [if_pos (by rw [wipeE_len]; exact hi)]
    show ((Res.ok true m).bind fun b m2 => if b then (evE T cf el ((wipeE env own).set i (some x)) m2).bind fun y m3 => .ok (some y) m3 else .ok none m2) = _
    rw [Res.bind_ok, if_pos rfl, h x hx]
    rfl
/-- while: a step, an end -/
theorem loop_inl {σ ρ : Type} {f : σ → Sum σ ρ} {s s' : σ} (h : f s = .inl s') : loop f s = loop f s' := by
  rw [loop_eq f s, h]
theorem loop_inr {σ ρ : Type} {f : σ → Sum σ ρ} {s : σ} {r : ρ} (h : f s = .inr r) : loop f s = some r := by
  rw [loop_eq f s, h]
theorem whl_on {fc : Env → Mem → Res Bool} {fb : Env → Mem → SR} {env e' : Env} {m m1 m' : Mem} (h1 : fc env m = .ok true m1) (h2 : fb env m1 = .ok .nx e' m') : loop (whlF fc fb) (env, m) = loop (whlF fc fb) (e', m') := by
  refine loop_inl ?_
  unfold whlF
  simp only [h1, h2]
theorem whl_off {fc : Env → Mem → Res Bool} {fb : Env → Mem → SR} {env : Env} {m m1 : Mem} (h1 : fc env m = .ok false m1) : loop (whlF fc fb) (env, m) = some (.ok .nx env m1) := by
  refine loop_inr ?_
  unfold whlF
  simp only [h1]
theorem evS_whl {T : Tab} {cf : CF} {c : SE} {b : SSs} {env : Env} {m : Mem} {r : SR} (h : loop (whlF (evT T cf c) (evSs T cf b)) (env, m) = some r) : evS T cf (.whl c b) env m = r := by
  show (match loop (whlF (evT T cf c) (evSs T cf b)) (env, m) with
    | some r => r
    | none => .bad) = r
  rw [h]
section
variable {T : Tab} {cf : CF} {s : SS} {ss : SSs} {env e' : Env} {m m' : Mem} {d : D}
theorem sNx (h : evS T cf s env m = .ok .nx e' m') : evSs T cf (.cons s ss) env m = evSs T cf ss e' m' := by
  show (evS T cf s env m).then _ = _
  rw [h]
  rfl
theorem sRt (h : evS T cf s env m = .ok (.rt d) e' m') : evSs T cf (.cons s ss) env m = .ok (.rt d) e' m' := by
  show (evS T cf s env m).then _ = _
  rw [h]
  rfl
theorem sNil : evSs T cf .nil env m = .ok .nx env m := rfl
theorem sFor {g : Tg} {it : IT} {b : SSs} {xs : List D} {m1 : Mem} {r : SR} (h1 : evI T cf it env m = .ok (.all xs) m1) (h2 : forL (bodyG g (evSs T cf b)) xs env m1 = r) : evS T cf (.for_ g it b) env m = r := by
  rw [evS_for, h1]
  exact h2
theorem sIf {c : SE} {a b : SSs} {t : Bool} {m1 : Mem} (h : evT T cf c env m = .ok t m1) : evS T cf (.ite c a b) env m = if t then evSs T cf a env m1 else evSs T cf b env m1 := by
  show (evT T cf c env m).st env _ = _
  rw [h]
  rfl
theorem sSet {i : Nat} {e : SE} {m1 : Mem} (h : evE T cf e env m = .ok d m1) (hi : i < env.length) : evS T cf (.asg (.nm i) e) env m = .ok .nx (env.set i (some d)) m1 := by
  show (evE T cf e env m).st env _ = _
  rw [h]
  show optE (setT (.nm i) d env m1) m1 = _
  unfold setT
  rw [if_pos hi]
  rfl
theorem sRet {e : SE} {m1 : Mem} (h : evE T cf e env m = .ok d m1) : evS T cf (.ret e) env m = .ok (.rt d) env m1 := by
  show (evE T cf e env m).st env _ = _
  rw [h]
  rfl
end
end Ev
/-! EvU: more helps: calls by their bodies, loops and comprehensions by an invariant, membership. -/
namespace Ev
open PySem L2
section
variable {T : Tab} {Fn : Nat → Option FD} {k g : Nat} {fd : FD} {args xs : List D} {m m1 : Mem} {d : D}
theorem okU (h : Fn g = some fd) (hm : fd.mode = .pure) (hl : args.length = fd.np) (hp : pureL args = true) (e : (evSs T (callF T Fn k) fd.body (startE fd.ns args) []).res = .ok d m1) (hd : d.pure = true) :
    callF T Fn (k + 1) g args m = .ok d m := by
  rw [callU h hm hl hp, e]
  exact back_ok hd
theorem okUl {a : Nat} {ys : List D} (h : Fn g = some fd) (hm : fd.mode = .pure) (hl : args.length = fd.np) (hp : pureL args = true) (e : (evSs T (callF T Fn k) fd.body (startE fd.ns args) []).res = .ok (.ref a) m1) (ha : m1[a]? = some (.lst ys)) (hd : pureL ys = true) :
    callF T Fn (k + 1) g args m = .ok (.lst ys) m := by
  rw [callU h hm hl hp, e]
  exact back_lst ha hd
theorem okP (h : Fn g = some fd) (hm : fd.mode = .plain) (hl : args.length = fd.np) (e : (evSs T (callF T Fn k) fd.body (startE fd.ns args) m).res = .ok d m1) : callF T Fn (k + 1) g args m = .ok d m1 := by
  rw [callP h hm hl, e]
/-- objects are lent; the answer has none -/
theorem okL (h : Fn g = some fd) (hm : fd.mode = .pure) (hl : args.length = fd.np) (hp : lendAll m args = some xs) (e : (evSs T (callF T Fn k) fd.body (startE fd.ns xs) []).res = .ok d m1) (hd : d.bare = true) (hd2 : d.pure = true) :
    callF T Fn (k + 1) g args m = .ok d m := by
  show (match Fn g with
    | none => Res.bad
    | some fd => if args.length = fd.np then (match fd.mode with
        | .plain => runB T (callF T Fn k) fd args m
        | .melt => backM m (runB T (callF T Fn k) fd args m)
        | .pure => match lendAll m args with
          | some xs => backQ m args (runB T (callF T Fn k) fd xs [])
          | none => Res.bad) else Res.bad) = _
  rw [h]
  dsimp only
  rw [if_pos hl, hm, hp]
  dsimp only
  rw [show runB T (callF T Fn k) fd xs [] = .ok d m1 from e]
  show backQ m args (.ok d m1) = _
  unfold backQ
  split
  · unfold backL
    dsimp only
    rw [frz_pure hd2]
    dsimp only
    rw [hd]
    rfl
  · unfold backP
    dsimp only
    rw [frz_pure hd2]
    dsimp only
    rw [hd]
    cases pureL args <;> rfl
end
/-- what is gone through shows these items, while the objects are as they are -/
structure Shows (its : Ev.Its) (m : Mem) (xs : List D) : Prop where
  at_ : ∀ i, its.at m i = some xs[i]?
  len : lenI its = xs.length
theorem shows_all (xs : List D) (m : Mem) : Shows (.all xs) m xs := ⟨fun _ => rfl, rfl⟩
theorem shows_ref {a : Nat} {m : Mem} {xs : List D} (h : m[a]? = some (.lst xs)) : Shows (.by xs.length (getL a)) m xs := ⟨fun i => by
  show getL a m i = _
  unfold getL
  rw [h], rfl⟩
theorem shows_enum {a : Nat} {m : Mem} {xs : List D} (h : m[a]? = some (.lst xs)) : Shows (.by xs.length (getE a)) m (enumL 0 xs) := ⟨fun i => by
  show getE a m i = _
  unfold getE
  rw [h, enumL_get]
  simp, by
  have hl : ∀ (n : Nat) (ys : List D), (enumL n ys).length = ys.length := fun n ys => by
    induction ys generalizing n with
    | nil => rfl
    | cons y ys ih => show (enumL (n + 1) ys).length + 1 = _; rw [ih]; rfl
  rw [hl]
  rfl⟩
/-- a for loop that always goes on -/
theorem for_inv {body : D → Env → Mem → SR} {its : Ev.Its} {m : Mem} {xs : List D} (S : Shows its m xs) (P : Nat → Env → Prop) (step : ∀ (i : Nat) (x : D) (env : Env), xs[i]? = some x → P i env → ∃ e', body x env m = .ok .nx e' m ∧ P (i + 1) e') :
    ∀ (n i : Nat) (env : Env), xs.length = i + n → P i env → ∃ e', forR body its i env m = .ok .nx e' m ∧ P xs.length e'
  | 0, i, env, hn, hp => by
    have hi : i = xs.length := by omega
    subst hi
    refine ⟨env, ?_, hp⟩
    have hat := S.at_ xs.length
    rw [List.getElem?_eq_none (Nat.le_refl _)] at hat
    cases its with
    | all ys =>
      have : ys.length = xs.length := S.len
      show forL body (ys.drop xs.length) env m = _
      rw [← this, List.drop_length]
      rfl
    | «by» q get =>
      have : q = xs.length := S.len
      show forB get body (q - xs.length) xs.length env m = _
      rw [this, Nat.sub_self]
      show (match get m xs.length with
        | some none => SR.ok .nx env m
        | _ => .bad) = _
      rw [show get m xs.length = some none from hat]
  | n + 1, i, env, hn, hp => by
    have hi : i < xs.length := by omega
    have hx := List.getElem?_eq_getElem hi
    obtain ⟨e1, he, hp1⟩ := step i xs[i] env hx hp
    obtain ⟨e2, h2, hp2⟩ := for_inv S P step n (i + 1) e1 (by omega) hp1
    refine ⟨e2, ?_, hp2⟩
    have hat := S.at_ i
    rw [hx] at hat
    rw [← h2]
    rcases forR_step body its i env m (by rw [S.len]; omega) with ⟨q, _⟩ | q | ⟨_, x, q1, q2⟩
    · rw [hat] at q; cases q
    · -- stuck only where nothing is shown
      cases its with
      | all ys =>
        have hy : ys[i]? = some xs[i] := Option.some.inj hat
        obtain ⟨hyl, hye⟩ := List.getElem?_eq_some_iff.mp hy
        show forL body (ys.drop i) env m = forL body (ys.drop (i + 1)) e1 m
        rw [List.drop_eq_getElem_cons hyl, hye]
        exact forL_nx he
      | «by» r get =>
        have hr : r = xs.length := S.len
        have hg : get m i = some (some xs[i]) := hat
        obtain ⟨j, hj⟩ : ∃ j, r - i = j + 1 := ⟨r - i - 1, by omega⟩
        have hj2 : r - (i + 1) = j := by omega
        show forB get body (r - i) i env m = forB get body (r - (i + 1)) (i + 1) e1 m
        rw [hj, hj2]
        show (match get m i with
          | none => SR.bad
          | some none => .bad
          | some (some x) => match body x env m with
            | .ok .nx env' m' => forB get body j (i + 1) env' m'
            | .ok .ct env' m' => forB get body j (i + 1) env' m'
            | .ok .bk env' m' => .ok .nx env' m'
            | q => q) = _
        rw [hg]
        dsimp only
        rw [he]
    · rw [hat] at q1
      cases q1
      rw [q2, he]
/-- a comprehension whose elements leave all as it is -/
theorem comp_inv {elt : D → Mem → Res (Option D)} {its : Ev.Its} {m : Mem} {xs : List D} {o : D → Option D} (S : Shows its m xs) (h : ∀ (i : Nat) (x : D), xs[i]? = some x → elt x m = .ok (o x) m) (hl : xs.length ≤ 16777216) :
    ∀ (n i : Nat) (acc : List D), xs.length = i + n → acc.length ≤ i → compR elt its i acc m = .ok (acc ++ (xs.drop i).filterMap o) m
  | 0, i, acc, hn, ha => by
    have hi : i = xs.length := by omega
    subst hi
    rw [List.drop_length, List.filterMap_nil, List.append_nil]
    have hat := S.at_ xs.length
    rw [List.getElem?_eq_none (Nat.le_refl _)] at hat
    cases its with
    | all ys =>
      have : ys.length = xs.length := S.len
      show compL elt (ys.drop xs.length) acc m = _
      rw [← this, List.drop_length]
      rfl
    | «by» q get =>
      have : q = xs.length := S.len
      show compB get elt (q - xs.length) xs.length acc m = _
      rw [this, Nat.sub_self]
      show (match get m xs.length with
        | some none => Res.ok acc m
        | _ => .bad) = _
      rw [show get m xs.length = some none from hat]
  | n + 1, i, acc, hn, ha => by
    have hi : i < xs.length := by omega
    have hx := List.getElem?_eq_getElem hi
    have he := h i xs[i] hx
    have hat := S.at_ i
    rw [hx] at hat
    have hf : fits (acc.length + 1) = true := decide_eq_true (by omega)
    have nxt : (match elt xs[i] m with
      | .ok (some y) m' => if fits (acc.length + 1) then compR elt its (i + 1) (acc ++ [y]) m' else .bad
      | .ok none m' => compR elt its (i + 1) acc m'
      | _ => .bad) = Res.ok (acc ++ (xs.drop i).filterMap o) m := by
      rw [he, List.drop_eq_getElem_cons hi]
      cases eo : o xs[i] with
      | none =>
        dsimp only
        rw [comp_inv S h hl n (i + 1) acc (by omega) (by omega), List.filterMap_cons_none eo]
      | some y =>
        dsimp only
        rw [hf, if_pos rfl, comp_inv S h hl n (i + 1) (acc ++ [y]) (by omega) (by simp; omega), List.filterMap_cons_some eo]
        simp
    rw [← nxt]
    cases its with
    | all ys =>
      have hy : ys[i]? = some xs[i] := Option.some.inj hat
      obtain ⟨hyl, hye⟩ := List.getElem?_eq_some_iff.mp hy
      show compL elt (ys.drop i) acc m = _
      rw [List.drop_eq_getElem_cons hyl, hye]
      rfl
    | «by» r get =>
      have hr : r = xs.length := S.len
      have hg : get m i = some (some xs[i]) := hat
      obtain ⟨j, hj⟩ : ∃ j, r - i = j + 1 := ⟨r - i - 1, by omega⟩
      have hj2 : r - (i + 1) = j := by omega
      show compB get elt (r - i) i acc m = (match elt xs[i] m with
        | .ok (some y) m' => if fits (acc.length + 1) then compB get elt (r - (i + 1)) (i + 1) (acc ++ [y]) m' else .bad
        | .ok none m' => compB get elt (r - (i + 1)) (i + 1) acc m'
        | _ => .bad)
      rw [hj, hj2]
      show (match get m i with
        | none => Res.bad
        | some none => .bad
        | some (some x) => match elt x m with
          | .ok (some y) m' => if fits (acc.length + 1) then compB get elt j (i + 1) (acc ++ [y]) m' else .bad
          | .ok none m' => compB get elt j (i + 1) acc m'
          | _ => .bad) = _
      rw [hg]
/-- membership among texts, among pairs of texts -/
theorem anyEq_strs (t : Str) : ∀ ls : List Str, anyEq (.str t) (ls.map D.str) = some (decide (t ∈ ls))
  | [] => rfl
  | s :: ls => by
    show (match eqN (.str s) (.str t), anyEq (.str t) (ls.map D.str) with
      | some a, some b => some (a || b)
      | _, _ => none) = _
    rw [anyEq_strs t ls, show eqN (.str s) (.str t) = some (decide (s = t)) from rfl]
    dsimp only
    by_cases h : s = t
    · subst h; simp
    · have h2 : ¬ t = s := fun z => h z.symm
      simp [h, h2]
theorem anyEq_pairs (a b : Str) : ∀ ls : List (Str × Str), anyEq (.tup [.str a, .str b]) (ls.map fun p => D.tup [.str p.1, .str p.2]) = some (decide ((a, b) ∈ ls))
  | [] => rfl
  | (c, d) :: ls => by
    show (match eqN (.tup [.str c, .str d]) (.tup [.str a, .str b]), anyEq (.tup [.str a, .str b]) (ls.map fun p => D.tup [.str p.1, .str p.2]) with
      | some a, some b => some (a || b)
      | _, _ => none) = _
    rw [anyEq_pairs a b ls, show eqN (.tup [.str c, .str d]) (.tup [.str a, .str b]) = some ((decide (c = a) && (decide (d = b) && true)) && true) from rfl]
    dsimp only
    by_cases h : c = a
    · subst h
      by_cases h2 : d = b
      · subst h2; simp
      · have h3 : ¬ b = d := fun z => h2 z.symm
        simp [h2, h3]
    · have h2 : ¬ a = c := fun z => h z.symm
      simp [h, h2]
end Ev
/-! EvV: comprehensions whose elements are told by a property. -/
namespace Ev
open PySem L2
theorem compG_ok {g : Tg} {own : List Nat} {fc : Env → Mem → Res Bool} {fe : Env → Mem → Res D} {env : Env} {its : Ev.Its} {m : Mem} {xs : List D} {o : D → Option D} (S : Shows its m xs) (hl : xs.length ≤ 16777216) (h : ∀ x ∈ xs, eltG g own fc fe env x m = .ok (o x) m) :
    compG g own fc fe env its m = .ok (.ref m.length) (m ++ [.lst (xs.filterMap o)]) := by
  unfold compG
  rw [comp_inv S (o := o) (fun i x hx => h x (List.mem_of_getElem? hx)) hl xs.length 0 [] (by omega) (by simp)]
  rfl
theorem filterMap_some {α β : Type} (f : α → β) : ∀ xs : List α, xs.filterMap (fun x => some (f x)) = xs.map f
  | [] => rfl
  | x :: xs => by
    show f x :: xs.filterMap (fun x => some (f x)) = _
    rw [filterMap_some f xs]; rfl
theorem eltG_nm {T : Tab} {cf : CF} {el : SE} {i : Nat} {own : List Nat} {env : Env} {m : Mem} {x y : D} (hi : i < env.length) (h : evE T cf el ((wipeE env own).set i (some x)) m = .ok y m) :
    eltG (.nm i) own (evC T cf .no) (evE T cf el) env x m = .ok (some y) m := by
  unfold eltG setT
  rw [if_pos (by rw [wipeE_len]; exact hi)]
  show ((Res.ok true m).bind fun b m2 => if b then (evE T cf el ((wipeE env own).set i (some x)) m2).bind fun y m3 => .ok (some y) m3 else .ok none m2) = _
  rw [Res.bind_ok, if_pos rfl, h]
  rfl
/-- elements by a function -/
theorem comp_fn {T : Tab} {cf : CF} {el : SE} {it : IT} {i : Nat} {own : List Nat} {env : Env} {m m1 : Mem} {its : Ev.Its} {xs : List D} {f : D → D} (hit : evI T cf it env m = .ok its m1) (S : Shows its m1 xs) (hi : i < env.length) (hl : xs.length ≤ 16777216)
    (h : ∀ x ∈ xs, evE T cf el ((wipeE env own).set i (some x)) m1 = .ok (f x) m1) : evE T cf (.comp el (.nm i) it .no own) env m = .ok (.ref m1.length) (m1 ++ [.lst (xs.map f)]) := by
  rw [evE_comp, hit, Res.bind_ok, compG_ok S (o := fun x => some (f x)) hl (fun x hx => eltG_nm hi (h x hx)), filterMap_some]
theorem map_of {α : Type} {g : α → D} {Q : α → Prop} {f : D → D} : ∀ xs : List D, (∀ x ∈ xs, ∃ a, Q a ∧ f x = g a) → ∃ l : List α, l.length = xs.length ∧ (∀ a ∈ l, Q a) ∧ xs.map f = l.map g
  | [], _ => ⟨[], rfl, fun _ h => absurd h List.not_mem_nil, rfl⟩
  | x :: xs, h => by
    obtain ⟨a, qa, ea⟩ := h x List.mem_cons_self
    obtain ⟨l, e1, e2, e3⟩ := map_of xs fun y hy => h y (List.mem_cons_of_mem _ hy)
    refine ⟨a :: l, by simp [e1], fun b hb => ?_, by rw [List.map_cons, List.map_cons, ea, e3]⟩
    rcases List.mem_cons.mp hb with rfl | hb
    · exact qa
    · exact e2 b hb
/-- elements by a property -/
theorem comp_ex {α : Type} {g : α → D} {Q : α → Prop} {T : Tab} {cf : CF} {el : SE} {it : IT} {i : Nat} {own : List Nat} {env : Env} {m m1 : Mem} {its : Ev.Its} {xs : List D} (hit : evI T cf it env m = .ok its m1) (S : Shows its m1 xs) (hi : i < env.length) (hl : xs.length ≤ 16777216)
    (h : ∀ x ∈ xs, ∃ a, Q a ∧ evE T cf el ((wipeE env own).set i (some x)) m1 = .ok (g a) m1) : ∃ l : List α, l.length = xs.length ∧ (∀ a ∈ l, Q a) ∧ evE T cf (.comp el (.nm i) it .no own) env m = .ok (.ref m1.length) (m1 ++ [.lst (l.map g)]) := by
  classical
  let f : D → D := fun x => if h : ∃ a, Q a ∧ evE T cf el ((wipeE env own).set i (some x)) m1 = .ok (g a) m1 then g h.choose else .non
  have hf : ∀ x ∈ xs, ∃ a, Q a ∧ f x = g a ∧ evE T cf el ((wipeE env own).set i (some x)) m1 = .ok (g a) m1 := fun x hx => by
    have hh := h x hx
    exact ⟨hh.choose, hh.choose_spec.1, dif_pos hh, hh.choose_spec.2⟩
  obtain ⟨l, e1, e2, e3⟩ := map_of (g := g) (Q := Q) (f := f) xs fun x hx => by
    obtain ⟨a, qa, ea, _⟩ := hf x hx
    exact ⟨a, qa, ea⟩
  refine ⟨l, e1, e2, ?_⟩
  rw [← e3]
  exact comp_fn hit S hi hl fun x hx => by
    obtain ⟨a, _, ea, h⟩ := hf x hx
    rw [ea, h]
theorem fmap_of {α : Type} {g : α → D} {Q : α → Prop} {f : D → Option D} : ∀ xs : List D, (∀ x ∈ xs, f x = none ∨ ∃ a, Q a ∧ f x = some (g a)) → ∃ l : List α, l.length ≤ xs.length ∧ (∀ a ∈ l, Q a) ∧ xs.filterMap f = l.map g
  | [], _ => ⟨[], Nat.le_refl _, fun _ h => absurd h List.not_mem_nil, rfl⟩
  | x :: xs, h => by
    obtain ⟨l, e1, e2, e3⟩ := fmap_of xs fun y hy => h y (List.mem_cons_of_mem _ hy)
    rcases h x List.mem_cons_self with e | ⟨a, qa, ea⟩
    · exact ⟨l, by simp; omega, e2, by rw [List.filterMap_cons_none e, e3]⟩
    · refine ⟨a :: l, by simp; omega, fun b hb => ?_, by rw [List.filterMap_cons_some ea, List.map_cons, e3]⟩
      rcases List.mem_cons.mp hb with rfl | hb
      · exact qa
      · exact e2 b hb
/-- some of the elements, by a property -/
theorem comp_some {α : Type} {g : α → D} {Q : α → Prop} {T : Tab} {cf : CF} {el : SE} {it : IT} {t : Tg} {c : SO} {own : List Nat} {env : Env} {m m1 : Mem} {its : Ev.Its} {xs : List D} (hit : evI T cf it env m = .ok its m1) (S : Shows its m1 xs) (hl : xs.length ≤ 16777216)
    (h : ∀ x ∈ xs, eltG t own (evC T cf c) (evE T cf el) env x m1 = .ok none m1 ∨ ∃ a, Q a ∧ eltG t own (evC T cf c) (evE T cf el) env x m1 = .ok (some (g a)) m1) : ∃ l : List α, l.length ≤ xs.length ∧ (∀ a ∈ l, Q a) ∧ evE T cf (.comp el t it c own) env m = .ok (.ref m1.length) (m1 ++ [.lst (l.map g)]) := by
  classical
  let f : D → Option D := fun x => if h : ∃ a, Q a ∧ eltG t own (evC T cf c) (evE T cf el) env x m1 = .ok (some (g a)) m1 then some (g h.choose) else none
  have hf : ∀ x ∈ xs, eltG t own (evC T cf c) (evE T cf el) env x m1 = .ok (f x) m1 ∧ (f x = none ∨ ∃ a, Q a ∧ f x = some (g a)) := fun x hx => by
    by_cases hh : ∃ a, Q a ∧ eltG t own (evC T cf c) (evE T cf el) env x m1 = .ok (some (g a)) m1
    · have e : f x = some (g hh.choose) := dif_pos hh
      rw [e]
      exact ⟨hh.choose_spec.2, .inr ⟨_, hh.choose_spec.1, rfl⟩⟩
    · have e : f x = none := dif_neg hh
      rw [e]
      rcases h x hx with e1 | e1
      · exact ⟨e1, .inl rfl⟩
      · exact absurd e1 hh
  obtain ⟨l, e1, e2, e3⟩ := fmap_of (g := g) (Q := Q) (f := f) xs fun x hx => (hf x hx).2
  refine ⟨l, e1, e2, ?_⟩
  rw [evE_comp, hit, Res.bind_ok, compG_ok S (o := f) hl (fun x hx => (hf x hx).1), e3]
end Ev
/-! EvW: things equal to themselves; memory; loops over any items by an invariant over growing memory. -/
namespace Ev
open PySem L2
mutual
def D.eqv : D → Bool
  | .non => true | .bl _ => true | .int _ => true | .str _ => true
  | .tup xs => eqvL xs | .lst xs => eqvL xs | .dK kvs => eqvK kvs && decide (kvs.map (·.1)).Nodup
  | _ => false
def eqvL : List D → Bool
  | [] => true
  | x :: xs => x.eqv && eqvL xs
def eqvK : List (Key × D) → Bool
  | [] => true
  | (_, x) :: xs => x.eqv && eqvK xs
end
theorem lookK_mem {κ : Type} [DecidableEq κ] : ∀ {kvs : List (κ × D)} {k : κ} {x : D}, (kvs.map (·.1)).Nodup → (k, x) ∈ kvs → lookK kvs k = some x
  | (q, y) :: r, k, x, hn, h => by
    rw [List.map_cons, List.nodup_cons] at hn
    unfold lookK
    rcases List.mem_cons.mp h with e | h
    · cases e; rw [if_pos rfl]
    · rw [if_neg fun e => hn.1 (by rw [e]; exact List.mem_map.mpr ⟨_, h, rfl⟩)]
      exact lookK_mem hn.2 h
mutual
theorem eqD_self : ∀ {x : D}, x.eqv = true → eqD x x = some true
  | .non, _ => rfl
  | .bl b, _ => by show some (b == b) = _; simp
  | .int i, _ => by show some (decide (i = i)) = _; simp
  | .str s, _ => by show some (decide (s = s)) = _; simp
  | .tup xs, h => by
    show (eqL xs xs).map _ = _
    rw [eqL_self (show eqvL xs = true from h)]
    simp
  | .lst xs, h => by
    show (if xs.length = xs.length then eqL xs xs else some false) = _
    rw [if_pos rfl, eqL_self (show eqvL xs = true from h)]
  | .dK kvs, h => by
    obtain ⟨h1, h2⟩ := and2 (show (eqvK kvs && decide (kvs.map (·.1)).Nodup) = true from h)
    show (eqK kvs kvs).map _ = _
    rw [eqK_self h1 fun k x hx => lookK_mem (of_decide_eq_true h2) hx]
    simp
theorem eqL_self : ∀ {xs : List D}, eqvL xs = true → eqL xs xs = some true
  | [], _ => rfl
  | x :: xs, h => by
    obtain ⟨h1, h2⟩ := and2 (show (x.eqv && eqvL xs) = true from h)
    show (match eqD x x, eqL xs xs with
      | some a, some b => some (a && b)
      | _, _ => none) = _
    rw [eqD_self h1, eqL_self h2]
    rfl
theorem eqK_self : ∀ {xs ys : List (Key × D)}, eqvK xs = true → (∀ k x, (k, x) ∈ xs → lookK ys k = some x) → eqK xs ys = some true
  | [], _, _, _ => rfl
  | (k, x) :: xs, ys, h, hl => by
    obtain ⟨h1, h2⟩ := and2 (show (x.eqv && eqvK xs) = true from h)
    show (match lookK ys k with
      | none => (eqK xs ys).map fun _ => false
      | some y => match eqD x y, eqK xs ys with
        | some a, some b => some (a && b)
        | _, _ => none) = _
    rw [hl k x List.mem_cons_self]
    dsimp only
    rw [eqD_self h1, eqK_self h2 fun k x hx => hl k x (List.mem_cons_of_mem _ hx)]
    rfl
end
theorem eqT_self {x : D} (h : x.eqv = true) (hd : x.depth ≤ 150) : eqT x x = some true := by
  unfold eqT
  rw [if_pos hd]
  exact eqD_self h
theorem eqv_strs : ∀ ls : List Str, eqvL (ls.map D.str) = true
  | [] => rfl
  | _ :: ls => eqv_strs ls
theorem depth_strs : ∀ ls : List Str, depthL (ls.map D.str) = 0
  | [] => rfl
  | _ :: ls => by
    show max 0 (depthL (ls.map D.str)) = 0
    rw [depth_strs ls]; rfl
/-! ### what a datum shows -/
section
variable {m : Mem}
@[simp] theorem sh_non : shown m .non = .non := rfl
@[simp] theorem sh_bl {b : Bool} : shown m (.bl b) = .bl b := rfl
@[simp] theorem sh_int {i : Int} : shown m (.int i) = .int i := rfl
@[simp] theorem sh_str {z : Str} : shown m (.str z) = .str z := rfl
@[simp] theorem sh_tup {xs : List D} : shown m (.tup xs) = .tup xs := rfl
@[simp] theorem sh_lst {xs : List D} : shown m (.lst xs) = .lst xs := rfl
@[simp] theorem sh_dK {xs : List (Key × D)} : shown m (.dK xs) = .dK xs := rfl
@[simp] theorem sh_dT {xs : List (List Key × D)} : shown m (.dT xs) = .dT xs := rfl
@[simp] theorem sh_ref {a : Nat} : shown m (.ref a) = match m[a]? with
    | some (.lst xs) => .lst xs
    | some (.dK kvs) => .dK kvs
    | some (.dT kvs) => .dT kvs
    | some (.lk kvs) => .dK kvs
    | _ => .ref a := rfl
theorem sh_pure {d : D} (h : d.pure = true) : shown m d = d := by cases d <;> first | rfl | cases h
end
/-! ### dicts -/
section
variable {κ : Type} [DecidableEq κ]
theorem lookK_put : ∀ (kvs : List (κ × D)) (k q : κ) (x : D), lookK (putK kvs k x) q = if q = k then some x else lookK kvs q := by
  have h1 : ∀ (kvs : List (κ × D)) (k q : κ) (x : D), lookK (kvs ++ [(k, x)]) q = match lookK kvs q with | some y => some y | none => if q = k then some x else none := by
    intro kvs k q x
    induction kvs with
    | nil =>
      show (if k = q then some x else none) = if q = k then some x else none
      by_cases h : q = k
      · rw [if_pos h.symm, if_pos h]
      · rw [if_neg fun e => h e.symm, if_neg h]
    | cons p r ih =>
      obtain ⟨a, y⟩ := p
      show (if a = q then some y else lookK (r ++ [(k, x)]) q) = match (if a = q then some y else lookK r q) with | some y => some y | none => if q = k then some x else none
      by_cases h : a = q
      · rw [if_pos h, if_pos h]
      · rw [if_neg h, if_neg h, ih]
  have h2 : ∀ (kvs : List (κ × D)) (k q : κ) (x : D), (kvs.any fun kv => decide (kv.1 = k)) = true → lookK (kvs.map fun kv => if kv.1 = k then (kv.1, x) else kv) q = if q = k then some x else lookK kvs q := by
    intro kvs k q x
    induction kvs with
    | nil => intro h; cases h
    | cons p r ih =>
      obtain ⟨a, y⟩ := p
      intro h
      by_cases ha : a = k
      · subst ha
        simp only [List.map_cons, if_true]
        show (if a = q then some x else lookK _ q) = if q = a then some x else (if a = q then some y else lookK r q)
        by_cases hq : a = q
        · rw [if_pos hq, if_pos hq.symm]
        · rw [if_neg hq, if_neg fun e => hq e.symm, if_neg hq]
          by_cases hr : (r.any fun kv => decide (kv.1 = a)) = true
          · rw [ih hr, if_neg fun e => hq e.symm]
          · have : (r.map fun kv => if kv.1 = a then (kv.1, x) else kv) = r := by
              conv => rhs; rw [← List.map_id r]
              refine List.map_congr_left fun kv hkv => ?_
              rw [if_neg]; rfl
              intro e
              exact hr (List.any_eq_true.mpr ⟨kv, hkv, decide_eq_true e⟩)
            rw [this]
      · have hr : (r.any fun kv => decide (kv.1 = k)) = true := by
          rw [List.any_cons, decide_eq_false ha, Bool.false_or] at h
          exact h
        simp only [List.map_cons, if_neg ha]
        show (if a = q then some y else lookK _ q) = if q = k then some x else (if a = q then some y else lookK r q)
        by_cases hq : a = q
        · rw [if_pos hq, if_pos hq, if_neg fun e => ha (hq.trans e)]
        · rw [if_neg hq, if_neg hq, ih hr]
  intro kvs k q x
  unfold putK
  by_cases h : (kvs.any fun kv => decide (kv.1 = k)) = true
  · rw [if_pos h]; exact h2 kvs k q x h
  · rw [if_neg h, h1]
    by_cases hq : q = k
    · subst hq
      rw [if_pos rfl]
      have : lookK kvs q = none := by
        clear h1 h2
        induction kvs with
        | nil => rfl
        | cons p r ih =>
          obtain ⟨a, y⟩ := p
          rw [List.any_cons, Bool.or_eq_true, not_or] at h
          unfold lookK
          rw [if_neg fun e => h.1 (decide_eq_true e)]
          exact ih h.2
      simp [this]
    · cases lookK kvs q with
      | none => simp [hq]
      | some y => simp [hq]
theorem putK_len (kvs : List (κ × D)) (k : κ) (x : D) : (putK kvs k x).length ≤ kvs.length + 1 := by
  unfold putK
  split <;> simp
end
/-! ### memory -/
theorem mem_app {m l : Mem} {a : Nat} {o : O} (h : m[a]? = some o) : (m ++ l)[a]? = some o := by
  rw [List.getElem?_append_left (List.getElem?_eq_some_iff.mp h).1]
  exact h
theorem mem_new {m : Mem} {o : O} : (m ++ [o])[m.length]? = some o := by simp
theorem mem_lt {m : Mem} {a : Nat} {o : O} (h : m[a]? = some o) : a < m.length := (List.getElem?_eq_some_iff.mp h).1
theorem mem_set_ne {m : Mem} {a b : Nat} {o o' : O} (h : m[a]? = some o) (hb : b ≠ a) : (m.set b o')[a]? = some o := by
  rw [List.getElem?_set_ne hb]
  exact h
theorem mem_set {m : Mem} {a : Nat} {o o' : O} (h : m[a]? = some o) : (m.set a o')[a]? = some o' := by
  rw [List.getElem?_set_self (mem_lt h)]
/-- for, over items that stay: by an invariant over what is gone and the state; a body may return -/
theorem forL_wp {body : D → Env → Mem → SR} (P : Nat → Env → Mem → Prop) (R : SR → Prop) : ∀ {xs : List D} {i : Nat} {env : Env} {m : Mem}, P i env m →
    (∀ (j : Nat) (x : D) (env : Env) (m : Mem), xs[j]? = some x → P (i + j) env m → (∃ e' m', body x env m = .ok .nx e' m' ∧ P (i + j + 1) e' m') ∨ ((∃ d e' m', body x env m = .ok (.rt d) e' m') ∧ R (body x env m)) ∨ ((∃ y e' m', body x env m = .exc y e' m') ∧ R (body x env m))) →
    (∃ e' m', forL body xs env m = .ok .nx e' m' ∧ P (i + xs.length) e' m') ∨ R (forL body xs env m)
  | [], i, env, m, h, _ => .inl ⟨env, m, rfl, h⟩
  | x :: xs, i, env, m, h, st => by
    rcases st 0 x env m rfl h with ⟨e', m', e, p⟩ | ⟨⟨d, e', m', e⟩, r⟩ | ⟨⟨y, e', m', e⟩, r⟩
    · rw [forL_nx e]
      have := forL_wp P R (xs := xs) (i := i + 1) p fun j y env m hj hp => by
        have := st (j + 1) y env m (by simpa using hj) (by rw [show i + (j + 1) = i + 1 + j by omega]; exact hp)
        rw [show i + (j + 1) + 1 = i + 1 + j + 1 by omega] at this
        exact this
      rw [List.length_cons, show i + (xs.length + 1) = i + 1 + xs.length by omega]
      exact this
    · right
      rw [forL_rt e, ← e]
      exact r
    · right
      have : forL body (x :: xs) env m = body x env m := by
        show (match body x env m with
          | .ok .nx env' m' => forL body xs env' m'
          | .ok .ct env' m' => forL body xs env' m'
          | .ok .bk env' m' => .ok .nx env' m'
          | q => q) = _
        rw [e]
      rw [this]
      exact r
/-- .. where the body never returns -/
theorem forL_go {body : D → Env → Mem → SR} (P : Nat → Env → Mem → Prop) {xs : List D} {env : Env} {m : Mem} (h : P 0 env m)
    (st : ∀ (j : Nat) (x : D) (env : Env) (m : Mem), xs[j]? = some x → P j env m → ∃ e' m', body x env m = .ok .nx e' m' ∧ P (j + 1) e' m') : ∃ e' m', forL body xs env m = .ok .nx e' m' ∧ P xs.length e' m' := by
  rcases forL_wp P (fun _ => False) (i := 0) h (fun j x env m hj hp => .inl (by
    rw [Nat.zero_add] at hp ⊢
    exact st j x env m hj hp)) with z | z
  · rw [Nat.zero_add] at z; exact z
  · exact z.elim
theorem rng_at {n j : Nat} {x : D} (h : (rngL 0 n)[j]? = some x) : x = .int j ∧ j < n := by
  unfold rngL at h
  rw [List.getElem?_map] at h
  cases e : (List.range n)[j]? with
  | none => rw [e] at h; cases h
  | some k =>
    rw [e] at h
    obtain ⟨h1, h2⟩ := List.getElem?_eq_some_iff.mp e
    rw [List.getElem_range] at h2
    subst h2
    rw [List.length_range] at h1
    refine ⟨?_, h1⟩
    have := Option.some.inj h
    rw [← this]
    show D.int (0 + _) = _
    rw [Int.zero_add]
theorem rngL_len {lo : Int} {n : Nat} : (rngL lo n).length = n := by simp [rngL]
/-! ### a def's own dict, handed back -/
theorem mapM_pureK {m : Mem} {n : Nat} {κ : Type} : ∀ {xs : List (κ × D)}, (∀ p ∈ xs, p.2.pure = true) → xs.mapM (fun p => (frz m n p.2).map fun d => (p.1, d)) = some xs
  | [], _ => rfl
  | x :: xs, h => by
    rw [List.mapM_cons, frz_pure (h x List.mem_cons_self)]
    show (do let r ← xs.mapM (fun (p : κ × D) => (frz m n p.2).map fun d => (p.1, d)); pure ((x.1, x.2) :: r)) = _
    rw [mapM_pureK fun p hp => h p (List.mem_cons_of_mem _ hp)]
    rfl
theorem pureK_mem : ∀ {kvs : List (Key × D)}, pureK kvs = true → ∀ p ∈ kvs, p.2.pure = true
  | [], _, p, hp => nomatch hp
  | (k, x) :: r, h, p, hp => by
    obtain ⟨h1, h2⟩ := and2 (show (x.pure && pureK r) = true from h)
    rcases List.mem_cons.mp hp with e | hp
    · rw [e]; exact h1
    · exact pureK_mem h2 p hp
theorem back_dK {a : Nat} {kvs : List (Key × D)} {m m1 : Mem} (h : m1[a]? = some (.dK kvs)) (hp : pureK kvs = true) : backP m false (.ok (.ref a) m1) = .ok (.dK kvs) m := by
  have : frz m1 200 (.ref a) = some (.dK kvs) := by
    unfold frz
    rw [if_neg (by simp [D.pure])]
    simp only [h, mapM_pureK (pureK_mem hp)]
    rfl
  unfold backP
  dsimp only
  rw [this]
  rfl
theorem rngOk_small {n : Nat} (h : n ≤ 1000000) : rngOk (n : Int) = true := by
  unfold rngOk
  rw [Bool.and_eq_true]
  refine ⟨decide_eq_true ?_, decide_eq_true ?_⟩
  · exact Int.le_trans (by decide) (Int.natCast_nonneg n)
  · exact Int.lt_of_le_of_lt (Int.ofNat_le.mpr h) (by decide)
theorem i_nat {T : Tab} {cf : CF} {a : SE} {env : Env} {m m1 : Mem} {n : Nat} (h : evE T cf a env m = .ok (.int n) m1) (hn : n ≤ 1000000) : evI T cf (.rng1 a) env m = .ok (.all (rngL 0 n)) m1 := by
  show ((evE T cf a env m).bind fun x m1 => match x with
    | .int j => if rngOk j then Res.ok (Ev.Its.all (rngL 0 j.toNat)) m1 else .bad
    | _ => .bad) = _
  rw [h, Res.bind_ok]
  dsimp only
  rw [if_pos (rngOk_small hn), Int.toNat_natCast]
theorem e_fld {T : Tab} {cf : CF} {i f : Nat} {x d : D} {env : Env} {m : Mem} (h : env[i]? = some (some x)) (hf : fldD T x f m = some d) : evE T cf (.fld (.var i) f) env m = .ok d m := by
  show ((match env[i]? with | some (some d) => Res.ok d m | _ => .bad).bind fun x m1 => Res.opt (fldD T x f m1) m1) = _
  rw [h]
  show Res.opt (fldD T x f m) m = _
  rw [hf]
  rfl
theorem e_var {T : Tab} {cf : CF} {i : Nat} {x : D} {env : Env} {m : Mem} (h : env[i]? = some (some x)) : evE T cf (.var i) env m = .ok x m := by
  show (match env[i]? with | some (some d) => Res.ok d m | _ => .bad) = _
  rw [h]
theorem e_b1 {T : Tab} {cf : CF} {b : Blt} {a : SE} {x d : D} {env : Env} {m m1 m2 : Mem} (h : evE T cf a env m = .ok x m1) (h2 : bltD b [x] m1 = .ok d m2) : evE T cf (.blt b (.cons a .nil)) env m = .ok d m2 := by
  show (((evE T cf a env m).bind fun x m1 => (Res.ok [] m1).bind fun xs m2 => .ok (x :: xs) m2)).bind _ = _
  rw [h, ← h2]
  rfl
end Ev
/-! EvZ: the evaluator's words put together, one lemma a form. -/
namespace Ev
open PySem L2
section
variable {T : Tab} {cf : CF} {env : Env} {m m1 m2 m3 : Mem}
theorem es_nil : evEs T cf .nil env m = .ok [] m := rfl
theorem es_cons {e : SE} {es : SEs} {x : D} {xs : List D} (h1 : evE T cf e env m = .ok x m1) (h2 : evEs T cf es env m1 = .ok xs m2) : evEs T cf (.cons e es) env m = .ok (x :: xs) m2 := by
  show (evE T cf e env m).bind _ = _
  rw [h1]
  show (evEs T cf es env m1).bind _ = _
  rw [h2]
  rfl
theorem es_1 {e : SE} {x : D} (h1 : evE T cf e env m = .ok x m1) : evEs T cf (.cons e .nil) env m = .ok [x] m1 := es_cons h1 es_nil
theorem es_2 {e1 e2 : SE} {x1 x2 : D} (h1 : evE T cf e1 env m = .ok x1 m1) (h2 : evE T cf e2 env m1 = .ok x2 m2) : evEs T cf (.cons e1 (.cons e2 .nil)) env m = .ok [x1, x2] m2 := es_cons h1 (es_1 h2)
theorem es_3 {e1 e2 e3 : SE} {x1 x2 x3 : D} (h1 : evE T cf e1 env m = .ok x1 m1) (h2 : evE T cf e2 env m1 = .ok x2 m2) (h3 : evE T cf e3 env m2 = .ok x3 m3) : evEs T cf (.cons e1 (.cons e2 (.cons e3 .nil))) env m = .ok [x1, x2, x3] m3 := es_cons h1 (es_2 h2 h3)
theorem es_4 {e1 e2 e3 e4 : SE} {x1 x2 x3 x4 : D} {m4 : Mem} (h1 : evE T cf e1 env m = .ok x1 m1) (h2 : evE T cf e2 env m1 = .ok x2 m2) (h3 : evE T cf e3 env m2 = .ok x3 m3) (h4 : evE T cf e4 env m3 = .ok x4 m4) : evEs T cf (.cons e1 (.cons e2 (.cons e3 (.cons e4 .nil)))) env m = .ok [x1, x2, x3, x4] m4 := es_cons h1 (es_3 h2 h3 h4)
theorem e_cst {d : D} : evE T cf (.cst d) env m = .ok d m := rfl
theorem e_bin {o : BOp} {a b : SE} {x y d : D} (h1 : evE T cf a env m = .ok x m1) (h2 : evE T cf b env m1 = .ok y m2) (h3 : binD o x y m2 = .ok d m3) : evE T cf (.bin o a b) env m = .ok d m3 := by
  show (evE T cf a env m).bind _ = _
  rw [h1]
  show (evE T cf b env m1).bind _ = _
  rw [h2]
  exact h3
theorem e_tup {es : SEs} {xs : List D} (h : evEs T cf es env m = .ok xs m1) (hl : fits xs.length = true := by rfl) : evE T cf (.tup es) env m = .ok (.tup xs) m1 := by
  show (evEs T cf es env m).bind _ = _
  rw [h]
  exact if_pos hl
theorem e_lst {es : SEs} {xs : List D} (h : evEs T cf es env m = .ok xs m1) (hl : fits xs.length = true := by rfl) : evE T cf (.lst es) env m = .ok (.ref m1.length) (m1 ++ [.lst xs]) := by
  show (evEs T cf es env m).bind _ = _
  rw [h]
  exact if_pos hl
theorem e_lstR {es : SEs} {xs : List D} {a : Nat} (h : evEs T cf es env m = .ok xs m1) (hl : fits xs.length = true) (ha : m1.length = a) (hm : m1 ++ [.lst xs] = m2) : evE T cf (.lst es) env m = .ok (.ref a) m2 := by
  rw [e_lst h hl, ha, hm]
theorem e_call {f : Nat} {es : SEs} {xs : List D} {r : Res D} (h : evEs T cf es env m = .ok xs m1) (h2 : cf f xs m1 = r) : evE T cf (.call f es) env m = r := by
  show (evEs T cf es env m).bind _ = _
  rw [h]
  exact h2
theorem e_blt {b : Blt} {es : SEs} {xs : List D} {r : Res D} (h : evEs T cf es env m = .ok xs m1) (h2 : bltD b xs m1 = r) : evE T cf (.blt b es) env m = r := by
  show (evEs T cf es env m).bind _ = _
  rw [h]
  exact h2
theorem e_idx {a b : SE} {x y d : D} (h1 : evE T cf a env m = .ok x m1) (h2 : evE T cf b env m1 = .ok y m2) (h3 : idxD x y m2 = some d) : evE T cf (.idx a b) env m = .ok d m2 := by
  show (evE T cf a env m).bind _ = _
  rw [h1]
  show (evE T cf b env m1).bind _ = _
  rw [h2]
  show Res.opt (idxD x y m2) m2 = _
  rw [h3]
  rfl
theorem e_cmp {o : COp} {a b : SE} {x y : D} {t : Bool} (h1 : evE T cf a env m = .ok x m1) (h2 : evE T cf b env m1 = .ok y m2) (h3 : cmpD o x y m2 = some t) : evE T cf (.cmp o a b) env m = .ok (.bl t) m2 := by
  show (evE T cf a env m).bind _ = _
  rw [h1]
  show (evE T cf b env m1).bind _ = _
  rw [h2]
  show Res.opt ((cmpD o x y m2).map D.bl) m2 = _
  rw [h3]
  rfl
theorem tt_cmp {o : COp} {a b : SE} {x y : D} {t : Bool} (h1 : evE T cf a env m = .ok x m1) (h2 : evE T cf b env m1 = .ok y m2) (h3 : cmpD o x y m2 = some t) : evT T cf (.cmp o a b) env m = .ok t m2 := by
  show (evE T cf a env m).bind _ = _
  rw [h1]
  show (evE T cf b env m1).bind _ = _
  rw [h2]
  show Res.opt (cmpD o x y m2) m2 = _
  rw [h3]
  rfl
theorem tt_var {i : Nat} {d : D} {t : Bool} (h : env[i]? = some (some d)) (h2 : truD d m = some t) : evT T cf (.var i) env m = .ok t m := by
  show (match env[i]? with | some (some d) => Res.opt (truD d m) m | _ => .bad) = _
  rw [h]
  show Res.opt (truD d m) m = _
  rw [h2]
  rfl
theorem tt_not {a : SE} {t : Bool} (h : evT T cf a env m = .ok t m1) : evT T cf (.not a) env m = .ok (!t) m1 := by
  show (evT T cf a env m).bind _ = _
  rw [h]
  rfl
theorem tt_and {a b : SE} {t u : Bool} (h : evT T cf a env m = .ok t m1) (h2 : t = true → evT T cf b env m1 = .ok u m1) : evT T cf (.and a b) env m = .ok (t && u) m1 := by
  show (evT T cf a env m).bind _ = _
  rw [h]
  cases t with
  | false => rfl
  | true => exact h2 rfl
theorem tt_or {a b : SE} {t u : Bool} (h : evT T cf a env m = .ok t m1) (h2 : t = false → evT T cf b env m1 = .ok u m1) : evT T cf (.or a b) env m = .ok (t || u) m1 := by
  show (evT T cf a env m).bind _ = _
  rw [h]
  cases t with
  | true => rfl
  | false => exact h2 rfl
theorem e_and {a b : SE} {t u : Bool} (h : evE T cf a env m = .ok (.bl t) m1) (h2 : t = true → evE T cf b env m1 = .ok (.bl u) m1) : evE T cf (.and a b) env m = .ok (.bl (t && u)) m1 := by
  show (evE T cf a env m).bind _ = _
  rw [h]
  cases t with
  | false => rfl
  | true => exact h2 rfl
theorem e_or {a b : SE} {t u : Bool} (h : evE T cf a env m = .ok (.bl t) m1) (h2 : t = false → evE T cf b env m1 = .ok (.bl u) m1) : evE T cf (.or a b) env m = .ok (.bl (t || u)) m1 := by
  show (evE T cf a env m).bind _ = _
  rw [h]
  cases t with
  | true => rfl
  | false => exact h2 rfl
theorem e_not {a : SE} {x : D} {t : Bool} (h : evE T cf a env m = .ok x m1) (h2 : truD x m1 = some t) : evE T cf (.not a) env m = .ok (.bl (!t)) m1 := by
  show (evE T cf a env m).bind _ = _
  rw [h]
  show Res.opt ((truD x m1).map fun b => D.bl (!b)) m1 = _
  rw [h2]
  rfl
theorem e_ife {c a b : SE} {t : Bool} (h : evT T cf c env m = .ok t m1) : evE T cf (.ife c a b) env m = if t then evE T cf a env m1 else evE T cf b env m1 := by
  show (evT T cf c env m).bind _ = _
  rw [h]
  rfl
theorem e_isi {a : SE} {ts : List Ty} {x : D} {t : Bool} (h : evE T cf a env m = .ok x m1) (h2 : anyTy m1 x ts = some t) : evE T cf (.isi a ts) env m = .ok (.bl t) m1 := by
  show (evE T cf a env m).bind _ = _
  rw [h]
  show Res.opt ((anyTy m1 x ts).map D.bl) m1 = _
  rw [h2]
  rfl
theorem tt_isi {a : SE} {ts : List Ty} {x : D} {t : Bool} (h : evE T cf a env m = .ok x m1) (h2 : anyTy m1 x ts = some t) : evT T cf (.isi a ts) env m = .ok t m1 := by
  show (evE T cf a env m).bind _ = _
  rw [h]
  show Res.opt (anyTy m1 x ts) m1 = _
  rw [h2]
  rfl
theorem tt_call {f : Nat} {es : SEs} {xs : List D} {d : D} {t : Bool} (h : evEs T cf es env m = .ok xs m1) (h2 : cf f xs m1 = .ok d m2) (h3 : truD d m2 = some t) : evT T cf (.call f es) env m = .ok t m2 := by
  show (evEs T cf es env m).bind _ = _
  rw [h]
  show (cf f xs m1).bind _ = _
  rw [h2]
  show Res.opt (truD d m2) m2 = _
  rw [h3]
  rfl
theorem e_slc {a : SE} {lo hi : SO} {x : D} {l h : Option Int} {r : Res D} (h1 : evE T cf a env m = .ok x m1) (h2 : evO T cf lo env m1 = .ok l m2) (h3 : evO T cf hi env m2 = .ok h m3) (h4 : slcD x l h m3 = r) : evE T cf (.slc a lo hi) env m = r := by
  show (evE T cf a env m).bind _ = _
  rw [h1]
  show (evO T cf lo env m1).bind _ = _
  rw [h2]
  show (evO T cf hi env m2).bind _ = _
  rw [h3]
  exact h4
theorem o_no : evO T cf .no env m = .ok none m := rfl
theorem o_yes {e : SE} {i : Int} (h : evE T cf e env m = .ok (.int i) m1) : evO T cf (.yes e) env m = .ok (some i) m1 := by
  show (evE T cf e env m).bind _ = _
  rw [h]
  rfl
theorem e_rev {a : SE} {x : D} {r : Res D} (h1 : evE T cf a env m = .ok x m1) (h2 : revD x m1 = r) : evE T cf (.rev a) env m = r := by
  show (evE T cf a env m).bind _ = _
  rw [h1]
  exact h2
theorem e_stp {a b : SE} {x y : D} {r : Res D} {m2 : Mem} (h1 : evE T cf a env m = .ok x m1) (h2 : evE T cf b env m1 = .ok y m2) (h3 : stpD x y m2 = r) : evE T cf (.stp a b) env m = r := by
  show (evE T cf a env m).bind _ = _
  rw [h1]
  show (evE T cf b env m1).bind _ = _
  rw [h2]
  exact h3
theorem e_revt {a : SE} {x : D} {r : Res D} (h1 : evE T cf a env m = .ok x m1) (h2 : revtD x m1 = r) : evE T cf (.revt a) env m = r := by
  show (evE T cf a env m).bind _ = _
  rw [h1]
  exact h2
theorem e_mth {b : Mth} {o : SE} {es : SEs} {x : D} {xs : List D} {r : Res D} (h1 : evE T cf o env m = .ok x m1) (h2 : mthOk b x m1 = true) (h3 : evEs T cf es env m1 = .ok xs m2) (h4 : mthD b x xs m2 = r) : evE T cf (.mth b o es) env m = r := by
  show (evE T cf o env m).bind _ = _
  rw [h1]
  show (if mthOk b x m1 then _ else _) = _
  rw [if_pos h2, h3]
  exact h4
theorem sExpr {e : SE} {d : D} (h : evE T cf e env m = .ok d m1) : evS T cf (.expr e) env m = .ok .nx env m1 := by
  show (evE T cf e env m).st env _ = _
  rw [h]
  rfl
theorem sIfT {c : SE} {a b : SSs} {r : SR} (h : evT T cf c env m = .ok true m1) (h2 : evSs T cf a env m1 = r) : evS T cf (.ite c a b) env m = r := by
  rw [sIf h]
  exact h2
theorem sIfF {c : SE} {a b : SSs} {r : SR} (h : evT T cf c env m = .ok false m1) (h2 : evSs T cf b env m1 = r) : evS T cf (.ite c a b) env m = r := by
  rw [sIf h]
  exact h2
theorem cmp_ints {o : COp} {i j : Int} : cmpD .eq (.int i) (.int j) m = some (decide (i = j)) ∧ cmpD .ne (.int i) (.int j) m = some (!decide (i = j)) ∧ cmpD .lt (.int i) (.int j) m = some (decide (i < j)) ∧ cmpD .le (.int i) (.int j) m = some (decide (i ≤ j)) := ⟨rfl, rfl, rfl, rfl⟩
end
/-- a small number of elements -/
theorem fitsLe {n : Nat} (h : n ≤ 16777216) : fits n = true := decide_eq_true h
end Ev
namespace Ev
open PySem L2
section
variable {T : Tab} {Fn : Nat → Option FD} {k g : Nat} {fd : FD} {args xs : List D} {m m1 : Mem} {d x : D}
/-- objects are lent; the answer is data without lists, and the caller's own objects are lists -/
theorem okLa (h : Fn g = some fd) (hm : fd.mode = .pure) (hl : args.length = fd.np) (hp : lendAll m args = some xs) (e : (evSs T (callF T Fn k) fd.body (startE fd.ns xs) []).res = .ok d m1) (hf : frz m1 200 d = some x) (ha : apartD m x = true) :
    callF T Fn (k + 1) g args m = .ok x m := by
  show (match Fn g with
    | none => Res.bad
    | some fd => if args.length = fd.np then (match fd.mode with
        | .plain => runB T (callF T Fn k) fd args m
        | .melt => backM m (runB T (callF T Fn k) fd args m)
        | .pure => match lendAll m args with
          | some xs => backQ m args (runB T (callF T Fn k) fd xs [])
          | none => Res.bad) else Res.bad) = _
  rw [h]
  dsimp only
  rw [if_pos hl, hm, hp]
  dsimp only
  rw [show runB T (callF T Fn k) fd xs [] = .ok d m1 from e]
  show backQ m args (.ok d m1) = _
  unfold backQ
  split
  · unfold backL
    dsimp only
    rw [hf]
    dsimp only
    obtain ⟨a0, a12⟩ := and2 (show (x.pure && (!x.hasL && m.all isLstO)) = true from ha)
    rw [a0, (and2 a12).1]
    cases x.bare <;> rfl
  · unfold backP
    dsimp only
    rw [hf]
    dsimp only
    rw [ha]
    cases pureL args <;> cases x.bare <;> rfl
/-- lists of data alone are lent; the answer is data without lists -/
theorem okLs (h : Fn g = some fd) (hm : fd.mode = .pure) (hl : args.length = fd.np) (hp : lendAll m args = some xs) (e : (evSs T (callF T Fn k) fd.body (startE fd.ns xs) []).res = .ok d m1) (hf : frz m1 200 d = some x) (hs : lstArgs m args = true) (hx : x.pure = true) (hL : x.hasL = false) :
    callF T Fn (k + 1) g args m = .ok x m := by
  show (match Fn g with
    | none => Res.bad
    | some fd => if args.length = fd.np then (match fd.mode with
        | .plain => runB T (callF T Fn k) fd args m
        | .melt => backM m (runB T (callF T Fn k) fd args m)
        | .pure => match lendAll m args with
          | some xs => backQ m args (runB T (callF T Fn k) fd xs [])
          | none => Res.bad) else Res.bad) = _
  rw [h]
  dsimp only
  rw [if_pos hl, hm, hp]
  dsimp only
  rw [show runB T (callF T Fn k) fd xs [] = .ok d m1 from e]
  show backQ m args (.ok d m1) = _
  unfold backQ
  rw [hs]
  cases pureL args with
  | true =>
    show backP m (!true) (.ok d m1) = _
    unfold backP
    dsimp only
    rw [hf]
    rfl
  | false =>
    show backL m (.ok d m1) = _
    unfold backL
    dsimp only
    rw [hf]
    dsimp only
    rw [hx, hL]
    cases x.bare <;> rfl
theorem frz_dK {a : Nat} {kvs : List (Key × D)} (h : m1[a]? = some (.dK kvs)) (hp : pureK kvs = true) : frz m1 200 (.ref a) = some (.dK kvs) := by
  unfold frz
  rw [if_neg (by show ¬ (false = true); decide)]
  dsimp only
  rw [h]
  dsimp only
  rw [mapM_pureK (pureK_mem hp)]
  rfl
end
end Ev
namespace Ev
/-- a loop over a dict of ours -/
theorem sForKo {T : Tab} {cf : CF} {kd : Kd} {g : Tg} {i j : Nat} {b : SSs} {env e' : Env} {m m' : Mem} {kvs kvs2 : List (L2.Key × D)} {xs : List D} {f : Flow} (h : env[i]? = some (some (.ref j))) (hm : m[j]? = some (.dK kvs)) (hk : keysD kd (.dK kvs) = some xs) (h2 : forL (bodyG g (evSs T cf b)) xs env (m.set j (.lk kvs)) = .ok f e' m') (h3 : m'[j]? = some (.lk kvs2)) :
    evS T cf (.forK kd g i b) env m = .ok f e' (m'.set j (.dK kvs2)) := by
  have ho : ownK m (.ref j) = some (j, kvs) := by unfold ownK; simp only [hm]
  have hn : keysD kd (.ref j) = none := by cases kd <;> rfl
  have ee : evS T cf (.forK kd g i b) env m = match env[i]? with
        | some (some x) => (match keysD kd x with
          | some xs => noX (forL (bodyG g (evSs T cf b)) xs env m)
          | none => (match ownK m x with
            | some (j, kvs) => (match keysD kd (.dK kvs) with
              | some xs => unlk j (forL (bodyG g (evSs T cf b)) xs env (m.set j (.lk kvs)))
              | none => .bad)
            | none => .bad))
        | _ => .bad := rfl
  rw [ee, h]
  dsimp only
  rw [hn]
  dsimp only
  rw [ho]
  dsimp only
  rw [hk]
  dsimp only
  rw [h2]
  show (match m'[j]? with
    | some (.lk kvs) => SR.ok f e' (m'.set j (.dK kvs))
    | _ => .bad) = _
  rw [h3]
end Ev
namespace Ev
theorem look_off {β : Type} : ∀ {l : List ((Nat × Nat) × β)} {k : Nat}, (l.all fun p => p.1.2 != k) = true → ∀ c, l.lookup (c, k) = none
  | [], _, _, _ => rfl
  | ((a, b), x) :: l, k, h, c => by
    rw [List.all_cons, Bool.and_eq_true] at h
    have hb : b ≠ k := by simpa using h.1
    rw [List.lookup_cons]
    have : ((c, k) == (a, b)) = false := by simp; exact fun _ e => hb e.symm
    rw [this]
    exact look_off h.2 c
end Ev
namespace Ev.Law
open PySem L2
/-! ### the text as small syntax (printed by gen.py) -/
/-- is_number(thing): 0 thing -/
def b0 : SSs := (.cons (.ret (.and (.isi (.var 0) [.int]) (.not (.isi (.var 0) [.bool])))) .nil)
abbrev nm0 : List Str := ["thing"]
/-- third_of(do): 0 do -/
def b1 : SSs := (.cons (.ite (.cmp .eq (.var 0) (.cst (.str "set"))) (.cons (.ret (.cst (.str "n"))) .nil) .nil) (.cons (.ite (.cmp .isIn (.var 0) (.tup (.cons (.cst (.str "add")) (.cons (.cst (.str "sub")) (.cons (.cst (.str "mul")) .nil))))) (.cons (.ret (.cst (.str "from"))) .nil) .nil) (.cons (.ite (.cmp .isIn (.var 0) (.tup (.cons (.cst (.str "when")) (.cons (.cst (.str "loop")) .nil)))) (.cons (.ret (.cst (.str "body"))) .nil) .nil) (.cons (.ret (.cst .non)) .nil))))
abbrev nm1 : List Str := ["do"]
/-- is_command(value): 0 value, 1 third -/
def b2 : SSs := (.cons (.ite (.or (.not (.isi (.var 0) [.dict])) (.or (.cmp .ne (.blt .len (.cons (.var 0) .nil)) (.cst (.int 3))) (.or (.cmp .notIn (.cst (.str "do")) (.var 0)) (.cmp .notIn (.cst (.str "at")) (.var 0))))) (.cons (.ret (.cst (.bl false))) .nil) .nil) (.cons (.asg (.nm 1) (.call 1 (.cons (.idx (.var 0) (.cst (.str "do"))) .nil))) (.cons (.ite (.or (.isn false (.var 1)) (.or (.cmp .notIn (.var 1) (.var 0)) (.not (.call 0 (.cons (.idx (.var 0) (.cst (.str "at"))) .nil))))) (.cons (.ret (.cst (.bl false))) .nil) .nil) (.cons (.ite (.cmp .eq (.var 1) (.cst (.str "body"))) (.cons (.ret (.call 3 (.cons (.idx (.var 0) (.cst (.str "body"))) .nil))) .nil) .nil) (.cons (.ret (.call 0 (.cons (.idx (.var 0) (.var 1)) .nil))) .nil)))))
abbrev nm2 : List Str := ["value", "third"]
/-- is_score(value): 0 value, 1 one -/
def b3 : SSs := (.cons (.ite (.not (.isi (.var 0) [.tuple])) (.cons (.ret (.cst (.bl false))) .nil) .nil) (.cons (.for_ (.nm 1) (.seq (.var 0)) (.cons (.ite (.not (.call 2 (.cons (.var 1) .nil))) (.cons (.ret (.cst (.bl false))) .nil) .nil) .nil)) (.cons (.ret (.cst (.bl true))) .nil)))
abbrev nm3 : List Str := ["value", "one"]
/-- _law_cell(_law_script, _law_k): 0 _law_script, 1 _law_k, 2 _law_mixed, 3 _law_cell_here -/
def b4 : SSs := (.cons (.ite (.cmp .lt (.var 1) (.blt .len (.cons (.var 0) .nil))) (.cons (.ret (.idx (.var 0) (.var 1))) .nil) .nil) (.cons (.asg (.nm 2) (.bin .add (.bin .mul (.cst (.int 59)) (.var 1)) (.cst (.int 37)))) (.cons (.for_ (.nm 3) (.seq (.slc (.var 0) .no (.yes (.cst (.int 5))))) (.cons (.asg (.nm 2) (.bin .mod (.bin .add (.bin .mul (.var 2) (.cst (.int 7001))) (.var 3)) (.cst (.int 998244353)))) .nil)) (.cons (.ret (.bin .mod (.bin .mul (.var 2) (.bin .add (.var 1) (.cst (.int 19)))) (.cst (.int 1000000007)))) .nil))))
abbrev nm4 : List Str := ["_law_script", "_law_k", "_law_mixed", "_law_cell_here"]
/-- _law_number(_law_cell_here): 0 _law_cell_here -/
def b5 : SSs := (.cons (.ite (.cmp .eq (.bin .mod (.var 0) (.cst (.int 3))) (.cst (.int 0))) (.cons (.ret (.bin .add (.bin .sub (.bin .mod (.bin .fdiv (.var 0) (.cst (.int 3))) (.bin .sub (.bin .mul (.cst (.int 2)) (.bin .pow (.cst (.int 10)) (.cst (.int 18)))) (.cst (.int 1)))) (.bin .pow (.cst (.int 10)) (.cst (.int 18)))) (.cst (.int 1)))) .nil) .nil) (.cons (.ret (.bin .sub (.bin .mod (.bin .fdiv (.var 0) (.cst (.int 3))) (.cst (.int 9))) (.cst (.int 2)))) .nil))
abbrev nm5 : List Str := ["_law_cell_here"]
/-- _law_odd(_law_cell_here): 0 _law_cell_here -/
def b6 : SSs := (.cons (.ret (.idx (.lst (.cons (.cst (.str "a")) (.cons (.tup .nil) (.cons (.tup (.cons (.cst (.int 1)) .nil)) (.cons (.dnew false) (.cons (.ddis (.cons (.cst (.str "n")) (.cons (.cst (.int 1)) .nil))) (.cons (.cst (.str "set")) (.cons (.tup (.cons (.dnew false) .nil)) (.cons (.tup (.cons (.cst (.int 0)) (.cons (.cst (.int 1)) .nil))) .nil))))))))) (.bin .mod (.var 0) (.cst (.int 8))))) .nil)
abbrev nm6 : List Str := ["_law_cell_here"]
/-- _law_third(_law_do): 0 _law_do -/
def b7 : SSs := (.cons (.ite (.cmp .eq (.var 0) (.cst (.str "set"))) (.cons (.ret (.cst (.str "n"))) .nil) .nil) (.cons (.ite (.cmp .isIn (.var 0) (.lst (.cons (.cst (.str "when")) (.cons (.cst (.str "loop")) .nil)))) (.cons (.ret (.cst (.str "body"))) .nil) .nil) (.cons (.ret (.cst (.str "from"))) .nil)))
abbrev nm7 : List Str := ["_law_do"]
/-- _law_command(_law_cell_here, _law_other, _law_held): 0 _law_cell_here, 1 _law_other, 2 _law_held, 3 _law_do, 4 _law_third_here -/
def b8 : SSs := (.cons (.asg (.nm 3) (.idx (.lst (.cons (.cst (.str "set")) (.cons (.cst (.str "add")) (.cons (.cst (.str "sub")) (.cons (.cst (.str "mul")) (.cons (.cst (.str "when")) (.cons (.cst (.str "loop")) .nil))))))) (.bin .mod (.var 0) (.cst (.int 6))))) (.cons (.asg (.nm 4) (.call 5 (.cons (.bin .fdiv (.var 1) (.cst (.int 4))) .nil))) (.cons (.ite (.cmp .gt (.bin .mod (.var 0) (.cst (.int 6))) (.cst (.int 3))) (.cons (.asg (.nm 4) (.blt .tuple (.cons (.var 2) .nil))) .nil) .nil) (.cons (.ret (.ddis (.cons (.cst (.str "do")) (.cons (.var 3) (.cons (.cst (.str "at")) (.cons (.call 5 (.cons (.bin .fdiv (.var 0) (.cst (.int 24))) .nil)) (.cons (.call 7 (.cons (.var 3) .nil)) (.cons (.var 4) .nil)))))))) .nil))))
abbrev nm8 : List Str := ["_law_cell_here", "_law_other", "_law_held", "_law_do", "_law_third_here"]
/-- _law_without(_law_command_here, _law_word): 0 _law_command_here, 1 _law_word, 2 _law_left, 3 _law_key -/
def b9 : SSs := (.cons (.asg (.nm 2) (.dnew false)) (.cons (.forK .keys (.nm 3) 0 (.cons (.ite (.cmp .ne (.var 3) (.var 1)) (.cons (.asgI (.var 2) (.var 3) (.idx (.var 0) (.var 3))) .nil) .nil) .nil)) (.cons (.ret (.var 2)) .nil)))
abbrev nm9 : List Str := ["_law_command_here", "_law_word", "_law_left", "_law_key"]
/-- _law_spoilt(_law_command_here, _law_cell_here): 0 _law_command_here, 1 _law_cell_here, 2 _law_do, 3 _law_third_here, 4 _law_way, 5 _law_odd_here, 6 _law_word, 7 _law_left, 8 _law_at -/
def b10 : SSs := (.cons (.asg (.nm 2) (.idx (.var 0) (.cst (.str "do")))) (.cons (.asg (.nm 3) (.call 7 (.cons (.var 2) .nil))) (.cons (.asg (.nm 4) (.bin .mod (.var 1) (.cst (.int 10)))) (.cons (.asg (.nm 5) (.call 6 (.cons (.bin .fdiv (.var 1) (.cst (.int 10))) .nil))) (.cons (.ite (.cmp .eq (.var 4) (.cst (.int 0))) (.cons (.ret (.call 9 (.cons (.var 0) (.cons (.idx (.lst (.cons (.cst (.str "do")) (.cons (.cst (.str "at")) (.cons (.var 3) .nil)))) (.bin .mod (.bin .fdiv (.var 1) (.cst (.int 10))) (.cst (.int 3)))) .nil)))) .nil) .nil) (.cons (.ite (.cmp .eq (.var 4) (.cst (.int 1))) (.cons (.asgI (.var 0) (.idx (.cst (.str "abcdefghijklm")) (.bin .mod (.bin .fdiv (.var 1) (.cst (.int 10))) (.cst (.int 13)))) (.cst (.int 1))) (.cons (.ret (.var 0)) .nil)) .nil) (.cons (.ite (.cmp .lt (.var 4) (.cst (.int 4))) (.cons (.asg (.nm 6) (.idx (.lst (.cons (.cst (.str "do")) (.cons (.cst (.str "at")) (.cons (.var 3) .nil)))) (.bin .mod (.bin .fdiv (.var 1) (.cst (.int 10))) (.cst (.int 3))))) (.cons (.asg (.nm 7) (.call 9 (.cons (.var 0) (.cons (.var 6) .nil)))) (.cons (.asgI (.var 7) (.bin .add (.var 6) (.idx (.cst (.str "abcdefghijk")) (.bin .mod (.bin .fdiv (.var 1) (.cst (.int 30))) (.cst (.int 11))))) (.idx (.var 0) (.var 6))) (.cons (.ret (.var 7)) .nil)))) .nil) (.cons (.ite (.cmp .lt (.var 4) (.cst (.int 6))) (.cons (.asg (.nm 8) (.bin .mod (.bin .fdiv (.var 1) (.cst (.int 10))) (.bin .add (.blt .len (.cons (.var 2) .nil)) (.cst (.int 1))))) (.cons (.asgI (.var 0) (.cst (.str "do")) (.bin .add (.bin .add (.slc (.var 2) .no (.yes (.var 8))) (.idx (.cst (.str "setaduwhnlop")) (.bin .mod (.bin .fdiv (.var 1) (.cst (.int 50))) (.cst (.int 12))))) (.slc (.var 2) (.yes (.var 8)) .no))) (.cons (.ret (.var 0)) .nil))) .nil) (.cons (.ite (.cmp .eq (.var 4) (.cst (.int 6))) (.cons (.asgI (.var 0) (.cst (.str "do")) (.idx (.lst (.cons (.cst (.int 0)) (.cons (.tup .nil) (.cons (.dnew false) (.cons (.cst (.str "body")) (.cons (.cst (.str "div")) (.cons (.cst (.str "at")) .nil))))))) (.bin .mod (.bin .fdiv (.var 1) (.cst (.int 10))) (.cst (.int 6))))) (.cons (.ret (.var 0)) .nil)) .nil) (.cons (.ite (.or (.cmp .eq (.var 4) (.cst (.int 7))) (.cmp .ne (.var 3) (.cst (.str "body")))) (.cons (.asgI (.var 0) (.idx (.lst (.cons (.cst (.str "at")) (.cons (.var 3) .nil))) (.blt .int (.cons (.cmp .gt (.var 4) (.cst (.int 7))) .nil))) (.var 5)) (.cons (.ret (.var 0)) .nil)) .nil) (.cons (.asgI (.var 0) (.cst (.str "body")) (.idx (.lst (.cons (.var 5) (.cons (.cst (.int 7)) (.cons (.bin .add (.idx (.var 0) (.cst (.str "body"))) (.tup (.cons (.var 5) .nil))) (.cons (.bin .add (.tup (.cons (.cst (.int 7)) .nil)) (.idx (.var 0) (.cst (.str "body")))) .nil))))) (.bin .add (.bin .mul (.bin .mod (.var 4) (.cst (.int 2))) (.cst (.int 2))) (.bin .mod (.bin .fdiv (.var 1) (.cst (.int 80))) (.cst (.int 2)))))) (.cons (.ite (.cmp .eq (.idx (.var 0) (.cst (.str "body"))) (.tup .nil)) (.cons (.asgI (.var 0) (.cst (.str "body")) (.dnew false)) .nil) .nil) (.cons (.ret (.var 0)) .nil)))))))))))))
abbrev nm10 : List Str := ["_law_command_here", "_law_cell_here", "_law_do", "_law_third_here", "_law_way", "_law_odd_here", "_law_word", "_law_left", "_law_at"]
/-- _law_turned(_law_command_here, _law_cell_here): 0 _law_command_here, 1 _law_cell_here, 2 _law_turned_here, 3 _law_key -/
def b11 : SSs := (.cons (.ite (.cmp .eq (.bin .mod (.var 1) (.cst (.int 2))) (.cst (.int 0))) (.cons (.ret (.var 0)) .nil) .nil) (.cons (.asg (.nm 2) (.dnew false)) (.cons (.for_ (.nm 3) (.rev (.blt .list (.cons (.var 0) .nil))) (.cons (.asgI (.var 2) (.var 3) (.idx (.var 0) (.var 3))) .nil)) (.cons (.ret (.var 2)) .nil))))
abbrev nm11 : List Str := ["_law_command_here", "_law_cell_here", "_law_turned_here", "_law_key"]
/-- _law_size(_law_script): 0 _law_script -/
def b12 : SSs := (.cons (.ite (.cmp .eq (.bin .mod (.call 4 (.cons (.var 0) (.cons (.cst (.int 0)) .nil))) (.cst (.int 4))) (.cst (.int 1))) (.cons (.ret (.bin .mod (.bin .fdiv (.call 4 (.cons (.var 0) (.cons (.cst (.int 0)) .nil))) (.cst (.int 4))) (.cst (.int 14)))) .nil) .nil) (.cons (.ret (.bin .mod (.bin .fdiv (.call 4 (.cons (.var 0) (.cons (.cst (.int 0)) .nil))) (.cst (.int 4))) (.cst (.int 6)))) .nil))
abbrev nm12 : List Str := ["_law_script"]
/-- _law_score(_law_script, _law_size_here, _law_bad): 0 _law_script, 1 _law_size_here, 2 _law_bad, 3 _law_stack, 4 _law_k, 5 _law_cell_here, 6 _law_many, 7 _law_held, 8 _law_command_here -/
def b13 : SSs := (.cons (.asg (.nm 3) (.lst .nil)) (.cons (.for_ (.nm 4) (.rng1 (.var 1)) (.cons (.asg (.nm 5) (.call 4 (.cons (.var 0) (.cons (.bin .add (.cst (.int 3)) (.bin .mul (.cst (.int 2)) (.var 4))) .nil)))) (.cons (.asg (.nm 6) (.blt .min (.cons (.bin .mod (.call 4 (.cons (.var 0) (.cons (.bin .add (.cst (.int 4)) (.bin .mul (.cst (.int 2)) (.var 4))) .nil))) (.cst (.int 4))) (.cons (.blt .len (.cons (.var 3) .nil)) .nil)))) (.cons (.ite (.cmp .lt (.bin .mod (.var 5) (.cst (.int 6))) (.cst (.int 4))) (.cons (.asg (.nm 6) (.cst (.int 0))) .nil) .nil) (.cons (.asg (.nm 7) (.slc (.var 3) (.yes (.bin .sub (.blt .len (.cons (.var 3) .nil)) (.var 6))) .no)) (.cons (.asg (.nm 3) (.slc (.var 3) .no (.yes (.bin .sub (.blt .len (.cons (.var 3) .nil)) (.var 6))))) (.cons (.asg (.nm 8) (.call 8 (.cons (.var 5) (.cons (.call 4 (.cons (.var 0) (.cons (.bin .add (.cst (.int 4)) (.bin .mul (.cst (.int 2)) (.var 4))) .nil))) (.cons (.var 7) .nil))))) (.cons (.ite (.cmp .eq (.var 4) (.var 2)) (.cons (.asg (.nm 8) (.call 10 (.cons (.var 8) (.cons (.call 4 (.cons (.var 0) (.cons (.cst (.int 2)) .nil))) .nil)))) .nil) .nil) (.cons (.expr (.mth .append (.var 3) (.cons (.call 11 (.cons (.var 8) (.cons (.bin .fdiv (.var 5) (.cst (.int 6))) .nil))) .nil))) .nil))))))))) (.cons (.ret (.blt .tuple (.cons (.var 3) .nil))) .nil)))
abbrev nm13 : List Str := ["_law_script", "_law_size_here", "_law_bad", "_law_stack", "_law_k", "_law_cell_here", "_law_many", "_law_held", "_law_command_here"]
/-- _law_truth(_law_found, _law_due): 0 _law_found, 1 _law_due -/
def b14 : SSs := (.cons (.ret (.and (.isi (.var 0) [.bool]) (.cmp .eq (.var 0) (.var 1)))) .nil)
abbrev nm14 : List Str := ["_law_found", "_law_due"]
/-- law(_law_script): 0 _law_script, 1 _law_size_here, 2 _law_bad, 3 _law_score_here, 4 _law_one, 5 _law_odd_here -/
def b15 : SSs := (.cons (.asg (.nm 1) (.call 12 (.cons (.var 0) .nil))) (.cons (.asg (.nm 2) (.neg (.cst (.int 1)))) (.cons (.ite (.and (.cmp .gt (.var 1) (.cst (.int 0))) (.cmp .eq (.bin .mod (.call 4 (.cons (.var 0) (.cons (.cst (.int 1)) .nil))) (.cst (.int 2))) (.cst (.int 1)))) (.cons (.asg (.nm 2) (.bin .mod (.bin .fdiv (.call 4 (.cons (.var 0) (.cons (.cst (.int 1)) .nil))) (.cst (.int 2))) (.var 1))) .nil) .nil) (.cons (.asg (.nm 3) (.call 13 (.cons (.var 0) (.cons (.var 1) (.cons (.var 2) .nil))))) (.cons (.ite (.not (.call 14 (.cons (.call 3 (.cons (.var 3) .nil)) (.cons (.cmp .lt (.var 2) (.cst (.int 0))) .nil)))) (.cons (.ret (.cst (.bl false))) .nil) .nil) (.cons (.for_ (.nm 4) (.seq (.slc (.var 3) .no (.yes (.cst (.int 3))))) (.cons (.ite (.not (.call 14 (.cons (.call 3 (.cons (.var 4) .nil)) (.cons (.cst (.bl false)) .nil)))) (.cons (.ret (.cst (.bl false))) .nil) .nil) .nil)) (.cons (.asg (.nm 5) (.idx (.lst (.cons (.call 5 (.cons (.call 4 (.cons (.var 0) (.cons (.cst (.int 2)) .nil))) .nil)) (.cons (.cst (.str "loop")) (.cons (.tup .nil) (.cons (.tup (.cons (.cst (.int 7)) .nil)) (.cons (.dnew false) (.cons (.ddis (.cons (.cst (.str "do")) (.cons (.cst (.str "set")) .nil))) .nil))))))) (.bin .mod (.bin .fdiv (.call 4 (.cons (.var 0) (.cons (.cst (.int 1)) .nil))) (.cst (.int 2))) (.cst (.int 6))))) (.cons (.ite (.or (.not (.call 14 (.cons (.call 3 (.cons (.bin .add (.slc (.var 3) .no (.yes (.cst (.int 10)))) (.tup (.cons (.var 5) .nil))) .nil)) (.cons (.cst (.bl false)) .nil)))) (.not (.call 14 (.cons (.call 3 (.cons (.var 5) .nil)) (.cons (.cmp .eq (.var 5) (.tup .nil)) .nil))))) (.cons (.ret (.cst (.bl false))) .nil) .nil) (.cons (.ret (.and (.call 14 (.cons (.call 3 (.cons (.var 3) .nil)) (.cons (.cmp .lt (.var 2) (.cst (.int 0))) .nil))) (.cmp .eq (.var 3) (.call 13 (.cons (.var 0) (.cons (.var 1) (.cons (.var 2) .nil))))))) .nil)))))))))
abbrev nm15 : List Str := ["_law_script", "_law_size_here", "_law_bad", "_law_score_here", "_law_one", "_law_odd_here"]
def f0 : FD := ⟨1, 1, .pure, b0⟩
def f1 : FD := ⟨1, 1, .pure, b1⟩
def f2 : FD := ⟨1, 2, .pure, b2⟩
def f3 : FD := ⟨1, 2, .pure, b3⟩
def f4 : FD := ⟨2, 4, .pure, b4⟩
def f5 : FD := ⟨1, 1, .pure, b5⟩
def f6 : FD := ⟨1, 1, .pure, b6⟩
def f7 : FD := ⟨1, 1, .pure, b7⟩
def f8 : FD := ⟨3, 5, .plain, b8⟩
def f9 : FD := ⟨2, 4, .plain, b9⟩
def f10 : FD := ⟨2, 9, .plain, b10⟩
def f11 : FD := ⟨2, 4, .plain, b11⟩
def f12 : FD := ⟨1, 1, .pure, b12⟩
def f13 : FD := ⟨3, 9, .pure, b13⟩
def f14 : FD := ⟨2, 2, .pure, b14⟩
def f15 : FD := ⟨1, 6, .pure, b15⟩
def Fl : List FD := [f0, f1, f2, f3, f4, f5, f6, f7, f8, f9, f10, f11, f12, f13, f14, f15]
def Fn (i : Nat) : Option FD := Fl[i]?
abbrev glL : List (Str × Nat) := []
abbrev fnsL : List (Str × Nat) := [(("is_number" : Str), (0 : Nat)), (("third_of" : Str), (1 : Nat)), (("is_command" : Str), (2 : Nat)), (("is_score" : Str), (3 : Nat)), (("_law_cell" : Str), (4 : Nat)), (("_law_number" : Str), (5 : Nat)), (("_law_odd" : Str), (6 : Nat)), (("_law_third" : Str), (7 : Nat)), (("_law_command" : Str), (8 : Nat)), (("_law_without" : Str), (9 : Nat)), (("_law_spoilt" : Str), (10 : Nat)), (("_law_turned" : Str), (11 : Nat)), (("_law_size" : Str), (12 : Nat)), (("_law_score" : Str), (13 : Nat)), (("_law_truth" : Str), (14 : Nat)), (("law" : Str), (15 : Nat))]
abbrev clsL : List (Str × Nat) := []
abbrev mthL : List (Str × Nat) := []
abbrev metL : List ((Nat × Nat) × Nat) := []
abbrev iniL : List (Nat × Nat) := []
abbrev icL : List (Nat × Bool) := []
def globD : Nat → D
  | _ => .non
abbrev subL : List ((Nat × Nat) × Bool) := []
abbrev xmL : List ((Nat × Nat) × Bool) := []
abbrev xiL : List ((Nat × Nat) × Bool) := []
abbrev xfL : List (Nat × List Nat) := []
def T : Tab := ⟨fun c => (icL.lookup c).getD false, fun c k => metL.lookup (c, k), fun c => iniL.lookup c, fun c d => subL.lookup (c, d), fun c d => xmL.lookup (c, d), fun c d => xiL.lookup (c, d), fun c => xfL.lookup c, globD⟩
abbrev cnL : List (Str × Nat) := []
abbrev supL : List (Str × Nat) := []
abbrev fieldL : List Str := []
theorem fieldLow : lowL fieldL = true := by decide +kernel
abbrev psL : List (List Str) := [(["thing"] : List Str), (["do"] : List Str), (["value"] : List Str), (["value"] : List Str), (["_law_script", "_law_k"] : List Str), (["_law_cell_here"] : List Str), (["_law_cell_here"] : List Str), (["_law_do"] : List Str), (["_law_cell_here", "_law_other", "_law_held"] : List Str), (["_law_command_here", "_law_word"] : List Str), (["_law_command_here", "_law_cell_here"] : List Str), (["_law_command_here", "_law_cell_here"] : List Str), (["_law_script"] : List Str), (["_law_script", "_law_size_here", "_law_bad"] : List Str), (["_law_found", "_law_due"] : List Str), (["_law_script"] : List Str)]
abbrev S_ (fa : Nat → Addr) (fd : Nat → FuncData) (xa : Nat → Addr) (xd : Nat → FuncData) : Stat := ⟨glL, fnsL, clsL, mthL, 0, fa, fd, fun i => psL.getD i [], cnL, supL, xa, xd, fun c => (([] : List (Nat × List Str)).lookup c).getD []⟩
theorem chk0 (fa : Nat → Addr) (fd : Nat → FuncData) (xa : Nat → Addr) (xd : Nat → FuncData) (cl : Nat → Addr) : chkSs (S_ fa fd xa xd) T (nmOf cl fieldL fieldLow) nm0 b0 (defScope st0) (defScope st0) (defBody st0) = true := by kernel_rfl
theorem sc0 : FnScope nm0 (["thing"] : List Str) (defScope st0) := ⟨rfl, rfl, rfl, by decide +kernel, rfl, by decide +kernel, by decide +kernel⟩
theorem chk1 (fa : Nat → Addr) (fd : Nat → FuncData) (xa : Nat → Addr) (xd : Nat → FuncData) (cl : Nat → Addr) : chkSs (S_ fa fd xa xd) T (nmOf cl fieldL fieldLow) nm1 b1 (defScope st1) (defScope st1) (defBody st1) = true := by kernel_rfl
theorem sc1 : FnScope nm1 (["do"] : List Str) (defScope st1) := ⟨rfl, rfl, rfl, by decide +kernel, rfl, by decide +kernel, by decide +kernel⟩
theorem chk2 (fa : Nat → Addr) (fd : Nat → FuncData) (xa : Nat → Addr) (xd : Nat → FuncData) (cl : Nat → Addr) : chkSs (S_ fa fd xa xd) T (nmOf cl fieldL fieldLow) nm2 b2 (defScope st2) (defScope st2) (defBody st2) = true := by kernel_rfl
theorem sc2 : FnScope nm2 (["value"] : List Str) (defScope st2) := ⟨rfl, rfl, rfl, by decide +kernel, rfl, by decide +kernel, by decide +kernel⟩
theorem chk3 (fa : Nat → Addr) (fd : Nat → FuncData) (xa : Nat → Addr) (xd : Nat → FuncData) (cl : Nat → Addr) : chkSs (S_ fa fd xa xd) T (nmOf cl fieldL fieldLow) nm3 b3 (defScope st3) (defScope st3) (defBody st3) = true := by kernel_rfl
theorem sc3 : FnScope nm3 (["value"] : List Str) (defScope st3) := ⟨rfl, rfl, rfl, by decide +kernel, rfl, by decide +kernel, by decide +kernel⟩
theorem chk4 (fa : Nat → Addr) (fd : Nat → FuncData) (xa : Nat → Addr) (xd : Nat → FuncData) (cl : Nat → Addr) : chkSs (S_ fa fd xa xd) T (nmOf cl fieldL fieldLow) nm4 b4 (defScope st4) (defScope st4) (defBody st4) = true := by kernel_rfl
theorem sc4 : FnScope nm4 (["_law_script", "_law_k"] : List Str) (defScope st4) := ⟨rfl, rfl, rfl, by decide +kernel, rfl, by decide +kernel, by decide +kernel⟩
theorem chk5 (fa : Nat → Addr) (fd : Nat → FuncData) (xa : Nat → Addr) (xd : Nat → FuncData) (cl : Nat → Addr) : chkSs (S_ fa fd xa xd) T (nmOf cl fieldL fieldLow) nm5 b5 (defScope st5) (defScope st5) (defBody st5) = true := by kernel_rfl
theorem sc5 : FnScope nm5 (["_law_cell_here"] : List Str) (defScope st5) := ⟨rfl, rfl, rfl, by decide +kernel, rfl, by decide +kernel, by decide +kernel⟩
theorem chk6 (fa : Nat → Addr) (fd : Nat → FuncData) (xa : Nat → Addr) (xd : Nat → FuncData) (cl : Nat → Addr) : chkSs (S_ fa fd xa xd) T (nmOf cl fieldL fieldLow) nm6 b6 (defScope st6) (defScope st6) (defBody st6) = true := by kernel_rfl
theorem sc6 : FnScope nm6 (["_law_cell_here"] : List Str) (defScope st6) := ⟨rfl, rfl, rfl, by decide +kernel, rfl, by decide +kernel, by decide +kernel⟩
theorem chk7 (fa : Nat → Addr) (fd : Nat → FuncData) (xa : Nat → Addr) (xd : Nat → FuncData) (cl : Nat → Addr) : chkSs (S_ fa fd xa xd) T (nmOf cl fieldL fieldLow) nm7 b7 (defScope st7) (defScope st7) (defBody st7) = true := by kernel_rfl
theorem sc7 : FnScope nm7 (["_law_do"] : List Str) (defScope st7) := ⟨rfl, rfl, rfl, by decide +kernel, rfl, by decide +kernel, by decide +kernel⟩
theorem chk8 (fa : Nat → Addr) (fd : Nat → FuncData) (xa : Nat → Addr) (xd : Nat → FuncData) (cl : Nat → Addr) : chkSs (S_ fa fd xa xd) T (nmOf cl fieldL fieldLow) nm8 b8 (defScope st8) (defScope st8) (defBody st8) = true := by kernel_rfl
theorem sc8 : FnScope nm8 (["_law_cell_here", "_law_other", "_law_held"] : List Str) (defScope st8) := ⟨rfl, rfl, rfl, by decide +kernel, rfl, by decide +kernel, by decide +kernel⟩
theorem chk9 (fa : Nat → Addr) (fd : Nat → FuncData) (xa : Nat → Addr) (xd : Nat → FuncData) (cl : Nat → Addr) : chkSs (S_ fa fd xa xd) T (nmOf cl fieldL fieldLow) nm9 b9 (defScope st9) (defScope st9) (defBody st9) = true := by kernel_rfl
theorem sc9 : FnScope nm9 (["_law_command_here", "_law_word"] : List Str) (defScope st9) := ⟨rfl, rfl, rfl, by decide +kernel, rfl, by decide +kernel, by decide +kernel⟩
theorem chk10 (fa : Nat → Addr) (fd : Nat → FuncData) (xa : Nat → Addr) (xd : Nat → FuncData) (cl : Nat → Addr) : chkSs (S_ fa fd xa xd) T (nmOf cl fieldL fieldLow) nm10 b10 (defScope st10) (defScope st10) (defBody st10) = true := by kernel_rfl
theorem sc10 : FnScope nm10 (["_law_command_here", "_law_cell_here"] : List Str) (defScope st10) := ⟨rfl, rfl, rfl, by decide +kernel, rfl, by decide +kernel, by decide +kernel⟩
theorem chk11 (fa : Nat → Addr) (fd : Nat → FuncData) (xa : Nat → Addr) (xd : Nat → FuncData) (cl : Nat → Addr) : chkSs (S_ fa fd xa xd) T (nmOf cl fieldL fieldLow) nm11 b11 (defScope st11) (defScope st11) (defBody st11) = true := by kernel_rfl
theorem sc11 : FnScope nm11 (["_law_command_here", "_law_cell_here"] : List Str) (defScope st11) := ⟨rfl, rfl, rfl, by decide +kernel, rfl, by decide +kernel, by decide +kernel⟩
theorem chk12 (fa : Nat → Addr) (fd : Nat → FuncData) (xa : Nat → Addr) (xd : Nat → FuncData) (cl : Nat → Addr) : chkSs (S_ fa fd xa xd) T (nmOf cl fieldL fieldLow) nm12 b12 (defScope st12) (defScope st12) (defBody st12) = true := by kernel_rfl
theorem sc12 : FnScope nm12 (["_law_script"] : List Str) (defScope st12) := ⟨rfl, rfl, rfl, by decide +kernel, rfl, by decide +kernel, by decide +kernel⟩
theorem chk13 (fa : Nat → Addr) (fd : Nat → FuncData) (xa : Nat → Addr) (xd : Nat → FuncData) (cl : Nat → Addr) : chkSs (S_ fa fd xa xd) T (nmOf cl fieldL fieldLow) nm13 b13 (defScope st13) (defScope st13) (defBody st13) = true := by kernel_rfl
theorem sc13 : FnScope nm13 (["_law_script", "_law_size_here", "_law_bad"] : List Str) (defScope st13) := ⟨rfl, rfl, rfl, by decide +kernel, rfl, by decide +kernel, by decide +kernel⟩
theorem chk14 (fa : Nat → Addr) (fd : Nat → FuncData) (xa : Nat → Addr) (xd : Nat → FuncData) (cl : Nat → Addr) : chkSs (S_ fa fd xa xd) T (nmOf cl fieldL fieldLow) nm14 b14 (defScope st14) (defScope st14) (defBody st14) = true := by kernel_rfl
theorem sc14 : FnScope nm14 (["_law_found", "_law_due"] : List Str) (defScope st14) := ⟨rfl, rfl, rfl, by decide +kernel, rfl, by decide +kernel, by decide +kernel⟩
theorem chk15 (fa : Nat → Addr) (fd : Nat → FuncData) (xa : Nat → Addr) (xd : Nat → FuncData) (cl : Nat → Addr) : chkSs (S_ fa fd xa xd) T (nmOf cl fieldL fieldLow) nm15 b15 (defScope st15) (defScope st15) (defBody st15) = true := by kernel_rfl
theorem sc15 : FnScope nm15 (["_law_script"] : List Str) (defScope st15) := ⟨rfl, rfl, rfl, by decide +kernel, rfl, by decide +kernel, by decide +kernel⟩
theorem facts {K : PySem.W.Frag} {h : Heap} {mg : Str → Option Value} {fa : Addr} (X : K.In h) (G : h.Ns mainGlobals mg) (hfa : mg "law" = some (.ref fa)) (c : Ev.SaysK ckL ddL K)
    : noLst K = true ∧ ∃ (N : Nm) (S : Stat), Facts K mg N T S ∧ (∀ c f fs, T.xfs c = some (f :: fs) → fs.length ≤ 800 ∧ XiOk K mg N S c (f :: fs)) ∧ (∀ g fd, Fn g = some fd → DefOk K N T S g fd) ∧ S.fa 15 = fa ∧ S.ps 15 = (["_law_script"] : List Str) ∧ (∀ (s : Shared) (u : Value), BindsTo s (S.fd 15) ⟨[u], []⟩ [("_law_script", u)]) := by
  refine ⟨c.ck 0 (f := ck0) rfl, ?_⟩
  obtain ⟨f0a, h_f0a⟩ : ∃ a : Addr, a = (He.fAd K ("is_number", none)) := ⟨_, rfl⟩
  obtain ⟨f1a, h_f1a⟩ : ∃ a : Addr, a = (He.fAd K ("third_of", none)) := ⟨_, rfl⟩
  obtain ⟨f2a, h_f2a⟩ : ∃ a : Addr, a = (He.fAd K ("is_command", none)) := ⟨_, rfl⟩
  obtain ⟨f3a, h_f3a⟩ : ∃ a : Addr, a = (He.fAd K ("is_score", none)) := ⟨_, rfl⟩
  obtain ⟨f4a, h_f4a⟩ : ∃ a : Addr, a = (He.fAd K ("_law_cell", none)) := ⟨_, rfl⟩
  obtain ⟨f5a, h_f5a⟩ : ∃ a : Addr, a = (He.fAd K ("_law_number", none)) := ⟨_, rfl⟩
  obtain ⟨f6a, h_f6a⟩ : ∃ a : Addr, a = (He.fAd K ("_law_odd", none)) := ⟨_, rfl⟩
  obtain ⟨f7a, h_f7a⟩ : ∃ a : Addr, a = (He.fAd K ("_law_third", none)) := ⟨_, rfl⟩
  obtain ⟨f8a, h_f8a⟩ : ∃ a : Addr, a = (He.fAd K ("_law_command", none)) := ⟨_, rfl⟩
  obtain ⟨f9a, h_f9a⟩ : ∃ a : Addr, a = (He.fAd K ("_law_without", none)) := ⟨_, rfl⟩
  obtain ⟨f10a, h_f10a⟩ : ∃ a : Addr, a = (He.fAd K ("_law_spoilt", none)) := ⟨_, rfl⟩
  obtain ⟨f11a, h_f11a⟩ : ∃ a : Addr, a = (He.fAd K ("_law_turned", none)) := ⟨_, rfl⟩
  obtain ⟨f12a, h_f12a⟩ : ∃ a : Addr, a = (He.fAd K ("_law_size", none)) := ⟨_, rfl⟩
  obtain ⟨f13a, h_f13a⟩ : ∃ a : Addr, a = (He.fAd K ("_law_score", none)) := ⟨_, rfl⟩
  obtain ⟨f14a, h_f14a⟩ : ∃ a : Addr, a = (He.fAd K ("_law_truth", none)) := ⟨_, rfl⟩
  obtain ⟨f15a, h_f15a⟩ : ∃ a : Addr, a = (He.fAd K ("law", none)) := ⟨_, rfl⟩
  have a0 : PySem.W.nsIn K mainGlobals "is_number" = some (some (.ref f0a)) := by rw [h_f0a]; exact He.eqO_ok (c.ck 1 (f := ck1) rfl)
  have a1 : PySem.W.nsIn K mainGlobals "third_of" = some (some (.ref f1a)) := by rw [h_f1a]; exact He.eqO_ok (c.ck 2 (f := ck2) rfl)
  have a2 : PySem.W.nsIn K mainGlobals "is_command" = some (some (.ref f2a)) := by rw [h_f2a]; exact He.eqO_ok (c.ck 3 (f := ck3) rfl)
  have a3 : PySem.W.nsIn K mainGlobals "is_score" = some (some (.ref f3a)) := by rw [h_f3a]; exact He.eqO_ok (c.ck 4 (f := ck4) rfl)
  have a4 : PySem.W.nsIn K mainGlobals "_law_cell" = some (some (.ref f4a)) := by rw [h_f4a]; exact He.eqO_ok (c.ck 5 (f := ck5) rfl)
  have a5 : PySem.W.nsIn K mainGlobals "_law_number" = some (some (.ref f5a)) := by rw [h_f5a]; exact He.eqO_ok (c.ck 6 (f := ck6) rfl)
  have a6 : PySem.W.nsIn K mainGlobals "_law_odd" = some (some (.ref f6a)) := by rw [h_f6a]; exact He.eqO_ok (c.ck 7 (f := ck7) rfl)
  have a7 : PySem.W.nsIn K mainGlobals "_law_third" = some (some (.ref f7a)) := by rw [h_f7a]; exact He.eqO_ok (c.ck 8 (f := ck8) rfl)
  have a8 : PySem.W.nsIn K mainGlobals "_law_command" = some (some (.ref f8a)) := by rw [h_f8a]; exact He.eqO_ok (c.ck 9 (f := ck9) rfl)
  have a9 : PySem.W.nsIn K mainGlobals "_law_without" = some (some (.ref f9a)) := by rw [h_f9a]; exact He.eqO_ok (c.ck 10 (f := ck10) rfl)
  have a10 : PySem.W.nsIn K mainGlobals "_law_spoilt" = some (some (.ref f10a)) := by rw [h_f10a]; exact He.eqO_ok (c.ck 11 (f := ck11) rfl)
  have a11 : PySem.W.nsIn K mainGlobals "_law_turned" = some (some (.ref f11a)) := by rw [h_f11a]; exact He.eqO_ok (c.ck 12 (f := ck12) rfl)
  have a12 : PySem.W.nsIn K mainGlobals "_law_size" = some (some (.ref f12a)) := by rw [h_f12a]; exact He.eqO_ok (c.ck 13 (f := ck13) rfl)
  have a13 : PySem.W.nsIn K mainGlobals "_law_score" = some (some (.ref f13a)) := by rw [h_f13a]; exact He.eqO_ok (c.ck 14 (f := ck14) rfl)
  have a14 : PySem.W.nsIn K mainGlobals "_law_truth" = some (some (.ref f14a)) := by rw [h_f14a]; exact He.eqO_ok (c.ck 15 (f := ck15) rfl)
  have a15 : PySem.W.nsIn K mainGlobals "law" = some (some (.ref f15a)) := by rw [h_f15a]; exact He.eqO_ok (c.ck 16 (f := ck16) rfl)
  have z0 : PySem.W.nsIn K mainGlobals "len" = some none := He.eqO_ok (c.ck 17 (f := ck17) rfl)
  have z1 : PySem.W.nsIn K mainGlobals "int" = some none := He.eqO_ok (c.ck 18 (f := ck18) rfl)
  have z2 : PySem.W.nsIn K mainGlobals "str" = some none := He.eqO_ok (c.ck 19 (f := ck19) rfl)
  have z3 : PySem.W.nsIn K mainGlobals "list" = some none := He.eqO_ok (c.ck 20 (f := ck20) rfl)
  have z4 : PySem.W.nsIn K mainGlobals "tuple" = some none := He.eqO_ok (c.ck 21 (f := ck21) rfl)
  have z5 : PySem.W.nsIn K mainGlobals "dict" = some none := He.eqO_ok (c.ck 22 (f := ck22) rfl)
  have z6 : PySem.W.nsIn K mainGlobals "max" = some none := He.eqO_ok (c.ck 23 (f := ck23) rfl)
  have z7 : PySem.W.nsIn K mainGlobals "min" = some none := He.eqO_ok (c.ck 24 (f := ck24) rfl)
  have z8 : PySem.W.nsIn K mainGlobals "abs" = some none := He.eqO_ok (c.ck 25 (f := ck25) rfl)
  have z9 : PySem.W.nsIn K mainGlobals "sum" = some none := He.eqO_ok (c.ck 26 (f := ck26) rfl)
  have z10 : PySem.W.nsIn K mainGlobals "sorted" = some none := He.eqO_ok (c.ck 27 (f := ck27) rfl)
  have z11 : PySem.W.nsIn K mainGlobals "any" = some none := He.eqO_ok (c.ck 28 (f := ck28) rfl)
  have z12 : PySem.W.nsIn K mainGlobals "all" = some none := He.eqO_ok (c.ck 29 (f := ck29) rfl)
  have z13 : PySem.W.nsIn K mainGlobals "ord" = some none := He.eqO_ok (c.ck 30 (f := ck30) rfl)
  have z14 : PySem.W.nsIn K mainGlobals "isinstance" = some none := He.eqO_ok (c.ck 31 (f := ck31) rfl)
  have z15 : PySem.W.nsIn K mainGlobals "range" = some none := He.eqO_ok (c.ck 32 (f := ck32) rfl)
  have z16 : PySem.W.nsIn K mainGlobals "enumerate" = some none := He.eqO_ok (c.ck 33 (f := ck33) rfl)
  have z17 : PySem.W.nsIn K mainGlobals "zip" = some none := He.eqO_ok (c.ck 34 (f := ck34) rfl)
  have z18 : PySem.W.nsIn K mainGlobals "reversed" = some none := He.eqO_ok (c.ck 35 (f := ck35) rfl)
  have z19 : PySem.W.nsIn K mainGlobals "bool" = some none := He.eqO_ok (c.ck 36 (f := ck36) rfl)
  have z20 : PySem.W.nsIn K mainGlobals "ValueError" = some none := He.eqO_ok (c.ck 37 (f := ck37) rfl)
  obtain ⟨fd0, F0⟩ := c.fun_ 0 (st := st0) rfl
  rw [← h_f0a] at F0
  have k0 := F0.kp
  have b0_ := F0.binds (ps := ["thing"]) fun _ _ _ _ _ _ us hl => match us, hl with | [_], _ => rfl
  obtain ⟨fd1, F1⟩ := c.fun_ 1 (st := st1) rfl
  rw [← h_f1a] at F1
  have k1 := F1.kp
  have b1_ := F1.binds (ps := ["do"]) fun _ _ _ _ _ _ us hl => match us, hl with | [_], _ => rfl
  obtain ⟨fd2, F2⟩ := c.fun_ 2 (st := st2) rfl
  rw [← h_f2a] at F2
  have k2 := F2.kp
  have b2_ := F2.binds (ps := ["value"]) fun _ _ _ _ _ _ us hl => match us, hl with | [_], _ => rfl
  obtain ⟨fd3, F3⟩ := c.fun_ 3 (st := st3) rfl
  rw [← h_f3a] at F3
  have k3 := F3.kp
  have b3_ := F3.binds (ps := ["value"]) fun _ _ _ _ _ _ us hl => match us, hl with | [_], _ => rfl
  obtain ⟨fd4, F4⟩ := c.fun_ 4 (st := st4) rfl
  rw [← h_f4a] at F4
  have k4 := F4.kp
  have b4_ := F4.binds (ps := ["_law_script", "_law_k"]) fun _ _ _ _ _ _ us hl => match us, hl with | [_, _], _ => rfl
  obtain ⟨fd5, F5⟩ := c.fun_ 5 (st := st5) rfl
  rw [← h_f5a] at F5
  have k5 := F5.kp
  have b5_ := F5.binds (ps := ["_law_cell_here"]) fun _ _ _ _ _ _ us hl => match us, hl with | [_], _ => rfl
  obtain ⟨fd6, F6⟩ := c.fun_ 6 (st := st6) rfl
  rw [← h_f6a] at F6
  have k6 := F6.kp
  have b6_ := F6.binds (ps := ["_law_cell_here"]) fun _ _ _ _ _ _ us hl => match us, hl with | [_], _ => rfl
  obtain ⟨fd7, F7⟩ := c.fun_ 7 (st := st7) rfl
  rw [← h_f7a] at F7
  have k7 := F7.kp
  have b7_ := F7.binds (ps := ["_law_do"]) fun _ _ _ _ _ _ us hl => match us, hl with | [_], _ => rfl
  obtain ⟨fd8, F8⟩ := c.fun_ 8 (st := st8) rfl
  rw [← h_f8a] at F8
  have k8 := F8.kp
  have b8_ := F8.binds (ps := ["_law_cell_here", "_law_other", "_law_held"]) fun _ _ _ _ _ _ us hl => match us, hl with | [_, _, _], _ => rfl
  obtain ⟨fd9, F9⟩ := c.fun_ 9 (st := st9) rfl
  rw [← h_f9a] at F9
  have k9 := F9.kp
  have b9_ := F9.binds (ps := ["_law_command_here", "_law_word"]) fun _ _ _ _ _ _ us hl => match us, hl with | [_, _], _ => rfl
  obtain ⟨fd10, F10⟩ := c.fun_ 10 (st := st10) rfl
  rw [← h_f10a] at F10
  have k10 := F10.kp
  have b10_ := F10.binds (ps := ["_law_command_here", "_law_cell_here"]) fun _ _ _ _ _ _ us hl => match us, hl with | [_, _], _ => rfl
  obtain ⟨fd11, F11⟩ := c.fun_ 11 (st := st11) rfl
  rw [← h_f11a] at F11
  have k11 := F11.kp
  have b11_ := F11.binds (ps := ["_law_command_here", "_law_cell_here"]) fun _ _ _ _ _ _ us hl => match us, hl with | [_, _], _ => rfl
  obtain ⟨fd12, F12⟩ := c.fun_ 12 (st := st12) rfl
  rw [← h_f12a] at F12
  have k12 := F12.kp
  have b12_ := F12.binds (ps := ["_law_script"]) fun _ _ _ _ _ _ us hl => match us, hl with | [_], _ => rfl
  obtain ⟨fd13, F13⟩ := c.fun_ 13 (st := st13) rfl
  rw [← h_f13a] at F13
  have k13 := F13.kp
  have b13_ := F13.binds (ps := ["_law_script", "_law_size_here", "_law_bad"]) fun _ _ _ _ _ _ us hl => match us, hl with | [_, _, _], _ => rfl
  obtain ⟨fd14, F14⟩ := c.fun_ 14 (st := st14) rfl
  rw [← h_f14a] at F14
  have k14 := F14.kp
  have b14_ := F14.binds (ps := ["_law_found", "_law_due"]) fun _ _ _ _ _ _ us hl => match us, hl with | [_, _], _ => rfl
  obtain ⟨fd15, F15⟩ := c.fun_ 15 (st := st15) rfl
  rw [← h_f15a] at F15
  have k15 := F15.kp
  have b15_ := F15.binds (ps := ["_law_script"]) fun _ _ _ _ _ _ us hl => match us, hl with | [_], _ => rfl
  have e := hfa.symm.trans (PySem.W.mg_of X G a15)
  have e2 : f15a = fa := by cases e; rfl
  subst e2
  have hbl : ∀ (s : Shared) (u : Value), BindsTo s fd15 ⟨[u], []⟩ [("_law_script", u)] := fun s u => by
    obtain ⟨_, _, _, _, _, _, _, _, _, e, _, _⟩ := F15.ex
    rw [e]
    exact .of_eq rfl
  refine ⟨nmOf (fun _ => 0) fieldL fieldLow, S_ (fun i => ([f0a, f1a, f2a, f3a, f4a, f5a, f6a, f7a, f8a, f9a, f10a, f11a, f12a, f13a, f14a, f15a] : List Addr).getD i 0) (fun i => ([fd0, fd1, fd2, fd3, fd4, fd5, fd6, fd7, fd8, fd9, fd10, fd11, fd12, fd13, fd14, fd15] : List FuncData).getD i (PySem.W.fnOf "" "" (defArgs st0) (defBody st0) (defScope st0) .none .none .none .none none .none .none)) (fun _ => 0) (fun _ => PySem.W.fnOf "" "" (defArgs st0) (defBody st0) (defScope st0) .none .none .none .none none .none .none), ⟨?_, ?_, ?_, ?_, ?_, ?_, ?_, ?_, ?_, ?_, ?_, ?_, ?_, ?_, ?_⟩, ?_, ?_, rfl, rfl, hbl⟩
  · exact fun x g h => look_all (l := glL) (P := fun x g => ∃ u v, mg x = some u ∧ RelV v u ∧ ∀ F r H, RelD (nmOf (fun _ => 0) fieldL fieldLow) F r H (T.glob g) v) (allN) h
  · exact allC (PySem.W.mg_none_of X G z0) (allC (PySem.W.mg_none_of X G z1) (allC (PySem.W.mg_none_of X G z2) (allC (PySem.W.mg_none_of X G z3) (allC (PySem.W.mg_none_of X G z4) (allC (PySem.W.mg_none_of X G z5) (allC (PySem.W.mg_none_of X G z6) (allC (PySem.W.mg_none_of X G z7) (allC (PySem.W.mg_none_of X G z8) (allC (PySem.W.mg_none_of X G z9) (allC (PySem.W.mg_none_of X G z10) (allC (PySem.W.mg_none_of X G z11) (allC (PySem.W.mg_none_of X G z12) (allC (PySem.W.mg_none_of X G z13) (allC (PySem.W.mg_none_of X G z14) (allC (PySem.W.mg_none_of X G z15) (allC (PySem.W.mg_none_of X G z16) (allC (PySem.W.mg_none_of X G z17) (allC (PySem.W.mg_none_of X G z18) (allC (PySem.W.mg_none_of X G z19) (allC (PySem.W.mg_none_of X G z20) (allN)))))))))))))))))))))
  · exact fun x g h => look_all (l := fnsL) (P := fun x g => mg x = some (.ref (([f0a, f1a, f2a, f3a, f4a, f5a, f6a, f7a, f8a, f9a, f10a, f11a, f12a, f13a, f14a, f15a] : List Addr).getD g 0)) ∧ PySem.W.keepIn K (.ref (([f0a, f1a, f2a, f3a, f4a, f5a, f6a, f7a, f8a, f9a, f10a, f11a, f12a, f13a, f14a, f15a] : List Addr).getD g 0)) = true ∧ Binds K (([fd0, fd1, fd2, fd3, fd4, fd5, fd6, fd7, fd8, fd9, fd10, fd11, fd12, fd13, fd14, fd15] : List FuncData).getD g (PySem.W.fnOf "" "" (defArgs st0) (defBody st0) (defScope st0) .none .none .none .none none .none .none)) (psL.getD g []) []) (allC (⟨PySem.W.mg_of X G a0, k0, b0_⟩) (allC (⟨PySem.W.mg_of X G a1, k1, b1_⟩) (allC (⟨PySem.W.mg_of X G a2, k2, b2_⟩) (allC (⟨PySem.W.mg_of X G a3, k3, b3_⟩) (allC (⟨PySem.W.mg_of X G a4, k4, b4_⟩) (allC (⟨PySem.W.mg_of X G a5, k5, b5_⟩) (allC (⟨PySem.W.mg_of X G a6, k6, b6_⟩) (allC (⟨PySem.W.mg_of X G a7, k7, b7_⟩) (allC (⟨PySem.W.mg_of X G a8, k8, b8_⟩) (allC (⟨PySem.W.mg_of X G a9, k9, b9_⟩) (allC (⟨PySem.W.mg_of X G a10, k10, b10_⟩) (allC (⟨PySem.W.mg_of X G a11, k11, b11_⟩) (allC (⟨PySem.W.mg_of X G a12, k12, b12_⟩) (allC (⟨PySem.W.mg_of X G a13, k13, b13_⟩) (allC (⟨PySem.W.mg_of X G a14, k14, b14_⟩) (allC (⟨PySem.W.mg_of X G a15, k15, b15_⟩) (allN))))))))))))))))) h
  · intro c hc; cases hc
  · intro c f hc; cases hc
  · intro x k c g h1; cases h1
  · intro x c g h1; cases h1
  · exact fun x c h => look_all (l := cnL) (P := fun x c => mg x = some (.ref (((fun _ => 0) : Nat → Addr) c))) (allN) h
  · exact fun c fs h => look_all (l := xfL) (P := fun c fs => XcOk K _ _ c fs) (allN) h
  · exact fun c d b h => look_all (l := xmL) (x := (c, d)) (g := b) (P := fun (p : Nat × Nat) (b : Bool) => NcOk K (((fun _ => 0) : Nat → Addr) p.2) ∧ PySem.W.subIn K (.ref (((fun _ => 0) : Nat → Addr) p.2)) (.type "BaseException") = some true ∧ PySem.W.subIn K (.ref (((fun _ => 0) : Nat → Addr) p.1)) (.ref (((fun _ => 0) : Nat → Addr) p.2)) = some b) (allN) h
  · exact fun c d b h => look_all (l := subL) (x := (c, d)) (g := b) (P := fun (p : Nat × Nat) (b : Bool) => IcOk K (((fun _ => 0) : Nat → Addr) p.1) ∧ Cls K (((fun _ => 0) : Nat → Addr) p.1) ∧ NcOk K (((fun _ => 0) : Nat → Addr) p.2) ∧ PySem.W.subIn K (.ref (((fun _ => 0) : Nat → Addr) p.1)) (.ref (((fun _ => 0) : Nat → Addr) p.2)) = some b ∧ PySem.W.subIn K (.ref (((fun _ => 0) : Nat → Addr) p.2)) (.ref (((fun _ => 0) : Nat → Addr) p.2)) = some true) (allN) h
  · exact fun ⟨_, _, _, h⟩ => by cases h
  · exact fun c => look_off (l := subL) (k := 999) (by decide) c
  · exact fun c d b h => look_all (l := xiL) (x := (c, d)) (g := b) (P := fun (p : Nat × Nat) (b : Bool) => XqOk K (((fun _ => 0) : Nat → Addr) p.1) ∧ PySem.W.kitOne K (.ref (((fun _ => 0) : Nat → Addr) p.1)) (cvV (nmOf ((fun _ => 0) : Nat → Addr) fieldL fieldLow) p.2) = some b) (allN) h
  · exact fun x g h => look_all (l := supL) (P := fun x g => ∃ C, mg x = some (.ref C) ∧ SpOk K C (([f0a, f1a, f2a, f3a, f4a, f5a, f6a, f7a, f8a, f9a, f10a, f11a, f12a, f13a, f14a, f15a] : List Addr).getD g 0) ∧ Binds K (([fd0, fd1, fd2, fd3, fd4, fd5, fd6, fd7, fd8, fd9, fd10, fd11, fd12, fd13, fd14, fd15] : List FuncData).getD g (PySem.W.fnOf "" "" (defArgs st0) (defBody st0) (defScope st0) .none .none .none .none none .none .none)) (psL.getD g []) []) (allN) h
  · exact fun c f fs h => look_all (l := xfL) (P := fun c l => ∀ g gs, l = g :: gs → gs.length ≤ 800 ∧ XiOk K mg _ _ c (g :: gs)) (allN) h f fs rfl
  · exact fun g fd e => getC_all (P := fun g fd => DefOk K _ T _ g fd) (l := Fl) (getC ⟨"is_number", "is_number", st0, nm0, F0, sc0, rfl, rfl, chk0 _ _ _ _ _⟩ (getC ⟨"third_of", "third_of", st1, nm1, F1, sc1, rfl, rfl, chk1 _ _ _ _ _⟩ (getC ⟨"is_command", "is_command", st2, nm2, F2, sc2, rfl, rfl, chk2 _ _ _ _ _⟩ (getC ⟨"is_score", "is_score", st3, nm3, F3, sc3, rfl, rfl, chk3 _ _ _ _ _⟩ (getC ⟨"_law_cell", "_law_cell", st4, nm4, F4, sc4, rfl, rfl, chk4 _ _ _ _ _⟩ (getC ⟨"_law_number", "_law_number", st5, nm5, F5, sc5, rfl, rfl, chk5 _ _ _ _ _⟩ (getC ⟨"_law_odd", "_law_odd", st6, nm6, F6, sc6, rfl, rfl, chk6 _ _ _ _ _⟩ (getC ⟨"_law_third", "_law_third", st7, nm7, F7, sc7, rfl, rfl, chk7 _ _ _ _ _⟩ (getC ⟨"_law_command", "_law_command", st8, nm8, F8, sc8, rfl, rfl, chk8 _ _ _ _ _⟩ (getC ⟨"_law_without", "_law_without", st9, nm9, F9, sc9, rfl, rfl, chk9 _ _ _ _ _⟩ (getC ⟨"_law_spoilt", "_law_spoilt", st10, nm10, F10, sc10, rfl, rfl, chk10 _ _ _ _ _⟩ (getC ⟨"_law_turned", "_law_turned", st11, nm11, F11, sc11, rfl, rfl, chk11 _ _ _ _ _⟩ (getC ⟨"_law_size", "_law_size", st12, nm12, F12, sc12, rfl, rfl, chk12 _ _ _ _ _⟩ (getC ⟨"_law_score", "_law_score", st13, nm13, F13, sc13, rfl, rfl, chk13 _ _ _ _ _⟩ (getC ⟨"_law_truth", "_law_truth", st14, nm14, F14, sc14, rfl, rfl, chk14 _ _ _ _ _⟩ (getC ⟨"law", "law", st15, nm15, F15, sc15, rfl, rfl, chk15 _ _ _ _ _⟩ (getN))))))))))))))))) g fd e
end Ev.Law
namespace Ev.Law
open PySem L2
/-! ### numbers -/
theorem b_mod {i j : Int} {m : Mem} (h : j ≠ 0) : binD .mod (.int i) (.int j) m = .ok (.int (i.fmod j)) m := by
  show (if j ≠ 0 then Res.ok (D.int (i.fmod j)) m else .bad) = _
  rw [if_pos h]
theorem b_div {i j : Int} {m : Mem} (h : j ≠ 0) (h2 : j.natAbs < 2 ^ 9000) : binD .fdiv (.int i) (.int j) m = .ok (.int (i.fdiv j)) m := by
  show (if j ≠ 0 ∧ j.natAbs < 2 ^ 9000 then Res.ok (D.int (i.fdiv j)) m else .bad) = _
  rw [if_pos ⟨h, h2⟩]
theorem big9000 {j : Nat} (h : j < 2 ^ 64) : j < 2 ^ 9000 := Nat.lt_of_lt_of_le h (Nat.pow_le_pow_right (by decide) (by decide))
theorem fmod_in (z : Int) {n : Int} (h : 0 < n) : 0 ≤ z.fmod n ∧ z.fmod n < n := ⟨Int.fmod_nonneg_of_pos z h, Int.fmod_lt_of_pos z h⟩
end Ev.Law
namespace Ev.Law
open PySem L2
/-! ### loops, more -/
theorem shows_rev {a : Nat} {m : Mem} {xs : List D} (h : m[a]? = some (.lst xs)) : Shows (.by xs.length (getR a xs.length)) m xs.reverse := ⟨fun i => by
  show getR a xs.length m i = _
  unfold getR
  by_cases hi : i < xs.length
  · rw [if_pos hi, h]
    have e : xs.reverse[i]? = xs[xs.length - 1 - i]? := by
      rw [List.getElem?_reverse hi]
    rw [e]
    have : xs.length - 1 - i < xs.length := by omega
    rw [List.getElem?_eq_getElem this]
    dsimp only
    rw [List.getElem?_eq_getElem this]
  · rw [if_neg hi, List.getElem?_eq_none (by simp; omega)], by show xs.length = _; simp⟩
/-- a for loop over what stays, its memory too, that always goes on -/
theorem sForS {cf : CF} {g : Tg} {it : IT} {b : SSs} {its : Ev.Its} {xs : List D} {env : Env} {m m1 : Mem} (h : evI T cf it env m = .ok its m1) (S : Shows its m1 xs) (P : Nat → Env → Prop) (h0 : P 0 env) (st : ∀ (i : Nat) (x : D) (env : Env), xs[i]? = some x → P i env → ∃ e', bodyG g (evSs T cf b) x env m1 = .ok .nx e' m1 ∧ P (i + 1) e') :
    ∃ e', evS T cf (.for_ g it b) env m = .ok .nx e' m1 ∧ P xs.length e' := by
  obtain ⟨e', q, p⟩ := for_inv S P st xs.length 0 env (by omega) h0
  refine ⟨e', ?_, p⟩
  rw [evS_for, h]
  exact q
theorem cut_first (x : D) (r : List D) : cutL (x :: r) none (some 1) = [x] := by
  unfold cutL
  rw [HT.sIx_none, show (some (1 : Int)) = some ((1 : Nat) : Int) from rfl, HT.sIx_nat]
  have : min 1 (x :: r).length = 1 := by simp
  rw [this]
  rfl
theorem cut_rest (x : D) (r : List D) : cutL (x :: r) (some 1) none = r := by
  unfold cutL
  rw [HT.sIx_none, show (some (1 : Int)) = some ((1 : Nat) : Int) from rfl, HT.sIx_nat]
  have : min 1 (x :: r).length = 1 := by simp
  rw [this]
  simp
theorem b_mul {i j : Int} {m : Mem} (h : mulOk i j = true) : binD .mul (.int i) (.int j) m = .ok (.int (i * j)) m := if_pos h
theorem forB_go {get : Mem → Nat → Option (Option D)} {body : D → Env → Mem → SR} {xs : List D} (P : Nat → Env → Mem → Prop) (hg : ∀ i env m, P i env m → get m i = some xs[i]?)
    (st : ∀ i x env m, xs[i]? = some x → P i env m → ∃ e' m', body x env m = .ok .nx e' m' ∧ P (i + 1) e' m') : ∀ (n i : Nat) (env : Env) (m : Mem), xs.length = i + n → P i env m → ∃ e' m', forB get body n i env m = .ok .nx e' m' ∧ P xs.length e' m'
  | 0, i, env, m, h, p => by
    have hi : i = xs.length := by omega
    refine ⟨env, m, ?_, hi ▸ p⟩
    show (match get m i with | some none => _ | _ => _) = _
    rw [hg i env m p, List.getElem?_eq_none (by omega)]
  | n + 1, i, env, m, h, p => by
    have hi : i < xs.length := by omega
    obtain ⟨e', m', e, p'⟩ := st i xs[i] env m (List.getElem?_eq_getElem hi) p
    obtain ⟨e2, m2, r, q⟩ := forB_go P hg st n (i + 1) e' m' (by omega) p'
    refine ⟨e2, m2, ?_, q⟩
    show (match get m i with | none => _ | some none => _ | some (some x) => _) = _
    rw [hg i env m p, List.getElem?_eq_getElem hi]
    dsimp only
    rw [e]
    exact r
theorem sForB {cf : CF} {g : Tg} {it : IT} {b : SSs} {n : Nat} {get : Mem → Nat → Option (Option D)} {env : Env} {m m1 : Mem} {r : SR} (h : evI T cf it env m = .ok (.by n get) m1) (h2 : forB get (bodyG g (evSs T cf b)) n 0 env m1 = r) : evS T cf (.for_ g it b) env m = r := by
  rw [← h2]
  show (evI T cf it env m).st env _ = _
  rw [h]
  rfl
/-- a for loop over a list that lies in memory (by its places or not), which the body leaves as it is, always going on -/
theorem sForM {cf : CF} {g : Tg} {it : IT} {b : SSs} {n : Nat} {get : Mem → Nat → Option (Option D)} {xs : List D} {env : Env} {m m1 : Mem} (h : evI T cf it env m = .ok (.by n get) m1) (hn : n = xs.length) (P : Nat → Env → Mem → Prop) (h0 : P 0 env m1) (hg : ∀ i env m, P i env m → get m i = some xs[i]?)
    (st : ∀ i x env m, xs[i]? = some x → P i env m → ∃ e' m', bodyG g (evSs T cf b) x env m = .ok .nx e' m' ∧ P (i + 1) e' m') : ∃ e' m', evS T cf (.for_ g it b) env m = .ok .nx e' m' ∧ P xs.length e' m' := by
  obtain ⟨e', m', r, q⟩ := forB_go P hg st xs.length 0 env m1 (by omega) h0
  subst hn
  exact ⟨e', m', sForB h r, q⟩
theorem getE_at {a : Nat} {m : Mem} {xs : List D} (h : m[a]? = some (.lst xs)) (i : Nat) : getE a m i = some (enumL 0 xs)[i]? := (shows_enum h).at_ i
theorem getL_at' {a : Nat} {m : Mem} {xs : List D} (h : m[a]? = some (.lst xs)) (i : Nat) : getL a m i = some xs[i]? := (shows_ref h).at_ i
theorem enumL_at : ∀ (xs : List D) (n i : Nat) (x : D), (enumL n xs)[i]? = some x → ∃ y, xs[i]? = some y ∧ x = .tup [.int (n + i : Nat), y]
  | [], n, i, x, h => by simp [enumL] at h
  | y :: ys, n, 0, x, h => by
    have h : some (D.tup [.int (n : Nat), y]) = some x := h
    cases h
    exact ⟨y, rfl, rfl⟩
  | y :: ys, n, i + 1, x, h => by
    obtain ⟨z, h1, h2⟩ := enumL_at ys (n + 1) i x h
    refine ⟨z, h1, ?_⟩
    rw [h2, show n + 1 + i = n + (i + 1) by omega]
theorem enumL_len : ∀ (xs : List D) (n : Nat), (enumL n xs).length = xs.length
  | [], _ => rfl
  | y :: ys, n => by show (enumL (n + 1) ys).length + 1 = _; rw [enumL_len ys]; rfl
/-! ### letters -/
abbrev abc : Str := "abcdefghijklmnopqrstuvwxyz"
theorem abc_at {i : Int} (h0 : 0 ≤ i) (h : i < 26) (m : Mem) : ∃ c, idxD (.str abc) (.int i) m = some (.str ⟨#[c]⟩) := by
  obtain ⟨n, rfl⟩ := Int.eq_ofNat_of_zero_le h0
  have hl : n < abc.cps.toList.length := by
    have : abc.cps.toList.length = 26 := by decide +kernel
    omega
  refine ⟨abc.cps.toList[n], ?_⟩
  show (if fits abc.length then (atI abc.cps.toList (n : Int)).map fun c => D.str ⟨#[c]⟩ else none) = _
  rw [if_pos (by decide +kernel), atI_nat (List.getElem?_eq_getElem hl)]
  rfl
theorem len_app1 (w : Str) (c : Nat) : (w ++ (⟨#[c]⟩ : Str)).length = w.length + 1 := by
  rw [Str.length_append]; rfl
end Ev.Law
namespace Ev.Law
open PySem L2
/-! ### lists in memory, one lemma a word -/
theorem i_seq {cf : CF} {e : SE} {env : Env} {m m1 : Mem} {x : D} {its : Ev.Its} (h : evE T cf e env m = .ok x m1) (h2 : seqI x m1 = some its) : evI T cf (.seq e) env m = .ok its m1 := by
  show (evE T cf e env m).bind _ = _
  rw [h]
  show Res.opt (seqI x m1) m1 = _
  rw [h2]
  rfl
theorem mulOk_r {i j : Int} (h : j.natAbs < 2 ^ 64) : mulOk i j = true := by
  unfold mulOk; rw [decide_eq_true h]; simp
theorem putK_new {kvs : List (Key × D)} {q : Key} {v : D} (h : q ∉ kvs.map (·.1)) : putK kvs q v = kvs ++ [(q, v)] := by
  unfold putK
  rw [if_neg]
  intro hx
  obtain ⟨p, hp, he⟩ := List.any_eq_true.mp hx
  exact h (List.mem_map.mpr ⟨p, hp, of_decide_eq_true he⟩)
section
variable {m : Mem} {a : Nat} {xs : List D}
theorem len_ref (h : m[a]? = some (.lst xs)) : bltD .len [.ref a] m = .ok (.int xs.length) m := by
  show Res.opt ((lenD (.ref a) m).map _) m = _
  unfold lenD
  rw [sh_ref, h]
  rfl
theorem slc_ref (h : m[a]? = some (.lst xs)) (lo hi : Option Int) : slcD (.ref a) lo hi m = .ok (.ref m.length) (m ++ [.lst (cutL xs lo hi)]) := by
  unfold slcD
  rw [sh_ref, h]
  rfl
theorem seq_ref (h : m[a]? = some (.lst xs)) : seqI (.ref a) m = some (.by xs.length (getL a)) := by
  unfold seqI
  dsimp only
  rw [h]
theorem idx_ref (h : m[a]? = some (.lst xs)) (i : D) : idxD (.ref a) i m = idxD (.lst xs) i m := by
  unfold idxD
  rw [sh_ref, h]
  rfl
theorem in_ref (h : m[a]? = some (.lst xs)) (x : D) : inD x (.ref a) m = anyEqL (shown m x) xs := by
  unfold inD
  rw [sh_ref, h]
theorem intsD_map : ∀ ns : List Int, intsD (ns.map D.int) = some ns
  | [] => rfl
  | n :: ns => by
    show (intsD (ns.map D.int)).map (n :: ·) = _
    rw [intsD_map ns]
    rfl
theorem sum_ref {ns : List Int} (h : m[a]? = some (.lst (ns.map D.int))) : bltD .sum [.ref a] m = .ok (.int ns.sum) m := by
  show (match shown m (.ref a) with | .lst xs => Res.opt ((intsD xs).map fun (ns : List Int) => D.int ns.sum) m | _ => .bad) = _
  rw [sh_ref, h]
  dsimp only
  rw [intsD_map]
  rfl
theorem app_ok (h : m[a]? = some (.lst xs)) : mthOk .append (.ref a) m = true := by
  unfold mthOk
  dsimp only
  rw [sh_ref, h]
theorem app_ref (h : m[a]? = some (.lst xs)) (v : D) (hl : xs.length ≤ 16000000) : mthD .append (.ref a) [v] m = .ok .non (m.set a (.lst (xs ++ [v]))) := by
  unfold mthD
  dsimp only
  rw [h]
  exact if_pos (fitsLe (by omega))
theorem tup_ref (h : m[a]? = some (.lst xs)) : bltD .tuple [.ref a] m = .ok (.tup xs) m := by
  show (match shown m (.ref a) with | .tup xs => Res.ok (D.tup xs) m | .lst xs => .ok (.tup xs) m | _ => .bad) = _
  rw [sh_ref, h]
theorem cut_hi {xs : List D} {i : Nat} (h : i ≤ xs.length) : cutL xs none (some (i : Int)) = xs.take i := by
  unfold cutL
  rw [HT.sIx_none, HT.sIx_nat, List.drop_zero, Nat.sub_zero]
  exact congrArg (fun n => xs.take n) (by omega)
theorem cut_lo {xs : List D} {i : Nat} (h : i ≤ xs.length) : cutL xs (some (i : Int)) none = xs.drop i := by
  unfold cutL
  rw [HT.sIx_none, HT.sIx_nat, show min i xs.length = i by omega]
  exact List.take_of_length_le (by simp)
theorem all_app {l : Mem} (h : m.all isLstO = true) (g : l.all isLstO = true) : (m ++ l).all isLstO = true := by
  rw [List.all_append, h, g]; rfl
theorem all_set {o : O} (h : m.all isLstO = true) (g : isLstO o = true) : (m.set a o).all isLstO = true := by
  rw [List.all_eq_true] at h ⊢
  intro x hx
  rcases List.mem_or_eq_of_mem_set hx with e | e
  · exact h x e
  · rw [e]; exact g
theorem append_st {cf : CF} {i : Nat} {e : SE} {env : Env} {v : D} {m' : Mem} (hv : env[i]? = some (some (.ref a))) (h0 : m[a]? = some (.lst xs)) (he : evE T cf e env m = .ok v m') (h : m'[a]? = some (.lst xs)) (hl : xs.length ≤ 16000000) : evS T cf (.expr (.mth .append (.var i) (.cons e .nil))) env m = .ok .nx env (m'.set a (.lst (xs ++ [v]))) := by
  refine sExpr (e_mth (x := .ref a) (m1 := m) ?_ (app_ok h0) (es_1 he) (app_ref h v hl))
  show (match env[i]? with | some (some d) => Res.ok d m | _ => .bad) = _
  rw [hv]
end
end Ev.Law
namespace Ev.Law
open PySem L2
/-! ### lending, displays, small words -/
theorem frz_dKn {m1 : Mem} {a n : Nat} {kvs : List (Key × D)} (h : m1[a]? = some (.dK kvs)) (hp : pureK kvs = true) : frz m1 (n + 1) (.ref a) = some (.dK kvs) := by
  unfold frz
  rw [if_neg (by show ¬ (false = true); decide)]
  dsimp only
  rw [h]
  dsimp only
  rw [mapM_pureK (pureK_mem hp)]
  rfl
theorem lend_ref {m : Mem} {a : Nat} {L : List D} (h : m[a]? = some (.lst L)) (hp : pureL L = true) : lend m (.ref a) = some (.lst L) := by
  unfold lend
  rw [if_neg (by show ¬ (false = true); decide), sh_ref, h]
  exact if_pos hp
theorem lend_refK {m : Mem} {a : Nat} {L : List (Key × D)} (h : m[a]? = some (.dK L)) (hp : pureK L = true) : lend m (.ref a) = some (.dK L) := by
  unfold lend
  rw [if_neg (by show ¬ (false = true); decide), sh_ref, h]
  exact if_pos hp
theorem lend_of {m : Mem} {d : D} (h : d.pure = true) : lend m d = some d := by unfold lend; exact if_pos h
theorem lendAll_cons {m : Mem} {d x : D} {ds xs : List D} (h : lend m d = some x) (h2 : lendAll m ds = some xs) : lendAll m (d :: ds) = some (x :: xs) := by unfold lendAll; rw [h, h2]
theorem e_andT {cf : CF} {a b : SE} {env : Env} {m m1 : Mem} {r : Res D} (h : evE T cf a env m = .ok (.bl true) m1) (h2 : evE T cf b env m1 = r) : evE T cf (.and a b) env m = r := by
  show (evE T cf a env m).bind _ = _
  rw [h]
  exact h2
theorem sSet2 {cf : CF} {i j : Nat} {e : SE} {env : Env} {m m1 : Mem} {x y : D} (h : evE T cf e env m = .ok (.tup [x, y]) m1) (hi : i < env.length) (hj : j < env.length) : evS T cf (.asg (.tup [.nm i, .nm j]) e) env m = .ok .nx ((env.set i (some x)).set j (some y)) m1 := by
  show (evE T cf e env m).st env _ = _
  rw [h]
  show optE (setT (.tup [.nm i, .nm j]) (.tup [x, y]) env m1) m1 = _
  unfold setT
  show optE (if 2 = 2 then setTs [.nm i, .nm j] [x, y] env m1 else none) m1 = _
  rw [if_pos rfl]
  unfold setTs setT
  rw [if_pos hi]
  dsimp only
  unfold setTs setT
  rw [if_pos (by simp [hj])]
  rfl
theorem pure1' {c : D} (h : c.pure = true) : pureL [c] = true := by show (c.pure && true) = true; rw [h]; rfl
theorem pure2 {c d : D} (h : c.pure = true) (h2 : d.pure = true) : pureL [c, d] = true := by show (c.pure && (d.pure && true)) = true; rw [h, h2]; rfl
theorem add_refs {m : Mem} {a b : Nat} {xs ys : List D} (h : m[a]? = some (.lst xs)) (h' : m[b]? = some (.lst ys)) (hl : xs.length + ys.length ≤ 16000000) : binD .add (.ref a) (.ref b) m = .ok (.ref m.length) (m ++ [.lst (xs ++ ys)]) := by
  show (match shown m (.ref a), shown m (.ref b) with | .lst xs, .lst ys => if fits (xs.length + ys.length) then new m (.lst (xs ++ ys)) else .bad | _, _ => .bad) = _
  rw [sh_ref, h, sh_ref, h']
  dsimp only
  rw [if_pos (fitsLe (by omega))]
  rfl
end Ev.Law
namespace Ev.Law
open PySem L2
/-! ### stepping by syntax: `exists h1, h2, ..` solves what an expression comes to; calls by the terms given -/
section
variable {T : Tab} {cf : CF} {env e' : Env} {m m1 m2 m3 m' : Mem}
theorem hB {o : BOp} {x y : D} {r : Res D} (h : binD o x y m = r) : binD o x y m = r := h
theorem hC {o : COp} {x y : D} {r : Option Bool} (h : cmpD o x y m = r) : cmpD o x y m = r := h
theorem hI {x y : D} {r : Option D} (h : idxD x y m = r) : idxD x y m = r := h
theorem hL {b : Blt} {xs : List D} {r : Res D} (h : bltD b xs m = r) : bltD b xs m = r := h
theorem hF {k f : Nat} {F : Nat → Option FD} {xs : List D} {r : Res D} (h : callF T F k f xs m = r) : callF T F k f xs m = r := h
theorem hV {x : D} {r : Option Bool} (h : truD x m = r) : truD x m = r := h
theorem hA {x : D} {ts : List Ty} {r : Option Bool} (h : anyTy m x ts = r) : anyTy m x ts = r := h
theorem hS {x : D} {l h : Option Int} {r : Res D} (e : slcD x l h m = r) : slcD x l h m = r := e
theorem tt_idx {a b : SE} {x y d : D} {t : Bool} (h1 : evE T cf a env m = .ok x m1) (h2 : evE T cf b env m1 = .ok y m2) (h3 : idxD x y m2 = some d) (h4 : truD d m2 = some t) : evT T cf (.idx a b) env m = .ok t m2 := by
  show ((evE T cf a env m).bind fun x m1 => (evE T cf b env m1).bind fun y m2 => (Res.opt (idxD x y m2) m2).bind fun d m3 => Res.opt (truD d m3) m3) = _
  rw [h1]
  show ((evE T cf b env m1).bind fun y m2 => (Res.opt (idxD x y m2) m2).bind fun d m3 => Res.opt (truD d m3) m3) = _
  rw [h2]
  show (Res.opt (idxD x y m2) m2).bind _ = _
  rw [h3]
  show Res.opt (truD d m2) m2 = _
  rw [h4]
  rfl
theorem e_neg {a : SE} {x : D} {r : Res D} (h1 : evE T cf a env m = .ok x m1) (h2 : negD x m1 = r) : evE T cf (.neg a) env m = r := by
  show (evE T cf a env m).bind _ = _
  rw [h1]; exact h2
theorem hN {x : D} {r : Res D} (h : negD x m = r) : negD x m = r := h
theorem e_isn {a : SE} {n b : Bool} {x : D} (h1 : evE T cf a env m = .ok x m1) (h2 : isnD x = some b) : evE T cf (.isn n a) env m = .ok (.bl (b != n)) m1 := by
  show (evE T cf a env m).bind _ = _
  rw [h1]
  show Res.opt ((isnD x).map _) m1 = _
  rw [h2]; rfl
theorem tt_isn {a : SE} {n b : Bool} {x : D} (h1 : evE T cf a env m = .ok x m1) (h2 : isnD x = some b) : evT T cf (.isn n a) env m = .ok (b != n) m1 := by
  show (evE T cf a env m).bind _ = _
  rw [h1]
  show Res.opt ((isnD x).map _) m1 = _
  rw [h2]; rfl
theorem e_glb {g : Nat} : evE T cf (.glb g) env m = .ok (T.glob g) m := rfl

theorem gAsg {i : Nat} {e : SE} {ss : SSs} {d : D} {R : SR} (h : evE T cf e env m = .ok d m1) (hi : i < env.length) (r : evSs T cf ss (env.set i (some d)) m1 = R) : evSs T cf (.cons (.asg (.nm i) e) ss) env m = R := (sNx (sSet h hi)).trans r
theorem gAsg2 {i j : Nat} {e : SE} {ss : SSs} {x y : D} {R : SR} (h : evE T cf e env m = .ok (.tup [x, y]) m1) (hi : i < env.length) (hj : j < env.length) (r : evSs T cf ss ((env.set i (some x)).set j (some y)) m1 = R) : evSs T cf (.cons (.asg (.tup [.nm i, .nm j]) e) ss) env m = R := by
  refine (sNx (e' := (env.set i (some x)).set j (some y)) (m' := m1) ?_).trans r
  show (evE T cf e env m).st env _ = _
  rw [h]
  show optE (setT (.tup [.nm i, .nm j]) (.tup [x, y]) env m1) m1 = _
  unfold setT
  show optE (if 2 = 2 then setTs [.nm i, .nm j] [x, y] env m1 else none) m1 = _
  rw [if_pos rfl]
  unfold setTs setT
  rw [if_pos hi]
  dsimp only
  unfold setTs setT
  rw [if_pos (by simp [hj])]
  rfl
theorem gRet {e : SE} {ss : SSs} {d : D} (h : evE T cf e env m = .ok d m1) : evSs T cf (.cons (.ret e) ss) env m = .ok (.rt d) env m1 := sRt (sRet h)
theorem gExpr {e : SE} {ss : SSs} {d : D} {R : SR} (h : evE T cf e env m = .ok d m1) (r : evSs T cf ss env m1 = R) : evSs T cf (.cons (.expr e) ss) env m = R := (sNx (sExpr h)).trans r
def appS : SSs → SSs → SSs
  | .nil, r => r
  | .cons s ss, r => .cons s (appS ss r)
theorem evSs_app (a b : SSs) : ∀ (env : Env) (m : Mem), evSs T cf (appS a b) env m = (evSs T cf a env m).then fun env1 m1 => evSs T cf b env1 m1 := fun env m => by
  match a with
  | .nil => rfl
  | .cons s ss =>
    show (evS T cf s env m).then _ = ((evS T cf s env m).then _).then _
    cases e : evS T cf s env m with
    | ok f env1 m1 => cases f with
      | nx => exact evSs_app ss b env1 m1
      | rt d => rfl
      | bk => rfl
      | ct => rfl
    | exc x env1 m1 => rfl
    | bad => rfl
theorem gIf {c : SE} {a b ss : SSs} {t : Bool} {R : SR} (h : evT T cf c env m = .ok t m1) (h1 : t = true → evSs T cf (appS a ss) env m1 = R) (h2 : t = false → evSs T cf (appS b ss) env m1 = R) : evSs T cf (.cons (.ite c a b) ss) env m = R := by
  show (evS T cf (.ite c a b) env m).then _ = R
  rw [sIf h]
  cases t with
  | true => rw [if_pos rfl, ← evSs_app]; exact h1 rfl
  | false => rw [if_neg (by decide), ← evSs_app]; exact h2 rfl
theorem gIfB {c : SE} {a b ss : SSs} {t : Bool} {R : SR} (h : evT T cf c env m = .ok t m1) (h1 : (t = true → evSs T cf (appS a ss) env m1 = R) ∧ (t = false → evSs T cf (appS b ss) env m1 = R)) : evSs T cf (.cons (.ite c a b) ss) env m = R := gIf h h1.1 h1.2
theorem gIfT {c : SE} {a b ss : SSs} {R : SR} (h : evT T cf c env m = .ok true m1) (h1 : evSs T cf (appS a ss) env m1 = R) : evSs T cf (.cons (.ite c a b) ss) env m = R := gIf h (fun _ => h1) fun e => by cases e
theorem gIfF {c : SE} {a b ss : SSs} {R : SR} (h : evT T cf c env m = .ok false m1) (h1 : evSs T cf (appS b ss) env m1 = R) : evSs T cf (.cons (.ite c a b) ss) env m = R := gIf h (fun e => by cases e) fun _ => h1
theorem resRt {s : SR} {d : D} {e1 : Env} (h : s = .ok (.rt d) e1 m1) : s.res = .ok d m1 := by rw [h]; rfl
theorem resNx {s : SR} {e1 : Env} (h : s = .ok .nx e1 m1) : s.res = .ok .non m1 := by rw [h]; rfl
theorem gTup {es : SEs} {xs : List D} (h : evEs T cf es env m = .ok xs m1) (hl : fits xs.length = true) : evE T cf (.tup es) env m = .ok (.tup xs) m1 := e_tup h hl
theorem gLst {es : SEs} {xs : List D} (h : evEs T cf es env m = .ok xs m1) (hl : fits xs.length = true) : evE T cf (.lst es) env m = .ok (.ref m1.length) (m1 ++ [.lst xs]) := e_lst h hl
theorem gPar {i j : Nat} {a b : SE} {ss : SSs} {x y : D} {R : SR} (h : evE T cf a env m = .ok x m1) (h2 : evE T cf b env m1 = .ok y m2) (hi : i < env.length) (hj : j < env.length) (r : evSs T cf ss ((env.set i (some x)).set j (some y)) m2 = R) : evSs T cf (.cons (.par i j a b) ss) env m = R := by
  refine (sNx (e' := (env.set i (some x)).set j (some y)) (m' := m2) ?_).trans r
  show (evE T cf a env m).st env _ = _
  rw [h]
  show (evE T cf b env m1).st env _ = _
  rw [h2]
  exact if_pos ⟨hi, hj⟩
theorem tt_or2 {a b : SE} {t u : Bool} (h : evT T cf a env m = .ok t m1) (h2 : evT T cf b env m1 = .ok u m1) : evT T cf (.or a b) env m = .ok (t || u) m1 := tt_or h fun _ => h2
theorem tt_and2 {a b : SE} {t u : Bool} (h : evT T cf a env m = .ok t m1) (h2 : evT T cf b env m1 = .ok u m1) : evT T cf (.and a b) env m = .ok (t && u) m1 := tt_and h fun _ => h2
theorem tt_andF {a b : SE} (h : evT T cf a env m = .ok false m1) : evT T cf (.and a b) env m = .ok false m1 := tt_and (u := false) h fun e => by cases e
theorem tt_andT {a b : SE} {u : Bool} (h : evT T cf a env m = .ok true m1) (h2 : evT T cf b env m1 = .ok u m2) : evT T cf (.and a b) env m = .ok u m2 := by
  show (evT T cf a env m).bind _ = _
  rw [h]; exact h2
theorem tt_orT {a b : SE} (h : evT T cf a env m = .ok true m1) : evT T cf (.or a b) env m = .ok true m1 := by
  show (evT T cf a env m).bind _ = _
  rw [h]; rfl
theorem tt_orF {a b : SE} {u : Bool} (h : evT T cf a env m = .ok false m1) (h2 : evT T cf b env m1 = .ok u m2) : evT T cf (.or a b) env m = .ok u m2 := by
  show (evT T cf a env m).bind _ = _
  rw [h]; exact h2
theorem ee_or2 {a b : SE} {t u : Bool} (h : evE T cf a env m = .ok (.bl t) m1) (h2 : evE T cf b env m1 = .ok (.bl u) m1) : evE T cf (.or a b) env m = .ok (.bl (t || u)) m1 := e_or h fun _ => h2
theorem ee_and2 {a b : SE} {t u : Bool} (h : evE T cf a env m = .ok (.bl t) m1) (h2 : evE T cf b env m1 = .ok (.bl u) m1) : evE T cf (.and a b) env m = .ok (.bl (t && u)) m1 := e_and h fun _ => h2
theorem ee_andT {a b : SE} {r : Res D} (h : evE T cf a env m = .ok (.bl true) m1) (h2 : evE T cf b env m1 = r) : evE T cf (.and a b) env m = r := by
  show (evE T cf a env m).bind _ = _
  rw [h]; exact h2
theorem ee_andF {a b : SE} (h : evE T cf a env m = .ok (.bl false) m1) : evE T cf (.and a b) env m = .ok (.bl false) m1 := by
  show (evE T cf a env m).bind _ = _
  rw [h]; rfl
theorem ee_orT {a b : SE} (h : evE T cf a env m = .ok (.bl true) m1) : evE T cf (.or a b) env m = .ok (.bl true) m1 := by
  show (evE T cf a env m).bind _ = _
  rw [h]; rfl
theorem ee_orF {a b : SE} {r : Res D} (h : evE T cf a env m = .ok (.bl false) m1) (h2 : evE T cf b env m1 = r) : evE T cf (.or a b) env m = r := by
  show (evE T cf a env m).bind _ = _
  rw [h]; exact h2
theorem gTryV {b el ss : SSs} {hs : SHs} {R : SR} (h : evSs T cf b env m = .ok .nx e' m1) (r : evSs T cf (appS el ss) e' m1 = R) : evSs T cf (.cons (.try_ b hs el) ss) env m = R := by
  show (match evSs T cf b env m with
    | .exc x env1 m1 => evHs T cf hs x env1 m1
    | .ok .nx env1 m1 => evSs T cf el env1 m1
    | r => r).then _ = R
  rw [h, ← r, evSs_app]
theorem gTryX {b el ss : SSs} {hs : SHs} {R : SR} {x : Xn} (h : evSs T cf b env m = .exc x e' m1) (r : (evHs T cf hs x e' m1).then (fun env1 m1 => evSs T cf ss env1 m1) = R) : evSs T cf (.cons (.try_ b hs el) ss) env m = R := by
  show (match evSs T cf b env m with
    | .exc x env1 m1 => evHs T cf hs x env1 m1
    | .ok .nx env1 m1 => evSs T cf el env1 m1
    | r => r).then _ = R
  rw [h]; exact r
theorem gHit {c i : Nat} {h : SSs} {hs : SHs} {x : Xn} {r : SR} (h1 : T.xm x.cls c = some true) (hi : i < env.length) (h2 : evSs T cf h (env.set i (some (.exn x.cls x.fs))) m = r) : evHs T cf (.cons c (some i) h hs) x env m = r.drop i := by
  unfold evHs
  rw [h1]
  dsimp only
  rw [if_pos hi, h2]
theorem gHit0 {c : Nat} {h : SSs} {hs : SHs} {x : Xn} {r : SR} (h1 : T.xm x.cls c = some true) (h2 : evSs T cf h env m = r) : evHs T cf (.cons c none h hs) x env m = r := by
  unfold evHs
  rw [h1]
  exact h2
theorem gMiss {c : Nat} {as_ : Option Nat} {h : SSs} {hs : SHs} {x : Xn} {r : SR} (h1 : T.xm x.cls c = some false) (h2 : evHs T cf hs x env m = r) : evHs T cf (.cons c as_ h hs) x env m = r := by
  unfold evHs
  rw [h1]
  exact h2
theorem e_ometG {o : SE} {q c f : Nat} {es : SEs} {d : D} {xs : List D} {r : Res D} (h1 : evE T cf o env m = .ok d m1) (h2 : clsD d m1 = some c) (h3 : T.meth c q = some f) (h4 : evEs T cf es env m1 = .ok xs m2) (h5 : cf f (d :: xs) m2 = r) : evE T cf (.omet q o es) env m = r := by
  show (evE T cf o env m).bind _ = _
  rw [h1]
  show (match clsD d m1 with | some c => _ | none => _) = _
  rw [h2]
  dsimp only
  rw [h3]
  show (evEs T cf es env m1).bind _ = _
  rw [h4]
  exact h5
theorem gAsgX {i : Nat} {e : SE} {ss : SSs} {x : Xn} (h : evE T cf e env m = .exc x m1) : evSs T cf (.cons (.asg (.nm i) e) ss) env m = .exc x env m1 := by
  show ((evE T cf e env m).st env _).then _ = _
  rw [h]; rfl
theorem mulOk_l {i j : Int} (h : i.natAbs < 2 ^ 64) : mulOk i j = true := by
  unfold mulOk; rw [decide_eq_true h]; rfl
theorem tt_chn2 {o p : COp} {a b c : SE} {x y z : D} {t u : Bool} (h1 : evE T cf a env m = .ok x m1) (h2 : evE T cf b env m1 = .ok y m2) (h3 : cmpD o x y m2 = some t) (h4 : evE T cf c env m2 = .ok z m2) (h5 : cmpD p y z m2 = some u) : evT T cf (.chn o p a b c) env m = .ok (t && u) m2 := by
  show (evE T cf a env m).bind _ = _
  rw [h1]
  show (evE T cf b env m1).bind _ = _
  rw [h2]
  show (match cmpD o x y m2 with | none => Res.bad | some false => .ok false m2 | some true => (evE T cf c env m2).bind fun z m3 => Res.opt (cmpD p y z m3) m3) = _
  rw [h3]
  cases t with
  | false => rfl
  | true =>
    show (evE T cf c env m2).bind _ = _
    rw [h4]
    show Res.opt (cmpD p y z m2) m2 = _
    rw [h5]; rfl
theorem hComp {el : SE} {g : Tg} {it : IT} {c : SO} {own : List Nat} {r : Res D} (h : evE T cf (.comp el g it c own) env m = r) : evE T cf (.comp el g it c own) env m = r := h
theorem hMth {b : Mth} {o : SE} {es : SEs} {r : Res D} (h : evE T cf (.mth b o es) env m = r) : evE T cf (.mth b o es) env m = r := h
theorem hOmet {q : Nat} {o : SE} {es : SEs} {r : Res D} (h : evE T cf (.omet q o es) env m = r) : evE T cf (.omet q o es) env m = r := h
theorem hMake {q : Nat} {es : SEs} {r : Res D} (h : evE T cf (.make q es) env m = r) : evE T cf (.make q es) env m = r := h
theorem gExp {e : SE} {ss : SSs} {d : D} {R : SR} (h : evE T cf e env m = .ok d m1) (r : evSs T cf ss env m1 = R) : evSs T cf (.cons (.expr e) ss) env m = R := (sNx (sExpr h)).trans r
theorem elt_yes {g : Tg} {own : List Nat} {c : SO} {el : SE} {x y : D} (hs : setT g x (wipeE env own) m = some e') (hc : evC T cf c e' m = .ok true m) (he : evE T cf el e' m = .ok y m) : eltG g own (evC T cf c) (evE T cf el) env x m = .ok (some y) m := by
  unfold eltG
  rw [hs]
  show (evC T cf c e' m).bind _ = _
  rw [hc]
  show (evE T cf el e' m).bind _ = _
  rw [he]
  rfl
theorem elt_no {g : Tg} {own : List Nat} {c : SO} {el : SE} {x : D} (hs : setT g x (wipeE env own) m = some e') (hc : evC T cf c e' m = .ok false m) : eltG g own (evC T cf c) (evE T cf el) env x m = .ok none m := by
  unfold eltG
  rw [hs]
  show (evC T cf c e' m).bind _ = _
  rw [hc]
  rfl
open Classical in
theorem comp_ty {α : Type} {g : α → D} {o : α → Option D} {ts : List α} {el : SE} {tg : Tg} {it : IT} {c : SO} {own : List Nat} {its : Ev.Its} (hit : evI T cf it env m = .ok its m1) (S : Shows its m1 (ts.map g)) (hl : ts.length ≤ 1000000)
    (h : ∀ t ∈ ts, eltG tg own (evC T cf c) (evE T cf el) env (g t) m1 = .ok (o t) m1) : evE T cf (.comp el tg it c own) env m = .ok (.ref m1.length) (m1 ++ [.lst (ts.filterMap o)]) := by
  let o' : D → Option D := fun x => if hx : ∃ t, t ∈ ts ∧ g t = x then o hx.choose else none
  have e : ∀ t ∈ ts, o' (g t) = o t := fun t ht => by
    have hx : ∃ t', t' ∈ ts ∧ g t' = g t := ⟨t, ht, rfl⟩
    have h1 := h t ht
    have h2 := h hx.choose hx.choose_spec.1
    rw [hx.choose_spec.2, h1] at h2
    have h3 : o t = o hx.choose := by injection h2
    show (if hx : ∃ t', t' ∈ ts ∧ g t' = g t then o hx.choose else none) = _
    rw [dif_pos hx, h3]
  rw [evE_comp, hit, Res.bind_ok, compG_ok S (o := o') (by rw [List.length_map]; omega) (fun x hx => by
    obtain ⟨t, ht, rfl⟩ := List.mem_map.mp hx
    rw [h t ht, e t ht])]
  have : (ts.map g).filterMap o' = ts.filterMap o := by
    rw [List.filterMap_map]
    have : ∀ l : List α, (∀ t ∈ l, t ∈ ts) → l.filterMap (o' ∘ g) = l.filterMap o := by
      intro l
      induction l with
      | nil => intro _; rfl
      | cons t l ih =>
        intro hs
        rw [List.filterMap_cons, List.filterMap_cons, ih fun x hx => hs x (List.mem_cons_of_mem _ hx), show (o' ∘ g) t = o t from e t (hs t List.mem_cons_self)]
    exact this ts fun _ h => h
  rw [this]
theorem enumL_ty {α : Type} {g : α → D} : ∀ (n : Nat) (as : List α), enumL n (as.map g) = (as.zipIdx n).map fun p => .tup [.int (p.2 : Nat), g p.1]
  | _, [] => rfl
  | n, a :: as => by
    show D.tup [.int (n : Nat), g a] :: enumL (n + 1) (as.map g) = _
    rw [enumL_ty (n + 1) as]
    rfl
theorem gEnd {R : SR} (h : SR.ok .nx env m = R) : evSs T cf .nil env m = R := h
end

section
variable {T : Tab} {Fn : Nat → Option FD} {k g : Nat} {fd : FD} {args : List D} {m m1 : Mem} {e1 : Env} {d : D}
theorem dU (h : Fn g = some fd) (hm : fd.mode = .pure) (hl : args.length = fd.np) (hp : pureL args = true) (e : evSs T (callF T Fn k) fd.body (startE fd.ns args) [] = .ok (.rt d) e1 m1) (hd : d.pure = true) : callF T Fn (k + 1) g args m = .ok d m := okU h hm hl hp (resRt e) hd
theorem dP (h : Fn g = some fd) (hm : fd.mode = .plain) (hl : args.length = fd.np) (e : evSs T (callF T Fn k) fd.body (startE fd.ns args) m = .ok (.rt d) e1 m1) : callF T Fn (k + 1) g args m = .ok d m1 := okP h hm hl (resRt e)
end
end Ev.Law
namespace Ev.Law
open PySem L2
local macro_rules
  | `(tactic| exists $ts,*) => `(tactic| first
    | with_reducible exact e_cst
    | ((with_reducible apply e_var); rfl)
    | with_reducible exact es_nil
    | ((with_reducible apply es_cons) <;> exists $ts,*)
    | ((with_reducible apply e_bin) <;> exists $ts,*)
    | ((with_reducible apply e_idx) <;> exists $ts,*)
    | ((with_reducible apply e_call) <;> exists $ts,*)
    | ((with_reducible apply gTup) <;> exists $ts,*)
    | ((with_reducible apply tt_chn2) <;> exists $ts,*)
    | ((with_reducible apply tt_cmp) <;> exists $ts,*)
    | ((with_reducible apply e_cmp) <;> exists $ts,*)
    | ((with_reducible apply e_blt) <;> exists $ts,*)
    | ((with_reducible apply hB); first $[| exact $ts]* | rfl | exact b_mod (by decide) | exact b_mod (by omega) | exact b_div (by decide) (big9000 (by decide)) | exact b_mul rfl | exact b_mul (mulOk_r (by omega)) | exact b_mul (mulOk_l (by omega)))
    | ((with_reducible apply hC); first $[| exact $ts]* | rfl)
    | ((with_reducible apply hI); first $[| exact $ts]* | rfl)
    | ((with_reducible apply hL); first $[| exact $ts]* | rfl)
    | ((with_reducible apply hF); first $[| exact $ts]*)
    | ((with_reducible apply hV); first $[| exact $ts]* | rfl)
    | ((with_reducible apply hA); first $[| exact $ts]* | rfl)
    | ((with_reducible apply hComp); first $[| exact $ts]*)
    | ((with_reducible apply hMth); first $[| exact $ts]*)
    | ((with_reducible apply hOmet); first $[| exact $ts]*)
    | ((with_reducible apply hMake); first $[| exact $ts]*)
    | ((with_reducible apply hN); rfl)
    | ((with_reducible apply hS); first $[| exact $ts]* | rfl)
    | with_reducible exact e_glb
    | ((with_reducible apply e_neg) <;> exists $ts,*)
    | ((with_reducible apply e_slc) <;> exists $ts,*)
    | with_reducible exact o_no
    | ((with_reducible apply o_yes) <;> exists $ts,*)
    | ((with_reducible apply tt_call) <;> exists $ts,*)
    | ((with_reducible apply tt_not) <;> exists $ts,*)
    | ((with_reducible apply tt_andF); (focus (exists $ts,*; done)))
    | ((with_reducible apply tt_andT); (focus (exists $ts,*; done)); exists $ts,*)
    | ((with_reducible apply tt_and2) <;> exists $ts,*)
    | ((with_reducible apply tt_orT); (focus (exists $ts,*; done)))
    | ((with_reducible apply tt_orF); (focus (exists $ts,*; done)); exists $ts,*)
    | ((with_reducible apply tt_or2) <;> exists $ts,*)
    | ((with_reducible apply ee_andF); (focus (exists $ts,*; done)))
    | ((with_reducible apply ee_andT); (focus (exists $ts,*; done)); exists $ts,*)
    | ((with_reducible apply ee_and2) <;> exists $ts,*)
    | ((with_reducible apply ee_orT); (focus (exists $ts,*; done)))
    | ((with_reducible apply ee_orF); (focus (exists $ts,*; done)); exists $ts,*)
    | ((with_reducible apply ee_or2) <;> exists $ts,*)
    | ((with_reducible apply tt_isi) <;> exists $ts,*)
    | ((with_reducible apply e_isi) <;> exists $ts,*)
    | ((with_reducible apply tt_isn) <;> first | done | rfl | exists $ts,*)
    | ((with_reducible apply e_isn) <;> first | done | rfl | exists $ts,*)
    | ((with_reducible apply tt_idx) <;> exists $ts,*)
    | ((with_reducible apply tt_var) <;> rfl)
    | ((with_reducible apply gLst) <;> exists $ts,*)
    | ((with_reducible apply gAsg); (focus (exists $ts,*; done)); (focus (exact Nat.le_of_ble_eq_true rfl)); dsimp only [List.set, List.length_cons, List.length_nil, List.cons_append, List.nil_append, Nat.reduceAdd]; exists $ts,*)
    | ((with_reducible apply gRet); exists $ts,*)
    | ((with_reducible apply gIfB); (focus (exists $ts,*; done)); apply And.intro <;> (first | (intro hc; cases hc; done) | (intro hc; exact absurd hc (by decide +kernel)) | (intro hc; exfalso; simp only [decide_eq_true_eq, decide_eq_false_iff_not, Bool.or_eq_true, Bool.and_eq_true, Bool.or_eq_false_iff, Bool.and_eq_false_iff, Bool.not_eq_true', Bool.not_eq_false', Int.reduceToNat, Int.reducePow, Int.reduceNeg] at hc; first | omega | exact absurd hc (by assumption) | exact absurd (by assumption) hc) | (intro hc; dsimp only [appS, List.length_cons, List.length_nil, List.cons_append, List.nil_append, Nat.reduceAdd]; exists $ts,*) | skip))
    | ((with_reducible apply gAsg2); (focus (exists $ts,*; done)); (focus (exact Nat.le_of_ble_eq_true rfl)); (focus (exact Nat.le_of_ble_eq_true rfl)); dsimp only [List.set, List.length_cons, List.length_nil, List.cons_append, List.nil_append, Nat.reduceAdd]; exists $ts,*)
    | ((with_reducible apply gExp); (focus (exists $ts,*; done)); exists $ts,*)
    | ((with_reducible apply gPar); (focus (exists $ts,*; done)); (focus (exists $ts,*; done)); (focus (exact Nat.le_of_ble_eq_true rfl)); (focus (exact Nat.le_of_ble_eq_true rfl)); dsimp only [List.set, List.length_cons, List.length_nil, List.cons_append, List.nil_append, Nat.reduceAdd]; exists $ts,*)
    | with_reducible rfl
    | rfl
    | skip)
/-! k81: what is a command, what is a score -/
theorem tt_notT {cf : CF} {a : SE} {env : Env} {m m1 : Mem} (h : evT T cf a env m = .ok true m1) : evT T cf (.not a) env m = .ok false m1 := tt_not h
theorem tt_notF {cf : CF} {a : SE} {env : Env} {m m1 : Mem} (h : evT T cf a env m = .ok false m1) : evT T cf (.not a) env m = .ok true m1 := tt_not h
def thirdOf : D → Option Str
  | .str w => if w = "set" then some "n" else if w = "add" ∨ w = "sub" ∨ w = "mul" then some "from" else if w = "when" ∨ w = "loop" then some "body" else none
  | _ => none
theorem thirdOf_str (w : Str) : thirdOf (.str w) = if w = "set" then some ("n" : Str) else if w = "add" ∨ w = "sub" ∨ w = "mul" then some ("from" : Str) else if w = "when" ∨ w = "loop" then some ("body" : Str) else none := rfl
def isI : D → Bool
  | .int _ => true
  | _ => false
/-- numbers, words, rows, records -/
def Shp (d : D) : Prop := (∃ z, d = .int z) ∨ (∃ w, d = .str w) ∨ (∃ xs, d = .tup xs ∧ pureL xs = true ∧ depthL xs ≤ 100) ∨ ∃ kvs, d = .dK kvs ∧ pureK kvs = true ∧ depthK kvs ≤ 100
theorem Shp.pu {d : D} (h : Shp d) : d.pure = true := by
  rcases h with ⟨z, rfl⟩ | ⟨w, rfl⟩ | ⟨xs, rfl, h, _⟩ | ⟨xs, rfl, h, _⟩
  · rfl
  · rfl
  · exact h
  · exact h
def optD : Option Str → D
  | some t => .str t
  | none => .non
section
variable {k : Nat}
theorem is_number_ok {d : D} (h : Shp d) (m : Mem) : callF T Fn (k + 1) 0 [d] m = .ok (.bl (isI d)) m := by
  refine dU (fd := f0) (e1 := [some d]) (m1 := []) rfl rfl rfl (pure1' h.pu) ?_ rfl
  show evSs T (callF T Fn k) b0 [some d] [] = _
  unfold b0
  rcases h with ⟨z, rfl⟩ | ⟨w, rfl⟩ | ⟨xs, rfl, h⟩ | ⟨xs, rfl, h⟩
  · exact gRet (ee_andT (e_isi rfl rfl) (e_not (t := false) (e_isi rfl rfl) rfl))
  · exact gRet (ee_andF (e_isi rfl rfl))
  · exact gRet (ee_andF (e_isi rfl rfl))
  · exact gRet (ee_andF (e_isi rfl rfl))
theorem eqT_str {w z : Str} : eqT (.str w) (.str z) = some (decide (w = z)) := rfl
theorem third_of_ok {d : D} (h : Shp d) (m : Mem) : callF T Fn (k + 1) 1 [d] m = .ok (optD (thirdOf d)) m := by
  refine dU (fd := f1) (e1 := [some d]) (m1 := []) rfl rfl rfl (pure1' h.pu) ?_ (by cases thirdOf d <;> rfl)
  show evSs T (callF T Fn k) b1 [some d] [] = _
  have no : ∀ {t1 t2 t3 : Bool}, t1 = false → t2 = false → t3 = false → thirdOf d = none → cmpD .eq d (.str "set") [] = some t1 → cmpD .isIn d (.tup [.str "add", .str "sub", .str "mul"]) [] = some t2 → cmpD .isIn d (.tup [.str "when", .str "loop"]) [] = some t3 → evSs T (callF T Fn k) b1 [some d] [] = .ok (.rt (optD (thirdOf d))) [some d] [] := fun {t1 t2 t3} e1 e2 e3 e0 c1 c2 c3 => by
    subst e1 e2 e3
    rw [e0]
    unfold b1
    exact gIfF (tt_cmp rfl rfl c1) (gIfF (tt_cmp rfl rfl c2) (gIfF (tt_cmp rfl rfl c3) (gRet rfl)))
  rcases h with ⟨z, rfl⟩ | ⟨w, rfl⟩ | ⟨xs, rfl, h, hd⟩ | ⟨xs, rfl, h, hd⟩
  · exact no rfl rfl rfl rfl rfl rfl rfl
  · have c1 : cmpD .eq (.str w) (.str "set") [] = some (decide (w = "set")) := rfl
    have c2 : cmpD .isIn (.str w) (.tup [.str "add", .str "sub", .str "mul"]) [] = some (decide ("add" = w) || (decide ("sub" = w) || (decide ("mul" = w) || false))) := rfl
    have c3 : cmpD .isIn (.str w) (.tup [.str "when", .str "loop"]) [] = some (decide ("when" = w) || (decide ("loop" = w) || false)) := rfl
    by_cases h1 : w = "set"
    · subst h1
      unfold b1
      exact gIfT (tt_cmp rfl rfl rfl) (gRet rfl)
    rw [decide_eq_false h1] at c1
    by_cases h2 : w = "add" ∨ w = "sub" ∨ w = "mul"
    · have e : thirdOf (.str w) = some ("from" : Str) := by rw [thirdOf_str]; rw [if_neg h1, if_pos h2]
      have c2' : cmpD .isIn (.str w) (.tup [.str "add", .str "sub", .str "mul"]) [] = some true := by
        rcases h2 with rfl | rfl | rfl <;> rfl
      rw [e]
      unfold b1
      exact gIfF (tt_cmp rfl rfl c1) (gIfT (tt_cmp rfl rfl c2') (gRet rfl))
    have c2' : cmpD .isIn (.str w) (.tup [.str "add", .str "sub", .str "mul"]) [] = some false := by
      rw [c2, decide_eq_false (fun e => h2 (.inl e.symm)), decide_eq_false (fun e => h2 (.inr (.inl e.symm))), decide_eq_false (fun e => h2 (.inr (.inr e.symm)))]
      rfl
    by_cases h3 : w = "when" ∨ w = "loop"
    · have e : thirdOf (.str w) = some ("body" : Str) := by rw [thirdOf_str]; rw [if_neg h1, if_neg h2, if_pos h3]
      have c3' : cmpD .isIn (.str w) (.tup [.str "when", .str "loop"]) [] = some true := by
        rcases h3 with rfl | rfl <;> rfl
      rw [e]
      unfold b1
      exact gIfF (tt_cmp rfl rfl c1) (gIfF (tt_cmp rfl rfl c2') (gIfT (tt_cmp rfl rfl c3') (gRet rfl)))
    have c3' : cmpD .isIn (.str w) (.tup [.str "when", .str "loop"]) [] = some false := by
      rw [c3, decide_eq_false (fun e => h3 (.inl e.symm)), decide_eq_false (fun e => h3 (.inr e.symm))]
      rfl
    refine no rfl rfl rfl ?_ c1 c2' c3'
    rw [thirdOf_str, if_neg h1, if_neg h2, if_neg h3]
  · refine no rfl rfl rfl rfl ?_ rfl rfl
    show (if depthL xs + 1 ≤ 150 then some false else none) = some false
    rw [if_pos (by omega)]
  · refine no rfl rfl rfl rfl ?_ rfl rfl
    show (if depthK xs + 1 ≤ 150 then some false else none) = some false
    rw [if_pos (by omega)]
def cmdB (sb : Bool) (kvs : List (Key × D)) : Bool :=
  if kvs.length = 3 then match lookK kvs (.inr "do"), lookK kvs (.inr "at") with
    | some w, some a => (match thirdOf w with
      | none => false
      | some t => match lookK kvs (.inr t) with
        | none => false
        | some v => isI a && (if t = "body" then sb else isI v))
    | _, _ => false
  else false
theorem not_cmd {d : D} (h : Shp d) (hd : ∀ kvs, d ≠ .dK kvs) (m : Mem) : callF T Fn (k + 1) 2 [d] m = .ok (.bl false) m := by
  refine dU (fd := f2) (e1 := [some d, none]) (m1 := []) rfl rfl rfl (pure1' h.pu) ?_ rfl
  show evSs T (callF T Fn k) b2 [some d, none] [] = _
  unfold b2
  rcases h with ⟨z, rfl⟩ | ⟨w, rfl⟩ | ⟨xs, rfl, h⟩ | ⟨xs, rfl, h⟩
  · exact gIfT (tt_orT (tt_notF (tt_isi rfl rfl))) (gRet rfl)
  · exact gIfT (tt_orT (tt_notF (tt_isi rfl rfl))) (gRet rfl)
  · exact gIfT (tt_orT (tt_notF (tt_isi rfl rfl))) (gRet rfl)
  · exact absurd rfl (hd xs)
theorem is_command_ok {kvs : List (Key × D)} {sb : Bool} (hp : pureK kvs = true) (hs : ∀ q v, lookK kvs q = some v → Shp v) (hb : ∀ v, lookK kvs (.inr "body") = some v → ∀ m, callF T Fn (k + 1) 3 [v] m = .ok (.bl sb) m) (m : Mem) : callF T Fn (k + 2) 2 [.dK kvs] m = .ok (.bl (cmdB sb kvs)) m := by
  have run : ∀ {q1 : Option D} {b : Bool}, b = cmdB sb kvs → evSs T (callF T Fn (k + 1)) b2 [some (.dK kvs), none] [] = .ok (.rt (.bl b)) [some (.dK kvs), q1] [] → callF T Fn (k + 2) 2 [.dK kvs] m = .ok (.bl (cmdB sb kvs)) m := fun {q1 b} e h => by
    subst e
    exact dU (fd := f2) rfl rfl rfl (pure1' hp) h rfl
  have c0 : ∀ (q : Option D), cmpD .ne (.int (kvs.length : Nat)) (.int 3) [] = some (!decide (((kvs.length : Nat) : Int) = 3)) := fun _ => rfl
  have cn : ∀ (t : Str), cmpD .notIn (.str t) (.dK kvs) [] = some (!(lookK kvs (.inr t)).isSome) := fun _ => rfl
  have ln : bltD .len [.dK kvs] [] = .ok (.int (kvs.length : Nat)) [] := rfl
  have ix : ∀ {t : Str} {v : D}, lookK kvs (.inr t) = some v → idxD (.dK kvs) (.str t) [] = some v := fun h => h
  by_cases h3 : kvs.length = 3
  · have c0' : cmpD .ne (.int (kvs.length : Nat)) (.int 3) [] = some false := by
      rw [c0 none, h3]; rfl
    cases hw : lookK kvs (.inr "do") with
    | none =>
      have n1 : cmpD .notIn (.str "do") (.dK kvs) [] = some true := by rw [cn, hw]; rfl
      refine run (q1 := none) (b := false) (by unfold cmdB; rw [if_pos h3, hw]) ?_
      unfold b2
      exact gIfT (tt_orF (tt_notT (tt_isi rfl rfl)) (tt_orF (tt_cmp (e_blt (es_1 rfl) ln) rfl c0') (tt_orT (tt_cmp rfl rfl n1)))) (gRet rfl)
    | some w =>
      have n1 : cmpD .notIn (.str "do") (.dK kvs) [] = some false := by rw [cn, hw]; rfl
      cases ha : lookK kvs (.inr "at") with
      | none =>
        have n2 : cmpD .notIn (.str "at") (.dK kvs) [] = some true := by rw [cn, ha]; rfl
        refine run (q1 := none) (b := false) (by unfold cmdB; rw [if_pos h3, hw, ha]) ?_
        unfold b2
        exact gIfT (tt_orF (tt_notT (tt_isi rfl rfl)) (tt_orF (tt_cmp (e_blt (es_1 rfl) ln) rfl c0') (tt_orF (tt_cmp rfl rfl n1) (tt_cmp rfl rfl n2)))) (gRet rfl)
      | some a =>
        have n2 : cmpD .notIn (.str "at") (.dK kvs) [] = some false := by rw [cn, ha]; rfl
        have head : ∀ {ss : SSs} {R : SR}, evSs T (callF T Fn (k + 1)) ss [some (.dK kvs), some (optD (thirdOf w))] [] = R → evSs T (callF T Fn (k + 1)) (.cons (.ite (.or (.not (.isi (.var 0) [.dict])) (.or (.cmp .ne (.blt .len (.cons (.var 0) .nil)) (.cst (.int 3))) (.or (.cmp .notIn (.cst (.str "do")) (.var 0)) (.cmp .notIn (.cst (.str "at")) (.var 0))))) (.cons (.ret (.cst (.bl false))) .nil) .nil) (.cons (.asg (.nm 1) (.call 1 (.cons (.idx (.var 0) (.cst (.str "do"))) .nil))) ss)) [some (.dK kvs), none] [] = R := fun {ss R} h => by
          refine gIfF (tt_orF (tt_notT (tt_isi rfl rfl)) (tt_orF (tt_cmp (e_blt (es_1 rfl) ln) rfl c0') (tt_orF (tt_cmp rfl rfl n1) (tt_cmp rfl rfl n2)))) ?_
          exact gAsg (d := optD (thirdOf w)) (m1 := []) (e_call (es_1 (e_idx rfl rfl (ix hw))) (third_of_ok (hs _ _ hw) _)) (by simp) h
        cases ht : thirdOf w with
        | none =>
          rw [ht] at head
          refine run (q1 := some .non) (b := false) (by unfold cmdB; rw [if_pos h3, hw, ha]; dsimp only; rw [ht]) ?_
          unfold b2
          exact head (gIfT (tt_orT (tt_isn (n := false) (b := true) rfl rfl)) (gRet rfl))
        | some t =>
          rw [ht] at head
          cases hv : lookK kvs (.inr t) with
          | none =>
            have n3 : cmpD .notIn (.str t) (.dK kvs) [] = some true := by rw [cn, hv]; rfl
            refine run (q1 := some (.str t)) (b := false) (by unfold cmdB; rw [if_pos h3, hw, ha]; dsimp only; rw [ht]; dsimp only; rw [hv]) ?_
            unfold b2
            exact head (gIfT (tt_orF (tt_isn (n := false) (b := false) rfl rfl) (tt_orT (tt_cmp rfl rfl n3))) (gRet rfl))
          | some v =>
            have n3 : cmpD .notIn (.str t) (.dK kvs) [] = some false := by rw [cn, hv]; rfl
            have na := is_number_ok (k := k) (hs _ _ ha) []
            have ec : cmdB sb kvs = (isI a && (if t = "body" then sb else isI v)) := by unfold cmdB; rw [if_pos h3, hw, ha]; dsimp only; rw [ht]; dsimp only; rw [hv]
            cases hi : isI a with
            | false =>
              rw [hi] at na ec
              refine run (q1 := some (.str t)) (b := false) ec.symm ?_
              unfold b2
              exact head (gIfT (tt_orF (tt_isn (n := false) (b := false) rfl rfl) (tt_orF (tt_cmp rfl rfl n3) (tt_notF (tt_call (es_1 (e_idx rfl rfl (ix ha))) na rfl)))) (gRet rfl))
            | true =>
              rw [hi] at na ec
              have off : evT T (callF T Fn (k + 1)) (.or (.isn false (.var 1)) (.or (.cmp .notIn (.var 1) (.var 0)) (.not (.call 0 (.cons (.idx (.var 0) (.cst (.str "at"))) .nil))))) [some (.dK kvs), some (.str t)] [] = .ok false [] := tt_orF (tt_isn (n := false) (b := false) rfl rfl) (tt_orF (tt_cmp rfl rfl n3) (tt_notT (tt_call (es_1 (e_idx rfl rfl (ix ha))) na rfl)))
              by_cases hb2 : t = "body"
              · subst hb2
                refine run (q1 := some (.str "body")) (b := sb) (by rw [ec]; rfl) ?_
                unfold b2
                exact head (gIfF off (gIfT (tt_cmp rfl rfl rfl) (gRet (e_call (es_1 (e_idx rfl rfl (ix hv))) (hb v hv _)))))
              · refine run (q1 := some (.str t)) (b := isI v) (by rw [ec, if_neg hb2]; rfl) ?_
                have c9 : cmpD .eq (.str t) (.str "body") [] = some false := by
                  show some (decide (t = "body")) = _
                  rw [decide_eq_false hb2]
                unfold b2
                exact head (gIfF off (gIfF (tt_cmp rfl rfl c9) (gRet (e_call (es_1 (e_idx rfl rfl (ix hv))) (is_number_ok (hs _ _ hv) _)))))
  · have c0' : cmpD .ne (.int (kvs.length : Nat)) (.int 3) [] = some true := by
      rw [c0 none, decide_eq_false (by omega)]; rfl
    refine run (q1 := none) (b := false) (by unfold cmdB; rw [if_neg h3]) ?_
    unfold b2
    exact gIfT (tt_orF (tt_notT (tt_isi rfl rfl)) (tt_orT (tt_cmp (e_blt (es_1 rfl) ln) rfl c0'))) (gRet rfl)
/-- a command or none, and which -/
structure Cm (n : Nat) (b : Bool) (d : D) : Prop where
  dk : ∃ kvs, d = .dK kvs
  sh : Shp d
  is : ∀ k m, callF T Fn (k + 2 * n + 2) 2 [d] m = .ok (.bl b) m
theorem not_score {d : D} (h : Shp d) (hd : ∀ xs, d ≠ .tup xs) (m : Mem) : callF T Fn (k + 1) 3 [d] m = .ok (.bl false) m := by
  refine dU (fd := f3) (e1 := [some d, none]) (m1 := []) rfl rfl rfl (pure1' h.pu) ?_ rfl
  show evSs T (callF T Fn k) b3 [some d, none] [] = _
  unfold b3
  rcases h with ⟨z, rfl⟩ | ⟨w, rfl⟩ | ⟨xs, rfl, h⟩ | ⟨xs, rfl, h⟩
  · exact gIfT (tt_notF (tt_isi rfl rfl)) (gRet rfl)
  · exact gIfT (tt_notF (tt_isi rfl rfl)) (gRet rfl)
  · exact absurd rfl (hd xs)
  · exact gIfT (tt_notF (tt_isi rfl rfl)) (gRet rfl)
abbrev isB : SSs := (.cons (.ite (.not (.call 2 (.cons (.var 1) .nil))) (.cons (.ret (.cst (.bl false))) .nil) .nil) .nil)
theorem score_go {X : D} : ∀ (ds : List D) (bs : List Bool) (q : Option D), ds.length = bs.length → (∀ (i : Nat) (d : D) (b : Bool), ds[i]? = some d → bs[i]? = some b → ∀ m, callF T Fn k 2 [d] m = .ok (.bl b) m) → ∃ q', forL (bodyG (.nm 1) (evSs T (callF T Fn k) isB)) ds [some X, q] [] = if bs.all id = true then .ok .nx [some X, q'] [] else .ok (.rt (.bl false)) [some X, q'] []
  | [], [], q, _, _ => ⟨q, rfl⟩
  | d :: ds, b :: bs, q, hl, h => by
    have h0 := h 0 d b rfl rfl
    cases b with
    | true =>
      obtain ⟨q', e⟩ := score_go ds bs (some d) (by simpa using hl) fun i x y hx hy => h (i + 1) x y hx hy
      refine ⟨q', ?_⟩
      have st : bodyG (.nm 1) (evSs T (callF T Fn k) isB) d [some X, q] [] = .ok .nx [some X, some d] [] := by
        rw [bodyG_nm (by simp)]
        exact gIfF (tt_notT (tt_call (es_1 rfl) (h0 _) rfl)) (gEnd rfl)
      rw [forL_nx st, e]
      rfl
    | false =>
      refine ⟨some d, ?_⟩
      have st : bodyG (.nm 1) (evSs T (callF T Fn k) isB) d [some X, q] [] = .ok (.rt (.bl false)) [some X, some d] [] := by
        rw [bodyG_nm (by simp)]
        exact gIfT (tt_notF (tt_call (es_1 rfl) (h0 _) rfl)) (gRet rfl)
      rw [forL_rt st]
      rfl
  | [], _ :: _, _, hl, _ => by cases hl
  | _ :: _, [], _, hl, _ => by cases hl
theorem is_score_ok {ds : List D} {bs : List Bool} (hp : pureL ds = true) (hl : ds.length = bs.length) (h : ∀ (i : Nat) (d : D) (b : Bool), ds[i]? = some d → bs[i]? = some b → ∀ m, callF T Fn k 2 [d] m = .ok (.bl b) m) (m : Mem) : callF T Fn (k + 1) 3 [.tup ds] m = .ok (.bl (bs.all id)) m := by
  obtain ⟨q', e⟩ := score_go (X := .tup ds) ds bs none hl h
  refine dU (fd := f3) (e1 := [some (.tup ds), q']) (m1 := []) rfl rfl rfl (pure1' (by show pureL ds = true; exact hp)) ?_ rfl
  show evSs T (callF T Fn k) b3 [some (.tup ds), none] [] = _
  unfold b3
  refine gIfF (tt_notT (tt_isi rfl rfl)) ?_
  have ef : evS T (callF T Fn k) (.for_ (.nm 1) (.seq (.var 0)) isB) [some (.tup ds), none] [] = forL (bodyG (.nm 1) (evSs T (callF T Fn k) isB)) ds [some (.tup ds), none] [] := rfl
  cases hb : bs.all id with
  | true =>
    rw [hb, if_pos rfl] at e
    exact (sNx (ef.trans e)).trans (gRet rfl)
  | false =>
    rw [hb, if_neg (by decide)] at e
    exact sRt (ef.trans e)
end
/-! k81: what is drawn -/
def mixS (z c : Int) : Int := (z * 7001 + c).fmod 998244353
def cellV (ns : List Int) (j : Nat) : Int := match ns[j]? with
  | some c => c
  | none => ((ns.take 5).foldl mixS (59 * (j : Int) + 37) * ((j : Int) + 19)).fmod 1000000007
theorem cutL5 (ns : List Int) : cutL (ns.map D.int) none (some 5) = (ns.take 5).map D.int := by
  show cutL (ns.map D.int) none (some ((5 : Nat) : Int)) = _
  unfold cutL
  rw [HT.sIx_none, HT.sIx_nat, List.drop_zero, Nat.sub_zero, List.map_take]
  exact List.take_eq_take_iff.mpr (by omega)
section
variable {k : Nat}
theorem b_add {i j : Int} {m : Mem} : binD .add (.int i) (.int j) m = .ok (.int (i + j)) m := rfl
theorem cell_ok (ns : List Int) (j : Nat) (hj : j ≤ 100) (m : Mem) : callF T Fn (k + 1) 4 [.lst (ns.map D.int), .int (j : Nat)] m = .ok (.int (cellV ns j)) m := by
  have hp : pureL [D.lst (ns.map D.int), .int (j : Nat)] = true := pure2 (by show pureL _ = true; exact pureL_ints ns) rfl
  have ln : bltD .len [.lst (ns.map D.int)] [] = .ok (.int (ns.length : Nat)) [] := by
    show Res.ok (D.int ((ns.map D.int).length : Nat)) [] = _
    rw [List.length_map]
  have t0 : cmpD .lt (.int (j : Nat)) (.int (ns.length : Nat)) [] = some (decide ((j : Int) < (ns.length : Nat))) := rfl
  by_cases h : j < ns.length
  · have e : cellV ns j = ns[j] := by unfold cellV; rw [List.getElem?_eq_getElem h]
    rw [decide_eq_true (by omega)] at t0
    rw [e]
    refine dU (fd := f4) (e1 := [some (.lst (ns.map D.int)), some (.int (j : Nat)), none, none]) (m1 := []) rfl rfl rfl hp ?_ rfl
    show evSs T (callF T Fn k) b4 [some (.lst (ns.map D.int)), some (.int (j : Nat)), none, none] [] = _
    unfold b4
    refine gIfT (tt_cmp rfl (e_blt (es_1 rfl) ln) t0) (gRet (e_idx rfl rfl ?_))
    show atI (ns.map D.int) ((j : Nat) : Int) = _
    refine atI_nat ?_
    rw [List.getElem?_map, List.getElem?_eq_getElem h]
    rfl
  · have e : cellV ns j = ((ns.take 5).foldl mixS (59 * (j : Int) + 37) * ((j : Int) + 19)).fmod 1000000007 := by unfold cellV; rw [List.getElem?_eq_none (by omega)]
    rw [decide_eq_false (by omega)] at t0
    rw [e]
    obtain ⟨e2, m2, r2, q, he, hm⟩ := sForM (cf := callF T Fn k) (g := .nm 3) (it := .seq (.slc (.var 0) .no (.yes (.cst (.int 5))))) (b := .cons (.asg (.nm 2) (.bin .mod (.bin .add (.bin .mul (.var 2) (.cst (.int 7001))) (.var 3)) (.cst (.int 998244353)))) .nil) (n := ((ns.take 5).map D.int).length) (get := getL 0) (xs := (ns.take 5).map D.int) (env := [some (.lst (ns.map D.int)), some (.int (j : Nat)), some (.int (59 * (j : Int) + 37)), none]) (m := []) (m1 := [.lst ((ns.take 5).map D.int)]) (i_seq (x := .ref 0) (e_slc rfl o_no (o_yes rfl) (by
      show Res.ok (D.ref 0) [.lst (cutL (ns.map D.int) none (some 5))] = _
      rw [cutL5])) (seq_ref rfl)) rfl (fun i env M => ∃ q : Option D, (env = [some (.lst (ns.map D.int)), some (.int (j : Nat)), some (.int (((ns.take 5).take i).foldl mixS (59 * (j : Int) + 37))), q] ∧ (((ns.take 5).take i).foldl mixS (59 * (j : Int) + 37)).natAbs < 2 ^ 60) ∧ M = [.lst ((ns.take 5).map D.int)]) ⟨none, ⟨rfl, by show (59 * (j : Int) + 37).natAbs < 2 ^ 60; omega⟩, rfl⟩ (fun i env M ⟨q, _, hm⟩ => by subst hm; exact getL_at' rfl i) fun i x env M hx ⟨q, ⟨he, hb⟩, hm⟩ => by
      rw [List.getElem?_map] at hx
      obtain ⟨c, hc, rfl⟩ := Option.map_eq_some_iff.mp hx
      subst he; subst hm
      rw [bodyG_nm (by simp)]
      have et : ((ns.take 5).take (i + 1)).foldl mixS (59 * (j : Int) + 37) = mixS (((ns.take 5).take i).foldl mixS (59 * (j : Int) + 37)) c := by
        rw [List.take_add_one (l := ns.take 5), hc]
        show ((ns.take 5).take i ++ [c]).foldl mixS _ = _
        rw [List.foldl_append]; rfl
      refine ⟨_, _, gAsg (d := .int (mixS (((ns.take 5).take i).foldl mixS (59 * (j : Int) + 37)) c)) (e_bin (e_bin (e_bin rfl rfl (b_mul (mulOk_l (by omega)))) rfl b_add) rfl (b_mod (by decide))) (by simp) (gEnd rfl), some (.int c), ⟨?_, ?_⟩, rfl⟩
      · rw [et]; rfl
      · rw [et]
        have := fmod_in (((ns.take 5).take i).foldl mixS (59 * (j : Int) + 37) * 7001 + c) (show (0 : Int) < 998244353 by decide)
        have e9 : mixS (((ns.take 5).take i).foldl mixS (59 * (j : Int) + 37)) c = (((ns.take 5).take i).foldl mixS (59 * (j : Int) + 37) * 7001 + c).fmod 998244353 := rfl
        rw [e9]
        omega
    obtain ⟨he, hb⟩ := he
    rw [List.length_map, List.take_length] at he hb
    subst he; subst hm
    refine dU (fd := f4) (e1 := [some (.lst (ns.map D.int)), some (.int (j : Nat)), some (.int ((ns.take 5).foldl mixS (59 * (j : Int) + 37))), q]) (m1 := [.lst ((ns.take 5).map D.int)]) rfl rfl rfl hp ?_ rfl
    show evSs T (callF T Fn k) b4 [some (.lst (ns.map D.int)), some (.int (j : Nat)), none, none] [] = _
    unfold b4
    refine gIfF (tt_cmp rfl (e_blt (es_1 rfl) ln) t0) ?_
    refine gAsg (d := .int (59 * (j : Int) + 37)) (m1 := []) (e_bin (e_bin rfl rfl (b_mul (mulOk_l (by decide)))) rfl b_add) (by simp) ?_
    refine (sNx r2).trans ?_
    exact gRet (e_bin (e_bin rfl (e_bin rfl rfl b_add) (b_mul (mulOk_l (by omega)))) rfl (b_mod (by decide)))
theorem p18 {m : Mem} : binD .pow (.int 10) (.int 18) m = .ok (.int 1000000000000000000) m := rfl
theorem number_ok (c : Int) : ∃ z : Int, ∀ (k : Nat) (m : Mem), callF T Fn (k + 1) 5 [.int c] m = .ok (.int z) m := by
  have t0 : ∀ {k : Nat}, evT T (callF T Fn k) (.cmp .eq (.bin .mod (.var 0) (.cst (.int 3))) (.cst (.int 0))) [some (.int c)] [] = .ok (decide (c.fmod 3 = 0)) [] := fun {k} => tt_cmp (e_bin rfl rfl (b_mod (by decide))) rfl rfl
  by_cases h : c.fmod 3 = 0
  · refine ⟨(c.fdiv 3).fmod (2 * 1000000000000000000 - 1) - 1000000000000000000 + 1, fun k m => dU (fd := f5) (e1 := [some (.int c)]) (m1 := []) rfl rfl rfl rfl ?_ rfl⟩
    show evSs T (callF T Fn k) b5 [some (.int c)] [] = _
    unfold b5
    have t := t0 (k := k)
    rw [decide_eq_true h] at t
    exact gIfT t (gRet (e_bin (e_bin (e_bin (e_bin rfl rfl (b_div (by decide) (big9000 (by decide)))) (e_bin (e_bin rfl (e_bin rfl rfl p18) (b_mul (mulOk_l (by decide)))) rfl rfl) (b_mod (by decide))) (e_bin rfl rfl p18) rfl) rfl rfl))
  · refine ⟨(c.fdiv 3).fmod 9 - 2, fun k m => dU (fd := f5) (e1 := [some (.int c)]) (m1 := []) rfl rfl rfl rfl ?_ rfl⟩
    show evSs T (callF T Fn k) b5 [some (.int c)] [] = _
    unfold b5
    have t := t0 (k := k)
    rw [decide_eq_false h] at t
    exact gIfF t (gRet (e_bin (e_bin (e_bin rfl rfl (b_div (by decide) (big9000 (by decide)))) rfl (b_mod (by decide))) rfl rfl))
def oddL : List D := [.str "a", .tup [], .tup [.int 1], .dK [], .dK [(.inr "n", .int 1)], .str "set", .tup [.dK []], .tup [.int 0, .int 1]]
def oddM : List D := [.str "a", .tup [], .tup [.int 1], .ref 1, .ref 2, .str "set", .tup [.ref 3], .tup [.int 0, .int 1]]
def six : List Str := ["set", "add", "sub", "mul", "when", "loop"]
theorem third_ok {w : Str} (hw : w ∈ six) (m : Mem) : ∃ t : Str, thirdOf (.str w) = some t ∧ callF T Fn (k + 1) 7 [.str w] m = .ok (.str t) m := by
  simp only [six, List.mem_cons, List.not_mem_nil, or_false] at hw
  rcases hw with rfl | rfl | rfl | rfl | rfl | rfl
  · exact ⟨"n", rfl, okU (fd := f7) (m1 := []) rfl rfl rfl rfl rfl rfl⟩
  · exact ⟨"from", rfl, okU (fd := f7) (m1 := [.lst [.str "when", .str "loop"]]) rfl rfl rfl rfl rfl rfl⟩
  · exact ⟨"from", rfl, okU (fd := f7) (m1 := [.lst [.str "when", .str "loop"]]) rfl rfl rfl rfl rfl rfl⟩
  · exact ⟨"from", rfl, okU (fd := f7) (m1 := [.lst [.str "when", .str "loop"]]) rfl rfl rfl rfl rfl rfl⟩
  · exact ⟨"body", rfl, okU (fd := f7) (m1 := [.lst [.str "when", .str "loop"]]) rfl rfl rfl rfl rfl rfl⟩
  · exact ⟨"body", rfl, okU (fd := f7) (m1 := [.lst [.str "when", .str "loop"]]) rfl rfl rfl rfl rfl rfl⟩
theorem size_ok (ns : List Int) : ∃ n : Nat, n ≤ 13 ∧ ∀ (k : Nat) (m : Mem), callF T Fn (k + 2) 12 [.lst (ns.map D.int)] m = .ok (.int (n : Nat)) m := by
  have hp : pureL [D.lst (ns.map D.int)] = true := pure1' (by show pureL _ = true; exact pureL_ints ns)
  have ce : ∀ {k : Nat}, evE T (callF T Fn (k + 1)) (.call 4 (.cons (.var 0) (.cons (.cst (.int 0)) .nil))) [some (.lst (ns.map D.int))] [] = .ok (.int (cellV ns 0)) [] := fun {k} => e_call (es_2 rfl rfl) (cell_ok ns 0 (by decide) [])
  have t0 : ∀ {k : Nat}, evT T (callF T Fn (k + 1)) (.cmp .eq (.bin .mod (.call 4 (.cons (.var 0) (.cons (.cst (.int 0)) .nil))) (.cst (.int 4))) (.cst (.int 1))) [some (.lst (ns.map D.int))] [] = .ok (decide ((cellV ns 0).fmod 4 = 1)) [] := fun {k} => tt_cmp (e_bin ce rfl (b_mod (by decide))) rfl rfl
  by_cases h : (cellV ns 0).fmod 4 = 1
  · have f := fmod_in ((cellV ns 0).fdiv 4) (show (0 : Int) < 14 by decide)
    obtain ⟨n, hn⟩ := Int.eq_ofNat_of_zero_le f.1
    refine ⟨n, by omega, fun k m => dU (fd := f12) (e1 := [some (.lst (ns.map D.int))]) (m1 := []) rfl rfl rfl hp ?_ rfl⟩
    show evSs T (callF T Fn (k + 1)) b12 [some (.lst (ns.map D.int))] [] = _
    unfold b12
    have t := t0 (k := k)
    rw [decide_eq_true h] at t
    rw [← hn]
    exact gIfT t (gRet (e_bin (e_bin ce rfl (b_div (by decide) (big9000 (by decide)))) rfl (b_mod (by decide))))
  · have f := fmod_in ((cellV ns 0).fdiv 4) (show (0 : Int) < 6 by decide)
    obtain ⟨n, hn⟩ := Int.eq_ofNat_of_zero_le f.1
    refine ⟨n, by omega, fun k m => dU (fd := f12) (e1 := [some (.lst (ns.map D.int))]) (m1 := []) rfl rfl rfl hp ?_ rfl⟩
    show evSs T (callF T Fn (k + 1)) b12 [some (.lst (ns.map D.int))] [] = _
    unfold b12
    have t := t0 (k := k)
    rw [decide_eq_false h] at t
    rw [← hn]
    exact gIfF t (gRet (e_bin (e_bin ce rfl (b_div (by decide) (big9000 (by decide)))) rfl (b_mod (by decide))))
end
/-! k81: odd things; what a command in memory freezes to -/
theorem odd_ok (c : Int) : ∃ x ∈ oddL, ∀ (k : Nat) (m : Mem), callF T Fn (k + 1) 6 [.int c] m = .ok x m := by
  obtain ⟨M, hM⟩ : ∃ M : Mem, M = [.dK [], .dK [(.inr "n", .int 1)], .dK [], .lst [.str "a", .tup [], .tup [.int 1], .ref 0, .ref 1, .str "set", .tup [.ref 2], .tup [.int 0, .int 1]]] := ⟨_, rfl⟩
  have f := fmod_in c (show (0 : Int) < 8 by decide)
  obtain ⟨i, hi⟩ := Int.eq_ofNat_of_zero_le f.1
  have hi8 : i < 8 := by omega
  have go : ∀ (y x : D), idxD (.ref 3) (.int (i : Nat)) M = some y → frz M 200 y = some x → ∀ (k : Nat) (m : Mem), callF T Fn (k + 1) 6 [.int c] m = .ok x m := fun y x h1 h2 k m => by
    rw [callU (fd := f6) rfl rfl rfl rfl, resRt (d := y) (m1 := M) (e1 := [some (.int c)]) ?_]
    · unfold backP
      dsimp only
      rw [h2]; rfl
    · show evSs T (callF T Fn k) b6 [some (.int c)] [] = _
      unfold b6
      refine gRet (e_idx (x := .ref 3) (m1 := M) (by rw [hM]; rfl) (e_bin rfl rfl (b_mod (by decide))) ?_)
      rw [hi]; exact h1
  subst hM
  match i, hi8 with
  | 0, _ => exact ⟨.str "a", by simp [oddL], go _ _ rfl rfl⟩
  | 1, _ => exact ⟨.tup [], by simp [oddL], go _ _ rfl rfl⟩
  | 2, _ => exact ⟨.tup [.int 1], by simp [oddL], go _ _ rfl rfl⟩
  | 3, _ => exact ⟨.dK [], by simp [oddL], go _ _ rfl rfl⟩
  | 4, _ => exact ⟨.dK [(.inr "n", .int 1)], by simp [oddL], go _ _ rfl rfl⟩
  | 5, _ => exact ⟨.str "set", by simp [oddL], go _ _ rfl rfl⟩
  | 6, _ => exact ⟨.tup [.dK []], by simp [oddL], go _ _ rfl rfl⟩
  | 7, _ => exact ⟨.tup [.int 0, .int 1], by simp [oddL], go _ _ rfl rfl⟩
  | n + 8, h => omega
theorem odd_all {P : D → Prop} (h0 : P (.str "a")) (h1 : P (.tup [])) (h2 : P (.tup [.int 1])) (h3 : P (.dK [])) (h4 : P (.dK [(.inr "n", .int 1)])) (h5 : P (.str "set")) (h6 : P (.tup [.dK []])) (h7 : P (.tup [.int 0, .int 1])) : ∀ x ∈ oddL, P x := fun x hx => by
  simp only [oddL, List.mem_cons, List.not_mem_nil, or_false] at hx
  rcases hx with rfl | rfl | rfl | rfl | rfl | rfl | rfl | rfl
  · exact h0
  · exact h1
  · exact h2
  · exact h3
  · exact h4
  · exact h5
  · exact h6
  · exact h7
/-- entries: a word, what it has in memory, what that comes to -/
abbrev En := Str × D × D
def memK (l : List En) : List (Key × D) := l.map fun p => (.inr p.1, p.2.1)
def frK (l : List En) : List (Key × D) := l.map fun p => (.inr p.1, p.2.2)
def Fz (m : Mem) (lo : Nat) : Nat → D → D → Prop
  | 0, d, x => d = x ∧ x.pure = true
  | n + 1, d, x => (d = x ∧ x.pure = true) ∨ (∃ xs ys, d = .tup xs ∧ x = .tup ys ∧ xs.length = ys.length ∧ ∀ (i : Nat) (a b : D), xs[i]? = some a → ys[i]? = some b → Fz m lo n a b) ∨
    ∃ (a : Nat) (l : List En), d = .ref a ∧ a < lo ∧ m[a]? = some (.dK (memK l)) ∧ x = .dK (frK l) ∧ ∀ p ∈ l, Fz m lo n p.2.1 p.2.2
theorem Fz.of_pure {m : Mem} {lo n : Nat} {d : D} (h : d.pure = true) : Fz m lo n d d := by
  cases n with
  | zero => exact ⟨rfl, h⟩
  | succ n => exact .inl ⟨rfl, h⟩
theorem Fz.up {m : Mem} {lo : Nat} : ∀ {n : Nat} {d x : D}, Fz m lo n d x → Fz m lo (n + 1) d x
  | 0, d, x, h => .inl h
  | n + 1, d, x, h => by
    rcases h with h | ⟨xs, ys, e1, e2, hl, h⟩ | ⟨a, l, e1, ha, hm, e2, h⟩
    · exact .inl h
    · exact .inr (.inl ⟨xs, ys, e1, e2, hl, fun i a b ha hb => (h i a b ha hb).up⟩)
    · exact .inr (.inr ⟨a, l, e1, ha, hm, e2, fun p hp => (h p hp).up⟩)
theorem Fz.le {m : Mem} {lo n : Nat} {d x : D} (h : Fz m lo n d x) : ∀ j, Fz m lo (n + j) d x
  | 0 => h
  | j + 1 => (h.le j).up
/-- .. in a later memory -/
theorem Fz.stay {m m' : Mem} {lo lo' : Nat} (hm : ∀ i, i < lo → m'[i]? = m[i]?) (hl : lo ≤ lo') : ∀ {n : Nat} {d x : D}, Fz m lo n d x → Fz m' lo' n d x
  | 0, d, x, h => h
  | n + 1, d, x, h => by
    rcases h with h | ⟨xs, ys, e1, e2, hlen, h⟩ | ⟨a, l, e1, ha, hma, e2, h⟩
    · exact .inl h
    · exact .inr (.inl ⟨xs, ys, e1, e2, hlen, fun i a b ha hb => (h i a b ha hb).stay hm hl⟩)
    · exact .inr (.inr ⟨a, l, e1, by omega, (hm a ha).trans hma, e2, fun p hp => (h p hp).stay hm hl⟩)
/-- .. where only lists changed -/
theorem Fz.keep {m m' : Mem} {lo lo' : Nat} (hm : ∀ (i : Nat) (kvs : List (Key × D)), i < lo → m[i]? = some (.dK kvs) → m'[i]? = some (.dK kvs)) (hl : lo ≤ lo') : ∀ {n : Nat} {d x : D}, Fz m lo n d x → Fz m' lo' n d x
  | 0, d, x, h => h
  | n + 1, d, x, h => by
    rcases h with h | ⟨xs, ys, e1, e2, hlen, h⟩ | ⟨a, l, e1, ha, hma, e2, h⟩
    · exact .inl h
    · exact .inr (.inl ⟨xs, ys, e1, e2, hlen, fun i a b ha hb => (h i a b ha hb).keep hm hl⟩)
    · exact .inr (.inr ⟨a, l, e1, by omega, hm a _ ha hma, e2, fun p hp => (h p hp).keep hm hl⟩)
theorem pureL_ix : ∀ {xs : List D}, (∀ (i : Nat) (x : D), xs[i]? = some x → x.pure = true) → pureL xs = true
  | [], _ => rfl
  | x :: xs, h => by
    show (x.pure && pureL xs) = true
    rw [h 0 x rfl, pureL_ix fun i y hy => h (i + 1) y hy]; rfl
theorem pureL_at' : ∀ {xs : List D} {i : Nat} {x : D}, pureL xs = true → xs[i]? = some x → x.pure = true
  | y :: ys, 0, x, h, e => by cases e; exact (and2 (show (y.pure && pureL ys) = true from h)).1
  | y :: ys, i + 1, x, h, e => pureL_at' (and2 (show (y.pure && pureL ys) = true from h)).2 e
  | [], i, x, _, e => by simp at e
theorem pure_frK : ∀ {l : List En}, (∀ p ∈ l, p.2.2.pure = true) → pureK (frK l) = true
  | [], _ => rfl
  | p :: l, h => by
    show (p.2.2.pure && pureK (frK l)) = true
    rw [h p (by simp), pure_frK fun q hq => h q (by simp [hq])]; rfl
theorem Fz.pure {m : Mem} {lo : Nat} : ∀ {n : Nat} {d x : D}, Fz m lo n d x → x.pure = true
  | 0, d, x, h => h.2
  | n + 1, d, x, h => by
    rcases h with h | ⟨xs, ys, e1, rfl, hl, h⟩ | ⟨a, l, e1, ha, hm, rfl, h⟩
    · exact h.2
    · show pureL ys = true
      refine pureL_ix fun i y hy => ?_
      have hi : i < xs.length := by have := (List.getElem?_eq_some_iff.mp hy).1; omega
      exact (h i _ y (List.getElem?_eq_getElem hi) hy).pure
    · exact pure_frK fun p hp => (h p hp).pure
theorem Fz.eq_pure {m : Mem} {lo : Nat} : ∀ {n : Nat} {d x : D}, Fz m lo n d x → d.pure = true → x = d
  | 0, d, x, h, _ => h.1.symm
  | n + 1, d, x, h, hp => by
    rcases h with h | ⟨xs, ys, rfl, rfl, hl, h⟩ | ⟨a, l, rfl, ha, hm, rfl, h⟩
    · exact h.1.symm
    · congr 1
      refine List.ext_getElem? fun i => ?_
      by_cases hi : i < xs.length
      · rw [List.getElem?_eq_getElem hi, List.getElem?_eq_getElem (by omega)]
        exact congrArg some ((h i _ _ (List.getElem?_eq_getElem hi) (List.getElem?_eq_getElem (by omega))).eq_pure (pureL_at' (show pureL xs = true from hp) (List.getElem?_eq_getElem hi)))
      · rw [List.getElem?_eq_none (by omega), List.getElem?_eq_none (by omega)]
    · cases hp
theorem mapM_ix {f : D → Option D} : ∀ {xs ys : List D}, xs.length = ys.length → (∀ (i : Nat) (a b : D), xs[i]? = some a → ys[i]? = some b → f a = some b) → xs.mapM f = some ys
  | [], [], _, _ => rfl
  | x :: xs, y :: ys, hl, h => by
    rw [List.mapM_cons, h 0 x y rfl rfl, mapM_ix (by simpa using hl) fun i a b ha hb => h (i + 1) a b ha hb]; rfl
  | [], _ :: _, hl, _ => by cases hl
  | _ :: _, [], hl, _ => by cases hl
theorem mapM_en {m : Mem} {n : Nat} : ∀ {l : List En}, (∀ p ∈ l, frz m n p.2.1 = some p.2.2) → (memK l).mapM (fun p => (frz m n p.2).map fun d => (p.1, d)) = some (frK l)
  | [], _ => rfl
  | p :: l, h => by
    show (((.inr p.1, p.2.1) : Key × D) :: memK l).mapM _ = some (((.inr p.1, p.2.2) : Key × D) :: frK l)
    rw [List.mapM_cons, h p (by simp), mapM_en fun q hq => h q (by simp [hq])]; rfl
theorem Fz.frz {m : Mem} {lo : Nat} : ∀ {n : Nat} {d x : D} (j : Nat), Fz m lo n d x → frz m (n + j) d = some x
  | 0, d, x, j, h => by
    obtain ⟨rfl, hp⟩ := h
    exact frz_pure hp
  | n + 1, d, x, j, h => by
    by_cases hd : d.pure = true
    · rw [h.eq_pure hd]; exact frz_pure hd
    rcases h with h | ⟨xs, ys, rfl, rfl, hl, h⟩ | ⟨a, l, rfl, ha, hm, rfl, h⟩
    · exact absurd (h.1 ▸ h.2) hd
    · rw [show n + 1 + j = (n + j) + 1 by omega]
      unfold Ev.frz
      rw [if_neg hd]
      show (xs.mapM (Ev.frz m (n + j))).map D.tup = _
      rw [mapM_ix hl fun i a b ha hb => (h i a b ha hb).frz j]
      rfl
    · rw [show n + 1 + j = (n + j) + 1 by omega]
      unfold Ev.frz
      rw [if_neg hd]
      dsimp only
      rw [hm]
      dsimp only
      rw [mapM_en fun p hp => (h p hp).frz j]
      rfl
/-! equal to itself -/
theorem eqL_self : ∀ {xs : List D}, (∀ x ∈ xs, eqD x x = some true) → eqL xs xs = some true
  | [], _ => rfl
  | x :: xs, h => by
    unfold eqL
    rw [h x (by simp), eqL_self fun y hy => h y (by simp [hy])]; rfl
theorem eqK_of {ys : List (Key × D)} : ∀ {xs : List (Key × D)}, (∀ p ∈ xs, lookK ys p.1 = some p.2 ∧ eqD p.2 p.2 = some true) → eqK xs ys = some true
  | [], _ => rfl
  | (q, x) :: xs, h => by
    have h0 := h (q, x) (by simp)
    unfold eqK
    rw [h0.1]
    dsimp only
    rw [h0.2, eqK_of fun p hp => h p (by simp [hp])]
    rfl
theorem keys_frK (l : List En) : (frK l).map (·.1) = (l.map (·.1)).map .inr := by
  unfold frK
  rw [List.map_map, List.map_map]; rfl
theorem keys_memK (l : List En) : (memK l).map (·.1) = (l.map (·.1)).map .inr := by
  unfold memK
  rw [List.map_map, List.map_map]; rfl
theorem nd_inr {l : List Str} (h : l.Nodup) : (l.map (Sum.inr : Str → Key)).Nodup := List.pairwise_map.mpr (List.Pairwise.imp (fun hne e => hne (Sum.inr.inj e)) h)
theorem lookK_inn : ∀ {kvs : List (Key × D)} {q : Key} {x : D}, lookK kvs q = some x → (q, x) ∈ kvs
  | (p, y) :: r, q, x, h => by
    unfold lookK at h
    split at h
    · rename_i e; cases h; rw [e]; exact List.mem_cons_self
    · exact List.mem_cons_of_mem _ (lookK_inn h)
theorem eq_rec {l : List En} (hn : (l.map (·.1)).Nodup) (h : ∀ p ∈ l, eqD p.2.2 p.2.2 = some true) : eqD (.dK (frK l)) (.dK (frK l)) = some true := by
  have nd : ((frK l).map (·.1)).Nodup := by rw [keys_frK]; exact nd_inr hn
  show ((eqK (frK l) (frK l)).map fun b => (frK l).length == (frK l).length && b) = some true
  rw [eqK_of fun p hp => ?_]
  · simp
  · refine ⟨lookK_mem nd hp, ?_⟩
    obtain ⟨e, he, rfl⟩ := List.mem_map.mp hp
    exact h e he
theorem depK_le {n : Nat} : ∀ {l : List En}, (∀ p ∈ l, p.2.2.depth ≤ n) → depthK (frK l) ≤ n
  | [], _ => Nat.zero_le _
  | p :: l, h => by
    show max p.2.2.depth (depthK (frK l)) ≤ n
    have h1 := h p (by simp)
    have h2 := depK_le fun q hq => h q (List.mem_cons_of_mem _ hq)
    omega
theorem depL_le {n : Nat} : ∀ {xs : List D}, (∀ x ∈ xs, x.depth ≤ n) → depthL xs ≤ n
  | [], _ => Nat.zero_le _
  | y :: ys, h => by
    show max y.depth (depthL ys) ≤ n
    have h1 := h y (by simp)
    have h2 := depL_le fun x hx => h x (List.mem_cons_of_mem _ hx)
    omega
/-- a value: its shape, how deep it is, like itself -/
structure Vl (n : Nat) (x : D) : Prop where
  sh : Shp x
  dep : x.depth ≤ n
  eq : eqD x x = some true
theorem Vl.le {n j : Nat} {x : D} (h : Vl n x) (hj : n ≤ j) : Vl j x := ⟨h.sh, by have := h.dep; omega, h.eq⟩
theorem Vl.int (n : Nat) (z : Int) : Vl n (.int z) := ⟨.inl ⟨z, rfl⟩, Nat.zero_le _, by show some (decide (z = z)) = _; simp⟩
theorem Vl.str (n : Nat) (w : Str) : Vl n (.str w) := ⟨.inr (.inl ⟨w, rfl⟩), Nat.zero_le _, by show some (decide (w = w)) = _; simp⟩
theorem Vl.tup {n : Nat} {xs : List D} (hn : n ≤ 100) (h : ∀ x ∈ xs, Vl n x) : Vl (n + 1) (.tup xs) := by
  have hd := depL_le fun x hx => (h x hx).dep
  refine ⟨.inr (.inr (.inl ⟨xs, rfl, pureL_ix fun i x hx => (h x (List.mem_of_getElem? hx)).sh.pu, by omega⟩)), ?_, ?_⟩
  · show depthL xs + 1 ≤ n + 1; omega
  · show ((eqL xs xs).map fun b => b && xs.length == xs.length) = some true
    rw [eqL_self fun x hx => (h x hx).eq]
    simp
theorem Vl.dk {n : Nat} {l : List En} (hn : n ≤ 100) (hl : (l.map (·.1)).Nodup) (h : ∀ p ∈ l, Vl n p.2.2) : Vl (n + 1) (.dK (frK l)) := by
  have hd := depK_le fun p hp => (h p hp).dep
  exact ⟨.inr (.inr (.inr ⟨_, rfl, pure_frK fun p hp => (h p hp).sh.pu, by omega⟩)), by show depthK (frK l) + 1 ≤ n + 1; omega, eq_rec hl fun p hp => (h p hp).eq⟩
theorem odd_vl : ∀ x ∈ oddL, Vl 2 x := by
  refine odd_all (Vl.str 2 _) ((Vl.tup (n := 0) (by decide) fun x hx => absurd hx List.not_mem_nil).le (by decide)) ((Vl.tup (n := 0) (by decide) fun x hx => by rw [List.mem_singleton.mp hx]; exact Vl.int 0 1).le (by decide)) ((Vl.dk (n := 0) (l := []) (by decide) List.nodup_nil fun x hx => absurd hx List.not_mem_nil).le (by decide)) ((Vl.dk (n := 0) (l := [("n", .int 1, .int 1)]) (by decide) (by simp) fun x hx => by rw [List.mem_singleton.mp hx]; exact Vl.int 0 1).le (by decide)) (Vl.str 2 _) (Vl.tup (n := 1) (by decide) fun x hx => by rw [List.mem_singleton.mp hx]; exact Vl.dk (n := 0) (l := []) (by decide) List.nodup_nil fun x hx => absurd hx List.not_mem_nil) ((Vl.tup (n := 0) (by decide) fun x hx => ?_).le (by decide))
  simp only [List.mem_cons, List.not_mem_nil, or_false] at hx
  rcases hx with rfl | rfl
  · exact Vl.int 0 0
  · exact Vl.int 0 1
/-! k81: commands in memory: made, cut, turned -/
theorem lk_fr {l : List En} (hn : (l.map (·.1)).Nodup) {p : En} (h : p ∈ l) : lookK (frK l) (.inr p.1) = some p.2.2 := lookK_mem (by rw [keys_frK]; exact nd_inr hn) (List.mem_map.mpr ⟨p, h, rfl⟩)
theorem lk_me {l : List En} (hn : (l.map (·.1)).Nodup) {p : En} (h : p ∈ l) : lookK (memK l) (.inr p.1) = some p.2.1 := lookK_mem (by rw [keys_memK]; exact nd_inr hn) (List.mem_map.mpr ⟨p, h, rfl⟩)
theorem fr_lk {l : List En} {q : Key} {x : D} (h : lookK (frK l) q = some x) : ∃ p ∈ l, q = .inr p.1 ∧ p.2.2 = x := by
  obtain ⟨p, hp, e⟩ := List.mem_map.mp (lookK_inn h)
  cases e
  exact ⟨p, hp, rfl, rfl⟩
theorem fr_none {l : List En} {w : Str} (h : w ∉ l.map (·.1)) : lookK (frK l) (.inr w) = none := by
  cases e : lookK (frK l) (.inr w) with
  | none => rfl
  | some x =>
    obtain ⟨p, hp, e1, _⟩ := fr_lk e
    exact absurd (List.mem_map.mpr ⟨p, hp, (Sum.inr.inj e1).symm⟩) h
theorem fr_rev {l : List En} (hn : (l.map (·.1)).Nodup) (q : Key) : lookK (frK l.reverse) q = lookK (frK l) q := by
  have hn2 : (l.reverse.map (·.1)).Nodup := by rw [List.map_reverse]; exact List.pairwise_reverse.mpr (hn.imp fun h => Ne.symm h)
  cases e : lookK (frK l) q with
  | some x =>
    obtain ⟨p, hp, rfl, rfl⟩ := fr_lk e
    exact lk_fr hn2 (List.mem_reverse.mpr hp)
  | none =>
    cases e2 : lookK (frK l.reverse) q with
    | none => rfl
    | some x =>
      obtain ⟨p, hp, rfl, rfl⟩ := fr_lk e2
      rw [lk_fr hn (List.mem_reverse.mp hp)] at e
      cases e
theorem cmdB_rev {l : List En} (hn : (l.map (·.1)).Nodup) (sb : Bool) : cmdB sb (frK l.reverse) = cmdB sb (frK l) := by
  have hl : (frK l.reverse).length = (frK l).length := by unfold frK; simp
  unfold cmdB
  rw [hl]
  simp only [fr_rev hn]
/-- a command or none, frozen -/
structure Cd (n : Nat) (b : Bool) (x : D) : Prop where
  dk : ∃ kvs, x = .dK kvs
  vl : Vl (2 * n + 3) x
  is : ∀ k m, callF T Fn (k + 2 * n + 2) 2 [x] m = .ok (.bl b) m
theorem Cd.up {n : Nat} {b : Bool} {x : D} (h : Cd n b x) : Cd (n + 1) b x := ⟨h.dk, h.vl.le (by omega), fun k m => by have := h.is (k + 2) m; rw [show k + 2 + 2 * n + 2 = k + 2 * (n + 1) + 2 by omega] at this; exact this⟩
theorem cd_mk {l : List En} {n : Nat} {sb b : Bool} (hn : (l.map (·.1)).Nodup) (h40 : n ≤ 40) (hv : ∀ p ∈ l, Vl (2 * n + 2) p.2.2) (hb : ∀ p ∈ l, p.1 = "body" → ∀ k m, callF T Fn (k + 2 * n + 1) 3 [p.2.2] m = .ok (.bl sb) m) (hc : cmdB sb (frK l) = b) : Cd n b (.dK (frK l)) := by
  have v := Vl.dk (l := l) (n := 2 * n + 2) (by omega) hn hv
  refine ⟨⟨_, rfl⟩, v, fun k m => ?_⟩
  rw [← hc]
  refine is_command_ok (k := k + 2 * n) v.sh.pu (fun q x hx => ?_) (fun x hx m => ?_) m
  · obtain ⟨p, hp, _, rfl⟩ := fr_lk hx
    exact (hv p hp).sh
  · obtain ⟨p, hp, e, rfl⟩ := fr_lk hx
    exact hb p hp (Sum.inr.inj e).symm k m
theorem odd_cmd : ∀ x ∈ oddL, ∀ (k : Nat) (m : Mem), callF T Fn (k + 2) 2 [x] m = .ok (.bl false) m := by
  have tp : ∀ {xs : List D}, Vl 2 (.tup xs) → ∀ (k : Nat) (m : Mem), callF T Fn (k + 2) 2 [.tup xs] m = .ok (.bl false) m := fun h k m => not_cmd (k := k + 1) h.sh (fun _ z => nomatch z) m
  have st : ∀ (w : Str) (k : Nat) (m : Mem), callF T Fn (k + 2) 2 [.str w] m = .ok (.bl false) m := fun w k m => not_cmd (k := k + 1) (.inr (.inl ⟨w, rfl⟩)) (fun _ z => nomatch z) m
  have v := odd_vl
  refine odd_all (st _) (tp (v _ (by simp [oddL]))) (tp (v _ (by simp [oddL]))) (fun k m => ?_) (fun k m => ?_) (st _) (tp (v _ (by simp [oddL]))) (tp (v _ (by simp [oddL])))
  · have := (cd_mk (l := []) (n := 0) (sb := false) (b := false) List.nodup_nil (by decide) (fun p hp => absurd hp List.not_mem_nil) (fun p hp => absurd hp List.not_mem_nil) rfl).is k m
    exact this
  · have := (cd_mk (l := [("n", .int 1, .int 1)]) (n := 0) (sb := false) (b := false) (by simp) (by decide) (fun p hp => by rw [List.mem_singleton.mp hp]; exact Vl.int 2 1) (fun p hp e => by rw [List.mem_singleton.mp hp] at e; exact absurd e (by decide)) rfl).is k m
    exact this
theorem int_cmd (z : Int) (k : Nat) (m : Mem) : callF T Fn (k + 1) 2 [.int z] m = .ok (.bl false) m := not_cmd (.inl ⟨z, rfl⟩) (fun _ z => nomatch z) m
theorem odd_score : ∀ x ∈ oddL, x ≠ .tup [] → ∀ (k : Nat) (m : Mem), callF T Fn (k + 3) 3 [x] m = .ok (.bl false) m := by
  have v := odd_vl
  refine odd_all (fun _ k m => not_score (k := k + 2) (.inr (.inl ⟨_, rfl⟩)) (fun _ z => nomatch z) m) (fun h => absurd rfl h) (fun _ k m => ?_) (fun _ k m => not_score (k := k + 2) (d := .dK []) (v _ (by simp [oddL])).sh (fun _ z => nomatch z) m) (fun _ k m => not_score (k := k + 2) (d := .dK [(.inr "n", .int 1)]) (v _ (by simp [oddL])).sh (fun _ z => nomatch z) m) (fun _ k m => not_score (k := k + 2) (.inr (.inl ⟨_, rfl⟩)) (fun _ z => nomatch z) m) (fun _ k m => ?_) (fun _ k m => ?_)
  · exact is_score_ok (k := k + 2) (ds := [.int 1]) (bs := [false]) rfl rfl (fun i d b hd hb m => by
      cases i with
      | zero => cases hd; cases hb; exact int_cmd 1 (k + 1) m
      | succ i => simp at hd) m
  · exact is_score_ok (k := k + 2) (ds := [.dK []]) (bs := [false]) rfl rfl (fun i d b hd hb m => by
      cases i with
      | zero => cases hd; cases hb; exact odd_cmd _ (by simp [oddL]) k m
      | succ i => simp at hd) m
  · exact is_score_ok (k := k + 2) (ds := [.int 0, .int 1]) (bs := [false, false]) rfl rfl (fun i d b hd hb m => by
      cases i with
      | zero => cases hd; cases hb; exact int_cmd 0 (k + 1) m
      | succ i => cases i with
        | zero => cases hd; cases hb; exact int_cmd 1 (k + 1) m
        | succ i => simp at hd) m
section
variable {k : Nat}
theorem sto_own {m : Mem} {a : Nat} {K : List (Key × D)} {n : Str} {v : D} (h : m[a]? = some (.dK K)) (hl : K.length ≤ 10000) : stoD (.ref a) (.str n) v m = some (m.set a (.dK (putK K (.inr n) v))) := by
  unfold stoD
  dsimp only
  rw [h]
  exact if_pos (fitsLe (by omega))
theorem sAsgI {cf : CF} {o i e : SE} {env : Env} {v x y : D} {m m1 m2 m3 m4 : Mem} (he : evE T cf e env m = .ok v m1) (ho : evE T cf o env m1 = .ok x m2) (hi : evE T cf i env m2 = .ok y m3) (hs : stoD x y v m3 = some m4) : evS T cf (.asgI o i e) env m = .ok .nx env m4 := by
  show (evE T cf e env m).st env _ = _
  rw [he]
  show (evE T cf o env m1).st env _ = _
  rw [ho]
  show (evE T cf i env m2).st env _ = _
  rw [hi]
  show optS (stoD x y v m3) env = _
  rw [hs]; rfl
theorem gAsgI {cf : CF} {o i e : SE} {ss : SSs} {R : SR} {env : Env} {v x y : D} {m m1 m2 m3 m4 : Mem} (he : evE T cf e env m = .ok v m1) (ho : evE T cf o env m1 = .ok x m2) (hi : evE T cf i env m2 = .ok y m3) (hs : stoD x y v m3 = some m4) (r : evSs T cf ss env m4 = R) : evSs T cf (.cons (.asgI o i e) ss) env m = R := (sNx (sAsgI he ho hi hs)).trans r
theorem put_me {l : List En} {w : Str} (h : w ∉ l.map (·.1)) (v x : D) : putK (memK l) (.inr w) v = memK (l ++ [(w, v, x)]) := by
  rw [putK_new (by rw [keys_memK]; exact fun z => by obtain ⟨y, hy, e⟩ := List.mem_map.mp z; exact h (Sum.inr.inj e ▸ hy))]
  unfold memK
  rw [List.map_append]; rfl
theorem set_last (m : Mem) (x y : O) : (m ++ [x]).set m.length y = m ++ [y] := by simp
theorem without_ok {m : Mem} {a : Nat} {l : List En} (hm : m[a]? = some (.dK (memK l))) (hn : (l.map (·.1)).Nodup) (hl : l.length ≤ 100) (w : Str) : callF T Fn (k + 1) 9 [.ref a, .str w] m = .ok (.ref m.length) (m ++ [.dK (memK (l.filter fun p => decide (p.1 ≠ w)))]) := by
  have ha : a < m.length := (List.getElem?_eq_some_iff.mp hm).1
  obtain ⟨m0, hm0⟩ : ∃ m0 : Mem, m0 = m.set a (.lk (memK l)) := ⟨_, rfl⟩
  have l0 : m0.length = m.length := by rw [hm0, List.length_set]
  have m0a : m0[a]? = some (.lk (memK l)) := by rw [hm0, List.getElem?_set_self ha]
  obtain ⟨e1, m1, r1, q3, he, hm1⟩ := forL_go (body := bodyG (.nm 3) (evSs T (callF T Fn k) (.cons (.ite (.cmp .ne (.var 3) (.var 1)) (.cons (.asgI (.var 2) (.var 3) (.idx (.var 0) (.var 3))) .nil) .nil) .nil))) (xs := (memK l).map fun p => ofKey p.1) (env := [some (.ref a), some (.str w), some (.ref m.length), none]) (m := m0 ++ [.dK []]) (fun j env M => ∃ q3 : Option D, env = [some (.ref a), some (.str w), some (.ref m.length), q3] ∧ M = m0 ++ [.dK (memK ((l.take j).filter fun p => decide (p.1 ≠ w)))]) ⟨none, rfl, rfl⟩ fun j x env M hx ⟨q3, he, hM⟩ => by
    unfold memK at hx
    rw [List.map_map, List.getElem?_map] at hx
    obtain ⟨p, hp, rfl⟩ := Option.map_eq_some_iff.mp hx
    subst he; subst hM
    rw [bodyG_nm (by simp)]
    have hpm := List.mem_of_getElem? hp
    have et : (l.take (j + 1)).filter (fun p : En => decide (p.1 ≠ w)) = (l.take j).filter (fun p : En => decide (p.1 ≠ w)) ++ (if p.1 ≠ w then [p] else []) := by
      rw [List.take_add_one, hp]
      show ((l.take j) ++ [p]).filter _ = _
      rw [List.filter_append]
      congr 1
      by_cases e : p.1 = w <;> simp [e]
    have t : ∀ M, evT T (callF T Fn k) (.cmp .ne (.var 3) (.var 1)) [some (.ref a), some (.str w), some (.ref m.length), some (.str p.1)] M = .ok (!decide (p.1 = w)) M := fun M => tt_cmp rfl rfl rfl
    by_cases e : p.1 = w
    · have t := t (m0 ++ [.dK (memK ((l.take j).filter fun p => decide (p.1 ≠ w)))])
      rw [decide_eq_true e] at t
      refine ⟨_, _, gIfF t (gEnd rfl), some (.str p.1), rfl, ?_⟩
      rw [et, if_neg (fun z => z e), List.append_nil]
    · have t := t (m0 ++ [.dK (memK ((l.take j).filter fun p => decide (p.1 ≠ w)))])
      rw [decide_eq_false e] at t
      have nin : p.1 ∉ (((l.take j).filter fun p => decide (p.1 ≠ w)).map (·.1)) := fun z => by
        obtain ⟨q, hq, e2⟩ := List.mem_map.mp z
        have hq := (List.mem_filter.mp hq).1
        obtain ⟨i, hi, eq⟩ := List.mem_take_iff_getElem.mp hq
        have hj := (List.getElem?_eq_some_iff.mp hp).1
        have : (l.map (·.1))[i]? = (l.map (·.1))[j]? := by
          rw [List.getElem?_map, List.getElem?_map, hp, List.getElem?_eq_getElem (by omega), eq]
          show some q.1 = some p.1
          rw [e2]
        have := (List.getElem?_inj (by rw [List.length_map]; omega) hn).mp this
        omega
      have ix : idxD (.ref a) (.str p.1) (m0 ++ [.dK (memK ((l.take j).filter fun p => decide (p.1 ≠ w)))]) = some p.2.1 := by
        unfold idxD
        rw [sh_ref, List.getElem?_append_left (by rw [l0]; exact ha), m0a]
        exact lk_me hn hpm
      have ll : ((l.take j).filter fun p => decide (p.1 ≠ w)).length ≤ 100 := Nat.le_trans (List.length_filter_le _ _) (by rw [List.length_take]; omega)
      have mb : (m0 ++ [O.dK (memK ((l.take j).filter fun p => decide (p.1 ≠ w)))])[m.length]? = some (.dK (memK ((l.take j).filter fun p => decide (p.1 ≠ w)))) := by rw [← l0]; exact mem_new
      refine ⟨_, _, gIfT t (gAsgI (e_idx rfl rfl ix) rfl rfl (sto_own mb (by unfold memK; rw [List.length_map]; omega)) (gEnd rfl)), some (.str p.1), rfl, ?_⟩
      rw [et, if_pos e, put_me nin p.2.1 p.2.2, ← l0, set_last]
  subst he; subst hm1
  rw [show ((memK l).map fun p => ofKey p.1).length = l.length by unfold memK; simp, List.take_length] at r1
  have hset : m0.set a (.dK (memK l)) = m := by
    rw [hm0, List.set_set]
    exact List.ext_getElem? fun i => by
      by_cases hi : a = i
      · subst hi; rw [List.getElem?_set_self ha, hm]
      · rw [List.getElem?_set_ne hi]
  refine dP (fd := f9) (e1 := [some (.ref a), some (.str w), some (.ref m.length), q3]) rfl rfl rfl ?_
  show evSs T (callF T Fn k) b9 [some (.ref a), some (.str w), none, none] m = _
  unfold b9
  refine gAsg (d := .ref m.length) (m1 := m ++ [.dK []]) rfl (by simp) ?_
  have fk := sForKo (T := T) (cf := callF T Fn k) (kd := .keys) (g := .nm 3) (i := 0) (j := a) (b := .cons (.ite (.cmp .ne (.var 3) (.var 1)) (.cons (.asgI (.var 2) (.var 3) (.idx (.var 0) (.var 3))) .nil) .nil) .nil) (env := [some (.ref a), some (.str w), some (.ref m.length), none]) (m := m ++ [.dK []]) (kvs := memK l) (kvs2 := memK l) (xs := (memK l).map fun p => ofKey p.1) (f := .nx) rfl (by rw [List.getElem?_append_left ha]; exact hm) rfl (by rw [List.set_append_left _ _ ha, ← hm0]; exact r1) (by rw [List.getElem?_append_left (by rw [l0]; exact ha)]; exact m0a)
  rw [List.set_append_left _ _ (by rw [l0]; exact ha), hset] at fk
  exact (sNx fk).trans (gRet rfl)
end
/-! k81: commands made and turned -/
section
variable {k : Nat}
theorem list_own {m : Mem} {a : Nat} {l : List En} (h : m[a]? = some (.dK (memK l))) (hl : l.length ≤ 100) : bltD .list [.ref a] m = .ok (.ref m.length) (m ++ [.lst (l.map fun p => .str p.1)]) := by
  have e : (memK l).map (fun p => ofKey p.1) = l.map fun p => D.str p.1 := by unfold memK; rw [List.map_map]; rfl
  unfold bltD
  dsimp only
  rw [sh_ref, h]
  dsimp only
  rw [e]
  rfl
structure Mk (n : Nat) (b : Bool) (l : List En) : Prop where
  vl : ∀ p ∈ l, Vl (2 * n + 2) p.2.2
  ex : ∃ sb : Bool, (∀ p ∈ l, p.1 = "body" → ∀ (k : Nat) (m : Mem), callF T Fn (k + 2 * n + 1) 3 [p.2.2] m = .ok (.bl sb) m) ∧ cmdB sb (frK l) = b
theorem Mk.rev {n : Nat} {b : Bool} {l : List En} (hn : (l.map (·.1)).Nodup) (h : Mk n b l) : Mk n b l.reverse := by
  obtain ⟨sb, h1, h2⟩ := h.ex
  exact ⟨fun p hp => h.vl p (List.mem_reverse.mp hp), sb, fun p hp => h1 p (List.mem_reverse.mp hp), by rw [cmdB_rev hn]; exact h2⟩
theorem Mk.cd {n : Nat} {b : Bool} {l : List En} (hn : (l.map (·.1)).Nodup) (h40 : n ≤ 40) (h : Mk n b l) : Cd n b (.dK (frK l)) := by
  obtain ⟨sb, h1, h2⟩ := h.ex
  exact cd_mk hn h40 h.vl h1 h2
/-- what a def of commands leaves behind: all below a as it was, a command at r -/
structure Out (m m' : Mem) (a r N n : Nat) (b : Bool) (l : List En) : Prop where
  keep : ∀ i, i < a → m'[i]? = m[i]?
  le : a ≤ r
  at_ : m'[r]? = some (.dK (memK l))
  nd : (l.map (·.1)).Nodup
  len : l.length ≤ 10
  fz : ∀ p ∈ l, Fz m' m'.length N p.2.1 p.2.2
  ok : Mk n b l
  lm : m.length ≤ m'.length
theorem turned_ok {m m0 : Mem} {a r N n : Nat} {b : Bool} {l : List En} (O1 : Out m0 m a r N n b l) (e : Int) : ∃ (r' : Nat) (m' : Mem) (l' : List En), callF T Fn (k + 1) 11 [.ref r, .int e] m = .ok (.ref r') m' ∧ Out m0 m' a r' N n b l' := by
  have t : evT T (callF T Fn k) (.cmp .eq (.bin .mod (.var 1) (.cst (.int 2))) (.cst (.int 0))) [some (.ref r), some (.int e), none, none] m = .ok (decide (e.fmod 2 = 0)) m := tt_cmp (e_bin rfl rfl (b_mod (by decide))) rfl rfl
  have hm := O1.at_
  have hr : r < m.length := (List.getElem?_eq_some_iff.mp hm).1
  by_cases h : e.fmod 2 = 0
  · rw [decide_eq_true h] at t
    refine ⟨r, m, l, dP (fd := f11) (e1 := [some (.ref r), some (.int e), none, none]) rfl rfl rfl ?_, O1⟩
    show evSs T (callF T Fn k) b11 [some (.ref r), some (.int e), none, none] m = _
    unfold b11
    exact gIfT t (gRet rfl)
  · rw [decide_eq_false h] at t
    have nd2 : (l.reverse.map (·.1)).Nodup := by rw [List.map_reverse]; exact List.pairwise_reverse.mpr (O1.nd.imp fun h => Ne.symm h)
    have ln := O1.len
    have lkeys : (l.map fun p => D.str p.1).reverse = l.reverse.map fun p => D.str p.1 := by rw [List.map_reverse]
    obtain ⟨e2, m2, r2, q3, he, hm2⟩ := sForM (cf := callF T Fn k) (g := .nm 3) (it := .rev (.blt .list (.cons (.var 0) .nil))) (b := .cons (.asgI (.var 2) (.var 3) (.idx (.var 0) (.var 3))) .nil) (n := (l.map fun p => D.str p.1).length) (get := getR (m.length + 1) (l.map fun p => D.str p.1).length) (xs := (l.map fun p => D.str p.1).reverse) (env := [some (.ref r), some (.int e), some (.ref m.length), none]) (m := m ++ [.dK []]) (m1 := m ++ [.dK []] ++ [.lst (l.map fun p => .str p.1)]) (by
      have e1 : evE T (callF T Fn k) (.blt .list (.cons (.var 0) .nil)) [some (.ref r), some (.int e), some (.ref m.length), none] (m ++ [.dK []]) = .ok (.ref (m.length + 1)) (m ++ [.dK []] ++ [.lst (l.map fun p => .str p.1)]) := by
        have := list_own (m := m ++ [.dK []]) (a := r) (l := l) (by rw [List.getElem?_append_left hr]; exact hm) (by omega)
        rw [List.length_append] at this
        exact e_blt (es_1 rfl) this
      show (evE T (callF T Fn k) (.blt .list (.cons (.var 0) .nil)) _ _).bind _ = _
      rw [e1]
      show Res.opt (revI (.ref (m.length + 1)) _) _ = _
      have : (m ++ [O.dK []] ++ [.lst (l.map fun p => D.str p.1)])[m.length + 1]? = some (.lst (l.map fun p => D.str p.1)) := by
        have := mem_new (m := m ++ [O.dK []]) (o := .lst (l.map fun p => D.str p.1))
        rw [List.length_append] at this
        exact this
      unfold revI
      dsimp only
      rw [this]
      rfl) (by simp) (fun j env M => ∃ q3 : Option D, env = [some (.ref r), some (.int e), some (.ref m.length), q3] ∧ M = m ++ [.dK (memK (l.reverse.take j))] ++ [.lst (l.map fun p => .str p.1)]) ⟨none, rfl, rfl⟩ (fun i env M ⟨q, _, hM⟩ => by
        subst hM
        have hb : (m ++ [O.dK (memK (l.reverse.take i))] ++ [.lst (l.map fun p => D.str p.1)])[m.length + 1]? = some (.lst (l.map fun p => D.str p.1)) := by
          have := mem_new (m := m ++ [O.dK (memK (l.reverse.take i))]) (o := .lst (l.map fun p => D.str p.1))
          rw [List.length_append] at this
          exact this
        exact (shows_rev hb).at_ i) fun j x env M hx ⟨q3, he, hM⟩ => by
      rw [lkeys, List.getElem?_map] at hx
      obtain ⟨p, hp, rfl⟩ := Option.map_eq_some_iff.mp hx
      subst he; subst hM
      rw [bodyG_nm (by simp)]
      have hpm : p ∈ l := List.mem_reverse.mp (List.mem_of_getElem? hp)
      have nin : p.1 ∉ ((l.reverse.take j).map (·.1)) := fun z => by
        obtain ⟨q, hq, e2⟩ := List.mem_map.mp z
        obtain ⟨i, hi, eq⟩ := List.mem_take_iff_getElem.mp hq
        have hj := (List.getElem?_eq_some_iff.mp hp).1
        have : (l.reverse.map (·.1))[i]? = (l.reverse.map (·.1))[j]? := by
          rw [List.getElem?_map, List.getElem?_map, hp, List.getElem?_eq_getElem (by omega), eq]
          show some q.1 = some p.1
          rw [e2]
        have := (List.getElem?_inj (by rw [List.length_map]; omega) nd2).mp this
        omega
      have ix : idxD (.ref r) (.str p.1) (m ++ [O.dK (memK (l.reverse.take j))] ++ [.lst (l.map fun p => D.str p.1)]) = some p.2.1 := by
        unfold idxD
        rw [sh_ref, List.getElem?_append_left (by simp; omega), List.getElem?_append_left hr, hm]
        exact lk_me O1.nd hpm
      have mb : (m ++ [O.dK (memK (l.reverse.take j))] ++ [.lst (l.map fun p => D.str p.1)])[m.length]? = some (.dK (memK (l.reverse.take j))) := by
        rw [List.getElem?_append_left (by simp)]; exact mem_new
      refine ⟨_, _, gAsgI (e_idx rfl rfl ix) rfl rfl (sto_own mb (by unfold memK; rw [List.length_map, List.length_take]; simp; omega)) (gEnd rfl), some (.str p.1), rfl, ?_⟩
      rw [put_me nin p.2.1 p.2.2, List.set_append_left _ _ (by simp), set_last, List.take_add_one, hp]
      rfl
    rw [lkeys, List.length_map, List.take_length] at hm2
    subst he; subst hm2
    refine ⟨m.length, m ++ [.dK (memK l.reverse)] ++ [.lst (l.map fun p => .str p.1)], l.reverse, dP (fd := f11) (e1 := [some (.ref r), some (.int e), some (.ref m.length), q3]) rfl rfl rfl ?_, ?_⟩
    · show evSs T (callF T Fn k) b11 [some (.ref r), some (.int e), none, none] m = _
      unfold b11
      refine gIfF t ?_
      refine gAsg (d := .ref m.length) (m1 := m ++ [.dK []]) rfl (by simp) ?_
      exact (sNx r2).trans (gRet rfl)
    · have le := O1.le
      refine ⟨fun i hi => ?_, by omega, ?_, nd2, by rw [List.length_reverse]; exact ln, fun p hp => ?_, ?_, by have := O1.lm; simp; omega⟩
      · rw [List.getElem?_append_left (by simp; omega), List.getElem?_append_left (by omega)]
        exact O1.keep i hi
      · rw [List.getElem?_append_left (by simp)]; exact mem_new
      · refine (O1.fz p (List.mem_reverse.mp hp)).stay (fun i hi => ?_) (by simp)
        rw [List.getElem?_append_left (by simp; omega), List.getElem?_append_left hi]
      · exact O1.ok.rev O1.nd
theorem ps_one {cf : CF} {k v : SE} {r : SEs} {env : Env} {acc : List (Key × D)} {m : Mem} {x y : D} {q : Key} (h1 : evE T cf k env m = .ok x m) (h2 : evE T cf v env m = .ok y m) (hq : toKey x = some q) : evPs T cf (.cons k (.cons v r)) env acc m = evPs T cf r env (putK acc q y) m := by
  show (evE T cf k env m).bind _ = _
  rw [h1]
  show (evE T cf v env m).bind _ = _
  rw [h2]
  show (match toKey x with | some q => evPs T cf r env (putK acc q y) m | none => .bad) = _
  rw [hq]
theorem dis_of {cf : CF} {ks : SEs} {env : Env} {m : Mem} {acc : List (Key × D)} (h : evPs T cf ks env [] (m ++ [.dK []]) = .ok acc (m ++ [.dK []])) : evE T cf (.ddis ks) env m = .ok (.ref m.length) (m ++ [.dK acc]) := by
  show (evPs T cf ks env [] (m ++ [.dK []])).bind _ = _
  rw [h]
  show (match (m ++ [O.dK []])[m.length]? with | some (.dK []) => Res.ok (D.ref m.length) ((m ++ [O.dK []]).set m.length (.dK acc)) | _ => .bad) = _
  rw [mem_new]
  show Res.ok _ _ = _
  rw [set_last]
abbrev ks (w : Str) : Key := .inr w
/-- the six words, with their thirds -/
def sixT : List (Str × Str) := [("set", "n"), ("add", "from"), ("sub", "from"), ("mul", "from"), ("when", "body"), ("loop", "body")]
theorem command_ok {m : Mem} {h : Nat} {rs : List D} (hh : m[h]? = some (.lst rs)) (c o : Int) : ∃ (p : Str × Str) (az : Int) (v : D), p ∈ sixT ∧ callF T Fn (k + 2) 8 [.int c, .int o, .ref h] m = .ok (.ref (m.length + 1)) (m ++ [.lst (six.map D.str)] ++ [.dK [(ks "do", .str p.1), (ks "at", .int az), (ks p.2, v)]]) ∧ ((p.2 = "body" ∧ v = .tup rs ∧ 4 ≤ c.fmod 6) ∨ (p.2 ≠ "body" ∧ (∃ z, v = .int z) ∧ c.fmod 6 < 4)) := by
  obtain ⟨z, hz⟩ := number_ok (o.fdiv 4)
  obtain ⟨az, haz⟩ := number_ok (c.fdiv 24)
  have f := fmod_in c (show (0 : Int) < 6 by decide)
  obtain ⟨i, hi⟩ := Int.eq_ofNat_of_zero_le f.1
  have hi6 : i < 6 := by omega
  have gt : evT T (callF T Fn (k + 1)) (.cmp .gt (.bin .mod (.var 0) (.cst (.int 6))) (.cst (.int 3))) = evT T (callF T Fn (k + 1)) (.cmp .gt (.bin .mod (.var 0) (.cst (.int 6))) (.cst (.int 3))) := rfl
  have run : ∀ (p : Str × Str) (v : D), p ∈ sixT → idxD (.lst (six.map D.str)) (.int (i : Nat)) [] = some (.str p.1) → thirdOf (.str p.1) = some p.2 → p.1 ∈ six → toKey (.str p.2) = some (.inr p.2) → putK (putK (putK [] (ks "do") (.str p.1)) (ks "at") (.int az)) (ks p.2) v = [(ks "do", .str p.1), (ks "at", .int az), (ks p.2, v)] → ((3 < i ∧ v = .tup rs) ∨ (i ≤ 3 ∧ v = .int z)) → callF T Fn (k + 2) 8 [.int c, .int o, .ref h] m = .ok (.ref (m.length + 1)) (m ++ [.lst (six.map D.str)] ++ [.dK [(ks "do", .str p.1), (ks "at", .int az), (ks p.2, v)]]) := fun p v hp e1 e2 e3 e4 e5 e6 => by
    obtain ⟨t, ht, ct⟩ := third_ok (k := k) e3 (m ++ [O.lst (six.map D.str)] ++ [.dK []])
    rw [e2] at ht
    cases ht
    have el : evE T (callF T Fn (k + 1)) (.lst (.cons (.cst (.str "set")) (.cons (.cst (.str "add")) (.cons (.cst (.str "sub")) (.cons (.cst (.str "mul")) (.cons (.cst (.str "when")) (.cons (.cst (.str "loop")) .nil))))))) [some (.int c), some (.int o), some (.ref h), none, none] m = .ok (.ref m.length) (m ++ [.lst (six.map D.str)]) := gLst rfl rfl
    have ix : idxD (.ref m.length) (.int (c.fmod 6)) (m ++ [.lst (six.map D.str)]) = some (.str p.1) := by
      rw [idx_ref mem_new, hi]; exact e1
    have hd : ∀ q4 : D, evE T (callF T Fn (k + 1)) (.ddis (.cons (.cst (.str "do")) (.cons (.var 3) (.cons (.cst (.str "at")) (.cons (.call 5 (.cons (.bin .fdiv (.var 0) (.cst (.int 24))) .nil)) (.cons (.call 7 (.cons (.var 3) .nil)) (.cons (.var 4) .nil))))))) [some (.int c), some (.int o), some (.ref h), some (.str p.1), some q4] (m ++ [.lst (six.map D.str)]) = .ok (.ref (m.length + 1)) (m ++ [.lst (six.map D.str)] ++ [.dK (putK (putK (putK [] (ks "do") (.str p.1)) (ks "at") (.int az)) (ks p.2) q4)]) := fun q4 => by
      have hps : evPs T (callF T Fn (k + 1)) (.cons (.cst (.str "do")) (.cons (.var 3) (.cons (.cst (.str "at")) (.cons (.call 5 (.cons (.bin .fdiv (.var 0) (.cst (.int 24))) .nil)) (.cons (.call 7 (.cons (.var 3) .nil)) (.cons (.var 4) .nil)))))) [some (.int c), some (.int o), some (.ref h), some (.str p.1), some q4] [] (m ++ [O.lst (six.map D.str)] ++ [.dK []]) = .ok (putK (putK (putK [] (ks "do") (.str p.1)) (ks "at") (.int az)) (ks p.2) q4) (m ++ [O.lst (six.map D.str)] ++ [.dK []]) := by
        refine (ps_one (x := .str "do") (y := .str p.1) (q := ks "do") rfl rfl rfl).trans ?_
        refine (ps_one (x := .str "at") (y := .int az) (q := ks "at") rfl (e_call (es_1 (e_bin rfl rfl (b_div (by decide) (big9000 (by decide))))) (haz _ _)) rfl).trans ?_
        exact (ps_one (x := .str p.2) (y := q4) (q := ks p.2) (e_call (es_1 rfl) ct) rfl rfl).trans rfl
      have := dis_of hps
      rw [List.length_append] at this
      exact this
    refine dP (fd := f8) (e1 := [some (.int c), some (.int o), some (.ref h), some (.str p.1), some v]) rfl rfl rfl ?_
    show evSs T (callF T Fn (k + 1)) b8 [some (.int c), some (.int o), some (.ref h), none, none] m = _
    unfold b8
    refine gAsg (d := .str p.1) (m1 := m ++ [.lst (six.map D.str)]) (e_idx el (e_bin rfl rfl (b_mod (by decide))) ix) (by simp) ?_
    refine gAsg (d := .int z) (m1 := m ++ [.lst (six.map D.str)]) (e_call (es_1 (e_bin rfl rfl (b_div (by decide) (big9000 (by decide))))) (hz _ _)) (by simp) ?_
    have t : evT T (callF T Fn (k + 1)) (.cmp .gt (.bin .mod (.var 0) (.cst (.int 6))) (.cst (.int 3))) [some (.int c), some (.int o), some (.ref h), some (.str p.1), some (.int z)] (m ++ [.lst (six.map D.str)]) = .ok (decide ((3 : Int) < c.fmod 6)) (m ++ [.lst (six.map D.str)]) := tt_cmp (e_bin rfl rfl (b_mod (by decide))) rfl rfl
    have hlt : h < m.length := (List.getElem?_eq_some_iff.mp hh).1
    rcases e6 with ⟨h3, rfl⟩ | ⟨h3, rfl⟩
    · rw [hi, decide_eq_true (by omega)] at t
      refine gIfT t ?_
      refine gAsg (d := .tup rs) (m1 := m ++ [.lst (six.map D.str)]) (e_blt (es_1 rfl) (tup_ref (by rw [List.getElem?_append_left hlt]; exact hh))) (by simp) ?_
      rw [← e5]
      exact gRet (hd _)
    · rw [hi, decide_eq_false (by omega)] at t
      refine gIfF t ?_
      rw [← e5]
      exact gRet (hd _)
  have ne1 : ("n" : Str) ≠ "body" := by decide
  have ne2 : ("from" : Str) ≠ "body" := by decide
  match i, hi6, hi, run with
  | 0, _, hi, run => exact ⟨("set", "n"), az, .int z, by simp [sixT], run _ _ (by simp [sixT]) rfl rfl (by simp [six]) rfl rfl (.inr ⟨by decide, rfl⟩), .inr ⟨ne1, ⟨z, rfl⟩, by omega⟩⟩
  | 1, _, hi, run => exact ⟨("add", "from"), az, .int z, by simp [sixT], run _ _ (by simp [sixT]) rfl rfl (by simp [six]) rfl rfl (.inr ⟨by decide, rfl⟩), .inr ⟨ne2, ⟨z, rfl⟩, by omega⟩⟩
  | 2, _, hi, run => exact ⟨("sub", "from"), az, .int z, by simp [sixT], run _ _ (by simp [sixT]) rfl rfl (by simp [six]) rfl rfl (.inr ⟨by decide, rfl⟩), .inr ⟨ne2, ⟨z, rfl⟩, by omega⟩⟩
  | 3, _, hi, run => exact ⟨("mul", "from"), az, .int z, by simp [sixT], run _ _ (by simp [sixT]) rfl rfl (by simp [six]) rfl rfl (.inr ⟨by decide, rfl⟩), .inr ⟨ne2, ⟨z, rfl⟩, by omega⟩⟩
  | 4, _, hi, run => exact ⟨("when", "body"), az, .tup rs, by simp [sixT], run _ _ (by simp [sixT]) rfl rfl (by simp [six]) rfl rfl (.inl ⟨by decide, rfl⟩), .inl ⟨rfl, rfl, by omega⟩⟩
  | 5, _, hi, run => exact ⟨("loop", "body"), az, .tup rs, by simp [sixT], run _ _ (by simp [sixT]) rfl rfl (by simp [six]) rfl rfl (.inl ⟨by decide, rfl⟩), .inl ⟨rfl, rfl, by omega⟩⟩
  | n + 6, h, _, _ => omega
end
/-! k81: commands spoilt -/
theorem cmdB_len {sb : Bool} {kvs : List (Key × D)} (h : kvs.length ≠ 3) : cmdB sb kvs = false := by unfold cmdB; rw [if_neg h]
theorem cmdB_do {sb : Bool} {kvs : List (Key × D)} (h : lookK kvs (.inr "do") = none) : cmdB sb kvs = false := by
  unfold cmdB
  split
  · rw [h]
  · rfl
theorem cmdB_at {sb : Bool} {kvs : List (Key × D)} (h : lookK kvs (.inr "at") = none) : cmdB sb kvs = false := by
  unfold cmdB
  split
  · rw [h]
    cases lookK kvs (.inr "do") <;> rfl
  · rfl
theorem cmdB_third {sb : Bool} {kvs : List (Key × D)} {w : D} (h : lookK kvs (.inr "do") = some w) (ht : thirdOf w = none) : cmdB sb kvs = false := by
  unfold cmdB
  split
  · rw [h]
    cases lookK kvs (.inr "at") with
    | none => rfl
    | some a => dsimp only; rw [ht]
  · rfl
theorem cmdB_no {sb : Bool} {kvs : List (Key × D)} {w : D} {t : Str} (h : lookK kvs (.inr "do") = some w) (ht : thirdOf w = some t) (hn : lookK kvs (.inr t) = none) : cmdB sb kvs = false := by
  unfold cmdB
  split
  · rw [h]
    cases lookK kvs (.inr "at") with
    | none => rfl
    | some a => dsimp only; rw [ht]; dsimp only; rw [hn]
  · rfl
theorem cmdB_isI {sb : Bool} {kvs : List (Key × D)} {a : D} (h : lookK kvs (.inr "at") = some a) (hi : isI a = false) : cmdB sb kvs = false := by
  unfold cmdB
  split
  · rw [h]
    cases lookK kvs (.inr "do") with
    | none => rfl
    | some w =>
      dsimp only
      cases thirdOf w with
      | none => rfl
      | some t =>
        dsimp only
        cases lookK kvs (.inr t) with
        | none => rfl
        | some v => dsimp only; rw [hi]; rfl
  · rfl
theorem cmdB_val {sb : Bool} {kvs : List (Key × D)} {w v : D} {t : Str} (h : lookK kvs (.inr "do") = some w) (ht : thirdOf w = some t) (hv : lookK kvs (.inr t) = some v) (hb : (if t = "body" then sb else isI v) = false) : cmdB sb kvs = false := by
  unfold cmdB
  split
  · rw [h]
    cases lookK kvs (.inr "at") with
    | none => rfl
    | some a => dsimp only; rw [ht]; dsimp only; rw [hv]; dsimp only; rw [hb, Bool.and_false]
  · rfl
def five : List Str := ["do", "at", "n", "from", "body"]
theorem let13 {j : Nat} (h : j < 13) (m : Mem) : ∃ c : Str, idxD (.str "abcdefghijklm") (.int (j : Nat)) m = some (.str c) ∧ c ∉ five := by
  match j, h with
  | 0, _ => exact ⟨"a", rfl, by decide⟩
  | 1, _ => exact ⟨"b", rfl, by decide⟩
  | 2, _ => exact ⟨"c", rfl, by decide⟩
  | 3, _ => exact ⟨"d", rfl, by decide⟩
  | 4, _ => exact ⟨"e", rfl, by decide⟩
  | 5, _ => exact ⟨"f", rfl, by decide⟩
  | 6, _ => exact ⟨"g", rfl, by decide⟩
  | 7, _ => exact ⟨"h", rfl, by decide⟩
  | 8, _ => exact ⟨"i", rfl, by decide⟩
  | 9, _ => exact ⟨"j", rfl, by decide⟩
  | 10, _ => exact ⟨"k", rfl, by decide⟩
  | 11, _ => exact ⟨"l", rfl, by decide⟩
  | 12, _ => exact ⟨"m", rfl, by decide⟩
  | n + 13, h => omega
theorem let11 {j : Nat} (h : j < 11) (m : Mem) : ∃ c : Str, idxD (.str "abcdefghijk") (.int (j : Nat)) m = some (.str c) ∧ ∀ w ∈ five, w ++ c ∉ five ∧ w.length + c.length ≤ 100 := by
  match j, h with
  | 0, _ => exact ⟨"a", rfl, by decide +kernel⟩
  | 1, _ => exact ⟨"b", rfl, by decide +kernel⟩
  | 2, _ => exact ⟨"c", rfl, by decide +kernel⟩
  | 3, _ => exact ⟨"d", rfl, by decide +kernel⟩
  | 4, _ => exact ⟨"e", rfl, by decide +kernel⟩
  | 5, _ => exact ⟨"f", rfl, by decide +kernel⟩
  | 6, _ => exact ⟨"g", rfl, by decide +kernel⟩
  | 7, _ => exact ⟨"h", rfl, by decide +kernel⟩
  | 8, _ => exact ⟨"i", rfl, by decide +kernel⟩
  | 9, _ => exact ⟨"j", rfl, by decide +kernel⟩
  | 10, _ => exact ⟨"k", rfl, by decide +kernel⟩
  | n + 11, h => omega
def twelve : List Str := ["s", "e", "t", "a", "d", "u", "w", "h", "n", "l", "o", "p"]
theorem let12 {j : Nat} (h : j < 12) (m : Mem) : ∃ c : Str, c ∈ twelve ∧ idxD (.str "setaduwhnlop") (.int (j : Nat)) m = some (.str c) := by
  match j, h with
  | 0, _ => exact ⟨"s", by simp [twelve], rfl⟩
  | 1, _ => exact ⟨"e", by simp [twelve], rfl⟩
  | 2, _ => exact ⟨"t", by simp [twelve], rfl⟩
  | 3, _ => exact ⟨"a", by simp [twelve], rfl⟩
  | 4, _ => exact ⟨"d", by simp [twelve], rfl⟩
  | 5, _ => exact ⟨"u", by simp [twelve], rfl⟩
  | 6, _ => exact ⟨"w", by simp [twelve], rfl⟩
  | 7, _ => exact ⟨"h", by simp [twelve], rfl⟩
  | 8, _ => exact ⟨"n", by simp [twelve], rfl⟩
  | 9, _ => exact ⟨"l", by simp [twelve], rfl⟩
  | 10, _ => exact ⟨"o", by simp [twelve], rfl⟩
  | 11, _ => exact ⟨"p", by simp [twelve], rfl⟩
  | n + 12, h => omega
def cutS (w : Str) (p : Nat) : Str := ⟨(w.cps.toList.take p).toArray⟩
def endS (w : Str) (p : Nat) : Str := ⟨(w.cps.toList.drop p).toArray⟩
theorem ins_none : ∀ w ∈ six, ∀ p ∈ List.range 5, p ≤ w.length → ∀ c ∈ twelve, thirdOf (.str (cutS w p ++ c ++ endS w p)) = none ∧ (cutS w p).length + c.length ≤ 100 ∧ (cutS w p ++ c).length + (endS w p).length ≤ 100 := by decide +kernel
theorem six_len : ∀ w ∈ six, w.length ≤ 4 := by decide +kernel
abbrev l0 (w t : Str) (az : Int) (v x : D) : List En := [("do", .str w, .str w), ("at", .int az, .int az), (t, v, x)]
theorem t_five : ∀ p ∈ sixT, p.2 ∈ five ∧ p.2 ≠ "do" ∧ p.2 ≠ "at" ∧ p.1 ∈ six ∧ thirdOf (.str p.1) = some p.2 := by decide +kernel
abbrev spB : SSs := (.cons (.ite (.cmp .eq (.var 4) (.cst (.int 0))) (.cons (.ret (.call 9 (.cons (.var 0) (.cons (.idx (.lst (.cons (.cst (.str "do")) (.cons (.cst (.str "at")) (.cons (.var 3) .nil)))) (.bin .mod (.bin .fdiv (.var 1) (.cst (.int 10))) (.cst (.int 3)))) .nil)))) .nil) .nil) (.cons (.ite (.cmp .eq (.var 4) (.cst (.int 1))) (.cons (.asgI (.var 0) (.idx (.cst (.str "abcdefghijklm")) (.bin .mod (.bin .fdiv (.var 1) (.cst (.int 10))) (.cst (.int 13)))) (.cst (.int 1))) (.cons (.ret (.var 0)) .nil)) .nil) (.cons (.ite (.cmp .lt (.var 4) (.cst (.int 4))) (.cons (.asg (.nm 6) (.idx (.lst (.cons (.cst (.str "do")) (.cons (.cst (.str "at")) (.cons (.var 3) .nil)))) (.bin .mod (.bin .fdiv (.var 1) (.cst (.int 10))) (.cst (.int 3))))) (.cons (.asg (.nm 7) (.call 9 (.cons (.var 0) (.cons (.var 6) .nil)))) (.cons (.asgI (.var 7) (.bin .add (.var 6) (.idx (.cst (.str "abcdefghijk")) (.bin .mod (.bin .fdiv (.var 1) (.cst (.int 30))) (.cst (.int 11))))) (.idx (.var 0) (.var 6))) (.cons (.ret (.var 7)) .nil)))) .nil) (.cons (.ite (.cmp .lt (.var 4) (.cst (.int 6))) (.cons (.asg (.nm 8) (.bin .mod (.bin .fdiv (.var 1) (.cst (.int 10))) (.bin .add (.blt .len (.cons (.var 2) .nil)) (.cst (.int 1))))) (.cons (.asgI (.var 0) (.cst (.str "do")) (.bin .add (.bin .add (.slc (.var 2) .no (.yes (.var 8))) (.idx (.cst (.str "setaduwhnlop")) (.bin .mod (.bin .fdiv (.var 1) (.cst (.int 50))) (.cst (.int 12))))) (.slc (.var 2) (.yes (.var 8)) .no))) (.cons (.ret (.var 0)) .nil))) .nil) (.cons (.ite (.cmp .eq (.var 4) (.cst (.int 6))) (.cons (.asgI (.var 0) (.cst (.str "do")) (.idx (.lst (.cons (.cst (.int 0)) (.cons (.tup .nil) (.cons (.dnew false) (.cons (.cst (.str "body")) (.cons (.cst (.str "div")) (.cons (.cst (.str "at")) .nil))))))) (.bin .mod (.bin .fdiv (.var 1) (.cst (.int 10))) (.cst (.int 6))))) (.cons (.ret (.var 0)) .nil)) .nil) (.cons (.ite (.or (.cmp .eq (.var 4) (.cst (.int 7))) (.cmp .ne (.var 3) (.cst (.str "body")))) (.cons (.asgI (.var 0) (.idx (.lst (.cons (.cst (.str "at")) (.cons (.var 3) .nil))) (.blt .int (.cons (.cmp .gt (.var 4) (.cst (.int 7))) .nil))) (.var 5)) (.cons (.ret (.var 0)) .nil)) .nil) (.cons (.asgI (.var 0) (.cst (.str "body")) (.idx (.lst (.cons (.var 5) (.cons (.cst (.int 7)) (.cons (.bin .add (.idx (.var 0) (.cst (.str "body"))) (.tup (.cons (.var 5) .nil))) (.cons (.bin .add (.tup (.cons (.cst (.int 7)) .nil)) (.idx (.var 0) (.cst (.str "body")))) .nil))))) (.bin .add (.bin .mul (.bin .mod (.var 4) (.cst (.int 2))) (.cst (.int 2))) (.bin .mod (.bin .fdiv (.var 1) (.cst (.int 80))) (.cst (.int 2)))))) (.cons (.ite (.cmp .eq (.idx (.var 0) (.cst (.str "body"))) (.tup .nil)) (.cons (.asgI (.var 0) (.cst (.str "body")) (.dnew false)) .nil) .nil) (.cons (.ret (.var 0)) .nil)))))))))
abbrev spE (a : Nat) (c : Int) (w t : Str) (y : Int) (o : D) (q6 q7 q8 : Option D) : Env := [some (.ref a), some (.int c), some (.str w), some (.str t), some (.int y), some o, q6, q7, q8]
theorem odd_isI : ∀ x ∈ oddL, isI x = false := odd_all rfl rfl rfl rfl rfl rfl rfl rfl
theorem nd0 {w t : Str} {az : Int} {v x : D} (h1 : t ≠ "do") (h2 : t ≠ "at") : ((l0 w t az v x).map (·.1)).Nodup := by
  show (["do", "at", t] : List Str).Nodup
  simp [Ne.symm h1, Ne.symm h2]
  decide
theorem lk0 {w t : Str} {az : Int} {v x : D} (h1 : t ≠ "do") (h2 : t ≠ "at") : lookK (frK (l0 w t az v x)) (.inr "do") = some (.str w) ∧ lookK (frK (l0 w t az v x)) (.inr "at") = some (.int az) ∧ lookK (frK (l0 w t az v x)) (.inr t) = some x :=
  ⟨lk_fr (nd0 h1 h2) (p := ("do", .str w, .str w)) (by simp), lk_fr (nd0 h1 h2) (p := ("at", .int az, .int az)) (by simp), lk_fr (nd0 h1 h2) (p := (t, v, x)) (by simp)⟩
section
variable {k : Nat} {m : Mem} {a N n : Nat} {w t : Str} {az : Int} {v x : D}
/-- the third's value before it is spoilt -/
structure Th3 (m : Mem) (a N n : Nat) (t : Str) (v x : D) : Prop where
  fz : Fz m a N v x
  vl : Vl (2 * n + 2) x
  sc : ∃ sb : Bool, t = "body" → ∀ (k : Nat) (m : Mem), callF T Fn (k + 2 * n + 1) 3 [x] m = .ok (.bl sb) m
/-- one value of a command that is put anew -/
theorem out_set {M : Mem} {l : List En} {b : Bool} (hk : ∀ i, i < a → M[i]? = m[i]?) (ha : a < M.length) (hl : m.length ≤ M.length) (nd : (l.map (·.1)).Nodup) (ll : l.length ≤ 10) (hf : ∀ p ∈ l, Fz M a N p.2.1 p.2.2) (ok : Mk n b l) : Out m (M.set a (.dK (memK l))) a a N n b l := by
  have hs : ∀ i, i < a → (M.set a (.dK (memK l)))[i]? = M[i]? := fun i hi => by rw [List.getElem?_set_ne (by omega)]
  exact ⟨fun i hi => (hs i hi).trans (hk i hi), Nat.le_refl a, by rw [List.getElem?_set_self ha], nd, ll, fun p hp => (hf p hp).stay hs (by rw [List.length_set]; omega), ok, by rw [List.length_set]; exact hl⟩
theorem put0_do (hp : (w, t) ∈ sixT) (v' x' : D) : putK (memK (l0 w t az v x)) (ks "do") v' = memK [("do", v', x'), ("at", .int az, .int az), (t, v, x)] := by
  simp only [sixT, List.mem_cons, List.not_mem_nil, or_false, Prod.mk.injEq] at hp
  rcases hp with ⟨rfl, rfl⟩ | ⟨rfl, rfl⟩ | ⟨rfl, rfl⟩ | ⟨rfl, rfl⟩ | ⟨rfl, rfl⟩ | ⟨rfl, rfl⟩ <;> rfl
theorem put0_at (hp : (w, t) ∈ sixT) (v' x' : D) : putK (memK (l0 w t az v x)) (ks "at") v' = memK [("do", .str w, .str w), ("at", v', x'), (t, v, x)] := by
  simp only [sixT, List.mem_cons, List.not_mem_nil, or_false, Prod.mk.injEq] at hp
  rcases hp with ⟨rfl, rfl⟩ | ⟨rfl, rfl⟩ | ⟨rfl, rfl⟩ | ⟨rfl, rfl⟩ | ⟨rfl, rfl⟩ | ⟨rfl, rfl⟩ <;> rfl
theorem put0_t (hp : (w, t) ∈ sixT) (v' x' : D) : putK (memK (l0 w t az v x)) (ks t) v' = memK (l0 w t az v' x') := by
  simp only [sixT, List.mem_cons, List.not_mem_nil, or_false, Prod.mk.injEq] at hp
  rcases hp with ⟨rfl, rfl⟩ | ⟨rfl, rfl⟩ | ⟨rfl, rfl⟩ | ⟨rfl, rfl⟩ | ⟨rfl, rfl⟩ | ⟨rfl, rfl⟩ <;> rfl
theorem sel3 (c : Int) : ∃ wd : Str, (wd = "do" ∨ wd = "at" ∨ wd = t) ∧ idxD (.ref m.length) (.int ((c.fdiv 10).fmod 3)) (m ++ [.lst [.str "do", .str "at", .str t]]) = some (.str wd) := by
  have f := fmod_in (c.fdiv 10) (show (0 : Int) < 3 by decide)
  obtain ⟨i, hi⟩ := Int.eq_ofNat_of_zero_le f.1
  rw [idx_ref mem_new, hi]
  have : i < 3 := by omega
  match i, this with
  | 0, _ => exact ⟨"do", .inl rfl, rfl⟩
  | 1, _ => exact ⟨"at", .inr (.inl rfl), rfl⟩
  | 2, _ => exact ⟨t, .inr (.inr rfl), rfl⟩
  | n + 3, h => omega
theorem fz0 (h : Th3 m a N n t v x) : ∀ p ∈ l0 w t az v x, Fz m a N p.2.1 p.2.2 := fun p hp => by
  simp only [List.mem_cons, List.not_mem_nil, or_false] at hp
  rcases hp with rfl | rfl | rfl
  · exact Fz.of_pure rfl
  · exact Fz.of_pure rfl
  · exact h.fz
theorem vl0 (h : Th3 m a N n t v x) : ∀ p ∈ l0 w t az v x, Vl (2 * n + 2) p.2.2 := fun p hp => by
  simp only [List.mem_cons, List.not_mem_nil, or_false] at hp
  rcases hp with rfl | rfl | rfl
  · exact Vl.str _ _
  · exact Vl.int _ _
  · exact h.vl
theorem cmdB_cut {sb : Bool} {l : List En} {wd : Str} (hwd : wd = "do" ∨ wd = "at" ∨ wd = t) (hno : wd ∉ l.map (·.1)) (hdo : ∀ p ∈ l, p.1 = "do" → thirdOf p.2.2 = some t) : cmdB sb (frK l) = false := by
  rcases hwd with rfl | rfl | rfl
  · exact cmdB_do (fr_none hno)
  · exact cmdB_at (fr_none hno)
  · cases h : lookK (frK l) (.inr "do") with
    | none => exact cmdB_do h
    | some y =>
      obtain ⟨p, hp, e, rfl⟩ := fr_lk h
      exact cmdB_no h (hdo p hp (Sum.inr.inj e).symm) (fr_none hno)
end
/-! k81: commands spoilt, each way -/
section
variable {k : Nat} {m : Mem} {a N n : Nat} {w t : Str} {az : Int} {v x : D} {c : Int} {o : D}
theorem len_str {z : Str} (h : z.length ≤ 1000) (m : Mem) : bltD .len [.str z] m = .ok (.int (z.length : Nat)) m := by
  show Res.opt ((lenD (.str z) m).map fun n => D.int (n : Nat)) m = _
  unfold lenD
  dsimp only [sh_str]
  rw [if_pos (fitsLe (by omega))]
  rfl
theorem b_adds {i j : Str} {m : Mem} (h : i.length + j.length ≤ 1000) : binD .add (.str i) (.str j) m = .ok (.str (i ++ j)) m := if_pos (fitsLe (by omega))
theorem old_fz {M : Mem} (h : Th3 m a N n t v x) (hs : ∀ i, i < a → M[i]? = m[i]?) (hl : a ≤ M.length) : ∀ p ∈ l0 w t az v x, Fz M M.length N p.2.1 p.2.2 := fun p hp => (fz0 h p hp).stay hs hl
theorem sp0 (hp : (w, t) ∈ sixT) (hm : m[a]? = some (.dK (memK (l0 w t az v x)))) (h3 : Th3 m a N n t v x) : ∃ (r : Nat) (m' : Mem) (l' : List En) (e1 : Env), evSs T (callF T Fn (k + 1)) spB (spE a c w t 0 o none none none) m = .ok (.rt (.ref r)) e1 m' ∧ Out m m' a r N n false l' := by
  obtain ⟨hf, td, ta, hw, tw⟩ := t_five _ hp
  have ha : a < m.length := (List.getElem?_eq_some_iff.mp hm).1
  obtain ⟨wd, hwd, ix⟩ := sel3 (m := m) (t := t) c
  have hm1 : (m ++ [O.lst [.str "do", .str "at", .str t]])[a]? = some (.dK (memK (l0 w t az v x))) := by rw [List.getElem?_append_left ha]; exact hm
  have nd := nd0 (w := w) (az := az) (v := v) (x := x) td ta
  have keep : ∀ i, i < m.length → (m ++ [O.lst [.str "do", .str "at", .str t]] ++ [.dK (memK ((l0 w t az v x).filter fun p => decide (p.1 ≠ wd)))])[i]? = m[i]? := fun i hi => by
    rw [List.getElem?_append_left (by simp <;> omega), List.getElem?_append_left hi]
  obtain ⟨sb, hsb⟩ := h3.sc
  refine ⟨_, _, (l0 w t az v x).filter fun p => decide (p.1 ≠ wd), _, gIfT (tt_cmp rfl rfl rfl) (gRet (e_call (es_2 rfl (e_idx (gLst rfl rfl) (e_bin (e_bin rfl rfl (b_div (by decide) (big9000 (by decide)))) rfl (b_mod (by decide))) ix)) (without_ok hm1 nd (by simp) wd))), fun i hi => keep i (by omega), by simp <;> omega, mem_new, List.Pairwise.sublist (List.Sublist.map _ List.filter_sublist) nd, Nat.le_trans (List.length_filter_le _ _) (by simp), fun p hp => ?_, ⟨fun p hp => vl0 h3 p (List.mem_filter.mp hp).1, sb, fun p hp e => ?_, ?_⟩, by simp <;> omega⟩
  · exact old_fz (w := w) (az := az) h3 (fun i hi => keep i (by omega)) (by simp <;> omega) p (List.mem_filter.mp hp).1
  · have hp := (List.mem_filter.mp hp).1
    simp only [List.mem_cons, List.not_mem_nil, or_false] at hp
    rcases hp with rfl | rfl | rfl
    · exact absurd e (by show ¬ (("do" : Str) = "body"); decide)
    · exact absurd e (by show ¬ (("at" : Str) = "body"); decide)
    · exact hsb e
  · refine cmdB_cut (t := t) hwd (fun z => ?_) fun p hp e => ?_
    · obtain ⟨q, hq, e⟩ := List.mem_map.mp z
      have := (List.mem_filter.mp hq).2
      rw [e] at this
      simp at this
    · have hp := (List.mem_filter.mp hp).1
      simp only [List.mem_cons, List.not_mem_nil, or_false] at hp
      rcases hp with rfl | rfl | rfl
      · exact tw
      · exact absurd e (by show ¬ (("at" : Str) = "do"); decide)
      · exact absurd e td
theorem sp1 (hp : (w, t) ∈ sixT) (hm : m[a]? = some (.dK (memK (l0 w t az v x)))) (h3 : Th3 m a N n t v x) (hN : 1 ≤ N) : ∃ (r : Nat) (m' : Mem) (l' : List En) (e1 : Env), evSs T (callF T Fn (k + 1)) spB (spE a c w t 1 o none none none) m = .ok (.rt (.ref r)) e1 m' ∧ Out m m' a r N n false l' := by
  obtain ⟨hf, td, ta, hw, tw⟩ := t_five _ hp
  have ha : a < m.length := (List.getElem?_eq_some_iff.mp hm).1
  have f := fmod_in (c.fdiv 10) (show (0 : Int) < 13 by decide)
  obtain ⟨j, hj⟩ := Int.eq_ofNat_of_zero_le f.1
  obtain ⟨c1, hc1, n5⟩ := let13 (j := j) (by omega) m
  have nin : c1 ∉ (l0 w t az v x).map (·.1) := fun z => by
    have z : c1 ∈ (["do", "at", t] : List Str) := z
    simp only [List.mem_cons, List.not_mem_nil, or_false] at z
    rcases z with rfl | rfl | rfl
    · exact n5 (by simp [five])
    · exact n5 (by simp [five])
    · exact n5 hf
  have sto : stoD (.ref a) (.str c1) (.int 1) m = some (m.set a (.dK (memK (l0 w t az v x ++ [(c1, .int 1, .int 1)])))) := by rw [sto_own hm (by simp [memK]), put_me nin]
  have nd := nd0 (w := w) (az := az) (v := v) (x := x) td ta
  obtain ⟨sb, hsb⟩ := h3.sc
  have hs : ∀ i, i < a → (m.set a (.dK (memK (l0 w t az v x ++ [(c1, .int 1, .int 1)]))))[i]? = m[i]? := fun i hi => by rw [List.getElem?_set_ne (by omega)]
  refine ⟨a, _, l0 w t az v x ++ [(c1, .int 1, .int 1)], _, gIfF (tt_cmp rfl rfl rfl) (gIfT (tt_cmp rfl rfl rfl) (gAsgI rfl rfl (e_idx rfl (e_bin (e_bin rfl rfl (b_div (by decide) (big9000 (by decide)))) rfl (b_mod (by decide))) (by rw [hj]; exact hc1)) sto (gRet rfl))), hs, Nat.le_refl a, by rw [List.getElem?_set_self ha], ?_, by simp, fun p hp => ?_, ⟨fun p hp => ?_, sb, fun p hp e => ?_, cmdB_len (by simp [frK])⟩, by simp⟩
  · rw [List.map_append]
    exact List.nodup_append.mpr ⟨nd, by simp, fun u hu y hy e => by rw [List.mem_singleton.mp hy] at e; subst e; exact nin hu⟩
  · rcases List.mem_append.mp hp with hp | hp
    · exact old_fz (w := w) (az := az) h3 hs (by simp <;> omega) p hp
    · rw [List.mem_singleton.mp hp]; exact Fz.of_pure rfl
  · rcases List.mem_append.mp hp with hp | hp
    · exact vl0 h3 p hp
    · rw [List.mem_singleton.mp hp]; exact Vl.int _ _
  · rcases List.mem_append.mp hp with hp | hp
    · simp only [List.mem_cons, List.not_mem_nil, or_false] at hp
      rcases hp with rfl | rfl | rfl
      · exact absurd e (by show ¬ (("do" : Str) = "body"); decide)
      · exact absurd e (by show ¬ (("at" : Str) = "body"); decide)
      · exact hsb e
    · rw [List.mem_singleton.mp hp] at e
      exact absurd (show c1 ∈ five by rw [show c1 = "body" from e]; simp [five]) n5
theorem sp2 {y : Int} (hy : y = 2 ∨ y = 3) (hp : (w, t) ∈ sixT) (hm : m[a]? = some (.dK (memK (l0 w t az v x)))) (h3 : Th3 m a N n t v x) : ∃ (r : Nat) (m' : Mem) (l' : List En) (e1 : Env), evSs T (callF T Fn (k + 1)) spB (spE a c w t y o none none none) m = .ok (.rt (.ref r)) e1 m' ∧ Out m m' a r N n false l' := by
  obtain ⟨hf, td, ta, hw, tw⟩ := t_five _ hp
  have ha : a < m.length := (List.getElem?_eq_some_iff.mp hm).1
  obtain ⟨wd, hwd, ix⟩ := sel3 (m := m) (t := t) c
  have wf : wd ∈ five := by
    rcases hwd with rfl | rfl | rfl
    · simp [five]
    · simp [five]
    · exact hf
  obtain ⟨L3, hL3⟩ : ∃ L3 : Mem, L3 = m ++ [O.lst [.str "do", .str "at", .str t]] := ⟨_, rfl⟩
  have hm1 : L3[a]? = some (.dK (memK (l0 w t az v x))) := by rw [hL3, List.getElem?_append_left ha]; exact hm
  have la : a < L3.length := (List.getElem?_eq_some_iff.mp hm1).1
  have nd := nd0 (w := w) (az := az) (v := v) (x := x) td ta
  obtain ⟨l1, hl1⟩ : ∃ l1, l1 = (l0 w t az v x).filter fun p => decide (p.1 ≠ wd) := ⟨_, rfl⟩
  obtain ⟨p0, hp0, ep0⟩ : ∃ p ∈ l0 w t az v x, p.1 = wd := by
    rcases hwd with rfl | rfl | rfl
    · exact ⟨("do", .str w, .str w), by simp, rfl⟩
    · exact ⟨("at", .int az, .int az), by simp, rfl⟩
    · exact ⟨(wd, v, x), by simp, rfl⟩
  have f := fmod_in (c.fdiv 30) (show (0 : Int) < 11 by decide)
  obtain ⟨j, hj⟩ := Int.eq_ofNat_of_zero_le f.1
  have wo := without_ok (k := k) hm1 nd (by simp) wd
  rw [← hl1] at wo
  obtain ⟨M2, hM2⟩ : ∃ M2 : Mem, M2 = L3 ++ [O.dK (memK l1)] := ⟨_, rfl⟩
  rw [← hM2] at wo
  obtain ⟨c1, hc1, n5⟩ := let11 (j := j) (by omega) M2
  obtain ⟨n5, lc⟩ := n5 wd wf
  have l1in : ∀ p ∈ l1, p ∈ l0 w t az v x ∧ p.1 ≠ wd := fun p hp => by
    rw [hl1] at hp
    exact ⟨(List.mem_filter.mp hp).1, of_decide_eq_true (List.mem_filter.mp hp).2⟩
  have k0 : ∀ p ∈ l0 w t az v x, p.1 ∈ five := fun p hp => by
    simp only [List.mem_cons, List.not_mem_nil, or_false] at hp
    rcases hp with rfl | rfl | rfl
    · simp [five]
    · simp [five]
    · exact hf
  have nin : wd ++ c1 ∉ l1.map (·.1) := fun z => by
    obtain ⟨q, hq, e⟩ := List.mem_map.mp z
    exact n5 (e ▸ k0 q (l1in q hq).1)
  have m2a : M2[a]? = some (.dK (memK (l0 w t az v x))) := by rw [hM2, List.getElem?_append_left la]; exact hm1
  have ix2 : idxD (.ref a) (.str wd) M2 = some p0.2.1 := by
    unfold idxD
    rw [sh_ref, m2a]
    show lookK (memK (l0 w t az v x)) (.inr wd) = _
    rw [← ep0]
    exact lk_me nd hp0
  have m2r : M2[L3.length]? = some (.dK (memK l1)) := by rw [hM2]; exact mem_new
  have ll1 : l1.length ≤ 3 := by rw [hl1]; exact Nat.le_trans (List.length_filter_le _ _) (by simp)
  have sto : stoD (.ref L3.length) (.str (wd ++ c1)) p0.2.1 M2 = some (L3 ++ [O.dK (memK (l1 ++ [(wd ++ c1, p0.2.1, p0.2.2)]))]) := by
    rw [sto_own m2r (by simp [memK] <;> omega), put_me nin, hM2, set_last]
  have hs : ∀ i, i < m.length → (L3 ++ [O.dK (memK (l1 ++ [(wd ++ c1, p0.2.1, p0.2.2)]))])[i]? = m[i]? := fun i hi => by
    rw [List.getElem?_append_left (by rw [hL3]; simp <;> omega), hL3, List.getElem?_append_left hi]
  have q0 : cmpD .eq (.int y) (.int 0) m = some false := by rcases hy with rfl | rfl <;> rfl
  have q1 : cmpD .eq (.int y) (.int 1) m = some false := by rcases hy with rfl | rfl <;> rfl
  have q4 : cmpD .lt (.int y) (.int 4) m = some true := by rcases hy with rfl | rfl <;> rfl
  obtain ⟨sb, hsb⟩ := h3.sc
  have el : evE T (callF T Fn (k + 1)) (.idx (.lst (.cons (.cst (.str "do")) (.cons (.cst (.str "at")) (.cons (.var 3) .nil)))) (.bin .mod (.bin .fdiv (.var 1) (.cst (.int 10))) (.cst (.int 3)))) (spE a c w t y o none none none) m = .ok (.str wd) L3 := by
    rw [hL3]
    exact e_idx (gLst rfl rfl) (e_bin (e_bin rfl rfl (b_div (by decide) (big9000 (by decide)))) rfl (b_mod (by decide))) ix
  refine ⟨L3.length, _, l1 ++ [(wd ++ c1, p0.2.1, p0.2.2)], spE a c w t y o (some (.str wd)) (some (.ref L3.length)) none, gIfF (tt_cmp rfl rfl q0) (gIfF (tt_cmp rfl rfl q1) (gIfT (tt_cmp rfl rfl q4) ?_)), fun i hi => hs i (by omega), by omega, mem_new, ?_, by simp <;> omega, fun p hp => ?_, ⟨fun p hp => ?_, sb, fun p hp e => ?_, ?_⟩, by rw [hL3]; simp <;> omega⟩
  · refine gAsg (d := .str wd) (m1 := L3) el (by simp) ?_
    refine gAsg (d := .ref L3.length) (m1 := M2) (e_call (es_2 rfl rfl) wo) (by simp) ?_
    exact gAsgI (m1 := M2) (m2 := M2) (m3 := M2) (e_idx rfl rfl ix2) rfl (e_bin rfl (e_idx rfl (e_bin (e_bin rfl rfl (b_div (by decide) (big9000 (by decide)))) rfl (b_mod (by decide))) (by rw [hj]; exact hc1)) (b_adds (by omega))) sto (gRet rfl)
  · rw [List.map_append]
    exact List.nodup_append.mpr ⟨by rw [hl1]; exact List.Pairwise.sublist (List.Sublist.map _ List.filter_sublist) nd, by simp, fun u hu y hy e => by rw [List.mem_singleton.mp hy] at e; subst e; exact nin hu⟩
  · rcases List.mem_append.mp hp with hp | hp
    · exact old_fz (w := w) (az := az) h3 (fun i hi => hs i (by omega)) (by simp <;> omega) p (l1in p hp).1
    · rw [List.mem_singleton.mp hp]; exact old_fz (w := w) (az := az) h3 (fun i hi => hs i (by omega)) (by simp <;> omega) p0 hp0
  · rcases List.mem_append.mp hp with hp | hp
    · exact vl0 h3 p (l1in p hp).1
    · rw [List.mem_singleton.mp hp]; exact vl0 h3 p0 hp0
  · rcases List.mem_append.mp hp with hp | hp
    · have hp := (l1in p hp).1
      simp only [List.mem_cons, List.not_mem_nil, or_false] at hp
      rcases hp with rfl | rfl | rfl
      · exact absurd e (by show ¬ (("do" : Str) = "body"); decide)
      · exact absurd e (by show ¬ (("at" : Str) = "body"); decide)
      · exact hsb e
    · rw [List.mem_singleton.mp hp] at e
      exact absurd (show wd ++ c1 ∈ five by rw [show wd ++ c1 = "body" from e]; simp [five]) n5
  · refine cmdB_cut (t := t) hwd (fun z => ?_) fun p hp e => ?_
    · rw [List.map_append] at z
      rcases List.mem_append.mp z with z | z
      · obtain ⟨q, hq, e⟩ := List.mem_map.mp z
        exact (l1in q hq).2 e
      · have : wd = wd ++ c1 := List.mem_singleton.mp z
        exact n5 (this ▸ wf)
    · rcases List.mem_append.mp hp with hp | hp
      · have hp := (l1in p hp).1
        simp only [List.mem_cons, List.not_mem_nil, or_false] at hp
        rcases hp with rfl | rfl | rfl
        · exact tw
        · exact absurd e (by show ¬ (("at" : Str) = "do"); decide)
        · exact absurd e td
      · rw [List.mem_singleton.mp hp] at e
        exact absurd (show wd ++ c1 ∈ five by rw [show wd ++ c1 = "do" from e]; simp [five]) n5
end
/-! k81: commands spoilt, the other ways -/
section
variable {k : Nat} {m : Mem} {a N n : Nat} {w t : Str} {az : Int} {v x : D} {c : Int} {o : D}
theorem slc_lo {w : Str} (hw : w ∈ six) {p : Nat} (hp : p ≤ w.length) (m : Mem) : slcD (.str w) none (some (p : Nat)) m = .ok (.str (cutS w p)) m := by
  have h4 := six_len w hw
  have hp4 : p < 5 := by omega
  simp only [six, List.mem_cons, List.not_mem_nil, or_false] at hw
  rcases hw with rfl | rfl | rfl | rfl | rfl | rfl <;> (match p, hp4 with
    | 0, _ => rfl
    | 1, _ => rfl
    | 2, _ => rfl
    | 3, _ => rfl
    | 4, _ => rfl
    | n + 5, h => omega)
theorem slc_hi {w : Str} (hw : w ∈ six) {p : Nat} (hp : p ≤ w.length) (m : Mem) : slcD (.str w) (some (p : Nat)) none m = .ok (.str (endS w p)) m := by
  have h4 := six_len w hw
  have hp4 : p < 5 := by omega
  simp only [six, List.mem_cons, List.not_mem_nil, or_false] at hw
  rcases hw with rfl | rfl | rfl | rfl | rfl | rfl <;> (match p, hp4 with
    | 0, _ => rfl
    | 1, _ => rfl
    | 2, _ => rfl
    | 3, _ => rfl
    | 4, _ => rfl
    | n + 5, h => omega)
/-- one value put anew, in a memory that grew -/
theorem out_put {M : Mem} {l : List En} (hk : ∀ i, i < m.length → M[i]? = m[i]?) (ha : a < m.length) (hl : m.length ≤ M.length) (nd : (l.map (·.1)).Nodup) (ll : l.length ≤ 10) (hf : ∀ p ∈ l, Fz (M.set a (.dK (memK l))) M.length N p.2.1 p.2.2) (ok : Mk n false l) : Out m (M.set a (.dK (memK l))) a a N n false l := by
  exact ⟨fun i hi => by rw [List.getElem?_set_ne (by omega)]; exact hk i (by omega), Nat.le_refl a, by rw [List.getElem?_set_self (by omega)], nd, ll, fun p hp => by rw [List.length_set]; exact hf p hp, ok, by rw [List.length_set]; exact hl⟩
theorem st_put {M : Mem} {y : O} (hk : ∀ i, i < m.length → M[i]? = m[i]?) (ha : a < m.length) (hl : m.length ≤ M.length) {d z : D} (h : Fz m a N d z) : Fz (M.set a y) M.length N d z := h.stay (fun i hi => by rw [List.getElem?_set_ne (by omega)]; exact hk i (by omega)) (by omega)
theorem sp4 {y : Int} (hy : y = 4 ∨ y = 5) (hp : (w, t) ∈ sixT) (hm : m[a]? = some (.dK (memK (l0 w t az v x)))) (h3 : Th3 m a N n t v x) : ∃ (r : Nat) (m' : Mem) (l' : List En) (e1 : Env), evSs T (callF T Fn (k + 1)) spB (spE a c w t y o none none none) m = .ok (.rt (.ref r)) e1 m' ∧ Out m m' a r N n false l' := by
  obtain ⟨hf, td, ta, hw, tw⟩ := t_five _ hp
  have hw : w ∈ six := hw
  have tw : thirdOf (.str w) = some t := tw
  have td : t ≠ "do" := td
  have ta : t ≠ "at" := ta
  have ha : a < m.length := (List.getElem?_eq_some_iff.mp hm).1
  have w4 := six_len w hw
  have f := fmod_in (c.fdiv 10) (show (0 : Int) < (w.length : Nat) + 1 by omega)
  obtain ⟨p, hpj⟩ := Int.eq_ofNat_of_zero_le f.1
  have hpw : p ≤ w.length := by omega
  have f2 := fmod_in (c.fdiv 50) (show (0 : Int) < 12 by decide)
  obtain ⟨j, hj⟩ := Int.eq_ofNat_of_zero_le f2.1
  obtain ⟨ch, hch, ix⟩ := let12 (j := j) (by omega) m
  obtain ⟨i1, i2, i3⟩ := ins_none w hw p (List.mem_range.mpr (by omega)) hpw ch hch
  obtain ⟨nw, hnw⟩ : ∃ nw : Str, nw = cutS w p ++ ch ++ endS w p := ⟨_, rfl⟩
  rw [← hnw] at i1
  have sto : stoD (.ref a) (.str "do") (.str nw) m = some (m.set a (.dK (memK [("do", .str nw, .str nw), ("at", .int az, .int az), (t, v, x)]))) := by
    rw [sto_own hm (by simp [memK])]
    rw [show (.inr "do" : Key) = ks "do" from rfl, put0_do hp (.str nw) (.str nw)]
  have q0 : cmpD .eq (.int y) (.int 0) m = some false := by rcases hy with rfl | rfl <;> rfl
  have q1 : cmpD .eq (.int y) (.int 1) m = some false := by rcases hy with rfl | rfl <;> rfl
  have q4 : cmpD .lt (.int y) (.int 4) m = some false := by rcases hy with rfl | rfl <;> rfl
  have q6 : cmpD .lt (.int y) (.int 6) m = some true := by rcases hy with rfl | rfl <;> rfl
  obtain ⟨sb, hsb⟩ := h3.sc
  have nd := nd0 (w := w) (az := az) (v := v) (x := x) td ta
  refine ⟨a, _, [("do", .str nw, .str nw), ("at", .int az, .int az), (t, v, x)], spE a c w t y o none none (some (.int (p : Nat))), gIfF (tt_cmp rfl rfl q0) (gIfF (tt_cmp rfl rfl q1) (gIfF (tt_cmp rfl rfl q4) (gIfT (tt_cmp rfl rfl q6) ?_))), out_put (fun _ _ => rfl) ha (Nat.le_refl _) nd (by simp) (fun p hp => ?_) ⟨fun p hp => ?_, sb, fun p hp e => ?_, ?_⟩⟩
  · refine gAsg (d := .int (p : Nat)) (m1 := m) (e_bin (m1 := m) (m2 := m) (e_bin rfl rfl (b_div (by decide) (big9000 (by decide)))) (e_bin (m1 := m) (m2 := m) (e_blt (es_1 rfl) (len_str (by omega) _)) rfl b_add) (by rw [b_mod (by omega), hpj])) (by simp) ?_
    refine gAsgI (v := .str nw) (m1 := m) (m2 := m) (m3 := m) ?_ rfl rfl sto (gRet rfl)
    rw [hnw]
    exact e_bin (m1 := m) (m2 := m) (e_bin (m1 := m) (m2 := m) (e_slc rfl o_no (o_yes rfl) (slc_lo hw hpw m)) (e_idx rfl (e_bin (e_bin rfl rfl (b_div (by decide) (big9000 (by decide)))) rfl (b_mod (by decide))) (by rw [hj]; exact ix)) (b_adds (by omega))) (e_slc rfl (o_yes rfl) o_no (slc_hi hw hpw m)) (b_adds (by omega))
  · simp only [List.mem_cons, List.not_mem_nil, or_false] at hp
    rcases hp with rfl | rfl | rfl
    · exact Fz.of_pure rfl
    · exact Fz.of_pure rfl
    · exact st_put (fun _ _ => rfl) ha (Nat.le_refl _) h3.fz
  · simp only [List.mem_cons, List.not_mem_nil, or_false] at hp
    rcases hp with rfl | rfl | rfl
    · exact Vl.str _ _
    · exact Vl.int _ _
    · exact h3.vl
  · simp only [List.mem_cons, List.not_mem_nil, or_false] at hp
    rcases hp with rfl | rfl | rfl
    · exact absurd e (by show ¬ (("do" : Str) = "body"); decide)
    · exact absurd e (by show ¬ (("at" : Str) = "body"); decide)
    · exact hsb e
  · exact cmdB_third (lk_fr (l := [("do", .str nw, .str nw), ("at", .int az, .int az), (t, v, x)]) nd (p := ("do", .str nw, .str nw)) (by simp)) i1
def ways6 : List D := [.int 0, .tup [], .dK [], .str "body", .str "div", .str "at"]
theorem sp6 (hp : (w, t) ∈ sixT) (hm : m[a]? = some (.dK (memK (l0 w t az v x)))) (h3 : Th3 m a N n t v x) (hN : 1 ≤ N) : ∃ (r : Nat) (m' : Mem) (l' : List En) (e1 : Env), evSs T (callF T Fn (k + 1)) spB (spE a c w t 6 o none none none) m = .ok (.rt (.ref r)) e1 m' ∧ Out m m' a r N n false l' := by
  obtain ⟨hf, td, ta, hw, tw⟩ := t_five _ hp
  have hw : w ∈ six := hw
  have tw : thirdOf (.str w) = some t := tw
  have td : t ≠ "do" := td
  have ta : t ≠ "at" := ta
  have ha : a < m.length := (List.getElem?_eq_some_iff.mp hm).1
  have f := fmod_in (c.fdiv 10) (show (0 : Int) < 6 by decide)
  obtain ⟨j, hj⟩ := Int.eq_ofNat_of_zero_le f.1
  obtain ⟨M, hM⟩ : ∃ M : Mem, M = m ++ [.dK []] ++ [O.lst [.int 0, .tup [], .ref m.length, .str "body", .str "div", .str "at"]] := ⟨_, rfl⟩
  have ml : M.length = m.length + 2 := by rw [hM]; simp
  have hk : ∀ i, i < m.length → M[i]? = m[i]? := fun i hi => by rw [hM, List.getElem?_append_left (by simp <;> omega), List.getElem?_append_left hi]
  have mn : M[m.length]? = some (.dK []) := by rw [hM, List.getElem?_append_left (by simp)]; exact mem_new
  have mx : M[m.length + 1]? = some (.lst [.int 0, .tup [], .ref m.length, .str "body", .str "div", .str "at"]) := by
    have := mem_new (m := m ++ [O.dK []]) (o := O.lst [.int 0, .tup [], .ref m.length, .str "body", .str "div", .str "at"])
    rw [List.length_append] at this
    rw [hM]; exact this
  have hma : M[a]? = some (.dK (memK (l0 w t az v x))) := (hk a ha).trans hm
  have el : evE T (callF T Fn (k + 1)) (.lst (.cons (.cst (.int 0)) (.cons (.tup .nil) (.cons (.dnew false) (.cons (.cst (.str "body")) (.cons (.cst (.str "div")) (.cons (.cst (.str "at")) .nil))))))) (spE a c w t 6 o none none none) m = .ok (.ref (m.length + 1)) M := by
    have : evE T (callF T Fn (k + 1)) (.lst (.cons (.cst (.int 0)) (.cons (.tup .nil) (.cons (.dnew false) (.cons (.cst (.str "body")) (.cons (.cst (.str "div")) (.cons (.cst (.str "at")) .nil))))))) (spE a c w t 6 o none none none) m = .ok (.ref (m ++ [O.dK []]).length) M := by rw [hM]; rfl
    rw [List.length_append] at this
    exact this
  obtain ⟨d, z, ix, tz, vz, fz⟩ : ∃ (d z : D), idxD (.ref (m.length + 1)) (.int (j : Nat)) M = some d ∧ thirdOf z = none ∧ Vl 2 z ∧ ∀ y : O, Fz (M.set a y) M.length N d z := by
    have : j < 6 := by omega
    rw [idx_ref mx]
    match j, this with
    | 0, _ => exact ⟨.int 0, .int 0, rfl, rfl, Vl.int 2 0, fun _ => Fz.of_pure rfl⟩
    | 1, _ => exact ⟨.tup [], .tup [], rfl, rfl, odd_vl _ (by simp [oddL]), fun _ => Fz.of_pure rfl⟩
    | 2, _ =>
      refine ⟨.ref m.length, .dK [], rfl, rfl, odd_vl _ (by simp [oddL]), fun y => ?_⟩
      cases N with
      | zero => omega
      | succ N => exact .inr (.inr ⟨m.length, [], rfl, by omega, by rw [List.getElem?_set_ne (by omega)]; exact mn, rfl, fun p hp => absurd hp List.not_mem_nil⟩)
    | 3, _ => exact ⟨.str "body", .str "body", rfl, rfl, Vl.str 2 _, fun _ => Fz.of_pure rfl⟩
    | 4, _ => exact ⟨.str "div", .str "div", rfl, rfl, Vl.str 2 _, fun _ => Fz.of_pure rfl⟩
    | 5, _ => exact ⟨.str "at", .str "at", rfl, rfl, Vl.str 2 _, fun _ => Fz.of_pure rfl⟩
    | n + 6, h => omega
  have sto : stoD (.ref a) (.str "do") d M = some (M.set a (.dK (memK [("do", d, z), ("at", .int az, .int az), (t, v, x)]))) := by
    rw [sto_own hma (by simp [memK])]
    rw [show (.inr "do" : Key) = ks "do" from rfl, put0_do hp d z]
  obtain ⟨sb, hsb⟩ := h3.sc
  have nd := nd0 (w := w) (az := az) (v := v) (x := x) td ta
  refine ⟨a, _, [("do", d, z), ("at", .int az, .int az), (t, v, x)], spE a c w t 6 o none none none, gIfF (tt_cmp rfl rfl rfl) (gIfF (tt_cmp rfl rfl rfl) (gIfF (tt_cmp rfl rfl rfl) (gIfF (tt_cmp rfl rfl rfl) (gIfT (tt_cmp rfl rfl rfl) (gAsgI (e_idx el (e_bin (e_bin rfl rfl (b_div (by decide) (big9000 (by decide)))) rfl (b_mod (by decide))) (by rw [hj]; exact ix)) rfl rfl sto (gRet rfl)))))), out_put hk ha (by omega) nd (by simp) (fun p hp => ?_) ⟨fun p hp => ?_, sb, fun p hp e => ?_, ?_⟩⟩
  · simp only [List.mem_cons, List.not_mem_nil, or_false] at hp
    rcases hp with rfl | rfl | rfl
    · exact fz _
    · exact Fz.of_pure rfl
    · exact st_put hk ha (by omega) h3.fz
  · simp only [List.mem_cons, List.not_mem_nil, or_false] at hp
    rcases hp with rfl | rfl | rfl
    · exact vz.le (by omega)
    · exact Vl.int _ _
    · exact h3.vl
  · simp only [List.mem_cons, List.not_mem_nil, or_false] at hp
    rcases hp with rfl | rfl | rfl
    · exact absurd e (by show ¬ (("do" : Str) = "body"); decide)
    · exact absurd e (by show ¬ (("at" : Str) = "body"); decide)
    · exact hsb e
  · exact cmdB_third (lk_fr (l := [("do", d, z), ("at", .int az, .int az), (t, v, x)]) nd (p := ("do", d, z)) (by simp)) tz
end
/-! k81: commands spoilt, the last ways; all of them -/
section
variable {k : Nat} {m : Mem} {a N n : Nat} {w t : Str} {az : Int} {v x : D} {c : Int} {o : D}
theorem odd_pure : ∀ x ∈ oddL, x.pure = true := fun x hx => (odd_vl x hx).sh.pu
theorem sp7 {y : Int} (hy : y = 7 ∨ ((y = 8 ∨ y = 9) ∧ t ≠ "body")) (ho : o ∈ oddL) (hp : (w, t) ∈ sixT) (hm : m[a]? = some (.dK (memK (l0 w t az v x)))) (h3 : Th3 m a N n t v x) : ∃ (r : Nat) (m' : Mem) (l' : List En) (e1 : Env), evSs T (callF T Fn (k + 1)) spB (spE a c w t y o none none none) m = .ok (.rt (.ref r)) e1 m' ∧ Out m m' a r N n false l' := by
  obtain ⟨hf, td, ta, hw, tw⟩ := t_five _ hp
  have hw : w ∈ six := hw
  have tw : thirdOf (.str w) = some t := tw
  have td : t ≠ "do" := td
  have ta : t ≠ "at" := ta
  have ha : a < m.length := (List.getElem?_eq_some_iff.mp hm).1
  obtain ⟨M, hM⟩ : ∃ M : Mem, M = m ++ [O.lst [.str "at", .str t]] := ⟨_, rfl⟩
  have ml : M.length = m.length + 1 := by rw [hM]; simp
  have hk : ∀ i, i < m.length → M[i]? = m[i]? := fun i hi => by rw [hM, List.getElem?_append_left hi]
  have mx : M[m.length]? = some (.lst [.str "at", .str t]) := by rw [hM]; exact mem_new
  have hma : M[a]? = some (.dK (memK (l0 w t az v x))) := (hk a ha).trans hm
  have el : evE T (callF T Fn (k + 1)) (.lst (.cons (.cst (.str "at")) (.cons (.var 3) .nil))) (spE a c w t y o none none none) m = .ok (.ref m.length) M := by rw [hM]; exact gLst rfl rfl
  have nd := nd0 (w := w) (az := az) (v := v) (x := x) td ta
  have q0 : cmpD .eq (.int y) (.int 0) m = some false := by rcases hy with rfl | ⟨rfl | rfl, _⟩ <;> rfl
  have q1 : cmpD .eq (.int y) (.int 1) m = some false := by rcases hy with rfl | ⟨rfl | rfl, _⟩ <;> rfl
  have q4 : cmpD .lt (.int y) (.int 4) m = some false := by rcases hy with rfl | ⟨rfl | rfl, _⟩ <;> rfl
  have q6 : cmpD .lt (.int y) (.int 6) m = some false := by rcases hy with rfl | ⟨rfl | rfl, _⟩ <;> rfl
  have q66 : cmpD .eq (.int y) (.int 6) m = some false := by rcases hy with rfl | ⟨rfl | rfl, _⟩ <;> rfl
  obtain ⟨sb, hsb⟩ := h3.sc
  have ov := odd_vl o ho
  have op := odd_pure o ho
  rcases hy with rfl | ⟨hy, tb⟩
  · have sto : stoD (.ref a) (.str "at") o M = some (M.set a (.dK (memK [("do", .str w, .str w), ("at", o, o), (t, v, x)]))) := by
      rw [sto_own hma (by simp [memK])]
      rw [show (.inr "at" : Key) = ks "at" from rfl, put0_at hp o o]
    refine ⟨a, _, [("do", .str w, .str w), ("at", o, o), (t, v, x)], spE a c w t 7 o none none none, gIfF (tt_cmp rfl rfl q0) (gIfF (tt_cmp rfl rfl q1) (gIfF (tt_cmp rfl rfl q4) (gIfF (tt_cmp rfl rfl q6) (gIfF (tt_cmp rfl rfl q66) (gIfT (tt_orT (tt_cmp rfl rfl rfl)) (gAsgI rfl rfl (e_idx el (e_blt (es_1 (e_cmp rfl rfl rfl)) rfl) (by rw [idx_ref mx]; rfl)) sto (gRet rfl))))))), out_put hk ha (by omega) nd (by simp) (fun p hp => ?_) ⟨fun p hp => ?_, sb, fun p hp e => ?_, ?_⟩⟩
    · simp only [List.mem_cons, List.not_mem_nil, or_false] at hp
      rcases hp with rfl | rfl | rfl
      · exact Fz.of_pure rfl
      · exact Fz.of_pure op
      · exact st_put hk ha (by omega) h3.fz
    · simp only [List.mem_cons, List.not_mem_nil, or_false] at hp
      rcases hp with rfl | rfl | rfl
      · exact Vl.str _ _
      · exact ov.le (by omega)
      · exact h3.vl
    · simp only [List.mem_cons, List.not_mem_nil, or_false] at hp
      rcases hp with rfl | rfl | rfl
      · exact absurd e (by show ¬ (("do" : Str) = "body"); decide)
      · exact absurd e (by show ¬ (("at" : Str) = "body"); decide)
      · exact hsb e
    · exact cmdB_isI (lk_fr (l := [("do", .str w, .str w), ("at", o, o), (t, v, x)]) nd (p := ("at", o, o)) (by simp)) (odd_isI o ho)
  · have q7 : cmpD .eq (.int y) (.int 7) m = some false := by rcases hy with rfl | rfl <;> rfl
    have qt : cmpD .ne (.str t) (.str "body") m = some true := by
      show some (!decide (t = "body")) = _
      rw [decide_eq_false tb]; rfl
    have sto : stoD (.ref a) (.str t) o M = some (M.set a (.dK (memK (l0 w t az o o)))) := by
      rw [sto_own hma (by simp [memK])]
      rw [show (.inr t : Key) = ks t from rfl, put0_t hp o o]
    have ei : evE T (callF T Fn (k + 1)) (.blt .int (.cons (.cmp .gt (.var 4) (.cst (.int 7))) .nil)) (spE a c w t y o none none none) M = .ok (.int 1) M := by rcases hy with rfl | rfl <;> rfl
    refine ⟨a, _, l0 w t az o o, spE a c w t y o none none none, gIfF (tt_cmp rfl rfl q0) (gIfF (tt_cmp rfl rfl q1) (gIfF (tt_cmp rfl rfl q4) (gIfF (tt_cmp rfl rfl q6) (gIfF (tt_cmp rfl rfl q66) (gIfT (tt_orF (tt_cmp rfl rfl q7) (tt_cmp rfl rfl qt)) (gAsgI rfl rfl (e_idx el ei (by rw [idx_ref mx]; rfl)) sto (gRet rfl))))))), out_put hk ha (by omega) (nd0 td ta) (by simp) (fun p hp => ?_) ⟨fun p hp => ?_, sb, fun p hp e => ?_, ?_⟩⟩
    · simp only [List.mem_cons, List.not_mem_nil, or_false] at hp
      rcases hp with rfl | rfl | rfl
      · exact Fz.of_pure rfl
      · exact Fz.of_pure rfl
      · exact Fz.of_pure op
    · simp only [List.mem_cons, List.not_mem_nil, or_false] at hp
      rcases hp with rfl | rfl | rfl
      · exact Vl.str _ _
      · exact Vl.int _ _
      · exact ov.le (by omega)
    · simp only [List.mem_cons, List.not_mem_nil, or_false] at hp
      rcases hp with rfl | rfl | rfl
      · exact absurd e (by show ¬ (("do" : Str) = "body"); decide)
      · exact absurd e (by show ¬ (("at" : Str) = "body"); decide)
      · exact absurd e tb
    · obtain ⟨k1, k2, k3⟩ := lk0 (w := w) (az := az) (v := o) (x := o) td ta
      exact cmdB_val k1 tw k3 (by rw [if_neg tb]; exact odd_isI o ho)
/-- what a body holds -/
structure Bd (m : Mem) (a N n : Nat) (rs ds : List D) : Prop where
  len : rs.length = ds.length
  few : rs.length ≤ 1000
  dep : ∀ d ∈ rs, d.depth ≤ 10
  fz : ∀ (i : Nat) (y z : D), rs[i]? = some y → ds[i]? = some z → Fz m a N y z
  vl : ∀ d ∈ ds, Vl (2 * n + 1) d
  cm : ∃ bs : List Bool, bs.length = ds.length ∧ ∀ (i : Nat) (d : D) (b : Bool), ds[i]? = some d → bs[i]? = some b → ∀ (k : Nat) (m : Mem), callF T Fn (k + 2 * n) 2 [d] m = .ok (.bl b) m
theorem eqT_nil {d : D} {ds : List D} (h : ∀ x ∈ d :: ds, x.depth ≤ 10) : eqT (.tup (d :: ds)) (.tup []) = some false := by
  have := depL_le h
  show (if depthL (d :: ds) + 1 ≤ 150 then eqD (.tup (d :: ds)) (.tup []) else none) = _
  rw [if_pos (by omega)]
  rfl
theorem sp8 {y : Int} {rs ds : List D} (hy : y = 8 ∨ y = 9) (hn : 1 ≤ n) (h40 : n ≤ 40) (ho : o ∈ oddL) (hp : (w, ("body" : Str)) ∈ sixT) (hm : m[a]? = some (.dK (memK (l0 w "body" az (.tup rs) (.tup ds))))) (hb : Bd m a N n rs ds) : ∃ (r : Nat) (m' : Mem) (l' : List En) (e1 : Env), evSs T (callF T Fn (k + 1)) spB (spE a c w "body" y o none none none) m = .ok (.rt (.ref r)) e1 m' ∧ Out m m' a r (N + 1) n false l' := by
  obtain ⟨hf, td, ta, hw, tw⟩ := t_five _ hp
  have hw : w ∈ six := hw
  have tw : thirdOf (.str w) = some "body" := tw
  have td : ("body" : Str) ≠ "do" := td
  have ta : ("body" : Str) ≠ "at" := ta
  have ha : a < m.length := (List.getElem?_eq_some_iff.mp hm).1
  have ov := odd_vl o ho
  have op := odd_pure o ho
  have few := hb.few
  have hlen := hb.len
  obtain ⟨M, hM⟩ : ∃ M : Mem, M = m ++ [O.lst [o, .int 7, .tup (rs ++ [o]), .tup ([.int 7] ++ rs)]] := ⟨_, rfl⟩
  have ml : M.length = m.length + 1 := by rw [hM]; simp
  have hk : ∀ i, i < m.length → M[i]? = m[i]? := fun i hi => by rw [hM, List.getElem?_append_left hi]
  have mx : M[m.length]? = some (.lst [o, .int 7, .tup (rs ++ [o]), .tup ([.int 7] ++ rs)]) := by rw [hM]; exact mem_new
  have hma : M[a]? = some (.dK (memK (l0 w "body" az (.tup rs) (.tup ds)))) := (hk a ha).trans hm
  have ixb : ∀ {M : Mem} {d z : D}, M[a]? = some (.dK (memK (l0 w "body" az d z))) → idxD (.ref a) (.str "body") M = some d := fun {M d z} h => by
    unfold idxD
    rw [sh_ref, h]
    exact lk_me (nd0 (w := w) (az := az) (v := d) (x := z) td ta) (p := ("body", d, z)) (by simp)
  have ad : ∀ (xs ys : List D) (m : Mem), xs.length ≤ 1000 → ys.length ≤ 1000 → binD .add (.tup xs) (.tup ys) m = .ok (.tup (xs ++ ys)) m := fun xs ys m h1 h2 => if_pos (fitsLe (by omega))
  have el : evE T (callF T Fn (k + 1)) (.lst (.cons (.var 5) (.cons (.cst (.int 7)) (.cons (.bin .add (.idx (.var 0) (.cst (.str "body"))) (.tup (.cons (.var 5) .nil))) (.cons (.bin .add (.tup (.cons (.cst (.int 7)) .nil)) (.idx (.var 0) (.cst (.str "body")))) .nil))))) (spE a c w "body" y o none none none) m = .ok (.ref m.length) M := by
    rw [hM]
    refine gLst ?_ rfl
    exact es_cons rfl (es_cons rfl (es_cons (e_bin (e_idx rfl rfl (ixb hm)) (gTup (es_1 rfl) rfl) (ad _ _ _ few (by simp))) (es_cons (e_bin (gTup (es_1 rfl) rfl) (e_idx rfl rfl (ixb hm)) (ad _ _ _ (by simp) few)) rfl)))
  have f2 := fmod_in (c.fdiv 80) (show (0 : Int) < 2 by decide)
  have fy := fmod_in y (show (0 : Int) < 2 by decide)
  obtain ⟨i, hi⟩ := Int.eq_ofNat_of_zero_le (show 0 ≤ y.fmod 2 * 2 + (c.fdiv 80).fmod 2 by omega)
  have hi4 : i < 4 := by omega
  have ei : evE T (callF T Fn (k + 1)) (.bin .add (.bin .mul (.bin .mod (.var 4) (.cst (.int 2))) (.cst (.int 2))) (.bin .mod (.bin .fdiv (.var 1) (.cst (.int 80))) (.cst (.int 2)))) (spE a c w "body" y o none none none) M = .ok (.int (i : Nat)) M := by
    rw [← hi]
    exact e_bin (m1 := M) (m2 := M) (e_bin (m1 := M) (m2 := M) (e_bin rfl rfl (b_mod (by decide))) rfl (b_mul (mulOk_l (by omega)))) (e_bin (m1 := M) (m2 := M) (e_bin rfl rfl (b_div (by decide) (big9000 (by decide)))) rfl (b_mod (by decide))) b_add
  have q0 : cmpD .eq (.int y) (.int 0) m = some false := by rcases hy with rfl | rfl <;> rfl
  have q1 : cmpD .eq (.int y) (.int 1) m = some false := by rcases hy with rfl | rfl <;> rfl
  have q4 : cmpD .lt (.int y) (.int 4) m = some false := by rcases hy with rfl | rfl <;> rfl
  have q6 : cmpD .lt (.int y) (.int 6) m = some false := by rcases hy with rfl | rfl <;> rfl
  have q66 : cmpD .eq (.int y) (.int 6) m = some false := by rcases hy with rfl | rfl <;> rfl
  have q7 : cmpD .eq (.int y) (.int 7) m = some false := by rcases hy with rfl | rfl <;> rfl
  -- the head
  have head : ∀ {d z : D} {ss : SSs} {R : SR}, idxD (.ref m.length) (.int (i : Nat)) M = some d → evSs T (callF T Fn (k + 1)) ss (spE a c w "body" y o none none none) (M.set a (.dK (memK (l0 w "body" az d z)))) = R → evSs T (callF T Fn (k + 1)) (.cons (.asgI (.var 0) (.cst (.str "body")) (.idx (.lst (.cons (.var 5) (.cons (.cst (.int 7)) (.cons (.bin .add (.idx (.var 0) (.cst (.str "body"))) (.tup (.cons (.var 5) .nil))) (.cons (.bin .add (.tup (.cons (.cst (.int 7)) .nil)) (.idx (.var 0) (.cst (.str "body")))) .nil))))) (.bin .add (.bin .mul (.bin .mod (.var 4) (.cst (.int 2))) (.cst (.int 2))) (.bin .mod (.bin .fdiv (.var 1) (.cst (.int 80))) (.cst (.int 2)))))) ss) (spE a c w "body" y o none none none) m = R := fun {d z ss R} hd h => by
    have sto : stoD (.ref a) (.str "body") d M = some (M.set a (.dK (memK (l0 w "body" az d z)))) := by
      rw [sto_own hma (by simp [memK])]
      rw [show (.inr "body" : Key) = ks "body" from rfl, put0_t hp d z]
    exact gAsgI (m1 := M) (m2 := M) (m3 := M) (e_idx el ei hd) rfl rfl sto h
  have pre : ∀ {ss : SSs} {R : SR} {s1 s2 s3 s4 s5 s6 : SSs}, evSs T (callF T Fn (k + 1)) ss (spE a c w "body" y o none none none) m = R → evSs T (callF T Fn (k + 1)) (.cons (.ite (.cmp .eq (.var 4) (.cst (.int 0))) s1 .nil) (.cons (.ite (.cmp .eq (.var 4) (.cst (.int 1))) s2 .nil) (.cons (.ite (.cmp .lt (.var 4) (.cst (.int 4))) s3 .nil) (.cons (.ite (.cmp .lt (.var 4) (.cst (.int 6))) s4 .nil) (.cons (.ite (.cmp .eq (.var 4) (.cst (.int 6))) s5 .nil) (.cons (.ite (.or (.cmp .eq (.var 4) (.cst (.int 7))) (.cmp .ne (.var 3) (.cst (.str "body")))) s6 .nil) ss)))))) (spE a c w "body" y o none none none) m = R := fun {ss R s1 s2 s3 s4 s5 s6} h => gIfF (tt_cmp rfl rfl q0) (gIfF (tt_cmp rfl rfl q1) (gIfF (tt_cmp rfl rfl q4) (gIfF (tt_cmp rfl rfl q6) (gIfF (tt_cmp rfl rfl q66) (gIfF (tt_orF (tt_cmp rfl rfl q7) (tt_cmp rfl rfl rfl)) h)))))
  have vlb : ∀ {z : D}, Vl (2 * n + 2) z → ∀ d, ∀ p ∈ l0 w "body" az d z, Vl (2 * n + 2) p.2.2 := fun {z} hz d p hp => by
    simp only [List.mem_cons, List.not_mem_nil, or_false] at hp
    rcases hp with rfl | rfl | rfl
    · exact Vl.str _ _
    · exact Vl.int _ _
    · exact hz
  have okb : ∀ {d z : D}, Vl (2 * n + 2) z → (∀ (k : Nat) (m : Mem), callF T Fn (k + 2 * n + 1) 3 [z] m = .ok (.bl false) m) → Mk n false (l0 w "body" az d z) := fun {d z} hz hs => ⟨vlb hz d, false, fun p hp e => by
      simp only [List.mem_cons, List.not_mem_nil, or_false] at hp
      rcases hp with rfl | rfl | rfl
      · exact absurd e (by show ¬ (("do" : Str) = "body"); decide)
      · exact absurd e (by show ¬ (("at" : Str) = "body"); decide)
      · exact hs, by
      obtain ⟨k1, k2, k3⟩ := lk0 (w := w) (az := az) (v := d) (x := z) td ta
      exact cmdB_val k1 tw k3 (if_pos rfl)⟩
  have fzb : ∀ {M' : Mem} {lo : Nat} {d z : D}, Fz M' lo (N + 1) d z → ∀ p ∈ l0 w "body" az d z, Fz M' lo (N + 1) p.2.1 p.2.2 := fun {M' lo d z} h p hp => by
    simp only [List.mem_cons, List.not_mem_nil, or_false] at hp
    rcases hp with rfl | rfl | rfl
    · exact Fz.of_pure rfl
    · exact Fz.of_pure rfl
    · exact h
  have fin : ∀ (d z : D), idxD (.ref m.length) (.int (i : Nat)) M = some d → (∀ M, cmpD .eq d (.tup []) M = some false) → Vl (2 * n + 2) z → (∀ y : O, Fz (M.set a y) M.length (N + 1) d z) → (∀ (k : Nat) (m : Mem), callF T Fn (k + 2 * n + 1) 3 [z] m = .ok (.bl false) m) → ∃ (r : Nat) (m' : Mem) (l' : List En) (e1 : Env), evSs T (callF T Fn (k + 1)) spB (spE a c w "body" y o none none none) m = .ok (.rt (.ref r)) e1 m' ∧ Out m m' a r (N + 1) n false l' := fun d z hd hq hz hfz hs => by
    refine ⟨a, M.set a (.dK (memK (l0 w "body" az d z))), l0 w "body" az d z, spE a c w "body" y o none none none, pre (head (z := z) hd (gIfF (tt_cmp (e_idx rfl rfl (ixb (z := z) (by rw [List.getElem?_set_self (by omega)]))) rfl (hq _)) (gRet rfl))), out_put hk ha (by omega) (nd0 td ta) (by simp) (fzb (hfz _)) (okb hz hs)⟩
  obtain ⟨bs, hbl, hbs⟩ := hb.cm
  have sc : ∀ {xs : List D} {cs : List Bool}, xs.length = cs.length → cs.all id = false → Vl (2 * n + 2) (.tup xs) → (∀ (i : Nat) (d : D) (b : Bool), xs[i]? = some d → cs[i]? = some b → ∀ (k : Nat) (m : Mem), callF T Fn (k + 2 * n) 2 [d] m = .ok (.bl b) m) → ∀ (k : Nat) (m : Mem), callF T Fn (k + 2 * n + 1) 3 [.tup xs] m = .ok (.bl false) m := fun {xs cs} h1 h2 h3 h4 k m => by
    have := is_score_ok (k := k + 2 * n) (ds := xs) (bs := cs) h3.sh.pu h1 (fun i d b hd hb m => h4 i d b hd hb k m) m
    rw [h2] at this
    exact this
  have ixl : idxD (.ref m.length) (.int (i : Nat)) M = atI [o, .int 7, .tup (rs ++ [o]), .tup ([.int 7] ++ rs)] (i : Nat) := idx_ref mx _
  have four : i = 0 ∨ i = 1 ∨ i = 2 ∨ i = 3 := by omega
  rcases four with rfl | rfl | rfl | rfl
  ·
    have ixl : idxD (.ref m.length) (.int ((0 : Nat) : Int)) M = some o := ixl
    by_cases hne : o = .tup []
    · -- a row without parts: a record without parts in its stead
      obtain ⟨M2, hM2⟩ : ∃ M2 : Mem, M2 = M.set a (.dK (memK (l0 w "body" az o o))) := ⟨_, rfl⟩
      have m2a : M2[a]? = some (.dK (memK (l0 w "body" az o o))) := by rw [hM2, List.getElem?_set_self (by omega)]
      have m2l : M2.length = M.length := by rw [hM2, List.length_set]
      have k2 : ∀ i, i < a → (M2 ++ [O.dK []])[i]? = m[i]? := fun i hi => by rw [List.getElem?_append_left (by omega), hM2, List.getElem?_set_ne (by omega)]; exact hk i (by omega)
      have q : cmpD .eq o (.tup []) M2 = some true := by rw [hne]; rfl
      have sto : stoD (.ref a) (.str "body") (.ref M2.length) (M2 ++ [O.dK []]) = some ((M2 ++ [O.dK []]).set a (.dK (memK (l0 w "body" az (.ref M2.length) (.dK []))))) := by
        rw [sto_own (K := memK (l0 w "body" az o o)) (by rw [List.getElem?_append_left (by omega)]; exact m2a) (by simp [memK])]
        rw [show (.inr "body" : Key) = ks "body" from rfl, put0_t hp (.ref M2.length) (.dK [])]
      have mn : (M2 ++ [O.dK []])[M2.length]? = some (.dK []) := mem_new
      refine ⟨a, (M2 ++ [O.dK []]).set a (.dK (memK (l0 w "body" az (.ref M2.length) (.dK [])))), l0 w "body" az (.ref M2.length) (.dK []), spE a c w "body" y o none none none, pre (head (z := o) ixl ?_), fun i hi => by rw [List.getElem?_set_ne (by omega)]; exact k2 i hi, Nat.le_refl a, by rw [List.getElem?_set_self (by simp <;> omega)], nd0 td ta, by simp, fzb ?_, okb ((odd_vl (.dK []) (by simp [oddL])).le (by omega)) fun k m => not_score (k := k + 2 * n) (d := .dK []) (odd_vl (.dK []) (by simp [oddL])).sh (fun _ z => nomatch z) m, by simp <;> omega⟩
      · rw [← hM2]
        exact gIfT (tt_cmp (e_idx rfl rfl (ixb m2a)) rfl q) (gAsgI (m1 := M2 ++ [O.dK []]) (m2 := M2 ++ [O.dK []]) (m3 := M2 ++ [O.dK []]) rfl rfl rfl sto (gRet rfl))
      · exact .inr (.inr ⟨M2.length, [], rfl, by simp, by rw [List.getElem?_set_ne (by omega)]; exact mn, rfl, fun p hp => absurd hp List.not_mem_nil⟩)
    · refine fin o o ixl (fun M => ?_) (ov.le (by omega)) (fun _ => Fz.of_pure op) fun k m => ?_
      · revert hne
        exact odd_all (P := fun o => o ≠ .tup [] → cmpD .eq o (.tup []) M = some false) (fun _ => rfl) (fun h => absurd rfl h) (fun _ => rfl) (fun _ => rfl) (fun _ => rfl) (fun _ => rfl) (fun _ => rfl) (fun _ => rfl) o ho
      · have := odd_score o ho hne (k + 2 * n - 2) m
        rw [show k + 2 * n - 2 + 3 = k + 2 * n + 1 by omega] at this
        exact this
  ·
    exact fin (.int 7) (.int 7) ixl (fun M => rfl) (Vl.int _ _) (fun _ => Fz.of_pure rfl) fun k m => not_score (k := k + 2 * n) (.inl ⟨7, rfl⟩) (fun _ z => nomatch z) m
  ·
    have vt : Vl (2 * n + 1 + 1) (.tup (ds ++ [o])) := Vl.tup (by omega) fun x hx => by
      rcases List.mem_append.mp hx with hx | hx
      · exact hb.vl x hx
      · rw [List.mem_singleton.mp hx]; exact ov.le (by omega)
    refine fin (.tup (rs ++ [o])) (.tup (ds ++ [o])) ixl (fun M => ?_) vt (fun y => .inr (.inl ⟨_, _, rfl, rfl, by simp [hlen], fun i y' z' h1 h2 => ?_⟩)) (sc (cs := bs ++ [false]) (by simp [hbl]) (by simp) vt fun i d b h1 h2 k m => ?_)
    · show eqT (.tup (rs ++ [o])) (.tup []) = _
      have hd : ∀ x ∈ rs ++ [o], x.depth ≤ 10 := fun x hx => by
        rcases List.mem_append.mp hx with hx | hx
        · exact hb.dep x hx
        · rw [List.mem_singleton.mp hx]; have := ov.dep; omega
      cases e : rs ++ [o] with
      | nil => simp at e
      | cons d es => rw [e] at hd; exact eqT_nil hd
    · by_cases hi : i < rs.length
      · rw [List.getElem?_append_left hi] at h1
        rw [List.getElem?_append_left (by omega)] at h2
        exact st_put hk ha (by omega) (hb.fz i y' z' h1 h2)
      · rw [List.getElem?_append_right (by omega)] at h1 h2
        rw [← hlen, h1] at h2
        cases h2
        have : y' = o := by
          have := List.mem_of_getElem? h1
          exact List.mem_singleton.mp this
        rw [this]
        exact Fz.of_pure op
    · by_cases hi : i < ds.length
      · rw [List.getElem?_append_left hi] at h1
        rw [List.getElem?_append_left (by omega)] at h2
        exact hbs i d b h1 h2 k m
      · rw [List.getElem?_append_right (by omega)] at h1 h2
        have e1 := List.mem_singleton.mp (List.mem_of_getElem? h1)
        have e2 := List.mem_singleton.mp (List.mem_of_getElem? h2)
        rw [e1, e2]
        have := odd_cmd o ho (k + 2 * n - 2) m
        rw [show k + 2 * n - 2 + 2 = k + 2 * n by omega] at this
        exact this
  ·
    have vt : Vl (2 * n + 1 + 1) (.tup (.int 7 :: ds)) := Vl.tup (by omega) fun x hx => by
      rcases List.mem_cons.mp hx with rfl | hx
      · exact Vl.int _ _
      · exact hb.vl x hx
    refine fin (D.tup ([D.int 7] ++ rs)) (D.tup (D.int 7 :: ds)) ixl (fun M => ?_) vt (fun y => .inr (.inl ⟨_, _, rfl, rfl, by simp [hlen], fun i y' z' h1 h2 => ?_⟩)) (sc (cs := false :: bs) (by simp [hbl]) (by simp) vt fun i d b h1 h2 k m => ?_)
    · exact eqT_nil fun x hx => by
        rcases List.mem_cons.mp hx with rfl | hx
        · exact Nat.zero_le _
        · exact hb.dep x hx
    · cases i with
      | zero => cases h1; cases h2; exact Fz.of_pure rfl
      | succ i => exact st_put hk ha (by omega) (hb.fz i y' z' h1 h2)
    · cases i with
      | zero =>
        cases h1; cases h2
        have := int_cmd 7 (k + 2 * n - 1) m
        rw [show k + 2 * n - 1 + 1 = k + 2 * n by omega] at this
        exact this
      | succ i => exact hbs i d b h1 h2 k m
end
/-! k81: a command spoilt -/
section
variable {k : Nat} {m : Mem} {a N n : Nat} {w t : Str} {az : Int} {v x : D}
theorem spoilt_ok (hp : (w, t) ∈ sixT) (hm : m[a]? = some (.dK (memK (l0 w t az v x)))) (h3 : Th3 m a (N + 1) n t v x) (hb : t = "body" → ∃ rs ds : List D, v = .tup rs ∧ x = .tup ds ∧ Bd m a N n rs ds) (hn : 1 ≤ n) (h40 : n ≤ 40) (c : Int) : ∃ (r : Nat) (m' : Mem) (l' : List En), callF T Fn (k + 2) 10 [.ref a, .int c] m = .ok (.ref r) m' ∧ Out m m' a r (N + 1) n false l' := by
  obtain ⟨hf, td, ta, hw, tw⟩ := t_five _ hp
  have hw : w ∈ six := hw
  have tw : thirdOf (.str w) = some t := tw
  have td : t ≠ "do" := td
  have ta : t ≠ "at" := ta
  obtain ⟨o, ho, hoo⟩ := odd_ok (c.fdiv 10)
  obtain ⟨t', ht', ct⟩ := third_ok (k := k) hw m
  rw [tw] at ht'
  cases ht'
  have ix : idxD (.ref a) (.str "do") m = some (.str w) := by
    unfold idxD
    rw [sh_ref, hm]
    exact lk_me (nd0 td ta) (p := ("do", .str w, .str w)) (by simp)
  have run : ∀ {r : Nat} {m' : Mem} {e1 : Env}, evSs T (callF T Fn (k + 1)) spB (spE a c w t (c.fmod 10) o none none none) m = .ok (.rt (.ref r)) e1 m' → callF T Fn (k + 2) 10 [.ref a, .int c] m = .ok (.ref r) m' := fun {r m' e1} h => by
    refine dP (fd := f10) (e1 := e1) rfl rfl rfl ?_
    show evSs T (callF T Fn (k + 1)) b10 [some (.ref a), some (.int c), none, none, none, none, none, none, none] m = _
    unfold b10
    refine gAsg (d := .str w) (m1 := m) (e_idx rfl rfl ix) (by simp) ?_
    refine gAsg (d := .str t) (m1 := m) (e_call (es_1 rfl) ct) (by simp) ?_
    refine gAsg (d := .int (c.fmod 10)) (m1 := m) (e_bin rfl rfl (b_mod (by decide))) (by simp) ?_
    refine gAsg (d := o) (m1 := m) (e_call (es_1 (e_bin rfl rfl (b_div (by decide) (big9000 (by decide))))) (hoo _ _)) (by simp) ?_
    exact h
  have f := fmod_in c (show (0 : Int) < 10 by decide)
  have ten : c.fmod 10 = 0 ∨ c.fmod 10 = 1 ∨ (c.fmod 10 = 2 ∨ c.fmod 10 = 3) ∨ (c.fmod 10 = 4 ∨ c.fmod 10 = 5) ∨ c.fmod 10 = 6 ∨ c.fmod 10 = 7 ∨ (c.fmod 10 = 8 ∨ c.fmod 10 = 9) := by omega
  have fin : ∀ {y : Int}, c.fmod 10 = y → (∃ (r : Nat) (m' : Mem) (l' : List En) (e1 : Env), evSs T (callF T Fn (k + 1)) spB (spE a c w t y o none none none) m = .ok (.rt (.ref r)) e1 m' ∧ Out m m' a r (N + 1) n false l') → ∃ (r : Nat) (m' : Mem) (l' : List En), callF T Fn (k + 2) 10 [.ref a, .int c] m = .ok (.ref r) m' ∧ Out m m' a r (N + 1) n false l' := fun {y} e ⟨r, m', l', e1, h1, h2⟩ => by
    subst e
    exact ⟨r, m', l', run h1, h2⟩
  rcases ten with e | e | e | e | e | e | e
  · exact fin e (sp0 hp hm h3)
  · exact fin e (sp1 hp hm h3 (by omega))
  · exact fin rfl (sp2 e hp hm h3)
  · exact fin rfl (sp4 e hp hm h3)
  · exact fin e (sp6 hp hm h3 (by omega))
  · exact fin e (sp7 (.inl rfl) ho hp hm h3)
  · by_cases tb : t = "body"
    · obtain ⟨rs, ds, rfl, rfl, bd⟩ := hb tb
      subst tb
      exact fin rfl (sp8 e hn h40 ho hp hm bd)
    · exact fin rfl (sp7 (.inr ⟨e, tb⟩) ho hp hm h3)
theorem cmdB_l0 (hp : (w, t) ∈ sixT) (sb : Bool) : cmdB sb (frK (l0 w t az v x)) = if t = "body" then sb else isI x := by
  obtain ⟨hf, td, ta, hw, tw⟩ := t_five _ hp
  have tw : thirdOf (.str w) = some t := tw
  obtain ⟨k1, k2, k3⟩ := lk0 (w := w) (az := az) (v := v) (x := x) td ta
  have k1 : lookK (frK (l0 w t az v x)) (.inr "do") = some (.str w) := k1
  have k2 : lookK (frK (l0 w t az v x)) (.inr "at") = some (.int az) := k2
  unfold cmdB
  rw [if_pos (show (frK (l0 w t az v x)).length = 3 from rfl), k1, k2]
  dsimp only
  rw [tw]
  dsimp only
  have k3 : lookK (frK (l0 w t az v x)) (.inr t) = some x := k3
  rw [k3]
  rfl
end
/-! k81: the score, command by command -/
abbrev scB : SSs := (.cons (.asg (.nm 5) (.call 4 (.cons (.var 0) (.cons (.bin .add (.cst (.int 3)) (.bin .mul (.cst (.int 2)) (.var 4))) .nil)))) (.cons (.asg (.nm 6) (.blt .min (.cons (.bin .mod (.call 4 (.cons (.var 0) (.cons (.bin .add (.cst (.int 4)) (.bin .mul (.cst (.int 2)) (.var 4))) .nil))) (.cst (.int 4))) (.cons (.blt .len (.cons (.var 3) .nil)) .nil)))) (.cons (.ite (.cmp .lt (.bin .mod (.var 5) (.cst (.int 6))) (.cst (.int 4))) (.cons (.asg (.nm 6) (.cst (.int 0))) .nil) .nil) (.cons (.asg (.nm 7) (.slc (.var 3) (.yes (.bin .sub (.blt .len (.cons (.var 3) .nil)) (.var 6))) .no)) (.cons (.asg (.nm 3) (.slc (.var 3) .no (.yes (.bin .sub (.blt .len (.cons (.var 3) .nil)) (.var 6))))) (.cons (.asg (.nm 8) (.call 8 (.cons (.var 5) (.cons (.call 4 (.cons (.var 0) (.cons (.bin .add (.cst (.int 4)) (.bin .mul (.cst (.int 2)) (.var 4))) .nil))) (.cons (.var 7) .nil))))) (.cons (.ite (.cmp .eq (.var 4) (.var 2)) (.cons (.asg (.nm 8) (.call 10 (.cons (.var 8) (.cons (.call 4 (.cons (.var 0) (.cons (.cst (.int 2)) .nil))) .nil)))) .nil) .nil) (.cons (.expr (.mth .append (.var 3) (.cons (.call 11 (.cons (.var 8) (.cons (.bin .fdiv (.var 5) (.cst (.int 6))) .nil))) .nil))) .nil))))))))
abbrev scE (S : D) (n : Nat) (bad : Int) (s : Nat) (q4 q5 q6 q7 q8 : Option D) : Env := [some S, some (.int (n : Nat)), some (.int bad), some (.ref s), q4, q5, q6, q7, q8]
/-- the stack after j commands -/
structure Stk (M : Mem) (s j : Nat) (bad : Int) (rs ds : List D) (bs : List Bool) : Prop where
  at_ : M[s]? = some (.lst rs)
  len : rs.length = ds.length
  len2 : ds.length = bs.length
  few : rs.length ≤ j
  fz : ∀ (i : Nat) (y z : D), rs[i]? = some y → ds[i]? = some z → Fz M M.length (2 * j) y z
  cd : ∀ (i : Nat) (d : D) (b : Bool), ds[i]? = some d → bs[i]? = some b → Cd j b d
  dep : ∀ d ∈ rs, d.depth ≤ 10
  all : bs.all id = !(decide (0 ≤ bad) && decide (bad < (j : Int)))
theorem vl_mem {ds : List D} {bs : List Bool} {j : Nat} (hl : ds.length = bs.length) (h : ∀ (i : Nat) (d : D) (b : Bool), ds[i]? = some d → bs[i]? = some b → Cd j b d) : ∀ d ∈ ds, Vl (2 * j + 3) d := fun d hd => by
  obtain ⟨i, hi, rfl⟩ := List.mem_iff_getElem.mp hd
  exact (h i _ _ (List.getElem?_eq_getElem hi) (List.getElem?_eq_getElem (by omega))).vl
theorem at_take {α : Type} {l : List α} {q i : Nat} {y : α} (h : (l.take q)[i]? = some y) : l[i]? = some y := by
  rw [List.getElem?_take] at h
  split at h
  · exact h
  · cases h
section
variable {k : Nat}
theorem step_ok {ns : List Int} {n j s : Nat} {bad : Int} {M : Mem} {rs ds : List D} {bs : List Bool} (hS : Stk M s j bad rs ds bs) (hj : j ≤ 13) (q5 q6 q7 q8 : Option D) : ∃ (s' : Nat) (M' : Mem) (rs' ds' : List D) (bs' : List Bool) (p5 p6 p7 p8 : Option D), evSs T (callF T Fn (k + 2)) scB (scE (.lst (ns.map D.int)) n bad s (some (.int (j : Nat))) q5 q6 q7 q8) M = .ok .nx (scE (.lst (ns.map D.int)) n bad s' (some (.int (j : Nat))) p5 p6 p7 p8) M' ∧ Stk M' s' (j + 1) bad rs' ds' bs' := by
  obtain ⟨hs, hlen, hlen2, hfew, hfz, hcd, hdep, hall⟩ := hS
  have sl : s < M.length := (List.getElem?_eq_some_iff.mp hs).1
  obtain ⟨cc, hcc⟩ : ∃ cc, cc = cellV ns (3 + 2 * j) := ⟨_, rfl⟩
  obtain ⟨oc, hoc⟩ : ∃ oc, oc = cellV ns (4 + 2 * j) := ⟨_, rfl⟩
  have e5 : ∀ {q5 q6 q7 q8 : Option D} {s : Nat} {M : Mem}, evE T (callF T Fn (k + 2)) (.call 4 (.cons (.var 0) (.cons (.bin .add (.cst (.int 3)) (.bin .mul (.cst (.int 2)) (.var 4))) .nil))) (scE (.lst (ns.map D.int)) n bad s (some (.int (j : Nat))) q5 q6 q7 q8) M = .ok (.int cc) M := fun {q5 q6 q7 q8 s M} => by
    have ei : evE T (callF T Fn (k + 2)) (.bin .add (.cst (.int 3)) (.bin .mul (.cst (.int 2)) (.var 4))) (scE (.lst (ns.map D.int)) n bad s (some (.int (j : Nat))) q5 q6 q7 q8) M = .ok (.int ((3 + 2 * j : Nat) : Int)) M := by
      rw [show ((3 + 2 * j : Nat) : Int) = 3 + 2 * (j : Int) by omega]
      exact e_bin (m1 := M) (m2 := M) rfl (e_bin rfl rfl (b_mul (mulOk_l (by decide)))) b_add
    rw [hcc]
    exact e_call (es_2 rfl ei) (cell_ok ns (3 + 2 * j) (by omega) M)
  have e6 : ∀ {q5 q6 q7 q8 : Option D} {s : Nat} {M : Mem}, evE T (callF T Fn (k + 2)) (.call 4 (.cons (.var 0) (.cons (.bin .add (.cst (.int 4)) (.bin .mul (.cst (.int 2)) (.var 4))) .nil))) (scE (.lst (ns.map D.int)) n bad s (some (.int (j : Nat))) q5 q6 q7 q8) M = .ok (.int oc) M := fun {q5 q6 q7 q8 s M} => by
    have ei : evE T (callF T Fn (k + 2)) (.bin .add (.cst (.int 4)) (.bin .mul (.cst (.int 2)) (.var 4))) (scE (.lst (ns.map D.int)) n bad s (some (.int (j : Nat))) q5 q6 q7 q8) M = .ok (.int ((4 + 2 * j : Nat) : Int)) M := by
      rw [show ((4 + 2 * j : Nat) : Int) = 4 + 2 * (j : Int) by omega]
      exact e_bin (m1 := M) (m2 := M) rfl (e_bin rfl rfl (b_mul (mulOk_l (by decide)))) b_add
    rw [hoc]
    exact e_call (es_2 rfl ei) (cell_ok ns (4 + 2 * j) (by omega) M)
  -- how many are held
  obtain ⟨mn, mn0, mnl, hmin⟩ : ∃ mn : Int, 0 ≤ mn ∧ mn ≤ (rs.length : Nat) ∧ bltD .min [.int (oc.fmod 4), .int (rs.length : Nat)] M = .ok (.int mn) M := by
    have f := fmod_in oc (show (0 : Int) < 4 by decide)
    refine ⟨if ((rs.length : Nat) : Int) < oc.fmod 4 then ((rs.length : Nat) : Int) else oc.fmod 4, by split <;> omega, by split <;> omega, rfl⟩
  have fc := fmod_in cc (show (0 : Int) < 6 by decide)
  obtain ⟨many, hml, hm0, walk6⟩ : ∃ many : Nat, many ≤ rs.length ∧ (cc.fmod 6 < 4 → many = 0) ∧ ∀ {ss : SSs} {R : SR}, evSs T (callF T Fn (k + 2)) ss (scE (.lst (ns.map D.int)) n bad s (some (.int (j : Nat))) (some (.int cc)) (some (.int (many : Nat))) q7 q8) M = R → evSs T (callF T Fn (k + 2)) (.cons (.asg (.nm 6) (.blt .min (.cons (.bin .mod (.call 4 (.cons (.var 0) (.cons (.bin .add (.cst (.int 4)) (.bin .mul (.cst (.int 2)) (.var 4))) .nil))) (.cst (.int 4))) (.cons (.blt .len (.cons (.var 3) .nil)) .nil)))) (.cons (.ite (.cmp .lt (.bin .mod (.var 5) (.cst (.int 6))) (.cst (.int 4))) (.cons (.asg (.nm 6) (.cst (.int 0))) .nil) .nil) ss)) (scE (.lst (ns.map D.int)) n bad s (some (.int (j : Nat))) (some (.int cc)) q6 q7 q8) M = R := by
    have t : evT T (callF T Fn (k + 2)) (.cmp .lt (.bin .mod (.var 5) (.cst (.int 6))) (.cst (.int 4))) (scE (.lst (ns.map D.int)) n bad s (some (.int (j : Nat))) (some (.int cc)) (some (.int mn)) q7 q8) M = .ok (decide (cc.fmod 6 < 4)) M := tt_cmp (e_bin rfl rfl (b_mod (by decide))) rfl rfl
    have a6 : ∀ {ss : SSs} {R : SR}, evSs T (callF T Fn (k + 2)) ss (scE (.lst (ns.map D.int)) n bad s (some (.int (j : Nat))) (some (.int cc)) (some (.int mn)) q7 q8) M = R → evSs T (callF T Fn (k + 2)) (.cons (.asg (.nm 6) (.blt .min (.cons (.bin .mod (.call 4 (.cons (.var 0) (.cons (.bin .add (.cst (.int 4)) (.bin .mul (.cst (.int 2)) (.var 4))) .nil))) (.cst (.int 4))) (.cons (.blt .len (.cons (.var 3) .nil)) .nil)))) ss) (scE (.lst (ns.map D.int)) n bad s (some (.int (j : Nat))) (some (.int cc)) q6 q7 q8) M = R := fun {ss R} h => gAsg (d := .int mn) (m1 := M) (e_blt (es_2 (e_bin e6 rfl (b_mod (by decide))) (e_blt (es_1 rfl) (len_ref hs))) hmin) (by simp) h
    by_cases h4 : cc.fmod 6 < 4
    · rw [decide_eq_true h4] at t
      exact ⟨0, Nat.zero_le _, fun _ => rfl, fun {ss R} h => a6 (gIfT t (gAsg (d := .int 0) (m1 := M) rfl (by simp) h))⟩
    · rw [decide_eq_false h4] at t
      obtain ⟨i, hi⟩ := Int.eq_ofNat_of_zero_le mn0
      rw [hi] at a6 t
      exact ⟨i, by omega, fun h => absurd h h4, fun {ss R} h => a6 (gIfF t h)⟩
  obtain ⟨q, hq⟩ : ∃ q : Nat, q = rs.length - many := ⟨_, rfl⟩
  obtain ⟨M1, hM1⟩ : ∃ M1 : Mem, M1 = M ++ [O.lst (rs.drop q)] := ⟨_, rfl⟩
  obtain ⟨M2, hM2⟩ : ∃ M2 : Mem, M2 = M1 ++ [O.lst (rs.take q)] := ⟨_, rfl⟩
  have l1 : M1.length = M.length + 1 := by rw [hM1]; simp
  have l2 : M2.length = M.length + 2 := by rw [hM2]; simp [l1]
  have m1s : M1[s]? = some (.lst rs) := by rw [hM1, List.getElem?_append_left sl]; exact hs
  have m2k : ∀ i, i < M.length → M2[i]? = M[i]? := fun i hi => by rw [hM2, List.getElem?_append_left (by omega), hM1, List.getElem?_append_left hi]
  have m2h : M2[M.length]? = some (.lst (rs.drop q)) := by rw [hM2, List.getElem?_append_left (by omega), hM1]; exact mem_new
  have m2s : M2[M.length + 1]? = some (.lst (rs.take q)) := by rw [hM2, ← l1]; exact mem_new
  have slen : ∀ {M : Mem} {q7 q8 : Option D}, M[s]? = some (.lst rs) → evE T (callF T Fn (k + 2)) (.bin .sub (.blt .len (.cons (.var 3) .nil)) (.var 6)) (scE (.lst (ns.map D.int)) n bad s (some (.int (j : Nat))) (some (.int cc)) (some (.int (many : Nat))) q7 q8) M = .ok (.int (q : Nat)) M := fun {M q7 q8} h => by
    rw [show ((q : Nat) : Int) = (rs.length : Nat) - (many : Nat) by omega]
    exact e_bin (m1 := M) (m2 := M) (e_blt (es_1 rfl) (len_ref h)) rfl rfl
  obtain ⟨p, az, v, hp, hcall, hv⟩ := command_ok (k := k) m2h cc oc
  obtain ⟨w, t⟩ := p
  have hp : (w, t) ∈ sixT := hp
  obtain ⟨a, ha⟩ : ∃ a : Nat, a = M2.length + 1 := ⟨_, rfl⟩
  -- the third's value, frozen
  obtain ⟨x, hx⟩ : ∃ x : D, x = (if t = "body" then .tup (ds.drop q) else v) := ⟨_, rfl⟩
  obtain ⟨M3, hM3⟩ : ∃ M3 : Mem, M3 = M2 ++ [O.lst (six.map D.str)] ++ [.dK (memK (l0 w t az v x))] := ⟨_, rfl⟩
  have hcall : callF T Fn (k + 2) 8 [.int cc, .int oc, .ref M.length] M2 = .ok (.ref a) M3 := by rw [ha, hM3]; exact hcall
  have l3 : M3.length = M.length + 4 := by rw [hM3]; simp [l2]
  have m3k : ∀ i, i < M2.length → M3[i]? = M2[i]? := fun i hi => by rw [hM3, List.getElem?_append_left (by simp <;> omega), List.getElem?_append_left hi]
  have m3a : M3[a]? = some (.dK (memK (l0 w t az v x))) := by
    have := mem_new (m := M2 ++ [O.lst (six.map D.str)]) (o := O.dK (memK (l0 w t az v x)))
    rw [List.length_append] at this
    rw [hM3, ha]; exact this
  have hkeep : ∀ i, i < M.length → M3[i]? = M[i]? := fun i hi => (m3k i (by omega)).trans (m2k i hi)
  have dl : (rs.drop q).length = (ds.drop q).length := by rw [List.length_drop, List.length_drop, hlen]
  have dl2 : (ds.drop q).length = (bs.drop q).length := by rw [List.length_drop, List.length_drop, hlen2]
  have dfz : ∀ (i : Nat) (y z : D), (rs.drop q)[i]? = some y → (ds.drop q)[i]? = some z → Fz M3 a (2 * j) y z := fun i y z h1 h2 => by
    rw [List.getElem?_drop] at h1 h2
    exact (hfz _ y z h1 h2).stay hkeep (by omega)
  have dcd : ∀ (i : Nat) (d : D) (b : Bool), (ds.drop q)[i]? = some d → (bs.drop q)[i]? = some b → Cd j b d := fun i d b h1 h2 => by
    rw [List.getElem?_drop] at h1 h2
    exact hcd _ d b h1 h2
  have dvl := vl_mem dl2 dcd
  have bd : t = "body" → ∃ rs' ds' : List D, v = .tup rs' ∧ x = .tup ds' ∧ Bd M3 a (2 * j) (j + 1) rs' ds' := fun tb => by
    rcases hv with ⟨_, rfl, _⟩ | ⟨h, _⟩
    · refine ⟨rs.drop q, ds.drop q, rfl, by rw [hx, if_pos tb], dl, by rw [List.length_drop]; omega, fun d hd => hdep d (List.mem_of_mem_drop hd), dfz, fun d hd => dvl d hd, bs.drop q, dl2.symm, fun i d b h1 h2 k m => ?_⟩
      have := (dcd i d b h1 h2).is k m
      rw [show k + 2 * j + 2 = k + 2 * (j + 1) by omega] at this
      exact this
    · exact absurd tb h
  have h3 : Th3 M3 a (2 * j + 1) (j + 1) t v x := by
    rcases hv with ⟨tb, rfl, _⟩ | ⟨h, ⟨z, rfl⟩, _⟩
    · have tb : t = "body" := tb
      have ex : x = .tup (ds.drop q) := by rw [hx, if_pos tb]
      rw [ex]
      have vt : Vl (2 * j + 3 + 1) (.tup (ds.drop q)) := Vl.tup (by omega) dvl
      refine ⟨.inr (.inl ⟨_, _, rfl, rfl, dl, dfz⟩), vt.le (by omega), (bs.drop q).all id, fun _ k m => ?_⟩
      exact is_score_ok (k := k + 2 * (j + 1)) (ds := ds.drop q) (bs := bs.drop q) vt.sh.pu dl2 (fun i d b h1 h2 m => by
        have := (dcd i d b h1 h2).is k m
        rw [show k + 2 * j + 2 = k + 2 * (j + 1) by omega] at this
        exact this) m
    · have h : t ≠ "body" := h
      have ex : x = .int z := by rw [hx, if_neg h]
      rw [ex]
      exact ⟨Fz.of_pure rfl, Vl.int _ _, true, fun tb => absurd tb h⟩
  have ok0 : Mk (j + 1) ((bs.drop q).all id) (l0 w t az v x) := by
    refine ⟨vl0 h3, ?_⟩
    rcases hv with ⟨tb, rfl, _⟩ | ⟨h, ⟨z, rfl⟩, h4⟩
    · have tb : t = "body" := tb
      have ex : x = .tup (ds.drop q) := by rw [hx, if_pos tb]
      have vt : Vl (2 * j + 3 + 1) (.tup (ds.drop q)) := Vl.tup (by omega) dvl
      refine ⟨(bs.drop q).all id, fun p hp e k m => ?_, by rw [cmdB_l0 hp, if_pos tb]⟩
      simp only [List.mem_cons, List.not_mem_nil, or_false] at hp
      rcases hp with rfl | rfl | rfl
      · exact absurd e (by show ¬ (("do" : Str) = "body"); decide)
      · exact absurd e (by show ¬ (("at" : Str) = "body"); decide)
      · rw [ex]
        exact is_score_ok (k := k + 2 * (j + 1)) (ds := ds.drop q) (bs := bs.drop q) vt.sh.pu dl2 (fun i d b h1 h2 m => by
          have := (dcd i d b h1 h2).is k m
          rw [show k + 2 * j + 2 = k + 2 * (j + 1) by omega] at this
          exact this) m
    · have h : t ≠ "body" := h
      have ex : x = .int z := by rw [hx, if_neg h]
      have q0 : bs.drop q = [] := List.drop_eq_nil_of_le (by have := hm0 h4; omega)
      refine ⟨true, fun p hp e => ?_, by rw [cmdB_l0 hp, if_neg h, ex, q0]; rfl⟩
      simp only [List.mem_cons, List.not_mem_nil, or_false] at hp
      rcases hp with rfl | rfl | rfl
      · exact absurd e (by show ¬ (("do" : Str) = "body"); decide)
      · exact absurd e (by show ¬ (("at" : Str) = "body"); decide)
      · exact absurd e h
  obtain ⟨hf5, td, ta, hw, tw⟩ := t_five _ hp
  have O0 : Out M3 M3 a a (2 * j + 1) (j + 1) ((bs.drop q).all id) (l0 w t az v x) := ⟨fun _ _ => rfl, Nat.le_refl a, m3a, nd0 td ta, by simp, fun p hp => (fz0 h3 p hp).stay (fun _ _ => rfl) (by omega), ok0, Nat.le_refl _⟩
  -- spoilt or not
  obtain ⟨r, M4, l4, walk8, O1⟩ : ∃ (r : Nat) (M4 : Mem) (l4 : List En), (∀ {ss : SSs} {R : SR}, evSs T (callF T Fn (k + 2)) ss (scE (.lst (ns.map D.int)) n bad (M.length + 1) (some (.int (j : Nat))) (some (.int cc)) (some (.int (many : Nat))) (some (.ref M.length)) (some (.ref r))) M4 = R → evSs T (callF T Fn (k + 2)) (.cons (.ite (.cmp .eq (.var 4) (.var 2)) (.cons (.asg (.nm 8) (.call 10 (.cons (.var 8) (.cons (.call 4 (.cons (.var 0) (.cons (.cst (.int 2)) .nil))) .nil)))) .nil) .nil) ss) (scE (.lst (ns.map D.int)) n bad (M.length + 1) (some (.int (j : Nat))) (some (.int cc)) (some (.int (many : Nat))) (some (.ref M.length)) (some (.ref a))) M3 = R) ∧ Out M3 M4 a r (2 * j + 1) (j + 1) ((bs.drop q).all id && !decide ((j : Int) = bad)) l4 := by
    have t4 : evT T (callF T Fn (k + 2)) (.cmp .eq (.var 4) (.var 2)) (scE (.lst (ns.map D.int)) n bad (M.length + 1) (some (.int (j : Nat))) (some (.int cc)) (some (.int (many : Nat))) (some (.ref M.length)) (some (.ref a))) M3 = .ok (decide ((j : Int) = bad)) M3 := tt_cmp rfl rfl rfl
    by_cases hbad : (j : Int) = bad
    · rw [decide_eq_true hbad] at t4 ⊢
      obtain ⟨r, M4, l4, hc4, O4⟩ := spoilt_ok (k := k) hp m3a h3 bd (by omega) (by omega) (cellV ns 2)
      have e2 : evE T (callF T Fn (k + 2)) (.call 4 (.cons (.var 0) (.cons (.cst (.int 2)) .nil))) (scE (.lst (ns.map D.int)) n bad (M.length + 1) (some (.int (j : Nat))) (some (.int cc)) (some (.int (many : Nat))) (some (.ref M.length)) (some (.ref a))) M3 = .ok (.int (cellV ns 2)) M3 := e_call (es_2 rfl rfl) (cell_ok ns 2 (by decide) M3)
      exact ⟨r, M4, l4, fun {ss R} h => gIfT t4 (gAsg (d := .ref r) (m1 := M4) (e_call (es_2 rfl e2) hc4) (by simp) h), by rw [show (!true) = false from rfl, Bool.and_false]; exact O4⟩
    · rw [decide_eq_false hbad] at t4 ⊢
      exact ⟨a, M3, l0 w t az v x, fun {ss R} h => gIfF t4 h, by rw [show (!false) = true from rfl, Bool.and_true]; exact O0⟩
  obtain ⟨r', M5, l5, hc5, O2⟩ := turned_ok (k := k + 1) O1 (cc.fdiv 6)
  have m5s : M5[M.length + 1]? = some (.lst (rs.take q)) := by
    rw [O2.keep _ (by omega), m3k _ (by omega)]; exact m2s
  have m4s : M4[M.length + 1]? = some (.lst (rs.take q)) := by
    rw [O1.keep _ (by omega), m3k _ (by omega)]; exact m2s
  have m5k : ∀ i, i < M.length → M5[i]? = M[i]? := fun i hi => (O2.keep i (by omega)).trans (hkeep i hi)
  have r5 : r' < M5.length := (List.getElem?_eq_some_iff.mp O2.at_).1
  have ra := O2.le
  obtain ⟨M6, hM6⟩ : ∃ M6 : Mem, M6 = M5.set (M.length + 1) (.lst (rs.take q ++ [.ref r'])) := ⟨_, rfl⟩
  have l6 : M6.length = M5.length := by rw [hM6, List.length_set]
  have lm := O2.lm
  refine ⟨M.length + 1, M6, rs.take q ++ [.ref r'], ds.take q ++ [.dK (frK l5)], bs.take q ++ [(bs.drop q).all id && !decide ((j : Int) = bad)], some (.int cc), some (.int (many : Nat)), some (.ref M.length), some (.ref r), ?_, ?_⟩
  · refine gAsg (d := .int cc) (m1 := M) e5 (by simp) (walk6 ?_)
    refine gAsg (d := .ref M.length) (m1 := M1) (e_slc rfl (o_yes (slen hs)) o_no ?_) (by simp) ?_
    · unfold slcD
      rw [sh_ref, hs]
      show Res.ok (D.ref M.length) (M ++ [.lst (cutL rs (some (q : Nat)) none)]) = _
      rw [cut_lo (by omega), hM1]
    refine gAsg (d := .ref (M.length + 1)) (m1 := M2) (e_slc rfl o_no (o_yes (slen m1s)) ?_) (by simp) ?_
    · unfold slcD
      rw [sh_ref, m1s]
      show Res.ok (D.ref M1.length) (M1 ++ [.lst (cutL rs none (some (q : Nat)))]) = _
      rw [cut_hi (by omega), hM2, l1]
    refine gAsg (d := .ref a) (m1 := M3) (e_call (es_3 rfl e6 rfl) hcall) (by simp) (walk8 ?_)
    have ap := append_st (cf := callF T Fn (k + 2)) (i := 3) (a := M.length + 1) (xs := rs.take q) (m := M4) (m' := M5) (v := .ref r') (e := .call 11 (.cons (.var 8) (.cons (.bin .fdiv (.var 5) (.cst (.int 6))) .nil))) (env := scE (.lst (ns.map D.int)) n bad (M.length + 1) (some (.int (j : Nat))) (some (.int cc)) (some (.int (many : Nat))) (some (.ref M.length)) (some (.ref r))) rfl m4s (e_call (es_2 rfl (e_bin rfl rfl (b_div (by decide) (big9000 (by decide))))) hc5) m5s (by rw [List.length_take]; omega)
    rw [← hM6] at ap
    exact (sNx ap).trans (gEnd rfl)
  · have k6 : ∀ i, i < M.length → M6[i]? = M[i]? := fun i hi => by rw [hM6, List.getElem?_set_ne (by omega)]; exact m5k i hi
    have c5 := O2.ok.cd O2.nd (by omega)
    have tl : (rs.take q).length = (ds.take q).length := by rw [List.length_take, List.length_take, hlen]
    have tl2 : (ds.take q).length = (bs.take q).length := by rw [List.length_take, List.length_take, hlen2]
    refine ⟨by rw [hM6, List.getElem?_set_self (by omega)], by simp [tl], by simp [tl2], by rw [List.length_append, List.length_take]; simp; omega, fun i y z h1 h2 => ?_, fun i d b h1 h2 => ?_, fun d hd => ?_, ?_⟩
    · by_cases hi : i < (rs.take q).length
      · rw [List.getElem?_append_left hi] at h1
        rw [List.getElem?_append_left (by omega)] at h2
        exact ((hfz i y z (at_take h1) (at_take h2)).up.up).stay k6 (by omega)
      · rw [List.getElem?_append_right (by omega)] at h1 h2
        have e1 := List.mem_singleton.mp (List.mem_of_getElem? h1)
        have e2 := List.mem_singleton.mp (List.mem_of_getElem? h2)
        rw [e1, e2]
        refine .inr (.inr ⟨r', l5, rfl, by omega, by rw [hM6, List.getElem?_set_ne (by omega)]; exact O2.at_, rfl, fun p hp => (O2.fz p hp).keep (fun i kvs hi he => ?_) (by omega)⟩)
        rw [hM6]
        by_cases e : M.length + 1 = i
        · subst e; rw [m5s] at he; cases he
        · rw [List.getElem?_set_ne e]; exact he
    · by_cases hi : i < (ds.take q).length
      · rw [List.getElem?_append_left hi] at h1
        rw [List.getElem?_append_left (by omega)] at h2
        exact (hcd i d b (at_take h1) (at_take h2)).up
      · rw [List.getElem?_append_right (by omega)] at h1 h2
        have e1 := List.mem_singleton.mp (List.mem_of_getElem? h1)
        have e2 := List.mem_singleton.mp (List.mem_of_getElem? h2)
        rw [e1, e2]
        exact c5
    · rcases List.mem_append.mp hd with hd | hd
      · exact hdep d (List.mem_of_mem_take hd)
      · rw [List.mem_singleton.mp hd]; exact Nat.zero_le _
    · have e : bs.all id = ((bs.take q).all id && (bs.drop q).all id) := by
        rw [← List.all_append, List.take_append_drop]
      rw [List.all_append]
      show ((bs.take q).all id && (((bs.drop q).all id && !decide ((j : Int) = bad)) && true)) = _
      rw [Bool.and_true, ← Bool.and_assoc, ← e, hall]
      rw [Bool.eq_iff_iff]
      simp
      omega
end
/-! k81: the law -/
theorem okUf {k g : Nat} {fd : FD} {args : List D} {m m1 : Mem} {d x : D} {e1 : Env} (h : Fn g = some fd) (hm : fd.mode = .pure) (hl : args.length = fd.np) (hp : pureL args = true) (e : evSs T (callF T Fn k) fd.body (startE fd.ns args) [] = .ok (.rt d) e1 m1) (hf : frz m1 200 d = some x) : callF T Fn (k + 1) g args m = .ok x m := by
  rw [callU h hm hl hp, resRt e]
  unfold backP
  dsimp only
  rw [hf]
  rfl
theorem cutT {α : Type} (xs : List α) (i : Nat) : cutL xs none (some (i : Int)) = xs.take i := by
  unfold cutL
  rw [HT.sIx_none, HT.sIx_nat, List.drop_zero, Nat.sub_zero]
  exact List.take_eq_take_iff.mpr (by omega)
section
variable {k : Nat}
theorem score_ok (ns : List Int) {n : Nat} (hn : n ≤ 13) (bad : Int) : ∃ (ds : List D) (bs : List Bool), (∀ m, callF T Fn (k + 3) 13 [.lst (ns.map D.int), .int (n : Nat), .int bad] m = .ok (.tup ds) m) ∧ ds.length = bs.length ∧ (∀ (i : Nat) (d : D) (b : Bool), ds[i]? = some d → bs[i]? = some b → Cd n b d) ∧ bs.all id = !(decide (0 ≤ bad) && decide (bad < (n : Int))) := by
  have hp : pureL [D.lst (ns.map D.int), .int (n : Nat), .int bad] = true := by
    show (pureL (ns.map D.int) && (true && (true && true))) = true
    rw [pureL_ints]; rfl
  have z0 : (([] : List Bool).all id) = !(decide (0 ≤ bad) && decide (bad < ((0 : Nat) : Int))) := by
    rw [Bool.eq_iff_iff]; simp; omega
  obtain ⟨e1, M, r1, s, rs, ds, bs, q4, q5, q6, q7, q8, he, hS⟩ := forL_go (body := bodyG (.nm 4) (evSs T (callF T Fn (k + 2)) scB)) (xs := rngL 0 n) (env := scE (.lst (ns.map D.int)) n bad 0 none none none none none) (m := [.lst []]) (fun j env M => ∃ (s : Nat) (rs ds : List D) (bs : List Bool) (q4 q5 q6 q7 q8 : Option D), env = scE (.lst (ns.map D.int)) n bad s q4 q5 q6 q7 q8 ∧ Stk M s j bad rs ds bs) ⟨0, [], [], [], none, none, none, none, none, rfl, rfl, rfl, rfl, Nat.le_refl 0, fun i y z h => by simp at h, fun i d b h => by simp at h, fun d hd => absurd hd List.not_mem_nil, z0⟩ fun j x env M hx ⟨s, rs, ds, bs, q4, q5, q6, q7, q8, he, hS⟩ => by
    obtain ⟨rfl, hj⟩ := rng_at hx
    subst he
    rw [bodyG_nm (by simp)]
    obtain ⟨s', M', rs', ds', bs', p5, p6, p7, p8, hw, hS'⟩ := step_ok (k := k) (ns := ns) (n := n) hS (by omega) q5 q6 q7 q8
    exact ⟨_, M', hw, s', rs', ds', bs', some (.int (j : Nat)), p5, p6, p7, p8, rfl, hS'⟩
  rw [rngL_len] at hS
  subst he
  have fz : Fz M M.length (2 * n + 1) (.tup rs) (.tup ds) := .inr (.inl ⟨rs, ds, rfl, rfl, hS.len, hS.fz⟩)
  have fr := fz.frz (199 - 2 * n)
  rw [show 2 * n + 1 + (199 - 2 * n) = 200 by omega] at fr
  refine ⟨ds, bs, fun m => okUf (fd := f13) (e1 := scE (.lst (ns.map D.int)) n bad s q4 q5 q6 q7 q8) (m1 := M) rfl rfl rfl hp ?_ fr, hS.len2, hS.cd, hS.all⟩
  show evSs T (callF T Fn (k + 2)) b13 [some (.lst (ns.map D.int)), some (.int (n : Nat)), some (.int bad), none, none, none, none, none, none] [] = _
  unfold b13
  refine gAsg (d := .ref 0) (m1 := [.lst []]) rfl (by simp) ?_
  have hit : evI T (callF T Fn (k + 2)) (.rng1 (.var 1)) (scE (.lst (ns.map D.int)) n bad 0 none none none none none) [.lst []] = .ok (.all (rngL 0 n)) [.lst []] := i_nat rfl (by omega)
  exact (sNx (sFor (xs := rngL 0 n) hit r1)).trans (gRet (e_blt (es_1 rfl) (tup_ref hS.at_)))
theorem truth_ok (x y : Bool) (m : Mem) : callF T Fn (k + 1) 14 [.bl x, .bl y] m = .ok (.bl (x == y)) m := by
  refine dU (fd := f14) (e1 := [some (.bl x), some (.bl y)]) (m1 := []) rfl rfl rfl rfl ?_ rfl
  show evSs T (callF T Fn k) b14 [some (.bl x), some (.bl y)] [] = _
  unfold b14
  exact gRet (ee_andT (e_isi rfl rfl) (e_cmp rfl rfl rfl))
theorem score_body {ds : List D} {bs : List Bool} (hl : ds.length = bs.length) (h : ∀ (i : Nat) (d : D) (b : Bool), ds[i]? = some d → bs[i]? = some b → ∀ m, callF T Fn k 2 [d] m = .ok (.bl b) m) : ∃ e1, evSs T (callF T Fn k) b3 [some (.tup ds), none] [] = .ok (.rt (.bl (bs.all id))) e1 [] := by
  obtain ⟨q', e⟩ := score_go (X := .tup ds) ds bs none hl h
  refine ⟨[some (.tup ds), q'], ?_⟩
  unfold b3
  refine gIfF (tt_notT (tt_isi rfl rfl)) ?_
  have ef : evS T (callF T Fn k) (.for_ (.nm 1) (.seq (.var 0)) isB) [some (.tup ds), none] [] = forL (bodyG (.nm 1) (evSs T (callF T Fn k) isB)) ds [some (.tup ds), none] [] := rfl
  cases hb : bs.all id with
  | true =>
    rw [hb, if_pos rfl] at e
    exact (sNx (ef.trans e)).trans (gRet rfl)
  | false =>
    rw [hb, if_neg (by decide)] at e
    exact sRt (ef.trans e)
theorem rec_body (kvs : List (Key × D)) : evSs T (callF T Fn k) b3 [some (.dK kvs), none] [] = .ok (.rt (.bl false)) [some (.dK kvs), none] [] := by
  unfold b3
  exact gIfT (tt_notF (tt_isi rfl rfl)) (gRet rfl)
/-- the odd one at the end: what is_score tells of it and behind a score -/
theorem law_odd {M : Mem} {d x : D} {cs : List D} {bs : List Bool} (hd : d = x ∧ Vl 2 x ∨ ∃ (a : Nat) (l : List En), d = .ref a ∧ x = .dK (frK l) ∧ M[a]? = some (.dK (frK l)) ∧ memK l = frK l ∧ Vl 2 x) (hcs : ∀ y ∈ cs, Vl 40 y) (hl : cs.length = bs.length) (h : ∀ (i : Nat) (y : D) (b : Bool), cs[i]? = some y → bs[i]? = some b → ∀ m, callF T Fn (k + 2) 2 [y] m = .ok (.bl b) m) (hx : ∀ m, callF T Fn (k + 2) 2 [x] m = .ok (.bl false) m) : callF T Fn (k + 3) 3 [.tup (cs ++ [d])] M = .ok (.bl false) M := by
  obtain ⟨e1, e⟩ := score_body (k := k + 2) (ds := cs ++ [x]) (bs := bs ++ [false]) (by simp [hl]) fun i y b h1 h2 m => by
    by_cases hi : i < cs.length
    · rw [List.getElem?_append_left hi] at h1
      rw [List.getElem?_append_left (by omega)] at h2
      exact h i y b h1 h2 m
    · rw [List.getElem?_append_right (by omega)] at h1 h2
      have e1 := List.mem_singleton.mp (List.mem_of_getElem? h1)
      have e2 := List.mem_singleton.mp (List.mem_of_getElem? h2)
      rw [e1, e2]
      exact hx m
  rw [show (bs ++ [false]).all id = false by simp] at e
  have le : lendAll M [.tup (cs ++ [d])] = some [.tup (cs ++ [x])] := by
    have fz : Fz M M.length 2 (.tup (cs ++ [d])) (.tup (cs ++ [x])) := .inr (.inl ⟨_, _, rfl, rfl, by simp, fun i y z h1 h2 => by
      by_cases hi : i < cs.length
      · rw [List.getElem?_append_left hi] at h1 h2
        rw [h1] at h2
        cases h2
        exact Fz.of_pure (hcs y (List.mem_of_getElem? h1)).sh.pu
      · rw [List.getElem?_append_right (by omega)] at h1 h2
        have e1 := List.mem_singleton.mp (List.mem_of_getElem? h1)
        have e2 := List.mem_singleton.mp (List.mem_of_getElem? h2)
        rw [e1, e2]
        rcases hd with ⟨rfl, v⟩ | ⟨a, l, rfl, rfl, hm, hml, v⟩
        · exact Fz.of_pure v.sh.pu
        · refine .inr (.inr ⟨a, l.map fun p => (p.1, p.2.2, p.2.2), rfl, (List.getElem?_eq_some_iff.mp hm).1, ?_, ?_, fun p hp => ?_⟩)
          · rw [hm]; unfold memK frK; rw [List.map_map]; rfl
          · unfold frK; rw [List.map_map]; rfl
          · obtain ⟨q, hq, rfl⟩ := List.mem_map.mp hp
            refine ⟨rfl, ?_⟩
            have : pureK (frK l) = true := v.sh.pu
            have hin : ((.inr q.1, q.2.2) : Key × D) ∈ frK l := List.mem_map.mpr ⟨q, hq, rfl⟩
            exact pureK_mem this _ hin⟩)
    have fr := fz.frz 198
    by_cases hp : (D.tup (cs ++ [d])).pure = true
    · have ex := fz.eq_pure hp
      rw [ex]
      exact lendAll_cons (lend_of hp) rfl
    · refine lendAll_cons ?_ rfl
      unfold lend
      rw [if_neg hp, if_neg (by exact hp)]
      exact fr
  refine okL (fd := f3) rfl rfl rfl le (m1 := []) ?_ rfl rfl
  exact resRt e
end
/-! k81: the law, walked -/
abbrev laE (S : D) (n : Nat) (b : Int) (X : D) (q4 q5 : Option D) : Env := [some S, some (.int (n : Nat)), some (.int b), some X, q4, q5]
theorem answers : ∀ ns : List Int, ns.length ≤ 63 → callF T Fn 60 15 [.lst (ns.map D.int)] [] = .ok (.bl true) [] := fun ns _ => by
  have hp : pureL [D.lst (ns.map D.int)] = true := pure1' (by show pureL _ = true; exact pureL_ints ns)
  obtain ⟨n, hn, hsz⟩ := size_ok ns
  have tr : ∀ (x : Bool) (m : Mem), callF T Fn 59 14 [.bl x, .bl x] m = .ok (.bl true) m := fun x m => by
    have := truth_ok (k := 58) x x m
    rw [show (x == x) = true by cases x <;> rfl] at this
    exact this
  have ec : ∀ (j : Nat) (hj : j ≤ 100) (m : Mem), callF T Fn 59 4 [.lst (ns.map D.int), .int (j : Nat)] m = .ok (.int (cellV ns j)) m := fun j hj m => cell_ok (k := 58) ns j hj m
  -- which one is spoilt
  obtain ⟨b, hb, walk2⟩ : ∃ b : Int, (b = -1 ∨ (0 ≤ b ∧ b < (n : Int))) ∧ ∀ {ss : SSs} {R : SR}, evSs T (callF T Fn 59) ss [some (.lst (ns.map D.int)), some (.int (n : Nat)), some (.int b), none, none, none] [] = R → evSs T (callF T Fn 59) (.cons (.asg (.nm 2) (.neg (.cst (.int 1)))) (.cons (.ite (.and (.cmp .gt (.var 1) (.cst (.int 0))) (.cmp .eq (.bin .mod (.call 4 (.cons (.var 0) (.cons (.cst (.int 1)) .nil))) (.cst (.int 2))) (.cst (.int 1)))) (.cons (.asg (.nm 2) (.bin .mod (.bin .fdiv (.call 4 (.cons (.var 0) (.cons (.cst (.int 1)) .nil))) (.cst (.int 2))) (.var 1))) .nil) .nil) ss)) [some (.lst (ns.map D.int)), some (.int (n : Nat)), none, none, none, none] [] = R := by
    have a2 : ∀ {ss : SSs} {R : SR}, evSs T (callF T Fn 59) ss [some (.lst (ns.map D.int)), some (.int (n : Nat)), some (.int (-1)), none, none, none] [] = R → evSs T (callF T Fn 59) (.cons (.asg (.nm 2) (.neg (.cst (.int 1)))) ss) [some (.lst (ns.map D.int)), some (.int (n : Nat)), none, none, none, none] [] = R := fun {ss R} h => gAsg (d := .int (-1)) (m1 := []) (e_neg rfl rfl) (by simp) h
    have e1 : evE T (callF T Fn 59) (.call 4 (.cons (.var 0) (.cons (.cst (.int 1)) .nil))) [some (.lst (ns.map D.int)), some (.int (n : Nat)), some (.int (-1)), none, none, none] [] = .ok (.int (cellV ns 1)) [] := e_call (es_2 rfl rfl) (ec 1 (by decide) [])
    have t1 : evT T (callF T Fn 59) (.cmp .gt (.var 1) (.cst (.int 0))) [some (.lst (ns.map D.int)), some (.int (n : Nat)), some (.int (-1)), none, none, none] [] = .ok (decide ((0 : Int) < (n : Int))) [] := tt_cmp rfl rfl rfl
    have t2 : evT T (callF T Fn 59) (.cmp .eq (.bin .mod (.call 4 (.cons (.var 0) (.cons (.cst (.int 1)) .nil))) (.cst (.int 2))) (.cst (.int 1))) [some (.lst (ns.map D.int)), some (.int (n : Nat)), some (.int (-1)), none, none, none] [] = .ok (decide ((cellV ns 1).fmod 2 = 1)) [] := tt_cmp (e_bin e1 rfl (b_mod (by decide))) rfl rfl
    by_cases h1 : 0 < (n : Int)
    · rw [decide_eq_true h1] at t1
      by_cases h2 : (cellV ns 1).fmod 2 = 1
      · rw [decide_eq_true h2] at t2
        have f := fmod_in ((cellV ns 1).fdiv 2) h1
        exact ⟨((cellV ns 1).fdiv 2).fmod (n : Int), .inr f, fun {ss R} h => a2 (gIfT (tt_andT t1 t2) (gAsg (d := .int (((cellV ns 1).fdiv 2).fmod (n : Int))) (m1 := []) (e_bin (m1 := []) (m2 := []) (e_bin e1 rfl (b_div (by decide) (big9000 (by decide)))) rfl (b_mod (by omega))) (by simp) h))⟩
      · rw [decide_eq_false h2] at t2
        exact ⟨-1, .inl rfl, fun {ss R} h => a2 (gIfF (tt_andT t1 t2) h)⟩
    · rw [decide_eq_false h1] at t1
      exact ⟨-1, .inl rfl, fun {ss R} h => a2 (gIfF (tt_andF t1) h)⟩
  obtain ⟨ds, bs, hsc, hl, hcd, hall⟩ := score_ok (k := 56) ns hn b
  have hall : bs.all id = decide (b < 0) := by
    rw [hall, Bool.eq_iff_iff]
    simp
    omega
  have vl := vl_mem hl hcd
  have vt : Vl (2 * n + 3 + 1) (.tup ds) := Vl.tup (by omega) vl
  have cm58 : ∀ (i : Nat) (d : D) (b : Bool), ds[i]? = some d → bs[i]? = some b → ∀ m, callF T Fn 58 2 [d] m = .ok (.bl b) m := fun i d b h1 h2 m => by
    have := (hcd i d b h1 h2).is (56 - 2 * n) m
    rw [show 56 - 2 * n + 2 * n + 2 = 58 by omega] at this
    exact this
  have isS : ∀ m, callF T Fn 59 3 [.tup ds] m = .ok (.bl (decide (b < 0))) m := fun m => by
    have := is_score_ok (k := 58) vt.sh.pu hl cm58 m
    rw [hall] at this
    exact this
  -- of the first three
  obtain ⟨e1, m1, r1, q4, he, hm⟩ := forL_go (body := bodyG (.nm 4) (evSs T (callF T Fn 59) (.cons (.ite (.not (.call 14 (.cons (.call 3 (.cons (.var 4) .nil)) (.cons (.cst (.bl false)) .nil)))) (.cons (.ret (.cst (.bl false))) .nil) .nil) .nil))) (xs := ds.take 3) (env := laE (.lst (ns.map D.int)) n b (.tup ds) none none) (m := []) (fun j env m => ∃ q4 : Option D, env = laE (.lst (ns.map D.int)) n b (.tup ds) q4 none ∧ m = []) ⟨none, rfl, rfl⟩ fun j x env m hx ⟨q4, he, hm⟩ => by
    have hx := at_take hx
    subst he; subst hm
    rw [bodyG_nm (by simp)]
    have hi := (List.getElem?_eq_some_iff.mp hx).1
    obtain ⟨⟨kvs, rfl⟩, v, _⟩ := hcd j x bs[j] hx (List.getElem?_eq_getElem (by omega))
    exact ⟨_, _, gIfF (tt_notT (tt_call (es_2 (e_call (es_1 rfl) (not_score (k := 58) v.sh (fun _ z => nomatch z) _)) rfl) (tr false _) rfl)) (gEnd rfl), some (.dK kvs), rfl, rfl⟩
  subst he; subst hm
  -- the odd one
  obtain ⟨z, hz⟩ := number_ok (cellV ns 2)
  obtain ⟨M, hM⟩ : ∃ M : Mem, M = [.dK [], .dK [(.inr "do", .str "set")], .lst [.int z, .str "loop", .tup [], .tup [.int 7], .ref 0, .ref 1]] := ⟨_, rfl⟩
  have el : evE T (callF T Fn 59) (.lst (.cons (.call 5 (.cons (.call 4 (.cons (.var 0) (.cons (.cst (.int 2)) .nil))) .nil)) (.cons (.cst (.str "loop")) (.cons (.tup .nil) (.cons (.tup (.cons (.cst (.int 7)) .nil)) (.cons (.dnew false) (.cons (.ddis (.cons (.cst (.str "do")) (.cons (.cst (.str "set")) .nil))) .nil))))))) (laE (.lst (ns.map D.int)) n b (.tup ds) q4 none) [] = .ok (.ref 2) M := by
    have := gLst (T := T) (cf := callF T Fn 59) (env := laE (.lst (ns.map D.int)) n b (.tup ds) q4 none) (m := []) (m1 := [.dK [], .dK [(.inr "do", .str "set")]]) (es := .cons (.call 5 (.cons (.call 4 (.cons (.var 0) (.cons (.cst (.int 2)) .nil))) .nil)) (.cons (.cst (.str "loop")) (.cons (.tup .nil) (.cons (.tup (.cons (.cst (.int 7)) .nil)) (.cons (.dnew false) (.cons (.ddis (.cons (.cst (.str "do")) (.cons (.cst (.str "set")) .nil))) .nil)))))) (xs := [.int z, .str "loop", .tup [], .tup [.int 7], .ref 0, .ref 1]) (es_cons (e_call (es_1 (e_call (es_2 rfl rfl) (ec 2 (by decide) []))) (hz 58 [])) rfl) rfl
    rw [hM]
    exact this
  have f := fmod_in ((cellV ns 1).fdiv 2) (show (0 : Int) < 6 by decide)
  obtain ⟨i, hi⟩ := Int.eq_ofNat_of_zero_le f.1
  have hi6 : i < 6 := by omega
  have m2 : M[2]? = some (.lst [.int z, .str "loop", .tup [], .tup [.int 7], .ref 0, .ref 1]) := by rw [hM]; rfl
  have e5 : ∀ {d : D}, idxD (.ref 2) (.int (i : Nat)) M = some d → evE T (callF T Fn 59) (.idx (.lst (.cons (.call 5 (.cons (.call 4 (.cons (.var 0) (.cons (.cst (.int 2)) .nil))) .nil)) (.cons (.cst (.str "loop")) (.cons (.tup .nil) (.cons (.tup (.cons (.cst (.int 7)) .nil)) (.cons (.dnew false) (.cons (.ddis (.cons (.cst (.str "do")) (.cons (.cst (.str "set")) .nil))) .nil))))))) (.bin .mod (.bin .fdiv (.call 4 (.cons (.var 0) (.cons (.cst (.int 1)) .nil))) (.cst (.int 2))) (.cst (.int 6)))) (laE (.lst (ns.map D.int)) n b (.tup ds) q4 none) [] = .ok d M := fun {d} h => e_idx el (e_bin (e_bin (e_call (es_2 rfl rfl) (ec 1 (by decide) M)) rfl (b_div (by decide) (big9000 (by decide)))) rfl (b_mod (by decide))) (by rw [hi]; exact h)
  have lt0 : ∀ {q4 q5 : Option D} {M : Mem}, evE T (callF T Fn 59) (.cmp .lt (.var 2) (.cst (.int 0))) (laE (.lst (ns.map D.int)) n b (.tup ds) q4 q5) M = .ok (.bl (decide (b < 0))) M := e_cmp rfl rfl rfl
  have eqd : cmpD .eq (.tup ds) (.tup ds) M = some true := by
    have h1 := vt.dep
    show (if (D.tup ds).depth ≤ 150 then eqD (.tup ds) (.tup ds) else none) = _
    rw [if_pos (by omega)]
    exact vt.eq
  have fin : ∀ (d x : D) (e : Bool), idxD (.ref 2) (.int (i : Nat)) M = some d → (d = x ∧ Vl 2 x ∨ ∃ (a : Nat) (l : List En), d = .ref a ∧ x = .dK (frK l) ∧ M[a]? = some (.dK (frK l)) ∧ memK l = frK l ∧ Vl 2 x) → (∀ m, callF T Fn 58 2 [x] m = .ok (.bl false) m) → callF T Fn 59 3 [d] M = .ok (.bl e) M → cmpD .eq d (.tup []) M = some e → callF T Fn 60 15 [.lst (ns.map D.int)] [] = .ok (.bl true) [] := fun d x e hd hx hcx hsd hq => by
    have lo := law_odd (k := 56) (M := M) (d := d) (x := x) (cs := ds.take 10) (bs := bs.take 10) hx (fun y hy => (vl y (List.mem_of_mem_take hy)).le (by omega)) (by rw [List.length_take, List.length_take, hl]) (fun i y b h1 h2 m => cm58 i y b (at_take h1) (at_take h2) m) hcx
    refine dU (k := 59) (fd := f15) (e1 := laE (.lst (ns.map D.int)) n b (.tup ds) q4 (some d)) (m1 := M) rfl rfl rfl hp ?_ rfl
    show evSs T (callF T Fn 59) b15 [some (.lst (ns.map D.int)), none, none, none, none, none] [] = _
    unfold b15
    refine gAsg (d := .int (n : Nat)) (m1 := []) (e_call (es_1 rfl) (hsz 57 [])) (by simp) (walk2 ?_)
    refine gAsg (d := .tup ds) (m1 := []) (e_call (es_3 rfl rfl rfl) (hsc _)) (by simp) ?_
    refine gIfF (tt_notT (tt_call (es_2 (e_call (es_1 rfl) (isS _)) lt0) (tr _ _) rfl)) ?_
    have hit : evI T (callF T Fn 59) (.seq (.slc (.var 3) .no (.yes (.cst (.int 3))))) (laE (.lst (ns.map D.int)) n b (.tup ds) none none) [] = .ok (.all (ds.take 3)) [] := by
      have : evE T (callF T Fn 59) (.slc (.var 3) .no (.yes (.cst (.int 3)))) (laE (.lst (ns.map D.int)) n b (.tup ds) none none) [] = .ok (.tup (ds.take 3)) [] := e_slc rfl o_no (o_yes rfl) (by
        show Res.ok (D.tup (cutL ds none (some ((3 : Nat) : Int)))) [] = _
        rw [cutT])
      exact i_seq this rfl
    refine (sNx (sFor hit r1)).trans ?_
    refine gAsg (d := d) (m1 := M) (e5 hd) (by simp) ?_
    have e10 : evE T (callF T Fn 59) (.bin .add (.slc (.var 3) .no (.yes (.cst (.int 10)))) (.tup (.cons (.var 5) .nil))) (laE (.lst (ns.map D.int)) n b (.tup ds) q4 (some d)) M = .ok (.tup (ds.take 10 ++ [d])) M := by
      refine e_bin (m1 := M) (m2 := M) (e_slc (r := .ok (.tup (ds.take 10)) M) rfl o_no (o_yes rfl) ?_) (gTup (es_1 rfl) rfl) (if_pos (fitsLe (by rw [List.length_take]; simp; omega)))
      show Res.ok (D.tup (cutL ds none (some ((10 : Nat) : Int)))) M = _
      rw [cutT]
    refine gIfF (tt_orF (tt_notT (tt_call (es_2 (e_call (es_1 e10) lo) rfl) (tr false _) rfl)) (tt_notT (tt_call (es_2 (e_call (es_1 rfl) hsd) (e_cmp rfl rfl hq)) (tr e _) rfl))) ?_
    exact gRet (ee_andT (e_call (es_2 (e_call (es_1 rfl) (isS _)) lt0) (tr _ _)) (e_cmp rfl (e_call (es_3 rfl rfl rfl) (hsc _)) eqd))
  have v0 : Vl 2 (.tup []) := odd_vl _ (by simp [oddL])
  have v7 : Vl 2 (.tup [.int 7]) := (Vl.tup (n := 0) (by decide) fun x hx => by rw [List.mem_singleton.mp hx]; exact Vl.int 0 7).le (by decide)
  have vd : Vl 2 (.dK (frK [("do", .str "set", .str "set")])) := (Vl.dk (n := 0) (l := [("do", .str "set", .str "set")]) (by decide) (by simp) fun x hx => by rw [List.mem_singleton.mp hx]; exact Vl.str 0 _).le (by decide)
  have cases6 : i = 0 ∨ i = 1 ∨ i = 2 ∨ i = 3 ∨ i = 4 ∨ i = 5 := by omega
  rcases cases6 with rfl | rfl | rfl | rfl | rfl | rfl
  · exact fin (.int z) (.int z) false (by rw [idx_ref m2]; rfl) (.inl ⟨rfl, Vl.int 2 z⟩) (fun m => int_cmd z 57 m) (not_score (k := 58) (.inl ⟨z, rfl⟩) (fun _ z => nomatch z) _) rfl
  · exact fin (.str "loop") (.str "loop") false (by rw [idx_ref m2]; rfl) (.inl ⟨rfl, Vl.str 2 _⟩) (fun m => not_cmd (k := 57) (.inr (.inl ⟨_, rfl⟩)) (fun _ z => nomatch z) m) (not_score (k := 58) (.inr (.inl ⟨_, rfl⟩)) (fun _ z => nomatch z) _) rfl
  · exact fin (.tup []) (.tup []) true (by rw [idx_ref m2]; rfl) (.inl ⟨rfl, v0⟩) (fun m => not_cmd (k := 57) v0.sh (fun _ z => nomatch z) m) (is_score_ok (k := 58) (ds := []) (bs := []) rfl rfl (fun i d b h => by simp at h) _) rfl
  · exact fin (.tup [.int 7]) (.tup [.int 7]) false (by rw [idx_ref m2]; rfl) (.inl ⟨rfl, v7⟩) (fun m => not_cmd (k := 57) v7.sh (fun _ z => nomatch z) m) (is_score_ok (k := 58) (ds := [.int 7]) (bs := [false]) rfl rfl (fun i d b hd hb m => by
      cases i with
      | zero => cases hd; cases hb; exact int_cmd 7 57 m
      | succ i => simp at hd) _) rfl
  · have m0 : M[0]? = some (.dK []) := by rw [hM]; rfl
    refine fin (.ref 0) (.dK (frK [])) false (by rw [idx_ref m2]; rfl) (.inr ⟨0, [], rfl, rfl, m0, rfl, odd_vl (.dK []) (by simp [oddL])⟩) (fun m => odd_cmd (.dK []) (by simp [oddL]) 56 m) ?_ (by rw [hM]; rfl)
    exact okL (fd := f3) (m1 := []) rfl rfl rfl (lendAll_cons (lend_refK m0 rfl) rfl) (resRt (rec_body [])) rfl rfl
  · have m1 : M[1]? = some (.dK (frK [("do", .str "set", .str "set")])) := by rw [hM]; rfl
    refine fin (.ref 1) (.dK (frK [("do", .str "set", .str "set")])) false (by rw [idx_ref m2]; rfl) (.inr ⟨1, [("do", .str "set", .str "set")], rfl, rfl, m1, rfl, vd⟩) (fun m => ?_) ?_ (by rw [hM]; rfl)
    · exact (cd_mk (l := [("do", .str "set", .str "set")]) (n := 0) (sb := false) (b := false) (by simp) (by decide) (fun p hp => by rw [List.mem_singleton.mp hp]; exact Vl.str 2 _) (fun p hp e => by rw [List.mem_singleton.mp hp] at e; exact absurd e (by decide)) rfl).is 56 m
    · exact okL (fd := f3) (m1 := []) rfl rfl rfl (lendAll_cons (lend_refK m1 rfl) rfl) (resRt (rec_body _)) rfl rfl
end Ev.Law
open PySem PySem.W PyProof.Rows
set_option maxRecDepth 100000 in
set_option maxHeartbeats 0 in
theorem PySem.Challenge.cw_foreknown_k81_what_is_a_score_holds : PySem.Challenge.rw_foreknown_k81_what_is_a_score.Holds := by
  w_on; o_law
  refine HandSHeadRun.head_any (r := OpenLaw.row PySem.Challenge.rw_foreknown_k81_what_is_a_score) (q := view (OpenLaw.row PySem.Challenge.rw_foreknown_k81_what_is_a_score).prog [18]) (H := Ev.Law.hk) (ob := Ev.Law.ob) (M := 60000) (loose := Ev.Law.looseL) (d := HandSHeadRun.topDef (OpenLaw.row PySem.Challenge.rw_foreknown_k81_what_is_a_score).prog 18) (kwd := []) Ev.Law.ob_eq
    (by kernel_rfl) (fun s => by kernel_rfl) Ev.Law.run (by kernel_rfl) (by kernel_rfl) (by kernel_rfl) (by rfl) (by first | assumption | decide +kernel) (by decide +kernel) ⟨rfl, rfl, rfl, rfl, rfl, by decide +kernel⟩ ?hw ?hc
  case hw => w_witness2
  case hc =>
    refine Ev.walk_ev2 (l := PySem.Challenge.rw_foreknown_k81_what_is_a_score) (k := 60) (T := Ev.Law.T) (Fn := Ev.Law.Fn) (gl := 15) (x := "_law_script") rfl (by kernel_rfl) ⟨rfl, by decide, by decide⟩ ?F Ev.Law.answers
    intro w mg fa h Y G hmg0
    obtain ⟨K, KX, c⟩ := Y
    have hmg : mg ("law" : PySem.Str) = some (.ref fa) := by
      have e : (HandSHeadRun.topDef (OpenLaw.row PySem.Challenge.rw_foreknown_k81_what_is_a_score).prog 18).name = ("law" : PySem.Str) := by kernel_rfl
      rw [← e]
      exact hmg0
    exact ⟨K, KX, Ev.Law.facts KX G hmg c⟩
