import PyProof.Rows.All
import Wide.All
import OpenK.AllK
import Wide.FinOn
import HandS.NoneIn
import HandS.SetKeys
import HandS.Iter
import KE.KDictLaws
import HandS.IsInst
import KE.KExcIs
import KE.RegKIsAll
import HandS.List
import HandS.Exc
import HandS.Lambda
import HandS.Text
import HandS.Comp
import HandS.TupAny
import HandS.Wide
import HandS.Words
import HandS.WordsExc
import HandS.ExcOwn
import HandS.Conv
import HandS.SortInts
import HandS.RaiseMore
import PyProof.ReprRoads
import HandS.More
import HandS.StrMore
import HandS.Replace
import HandS.Ends
import HandS.EndBits
import HandS.Style
import HandS.Deep
import PyProof.ReprLen
import HandS.Codes
import HandS.Zip
import HandS.Dict
import KE.GoesEnum
import HandS.Defaults
import HandS.Flow
import HandS.WideBits
import KE.DataMinMax
import HandS.SortKw
import PyProof.Rows.SortShellAny
import KE.KRevSl
import OpenK.KTop
import HandS.TryMany
import KE.KTryMore
import KE.KExcInit
import PyProof.ExcBaseAll.OverflowError
import PyProof.ExcBaseAll.IndexError
import PyProof.ExcBaseAll.RuntimeError
import HandS.ExcField
import KE.RegKTryMore
import KE.KDictList
import KE.SortData
import KE.SortKeyHeap
import HandS.EndTab
import PyProof.TabOkSpec
import PyProof.StrReplace2
import HandS.TupSets
import HandS.FStr
import PyProof.FString5
import PyProof.CallStr
import HandS.DictComp
import HandS.ExcInit
import HandS.TupMul
import HandS.DictTup
import HandS.DictSubView
import KE.KDictCopyH
import KE.KDictDisplayH
import HandS.TupLen
import PyProof.DictMoreH
import HandS.TryOnly
import KE.DataMinKey
import PyProof.SumAny
import PyProof.ListOps
import HandS.ReplaceLit
import PySem.Challenge.RW_tabprism_k93_errors_and_limits
set_option Elab.async false
set_option linter.all false
set_option maxRecDepth 100000
set_option maxHeartbeats 2000000
namespace L2
open PySem PySem.Spec PyProof.Rows
def optKind (P : Program) (w : World) : PySem.KeyKind P w (Option Int) where
  is := fun k v => nkIs (k.map Sum.inl) v
  hash := fun k => (noneKind P w).hash (k.map Sum.inl)
  inj := fun v a b ha hb => by
    have e := (noneKind P w).inj v _ _ ha hb
    cases a <;> cases b <;> simp_all
  byValue := fun k v h => (noneKind P w).byValue _ v h
  pyHash := fun {A E s k v Q} hv h => (noneKind P w).pyHash (k := k.map Sum.inl) hv h
  eqBool := fun {A E s a b u v Q} hu hv h => (noneKind P w).eqBool (a := a.map Sum.inl) (b := b.map Sum.inl) hu hv (by
    have e : decide ((a.map Sum.inl : Option Key) = b.map Sum.inl) = decide (a = b) := by
      cases a <;> cases b <;> simp
    rw [e]; exact h)
  «strs» := fun k x t v h => (noneKind P w).«strs» _ x t v h
def oV : Option Int → V
  | none => .non
  | some i => .int i
def NdP (us : List (Option Int × V)) (a : Addr) (h : Heap) : Prop := us.length ≤ sizeLine ∧ (a == sysModules) = false ∧ (∃ o es ep, h.get? a = some o ∧ o.data = .dict es ep) ∧ ∃ vs, KV us vs ∧ ∀ (P : Program) (w : World), h.DictOf (optKind P w) a vs
def NdO (us : List (Option Int × V)) (a : Addr) : HO := .ext (NdP us a)
section
variable {X : Cx}
def tDNewN : TE := fun _ H Q => ∀ p, H p = none → Q (.ref p) (upd H p (NdO [] p))
end
section
variable {X : Cx} {pins : List (Addr × Obj)} {σ : St} {H : Hp} {s : Shared} {a : Addr} {u r : Value} {d : V} {k : Option Int} {A : Around} {E : Value → Shared → Prop}
end
def tNSetd (td ty tx : TE) : TE := fun σ H Q => td σ H fun x H1 => ∃ a us1, x = .ref a ∧ H1 a = some (NdO us1 a) ∧ ty σ H1 fun y H2 => tx σ H2 fun z H3 => ∃ (us : List (Option Int × V)) (k : Option Int), H3 a = some (NdO us a) ∧ y = oV k ∧ us.length < sizeLine ∧
  (∀ v, valV us k = some v → Q v H3) ∧ (valV us k = none → Q z (upd H3 a (NdO (putK us k z) a)))
section
variable {X : Cx} {o e f : Expr} {td ty tx : TE} {apos cpos : Pos}
end
end L2
namespace L2
open PySem PySem.Spec PyProof.Rows
section
variable {X : Cx} {pins : List (Addr × Obj)} {σ : St} {H : Hp} {s : Shared} {d : Addr} {us : List (Option Int × V)}
end
end L2
namespace L2
open PySem PySem.Spec PyProof.Rows
theorem nd_code {us : List (Option Int × V)} {a c : Addr} {q : Str} (e : NdO us a = HO.ext fun h => ∃ (oc : Obj) (vs : Array Value) (t : Tok), h.get? c = some oc ∧ oc.data = .fields vs ∧ vs[1]? = some (.str q t)) : False := by
  injection e with e
  obtain ⟨ob, hob⟩ : ∃ ob : Obj, ob = { cls := .none, data := .fields #[.none, .str q 0] } := ⟨_, rfl⟩
  have key : ∀ (b : Addr) (o : Obj), (Heap.mk (Array.replicate (c + 1) ob) {}).get? b = some o → o = ob := fun b o h => by
    unfold Heap.get? at h
    split at h
    · cases h
    · obtain ⟨hb, h5⟩ := Array.getElem?_eq_some_iff.mp h
      rw [← h5, Array.getElem_replicate]
  have hc : (Heap.mk (Array.replicate (c + 1) ob) {}).get? c = some ob := by
    unfold Heap.get?
    have h5 : (Array.replicate (c + 1) ob)[c]? = some ob := by rw [Array.getElem?_replicate, if_pos (Nat.lt_succ_self c)]
    dsimp only
    rw [h5, hob]
  have h2 : NdP us a (Heap.mk (Array.replicate (c + 1) ob) {}) := by
    rw [e]
    exact ⟨ob, _, 0, hc, by rw [hob], rfl⟩
  obtain ⟨_, _, ⟨o, es, ep, h1, h3⟩, _⟩ := h2
  rw [key a o h1, hob] at h3
  cases h3
end L2
set_option maxRecDepth 100000
namespace L2
open PySem PySem.Spec PyProof.Rows
structure XcF (K : PySem.W.Frag) (C : Addr) : Prop where
  cl : (PySem.W.clsIn K C).isSome = true
  ga : PySem.W.findIn K (.ref C) "__getattribute__" = some (some (.builtin "BaseException.__getattribute__"))
  gg : PySem.W.findIn K (.ref C) "__getattr__" = some none
  exC : PySem.W.subIn K (.ref C) (.type "BaseException") = some true
  cc : PySem.W.findIn K (.ref C) "__class__" = some (some (.builtin "object.__class__"))
  gt : PySem.W.specialIn K (.builtin "object.__class__") "__get__" = some (some (.builtin "getset_descriptor.__get__"))
  tk : PySem.W.takesIn K (.builtin "object.__class__") = some true
  ob : PySem.W.mroIn K C (.type "object") = some true
  hd : PySem.W.hasDictIn K C = true
def ExcK (K : PySem.W.Frag) (cv : Value) : Prop := ∃ C, cv = .ref C ∧ XcF K C ∧ ∀ T ∈ (["int", "bool", "str", "tuple", "list"] : List String), PySem.W.kitOne K (.ref C) (.type T) = some false
def XuOk (W : Addr → Prop) (H : Hp) (us : List (Str × V)) : Option Addr → Prop
  | none => us = []
  | some dx => ¬ W dx ∧ H dx = some (.xd us)
end L2
set_option maxRecDepth 100000
namespace Pz
open PySem PySem.Spec PyProof.Rows L2
abbrev Frag := PySem.W.Frag
class TabC where
  T : List (Addr × Str)
  /-- whether a tuple of the program's top may stand among the data -/
  kw : Prop := True
abbrev NotTbl (o : HO) : Prop := ∀ ps : Array Value, o ≠ .tbl ps
def TabOk [TabC] (W : Addr → Prop) (H : Hp) : Prop := LamX.Tabs TabC.T H ∧ (∀ b ps, H b = some (.tbl ps) → ∃ p ∈ TabC.T, p.1 = b) ∧
  (∀ p ∈ TabC.T, ∀ ps, H p.1 = some (.tbl ps) → ∀ pos c, codeAmong pos ps.toList = some (.ref c) → ¬ W c) ∧ ∀ b xs, H b = some (.tup xs) → ¬ W b
theorem TabOk.less [TabC] {W W' : Addr → Prop} {H : Hp} (t : TabOk W H) (h : ∀ a, W' a → W a) : TabOk W' H := ⟨t.1, t.2.1, fun p hp ps e pos c hc w => t.2.2.1 p hp ps e pos c hc (h c w), fun b xs e w => t.2.2.2 b xs e (h b w)⟩
inductive Sl where
  | d (x : PyData)
  | o (h : Nat)
  | r (v : V)
  /-- a lambda: its address; what was written when it was made, the objects then -/
  | l (f : Addr) (W : Addr → Prop) (H : Hp)
  /-- a list of ints that is only read (the script) -/
  | f (ns : List Int)
inductive Ct where
  | lst (xs : List PyData)
  /-- a list whose items may be written themselves -/
  | lsS (xs : List Sl)
  | dK (kvs : List (Key × PyData))
  | dT (kvs : List (List Key × PyData))
  | ins (C : Addr) (fs : List (Str × Sl))
  /-- a dict whose keys are None and ints; its values may be written themselves -/
  | dN (kvs : List (Option Int × Sl))
  /-- an exception that was caught: its class, its fields -/
  | exc (c : Str) (fs : List (Str × PyData))
  | dead
def Ct.live : Ct → Prop
  | .dead => False
  | _ => True
def Ct.wr : Ct → Prop
  | .dead => False
  | .exc _ _ => False
  | _ => True
theorem Ct.wr.live : ∀ {c : Ct}, c.wr → c.live
  | .lst _, _ => trivial
  | .lsS _, _ => trivial
  | .dK _, _ => trivial
  | .dT _, _ => trivial
  | .ins _ _, _ => trivial
  | .dN _, _ => trivial
abbrev Sls := List (Option Sl)
abbrev Sto := List Ct
def keyD : Key → PyData
  | .inl i => .int i
  | .inr x => .str x
def kyT (k : List Key) : PyData := .tuple (k.map keyD)
def mkK : PyData × PyData := (.none, .bool false)
def mkT : PyData × PyData := (.none, .bool true)
def mkN : PyData × PyData := (.none, .none)
def oD : Option Int → PyData
  | none => .none
  | some i => .int i
def KwL (K : Frag) (a : Addr) (xs : List V) : Prop := ∃ (o : Obj) (its : Array Value) (n : Nat), K.lookup a = some o ∧ o.cls = .type "list" ∧ o.dict = none ∧ o.data = .seq its n ∧ its.size ≤ sizeLine ∧ Vals xs its.toList
def KwT (K : Frag) (a : Addr) (xs : List V) : Prop := ∃ (o : Obj) (its : Array Value) (n : Nat), K.lookup a = some o ∧ o.cls = .type "tuple" ∧ o.data = .seq its n ∧ its.size ≤ sizeLine ∧ Vals xs its.toList
def ImL (K : Frag) (W : Addr → Prop) (H : Hp) (a : Addr) (xs : List V) : Prop := (Rd H a (.lst xs) ∧ ¬ W a) ∨ KwL K a xs
variable [TabC]
def ImT (K : Frag) (W : Addr → Prop) (H : Hp) (a : Addr) (xs : List V) : Prop := (H a = some (.tup xs) ∧ ¬ W a) ∨ (TabC.kw ∧ KwT K a xs)
theorem ImL.sq {K : Frag} {W : Addr → Prop} {H : Hp} {a : Addr} {xs : List V} (h : ImL K W H a xs) : SqL K H a xs := h.elim (fun q => .inl q.1) .inr
theorem ImT.sq {K : Frag} {W : Addr → Prop} {H : Hp} {a : Addr} {xs : List V} (h : ImT K W H a xs) : SqT K H a xs := h.elim (fun q => .inl (.inl q.1)) fun q => .inr q.2
def ExH (c : Value) (d : Option Addr) (a : Addr) : HO := .ext fun h => ∃ (oe : Obj) (vs : Array Value), h.get? a = some oe ∧ Zc c d oe ∧ oe.data = .fields vs
def ClsV (K : Frag) (x : Str) (c : Value) : Prop := PySem.W.nsIn K mainGlobals x = some (some c)
def excD (c : Str) (fs : List (Str × PyData)) : PyData := .dict ((.none, .str c) :: fs.map fun p => (.str p.1, p.2))
mutual
inductive Im (K : Frag) (W : Addr → Prop) (H : Hp) : V → PyData → Prop
  | non : Im K W H .non .none
  | bl (b : Bool) : Im K W H (.bl b) (.bool b)
  | int (i : Int) : Im K W H (.int i) (.int i)
  | str (x : Str) : Im K W H (.str x) (.str x)
  | lst {a : Addr} {xs : List V} {ds : List PyData} : H a = some (.lst xs) → ¬ W a → ImAll K W H xs ds → Im K W H (.ref a) (.list ds)
  | tup {a : Addr} {xs : List V} {ds : List PyData} : ImT K W H a xs → ImAll K W H xs ds → Im K W H (.ref a) (.tuple ds)
  | dct {a : Addr} {kvs : List (Key × V)} {ds : List PyData} : H a = some (.dK kvs) → ¬ W a → ImAll K W H (kvs.map (·.2)) ds → Im K W H (.ref a) (.dict ((kvs.map fun p => keyD p.1).zip ds))
  | dcl {a : Addr} {o : Obj} {kvs : List (Key × V)} {ds : List PyData} : H a = some (.frz o (.dK kvs)) → ¬ W a → ImAll K W H (kvs.map (·.2)) ds → Im K W H (.ref a) (.dict (mkK :: (kvs.map fun p => keyD p.1).zip ds))
  | dcT {a : Addr} {o : Obj} {kvs : List (List Key × V)} {ds : List PyData} : H a = some (.frz o (.dT kvs)) → ¬ W a → ImAll K W H (kvs.map (·.2)) ds → Im K W H (.ref a) (.dict (mkT :: (kvs.map fun p => kyT p.1).zip ds))
  | dcN {a : Addr} {o : Obj} {kvs : List (Option Int × V)} {ds : List PyData} : H a = some (.frz o (NdO kvs a)) → ¬ W a → ImAll K W H (kvs.map (·.2)) ds → Im K W H (.ref a) (.dict (mkN :: (kvs.map fun p => oD p.1).zip ds))
  | exc {a : Addr} {cv : Value} {d : Option Addr} {c : Str} {us : List (Str × V)} {ds : List PyData} : ClsV K c cv → ExcK K cv → H a = some (ExH cv d a) → ¬ W a → XuOk W H us d → ImAll K W H (us.map (·.2)) ds → Im K W H (.ref a) (.dict ((.none, .str c) :: (us.map fun p => .str p.1).zip ds))
inductive ImAll (K : Frag) (W : Addr → Prop) (H : Hp) : List V → List PyData → Prop
  | nil : ImAll K W H [] []
  | cons {v : V} {vs : List V} {d : PyData} {ds : List PyData} : Im K W H v d → ImAll K W H vs ds → ImAll K W H (v :: vs) (d :: ds)
end
structure Zs where
  φ : List Addr
  st : Sto
  H : Hp
  F : Addr → Prop
def Zs.O (Z : Zs) (a : Addr) : Prop := ∃ (h : Nat) (c : Ct), Z.φ[h]? = some a ∧ Z.st[h]? = some c ∧ c.live
def Zs.W (Z : Zs) (a : Addr) : Prop := Z.O a ∨ Z.F a
abbrev Zs.Im (K : Frag) (Z : Zs) : V → PyData → Prop := Pz.Im K Z.W Z.H
abbrev Zs.ImAll (K : Frag) (Z : Zs) : List V → List PyData → Prop := Pz.ImAll K Z.W Z.H
structure Stay (W W' : Addr → Prop) (H H' : Hp) : Prop where
  f : ∀ b o, H b = some o → ¬ W b → (hn : NotTbl o := by exact fun _ z => nomatch z) → H' b = some o
  g : ∀ b o, H b = some o → ¬ W b → (hn : NotTbl o := by exact fun _ z => nomatch z) → ¬ W' b
theorem Stay.trans {W W1 W2 : Addr → Prop} {H H1 H2 : Hp} (a : Stay W W1 H H1) (b : Stay W1 W2 H1 H2) : Stay W W2 H H2 :=
  ⟨fun x o e n t => b.f x o (a.f x o e n t) (a.g x o e n t) t, fun x o e n t => b.g x o (a.f x o e n t) (a.g x o e n t) t⟩
def Rp (K : Frag) (Z : Zs) (v : V) : Sl → Prop
  | .d x => Z.Im K v x
  | .o h => ∃ (a : Addr) (c : Ct), v = .ref a ∧ Z.φ[h]? = some a ∧ Z.st[h]? = some c ∧ c.live
  | .r u => v = u
  | .l f W H => v = .ref f ∧ Stay W Z.W H Z.H
  | .f ns => ∃ a, v = .ref a ∧ ImL K Z.W Z.H a (ns.map V.int)
inductive RpAll (K : Frag) (Z : Zs) : List V → List Sl → Prop
  | nil : RpAll K Z [] []
  | cons {v vs s ss} : Rp K Z v s → RpAll K Z vs ss → RpAll K Z (v :: vs) (s :: ss)
theorem ClsV.eq {K : Frag} {x : Str} {c c' : Value} (h : ClsV K x c) (h' : ClsV K x c') : c = c' := by
  unfold ClsV at h h'
  rw [h] at h'
  exact Option.some.inj (Option.some.inj h')
def XcOk (K : Frag) (Z : Zs) (fs : List (Str × PyData)) : Option Addr → Prop
  | none => fs = []
  | some dx => ¬ Z.W dx ∧ ∃ us : List (Str × V), Z.H dx = some (.xd us) ∧ us.map (·.1) = fs.map (·.1) ∧ Z.ImAll K (us.map (·.2)) (fs.map (·.2))
def CtOk (K : Frag) (Z : Zs) (a : Addr) : Ct → Prop
  | .lst ds => ∃ vs, Z.H a = some (.lst vs) ∧ Z.ImAll K vs ds
  | .lsS xs => ∃ vs, Z.H a = some (.lst vs) ∧ RpAll K Z vs xs
  | .dK kvs => ∃ us : List (Key × V), Z.H a = some (.dK us) ∧ us.map (·.1) = kvs.map (·.1) ∧ Z.ImAll K (us.map (·.2)) (kvs.map (·.2))
  | .dT kvs => ∃ us : List (List Key × V), Z.H a = some (.dT us) ∧ us.map (·.1) = kvs.map (·.1) ∧ Z.ImAll K (us.map (·.2)) (kvs.map (·.2))
  | .ins C fs => ∃ (dx : Addr) (us : List (Str × V)), Z.H a = some (.ins C dx us) ∧ us.map (·.1) = fs.map (·.1) ∧ RpAll K Z (us.map (·.2)) (fs.map (·.2))
  | .dN kvs => ∃ us : List (Option Int × V), Z.H a = some (NdO us a) ∧ us.map (·.1) = kvs.map (·.1) ∧ RpAll K Z (us.map (·.2)) (kvs.map (·.2))
  | .exc c fs => ∃ cv d, ClsV K c cv ∧ Z.H a = some (ExH cv d a) ∧ XcOk K Z fs d
  | .dead => Z.H a ≠ none
structure Ok (K : Frag) (Z : Zs) : Prop where
  len : Z.φ.length = Z.st.length
  nd : Z.φ.Nodup
  ct : ∀ (h : Nat) (a : Addr) (c : Ct), Z.φ[h]? = some a → Z.st[h]? = some c → CtOk K Z a c
  fo : ∀ a, Z.F a → ∃ o, Z.H a = some o
  fd : ∀ a ∈ Z.φ, ¬ Z.F a
  tb : TabOk Z.W Z.H
structure Le (Z Z' : Zs) : Prop where
  pre : ∃ ψ : List Addr, Z'.φ = Z.φ ++ ψ ∧ ∀ a ∈ ψ, Z.H a = none
  len : Z.st.length = Z.φ.length
  liv : ∀ (h : Nat) (c : Ct), Z.st[h]? = some c → ∃ c', Z'.st[h]? = some c' ∧ (c.live ↔ c'.live)
  frm : ∀ a o, Z.H a = some o → ¬ Z.O a → NotTbl o → Z'.H a = some o
  fgn : Z'.F = Z.F
  dom : ∀ a o, Z.H a = some o → ∃ o', Z'.H a = some o'
theorem ctok_some {K : Frag} {Z : Zs} {a : Addr} {c : Ct} (h : CtOk K Z a c) : ∃ o, Z.H a = some o := by
  cases c with
  | lst ds => obtain ⟨vs, e, _⟩ := h; exact ⟨_, e⟩
  | lsS ds => obtain ⟨vs, e, _⟩ := h; exact ⟨_, e⟩
  | dK ds => obtain ⟨vs, e, _⟩ := h; exact ⟨_, e⟩
  | dT ds => obtain ⟨vs, e, _⟩ := h; exact ⟨_, e⟩
  | ins C fs => obtain ⟨dx, us, e, _⟩ := h; exact ⟨_, e⟩
  | dN kvs => obtain ⟨us, e, _⟩ := h; exact ⟨_, e⟩
  | exc c fs => obtain ⟨cv, d, _, e, _⟩ := h; exact ⟨_, e⟩
  | dead =>
    cases q : Z.H a with
    | none => exact absurd q h
    | some o => exact ⟨o, rfl⟩
theorem Ok.has {K : Frag} {Z : Zs} (ok : Ok K Z) {a : Addr} (h : a ∈ Z.φ) : ∃ o, Z.H a = some o := by
  obtain ⟨i, hi, e⟩ := List.getElem_of_mem h
  have hi2 : i < Z.st.length := by rw [← ok.len]; exact hi
  exact ctok_some (ok.ct i a Z.st[i] (by rw [List.getElem?_eq_getElem hi, e]) (List.getElem?_eq_getElem hi2))
theorem Ok.fresh {K : Frag} {Z : Zs} (ok : Ok K Z) {p : Addr} (h : Z.H p = none) : p ∉ Z.φ := fun m => by
  obtain ⟨o, e⟩ := ok.has m
  rw [h] at e; cases e
theorem Zs.O.mem {Z : Zs} {a : Addr} (h : Z.O a) : a ∈ Z.φ := by
  obtain ⟨i, c, e, _⟩ := h
  exact List.mem_of_getElem? e
theorem Ok.nw {K : Frag} {Z : Zs} (ok : Ok K Z) {p : Addr} (h : Z.H p = none) : ¬ Z.W p := fun w => by
  rcases w with w | w
  · exact ok.fresh h w.mem
  · obtain ⟨o, e⟩ := ok.fo p w
    rw [h] at e; cases e
theorem Le.refl {K : Frag} {Z : Zs} (ok : Ok K Z) : Le Z Z := ⟨⟨[], by simp, fun _ h => by cases h⟩, ok.len.symm, fun h c e => ⟨c, e, Iff.rfl⟩, fun _ _ e _ _ => e, rfl, fun _ o e => ⟨o, e⟩⟩
theorem Le.o {Z Z' : Zs} (l : Le Z Z') {a : Addr} (h : Z'.O a) : Z.O a ∨ Z.H a = none := by
  obtain ⟨i, c', e1, e2, e3⟩ := h
  obtain ⟨ψ, e, hn⟩ := l.pre
  rw [e] at e1
  by_cases hi : i < Z.φ.length
  · rw [List.getElem?_append_left hi] at e1
    have hi2 : i < Z.st.length := by rw [l.len]; exact hi
    obtain ⟨c2, q1, q2⟩ := l.liv i Z.st[i] (List.getElem?_eq_getElem hi2)
    rw [e2] at q1
    cases q1
    exact .inl ⟨i, Z.st[i], e1, List.getElem?_eq_getElem hi2, q2.mpr e3⟩
  · rw [List.getElem?_append_right (by omega)] at e1
    exact .inr (hn a (List.mem_of_getElem? e1))
theorem Le.no {Z Z' : Zs} (l : Le Z Z') {a : Addr} {o : HO} (e : Z.H a = some o) (h : ¬ Z.O a) : ¬ Z'.O a := fun w => by
  rcases l.o w with q | q
  · exact h q
  · rw [e] at q; cases q
theorem Le.nw {Z Z' : Zs} (l : Le Z Z') {a : Addr} {o : HO} (e : Z.H a = some o) (h : ¬ Z.W a) : ¬ Z'.W a := fun w => by
  rcases w with w | w
  · exact l.no e (fun z => h (.inl z)) w
  · rw [l.fgn] at w; exact h (.inr w)
theorem Le.trans {Z Z1 Z2 : Zs} (a : Le Z Z1) (b : Le Z1 Z2) : Le Z Z2 where
  pre := by
    obtain ⟨ψ, e, hn⟩ := a.pre
    obtain ⟨ψ', e', hn'⟩ := b.pre
    refine ⟨ψ ++ ψ', by rw [e', e, List.append_assoc], fun x hx => ?_⟩
    rcases List.mem_append.mp hx with h | h
    · exact hn x h
    · have q := hn' x h
      cases e : Z.H x with
      | none => rfl
      | some o =>
        obtain ⟨o', e'⟩ := a.dom x o e
        rw [e'] at q; cases q
  len := a.len
  liv := fun h c e => by
    obtain ⟨c1, e1, q1⟩ := a.liv h c e
    obtain ⟨c2, e2, q2⟩ := b.liv h c1 e1
    exact ⟨c2, e2, q1.trans q2⟩
  frm := fun x o e h t => b.frm x o (a.frm x o e h t) (a.no e h) t
  fgn := b.fgn.trans a.fgn
  dom := fun x o e => by
    obtain ⟨o1, e1⟩ := a.dom x o e
    exact b.dom x o1 e1
section
variable {K : Frag} {W W' : Addr → Prop} {H H' : Hp}
theorem Stay.rd (s : Stay W W' H H') {a : Addr} {o : HO} (h : Rd H a o) (n : ¬ W a) (hn : NotTbl o := by exact fun _ z => nomatch z) : Rd H' a o ∧ ¬ W' a := by
  rcases h with h | ⟨u, h⟩
  · exact ⟨.inl (s.f _ _ h n hn), s.g _ _ h n hn⟩
  · exact ⟨.inr ⟨u, s.f _ _ h n⟩, s.g _ _ h n⟩
theorem ImL.tr (s : Stay W W' H H') {a : Addr} {xs : List V} (h : ImL K W H a xs) : ImL K W' H' a xs := h.elim (fun q => .inl (s.rd q.1 q.2)) .inr
theorem ImT.tr (s : Stay W W' H H') {a : Addr} {xs : List V} (h : ImT K W H a xs) : ImT K W' H' a xs := h.elim (fun q => .inl ⟨s.f _ _ q.1 q.2, s.g _ _ q.1 q.2⟩) .inr
theorem xu_tr (s : Stay W W' H H') {us : List (Str × V)} : ∀ {d : Option Addr}, XuOk W H us d → XuOk W' H' us d
  | none, h => h
  | some _, ⟨h1, h2⟩ => ⟨s.g _ _ h2 h1, s.f _ _ h2 h1⟩
mutual
theorem Im.tr (s : Stay W W' H H') : ∀ {v : V} {d : PyData}, Im K W H v d → Im K W' H' v d
  | _, _, .non => .non
  | _, _, .bl b => .bl b
  | _, _, .int b => .int b
  | _, _, .str b => .str b
  | _, _, .lst q n r => .lst (s.f _ _ q n) (s.g _ _ q n) (ImAll.tr s r)
  | _, _, .tup q r => .tup (q.tr s) (ImAll.tr s r)
  | _, _, .dct q n r => .dct (s.f _ _ q n) (s.g _ _ q n) (ImAll.tr s r)
  | _, _, .dcl q n r => .dcl (s.f _ _ q n) (s.g _ _ q n) (ImAll.tr s r)
  | _, _, .dcT q n r => .dcT (s.f _ _ q n) (s.g _ _ q n) (ImAll.tr s r)
  | _, _, .dcN q n r => .dcN (s.f _ _ q n) (s.g _ _ q n) (ImAll.tr s r)
  | _, _, .exc c k q n x r => .exc c k (s.f _ _ q n) (s.g _ _ q n) (xu_tr s x) (ImAll.tr s r)
theorem ImAll.tr (s : Stay W W' H H') : ∀ {vs : List V} {ds : List PyData}, ImAll K W H vs ds → ImAll K W' H' vs ds
  | _, _, .nil => .nil
  | _, _, .cons q r => .cons (Im.tr s q) (ImAll.tr s r)
end
theorem ImAll.length : ∀ {vs : List V} {ds : List PyData}, ImAll K W H vs ds → vs.length = ds.length
  | _, _, .nil => rfl
  | _, _, .cons _ r => by rw [List.length_cons, List.length_cons, ImAll.length r]
theorem ImAll.append : ∀ {vs vs' : List V} {ds ds' : List PyData}, ImAll K W H vs ds → ImAll K W H vs' ds' → ImAll K W H (vs ++ vs') (ds ++ ds')
  | _, _, _, _, .nil, s => s
  | _, _, _, _, .cons q r, s => .cons q (ImAll.append r s)
theorem ImAll.get : ∀ {vs : List V} {ds : List PyData} {i : Nat} {v : V}, ImAll K W H vs ds → vs[i]? = some v → ∃ d, ds[i]? = some d ∧ Im K W H v d
  | _, _, 0, _, .cons q _, e => by simp at e; subst e; exact ⟨_, rfl, q⟩
  | _, _, i + 1, v, .cons _ r, e => by simpa using ImAll.get (i := i) (v := v) r (by simpa using e)
theorem ImAll.get' : ∀ {vs : List V} {ds : List PyData} {i : Nat} {d : PyData}, ImAll K W H vs ds → ds[i]? = some d → ∃ v, vs[i]? = some v ∧ Im K W H v d
  | _, _, 0, _, .cons q _, e => by simp at e; subst e; exact ⟨_, rfl, q⟩
  | _, _, i + 1, v, .cons _ r, e => by simpa using ImAll.get' (i := i) (d := v) r (by simpa using e)
theorem ImAll.set {v : V} {d : PyData} (q : Im K W H v d) : ∀ {vs : List V} {ds : List PyData} (i : Nat), ImAll K W H vs ds → ImAll K W H (vs.set i v) (ds.set i d)
  | _, _, _, .nil => .nil
  | _, _, 0, .cons _ t => .cons q t
  | _, _, i + 1, .cons p t => .cons p (ImAll.set q i t)
theorem ImAll.take : ∀ {vs : List V} {ds : List PyData} (n : Nat), ImAll K W H vs ds → ImAll K W H (vs.take n) (ds.take n)
  | _, _, 0, _ => .nil
  | _, _, _ + 1, .nil => .nil
  | _, _, n + 1, .cons r t => .cons r (ImAll.take n t)
theorem ImAll.drop : ∀ {vs : List V} {ds : List PyData} (n : Nat), ImAll K W H vs ds → ImAll K W H (vs.drop n) (ds.drop n)
  | _, _, 0, r => r
  | _, _, _ + 1, .nil => .nil
  | _, _, n + 1, .cons _ t => ImAll.drop n t
theorem ImAll.reverse : ∀ {vs : List V} {ds : List PyData}, ImAll K W H vs ds → ImAll K W H vs.reverse ds.reverse
  | _, _, .nil => .nil
  | _, _, .cons q r => by
    rw [List.reverse_cons, List.reverse_cons]
    exact (ImAll.reverse r).append (.cons q .nil)
mutual
theorem Im.dp : ∀ {v : V} {d : PyData}, Im K W H v d → d.hasDict = false → Dp K H v d
  | _, _, .non, _ => .non
  | _, _, .bl b, _ => .bl b
  | _, _, .int b, _ => .int b
  | _, _, .str b, _ => .str b
  | _, _, .lst q n r, e => .lst (.of q) (ImAll.dp r (by simpa [PyData.hasDict] using e))
  | _, _, .tup q r, e => .tup q.sq (ImAll.dp r (by simpa [PyData.hasDict] using e))
  | _, _, .dct q n r, e => by simp [PyData.hasDict] at e
  | _, _, .dcl q n r, e => by simp [PyData.hasDict] at e
  | _, _, .dcT q n r, e => by simp [PyData.hasDict] at e
  | _, _, .dcN q n r, e => by simp [PyData.hasDict] at e
  | _, _, .exc _ _ _ _ _ _, e => by simp [PyData.hasDict] at e
theorem ImAll.dp : ∀ {vs : List V} {ds : List PyData}, ImAll K W H vs ds → PyData.hasDictAll ds = false → DpAll K H vs ds
  | _, _, .nil, _ => .nil
  | _, _, .cons q r, e => by
    simp only [PyData.hasDictAll, Bool.or_eq_false_iff] at e
    exact .cons (Im.dp q e.1) (ImAll.dp r e.2)
end
end
section
variable {K : Frag} {Z Z' : Zs}
theorem Le.stay (l : Le Z Z') : Stay Z.W Z'.W Z.H Z'.H := ⟨fun b o e n t => l.frm b o e (fun z => n (.inl z)) t, fun _ _ e n _ => l.nw e n⟩
theorem Rp.tr (l : Le Z Z') {v : V} {s : Sl} (h : Rp K Z v s) : Rp K Z' v s := by
  cases s with
  | d x => exact Im.tr l.stay h
  | o i =>
    obtain ⟨a, c, e, e1, e2, e3⟩ := h
    obtain ⟨ψ, q, _⟩ := l.pre
    obtain ⟨c', q1, q2⟩ := l.liv i c e2
    refine ⟨a, c', e, ?_, q1, q2.mp e3⟩
    rw [q, List.getElem?_append_left (List.getElem?_eq_some_iff.mp e1).1]
    exact e1
  | r u => exact h
  | l _ _ _ => exact ⟨h.1, h.2.trans l.stay⟩
  | f ns => obtain ⟨a, e, q⟩ := h; exact ⟨a, e, q.tr l.stay⟩
theorem RpAll.tr (l : Le Z Z') : ∀ {vs : List V} {ss : List Sl}, RpAll K Z vs ss → RpAll K Z' vs ss
  | _, _, .nil => .nil
  | _, _, .cons q r => .cons (q.tr l) (RpAll.tr l r)
theorem RpAll.length : ∀ {vs : List V} {ss : List Sl}, RpAll K Z vs ss → vs.length = ss.length
  | _, _, .nil => rfl
  | _, _, .cons _ r => by rw [List.length_cons, List.length_cons, RpAll.length r]
def Zs.new (Z : Zs) (p : Addr) (o : HO) : Zs := { Z with H := upd Z.H p o }
theorem upd_keep {H : Hp} {p b : Addr} {o u : HO} (n : H p = none) (e : H b = some u) : upd H p o b = some u := by
  rw [upd_ne (ne_of_none e n)]; exact e
theorem Ok.leNew (ok : Ok K Z) {p : Addr} {o : HO} (n : Z.H p = none) : Le Z (Z.new p o) where
  pre := ⟨[], by simp [Zs.new], fun _ h => by cases h⟩
  len := ok.len.symm
  liv := fun h c e => ⟨c, e, Iff.rfl⟩
  frm := fun a u e _ _ => upd_keep n e
  fgn := rfl
  dom := fun a u e => ⟨u, upd_keep n e⟩
theorem XcOk.tr (s : Stay Z.W Z'.W Z.H Z'.H) {fs : List (Str × PyData)} : ∀ {d : Option Addr}, XcOk K Z fs d → XcOk K Z' fs d
  | none, h => h
  | some dx, h => by
    obtain ⟨n, us, e, e2, q⟩ := h
    exact ⟨s.g _ _ e n, us, s.f _ _ e n, e2, ImAll.tr s q⟩
theorem ctok_st (s : Stay Z.W Z'.W Z.H Z'.H) (hr : ∀ {v : V} {x : Sl}, Rp K Z v x → Rp K Z' v x) {a : Addr} (hH : ∀ o, Z.H a = some o → NotTbl o → Z'.H a = some o) (hD : ∀ o, Z.H a = some o → ∃ o', Z'.H a = some o') : ∀ {c : Ct}, CtOk K Z a c → CtOk K Z' a c
  | .lst ds, h => by obtain ⟨vs, e, q⟩ := h; exact ⟨vs, hH _ e (fun _ z => nomatch z), ImAll.tr s q⟩
  | .lsS xs, h => by
    obtain ⟨vs, e, q⟩ := h
    refine ⟨vs, hH _ e (fun _ z => nomatch z), ?_⟩
    have : ∀ {vs : List V} {ss : List Sl}, RpAll K Z vs ss → RpAll K Z' vs ss := by
      intro vs ss r
      induction r with
      | nil => exact .nil
      | cons p _ ih => exact .cons (hr p) ih
    exact this q
  | .dK kvs, h => by obtain ⟨vs, e, e2, q⟩ := h; exact ⟨vs, hH _ e (fun _ z => nomatch z), e2, ImAll.tr s q⟩
  | .dT kvs, h => by obtain ⟨vs, e, e2, q⟩ := h; exact ⟨vs, hH _ e (fun _ z => nomatch z), e2, ImAll.tr s q⟩
  | .ins C fs, h => by
    obtain ⟨dx, us, e, e2, q⟩ := h
    refine ⟨dx, us, hH _ e (fun _ z => nomatch z), e2, ?_⟩
    have : ∀ {vs : List V} {ss : List Sl}, RpAll K Z vs ss → RpAll K Z' vs ss := by
      intro vs ss r
      induction r with
      | nil => exact .nil
      | cons p _ ih => exact .cons (hr p) ih
    exact this q
  | .dN kvs, h => by
    obtain ⟨us, e, e2, q⟩ := h
    refine ⟨us, hH _ e (fun _ z => nomatch z), e2, ?_⟩
    have : ∀ {vs : List V} {ss : List Sl}, RpAll K Z vs ss → RpAll K Z' vs ss := by
      intro vs ss r
      induction r with
      | nil => exact .nil
      | cons p _ ih => exact .cons (hr p) ih
    exact this q
  | .exc c fs, h => by obtain ⟨cv, d, hc, e, q⟩ := h; exact ⟨cv, d, hc, hH _ e (fun _ z => nomatch z), q.tr s⟩
  | .dead, h => fun z => by
    cases q : Z.H a with
    | none => exact h q
    | some o => obtain ⟨o', e'⟩ := hD _ q; rw [e'] at z; cases z
theorem tabs_upd1 {T : List (Addr × Str)} {H : Hp} {a : Addr} {o : HO} (t : LamX.Tabs T H) (h1 : ∀ ps, H a ≠ some (.tbl ps)) (h2 : ∀ c q, H a ≠ some (LamX.CodeO c q)) : LamX.Tabs T (upd H a o) := fun p hp => by
  obtain ⟨ps, e1, e2, e3⟩ := t p hp
  refine ⟨ps, ?_, e2, fun pos cv hc => ?_⟩
  · rw [upd_ne (fun z => h1 ps (by rw [← z]; exact e1))]; exact e1
  · obtain ⟨c, q1, q2⟩ := e3 pos cv hc
    exact ⟨c, q1, by rw [upd_ne (fun z => h2 c _ (by rw [← z]; exact q2))]; exact q2⟩
theorem tabs_upd {W W' : Addr → Prop} {H : Hp} {a : Addr} {o : HO} (t : TabOk W H) (h1 : ∀ ps, H a ≠ some (.tbl ps)) (h2 : ∀ c q, H a ≠ some (LamX.CodeO c q)) (hW : ∀ x, W' x → W x ∨ H x = none) (ho : NotTbl o := by exact fun _ z => nomatch z) (ht : ∀ xs, o = .tup xs → ¬ W' a := by exact fun _ z => nomatch z) : TabOk W' (upd H a o) :=
  ⟨tabs_upd1 t.1 h1 h2, fun b ps e => by
    by_cases hb : b = a
    · subst hb
      rw [upd_same] at e
      exact absurd (Option.some.inj e) (ho ps)
    · rw [upd_ne hb] at e
      exact t.2.1 b ps e, (fun p hp ps e pos c hc w => by
    obtain ⟨us, e1, e2, e3⟩ := t.1 p hp
    have hp1 : p.1 ≠ a := fun z => h1 us (by rw [← z]; exact e1)
    rw [upd_ne hp1, e1] at e
    cases e
    rcases hW c w with z | z
    · exact t.2.2.1 p hp _ e1 pos c hc z
    · obtain ⟨c', q1, q2⟩ := e3 pos _ hc
      cases q1
      rw [z] at q2
      cases q2), fun b xs e w => by
    by_cases hb : b = a
    · subst hb
      rw [upd_same] at e
      exact ht xs (Option.some.inj e) w
    · rw [upd_ne hb] at e
      rcases hW b w with z | z
      · exact t.2.2.2 b xs e z
      · rw [z] at e; cases e⟩
theorem tabs_new {W W' : Addr → Prop} {H : Hp} {a : Addr} {o : HO} (t : TabOk W H) (n : H a = none) (hW : ∀ x, W' x → W x ∨ H x = none) (ho : NotTbl o := by exact fun _ z => nomatch z) (ht : ∀ xs, o = .tup xs → ¬ W' a := by exact fun _ z => nomatch z) : TabOk W' (upd H a o) := tabs_upd t (fun _ z => by rw [n] at z; cases z) (fun _ _ z => by rw [n] at z; cases z) hW ho ht
theorem CtOk.notup {K : Frag} {Z : Zs} {a : Addr} {c : Ct} (h : CtOk K Z a c) (l : c.live) (xs : List V) : Z.H a ≠ some (.tup xs) := fun z => by
  cases c with
  | lst ds => obtain ⟨vs, e, _⟩ := h; rw [e] at z; cases z
  | lsS ds => obtain ⟨vs, e, _⟩ := h; rw [e] at z; cases z
  | dK ds => obtain ⟨vs, e, _⟩ := h; rw [e] at z; cases z
  | dT ds => obtain ⟨vs, e, _⟩ := h; rw [e] at z; cases z
  | ins C fs => obtain ⟨dx, us, e, _⟩ := h; rw [e] at z; cases z
  | dN kvs => obtain ⟨us, e, _⟩ := h; rw [e] at z; cases z
  | exc c fs => obtain ⟨cv, d, _, e, _⟩ := h; rw [e] at z; cases z
  | dead => exact l
theorem Le.w {Z Z' : Zs} (l : Le Z Z') : ∀ x, Z'.W x → Z.W x ∨ Z.H x = none := fun x w => by
  rcases w with w | w
  · exact (l.o w).elim (fun z => .inl (.inl z)) .inr
  · rw [l.fgn] at w; exact .inl (.inr w)
theorem Ok.new (ok : Ok K Z) {p : Addr} {o : HO} (n : Z.H p = none) (ho : NotTbl o := by exact fun _ z => nomatch z) : Ok K (Z.new p o) where
  len := ok.len
  nd := ok.nd
  ct := fun h a c e1 e2 => ctok_st (ok.leNew n).stay (fun q => q.tr (ok.leNew n)) (fun u e _ => upd_keep n e) (fun u e => ⟨u, upd_keep n e⟩) (ok.ct h a c e1 e2)
  fo := fun a h => let ⟨u, e⟩ := ok.fo a h; ⟨u, upd_keep n e⟩
  fd := ok.fd
  tb := tabs_new ok.tb n (ok.leNew (o := o) n).w ho fun _ _ w => ok.nw n w
theorem Ok.rpL (ok : Ok K Z) {p : Addr} {xs : List V} {ds : List PyData} (n : Z.H p = none) (h : Z.ImAll K xs ds) : Rp K (Z.new p (.lst xs)) (.ref p) (.d (.list ds)) :=
  Im.lst upd_same (fun w => ok.nw n w) (ImAll.tr (ok.leNew n).stay h)
theorem Ok.rpT (ok : Ok K Z) {p : Addr} {xs : List V} {ds : List PyData} (n : Z.H p = none) (h : Z.ImAll K xs ds) : Rp K (Z.new p (.tup xs)) (.ref p) (.d (.tuple ds)) :=
  Im.tup (.inl ⟨upd_same, fun w => ok.nw n w⟩) (ImAll.tr (ok.leNew n).stay h)
def vw (st : Sto) : Sl → Option PyData
  | .d x => some x
  | .o h => match st[h]? with
    | some (.lst ds) => some (.list ds)
    | _ => none
  | .r _ => none
  | .l _ _ _ => none
  | .f _ => none
theorem Rp.list (ok : Ok K Z) {v : V} {s : Sl} {ds : List PyData} (h : Rp K Z v s) (e : vw Z.st s = some (.list ds)) : ∃ a xs, v = .ref a ∧ Z.H a = some (.lst xs) ∧ Z.ImAll K xs ds := by
  cases s with
  | d x =>
    simp only [vw, Option.some.injEq] at e
    subst e
    cases h with
    | lst q _ r => exact ⟨_, _, rfl, q, r⟩
  | o i =>
    obtain ⟨a, c, ev, e1, e2, e3⟩ := h
    simp only [vw, e2] at e
    cases c with
    | lst ds' =>
      simp only [Option.some.injEq, PyData.list.injEq] at e
      subst e
      obtain ⟨vs, q, r⟩ := ok.ct i a _ e1 e2
      exact ⟨a, vs, ev, q, r⟩
    | _ => simp at e
  | r u => simp [vw] at e
  | l _ _ _ => simp [vw] at e
  | f ns => simp [vw] at e
theorem Rp.data {v : V} {s : Sl} {x : PyData} (h : Rp K Z v s) (e : vw Z.st s = some x) (n : ∀ ds, x ≠ .list ds) : Z.Im K v x := by
  cases s with
  | d y => simp only [vw, Option.some.injEq] at e; subst e; exact h
  | o i =>
    obtain ⟨a, c, ev, e1, e2, e3⟩ := h
    simp only [vw, e2] at e
    cases c with
    | lst ds' => simp only [Option.some.injEq] at e; exact absurd e.symm (n ds')
    | _ => simp at e
  | r u => simp [vw] at e
  | l _ _ _ => simp [vw] at e
  | f ns => simp [vw] at e
theorem Rp.int {v : V} {s : Sl} {i : Int} (h : Rp K Z v s) (e : vw Z.st s = some (.int i)) : v = .int i := by
  have q := h.data e (fun _ z => nomatch z); cases q; rfl
theorem Rp.str {v : V} {s : Sl} {i : Str} (h : Rp K Z v s) (e : vw Z.st s = some (.str i)) : v = .str i := by
  have q := h.data e (fun _ z => nomatch z); cases q; rfl
theorem Rp.bl {v : V} {s : Sl} {i : Bool} (h : Rp K Z v s) (e : vw Z.st s = some (.bool i)) : v = .bl i := by
  have q := h.data e (fun _ z => nomatch z); cases q; rfl
theorem Rp.non {v : V} {s : Sl} (h : Rp K Z v s) (e : vw Z.st s = some .none) : v = .non := by
  have q := h.data e (fun _ z => nomatch z); cases q; rfl
theorem Rp.tuple {v : V} {s : Sl} {ds : List PyData} (h : Rp K Z v s) (e : vw Z.st s = some (.tuple ds)) : ∃ a xs, v = .ref a ∧ ImT K Z.W Z.H a xs ∧ Z.ImAll K xs ds := by
  have q := h.data e (fun _ z => nomatch z)
  cases q with
  | tup q r => exact ⟨_, _, rfl, q, r⟩
theorem Rp.dp (ok : Ok K Z) {v : V} {s : Sl} {x : PyData} (h : Rp K Z v s) (e : vw Z.st s = some x) (n : x.hasDict = false) : Dp K Z.H v x := by
  cases s with
  | d y => simp only [vw, Option.some.injEq] at e; subst e; exact Im.dp h n
  | o i =>
    obtain ⟨a, c, ev, e1, e2, e3⟩ := id h
    simp only [vw, e2] at e
    cases c with
    | lst ds' =>
      simp only [Option.some.injEq] at e
      subst e
      obtain ⟨vs, q, r⟩ := ok.ct i a _ e1 e2
      subst ev
      exact .lst (.of q) (ImAll.dp r (by simpa [PyData.hasDict] using n))
    | _ => simp at e
  | r u => simp [vw] at e
  | l _ _ _ => simp [vw] at e
  | f ns => simp [vw] at e
end
abbrev DK := Sl → Sto → Prop
abbrev DX := Str → List (Str × PyData) → Sls → Sto → Prop
abbrev DE := DX → Sls → Sto → DK → Prop
abbrev DT := DX → Sls → Sto → (Bool → Sto → Prop) → Prop
abbrev DA := DX → Sls → Sto → (List Sl → Sto → Prop) → Prop
structure DEnds where
  nx : Sls → Sto → Prop
  rt : DK
  ex : DX
  bk : Sls → Sto → Prop := fun _ _ => False
  ct : Sls → Sto → Prop := fun _ _ => False
abbrev DS := DEnds → Sls → Sto → Prop
def nthS : Sls → Nat → Option Sl
  | [], _ => none
  | s :: _, 0 => s
  | _ :: r, i + 1 => nthS r i
theorem nthS_get : ∀ {sl : Sls} {i : Nat} {s : Sl}, nthS sl i = some s → sl[i]? = some (some s)
  | [], _, _, h => by simp [nthS] at h
  | _ :: _, 0, _, h => by simp [nthS] at h; simp [h]
  | _ :: r, i + 1, s, h => by
    rw [List.getElem?_cons_succ]
    exact nthS_get (by simpa [nthS] using h)
structure SlOk (K : Frag) (Z : Zs) (σ : L2.St) (sl : Sls) : Prop where
  len : sl.length = σ.length
  has : ∀ (i : Nat) (s : Sl), sl[i]? = some (some s) → ∃ v, σ[i]? = some (some v) ∧ Rp K Z v s
theorem SlOk.tr {K : Frag} {Z Z' : Zs} {σ : L2.St} {sl : Sls} (l : Le Z Z') (h : SlOk K Z σ sl) : SlOk K Z' σ sl :=
  ⟨h.len, fun i s e => let ⟨v, q, r⟩ := h.has i s e; ⟨v, q, r.tr l⟩⟩
theorem SlOk.set {K : Frag} {Z : Zs} {σ : L2.St} {sl : Sls} (h : SlOk K Z σ sl) (i : Nat) {v : V} {s : Sl} (r : Rp K Z v s) : SlOk K Z (σ.set i (some v)) (sl.set i (some s)) := by
  refine ⟨by simpa using h.len, fun j t e => ?_⟩
  by_cases hj : i = j
  · subst hj
    have hi : i < sl.length := by
      rcases Nat.lt_or_ge i sl.length with q | q
      · exact q
      · rw [List.getElem?_eq_none (by simpa using q)] at e; cases e
    rw [List.getElem?_set_self hi] at e
    cases e
    exact ⟨v, List.getElem?_set_self (by rw [← h.len]; exact hi), r⟩
  · rw [List.getElem?_set_ne hj] at e
    obtain ⟨u, q, r'⟩ := h.has j t e
    exact ⟨u, by rw [List.getElem?_set_ne hj]; exact q, r'⟩
def KOk (K : Frag) (Z : Zs) (Qd : DK) (Q : VK) : Prop := ∀ (Z' : Zs) (v : V) (s : Sl), Le Z Z' → Ok K Z' → Rp K Z' v s → Qd s Z'.st → Q v Z'.H
def KTOk (K : Frag) (Z : Zs) (Qd : Bool → Sto → Prop) (Q : Bool → Hp → Prop) : Prop := ∀ (Z' : Zs) (b : Bool), Le Z Z' → Ok K Z' → Qd b Z'.st → Q b Z'.H
def KAOk (K : Frag) (Z : Zs) (Qd : List Sl → Sto → Prop) (Q : List V → Hp → Prop) : Prop := ∀ (Z' : Zs) (vs : List V) (ss : List Sl), Le Z Z' → Ok K Z' → RpAll K Z' vs ss → Qd ss Z'.st → Q vs Z'.H
abbrev XdOk (K : Frag) (Z : Zs) (fs : List (Str × PyData)) (d : Option Addr) : Prop := XcOk K Z fs d
abbrev WXs := Value → Option Addr → L2.St → Hp → Prop
abbrev W0 : WXs := fun _ _ _ _ => False
def KXOk (K : Frag) (Z : Zs) (Ed : DX) (E : WXs) : Prop := ∀ (Z' : Zs) (σ : L2.St) (sl : Sls) (c : Value) (x : Str) (d : Option Addr) (fs : List (Str × PyData)), Le Z Z' → Ok K Z' → SlOk K Z' σ sl → XdOk K Z' fs d → ClsV K x c → Ed x fs sl Z'.st → E c d σ Z'.H
theorem KXOk.le {K : Frag} {Z Z1 : Zs} {Ed : DX} {E : WXs} (l : Le Z Z1) (h : KXOk K Z Ed E) : KXOk K Z1 Ed E := fun Z' σ sl c x d fs l' => h Z' σ sl c x d fs (l.trans l')
theorem KOk.le {K : Frag} {Z Z1 : Zs} {Qd : DK} {Q : VK} (l : Le Z Z1) (h : KOk K Z Qd Q) : KOk K Z1 Qd Q := fun Z' v s l' => h Z' v s (l.trans l')
def upE (K : Frag) (E : WXs) (τ : DE) : TE := fun σ H Q => ∃ (Z : Zs) (sl : Sls) (Qd : DK) (Ed : DX), Z.H = H ∧ Ok K Z ∧ SlOk K Z σ sl ∧ τ Ed sl Z.st Qd ∧ KOk K Z Qd Q ∧ KXOk K Z Ed E
def upT (K : Frag) (E : WXs) (τ : DT) : TT := fun σ H Q => ∃ (Z : Zs) (sl : Sls) (Qd : Bool → Sto → Prop) (Ed : DX), Z.H = H ∧ Ok K Z ∧ SlOk K Z σ sl ∧ τ Ed sl Z.st Qd ∧ KTOk K Z Qd Q ∧ KXOk K Z Ed E
def upA (K : Frag) (E : WXs) (τ : DA) : TA := fun σ H Q => ∃ (Z : Zs) (sl : Sls) (Qd : List Sl → Sto → Prop) (Ed : DX), Z.H = H ∧ Ok K Z ∧ SlOk K Z σ sl ∧ τ Ed sl Z.st Qd ∧ KAOk K Z Qd Q ∧ KXOk K Z Ed E
structure DEx (X : Cx) (E : WXs) (e : Expr) (τ : DE) : Prop where
  run : PE X e (upE X.K E τ)
structure DTs (X : Cx) (E : WXs) (e : Expr) (τ : DT) : Prop where
  run : PT X e (upT X.K E τ)
structure DWs (X : Cx) (E : WXs) (e : Expr) (τ : DT) : Prop where
  run : PW X e (upT X.K E τ)
structure DAs (X : Cx) (E : WXs) (es : List Expr) (τ : DA) : Prop where
  run : PA X es (upA X.K E τ)
abbrev Kp (Z Z' : Zs) : Prop := Stay Z.W Z'.W Z.H Z'.H
def KXK (K : Frag) (Z0 Zc : Zs) (Ed : DX) (E : WXs) : Prop := ∀ (Z' : Zs) (σ : L2.St) (sl : Sls) (c : Value) (x : Str) (d : Option Addr) (fs : List (Str × PyData)), Le Z0 Z' → Kp Zc Z' → Ok K Z' → SlOk K Z' σ sl → XdOk K Z' fs d → ClsV K x c → Ed x fs sl Z'.st → E c d σ Z'.H
theorem KXK.le {K : Frag} {Z0 Z : Zs} {Ed : DX} {E : WXs} (h : KXK K Z0 Z Ed E) (l : Le Z0 Z) : KXOk K Z Ed E := fun Z' σ sl c x d fs l' => h Z' σ sl c x d fs (l.trans l') l'.stay
theorem KXK.at {K : Frag} {Z0 Zc Z1 : Zs} {Ed : DX} {E : WXs} (h : KXK K Z0 Zc Ed E) (l : Kp Zc Z1) : KXK K Z0 Z1 Ed E := fun Z' σ sl c x d fs l0 l' => h Z' σ sl c x d fs l0 (l.trans l')
structure EndsOk (K : Frag) (E : WXs) (Z0 Zc : Zs) (Dd : DEnds) (D : Ends) : Prop where
  nx : ∀ (Z : Zs) (sl : Sls) (σ : L2.St), Le Z0 Z → Kp Zc Z → Ok K Z → SlOk K Z σ sl → Dd.nx sl Z.st → D.nx σ Z.H
  rt : ∀ (Z : Zs) (v : V) (s : Sl), Le Z0 Z → Ok K Z → Rp K Z v s → Dd.rt s Z.st → D.rt v Z.H
  ex : KXK K Z0 Zc Dd.ex E
  bk : ∀ (Z : Zs) (sl : Sls) (σ : L2.St), Le Z0 Z → Kp Zc Z → Ok K Z → SlOk K Z σ sl → Dd.bk sl Z.st → D.bk σ Z.H
  ct : ∀ (Z : Zs) (sl : Sls) (σ : L2.St), Le Z0 Z → Kp Zc Z → Ok K Z → SlOk K Z σ sl → Dd.ct sl Z.st → D.ct σ Z.H
theorem EndsOk.at {K : Frag} {E : WXs} {Z0 Zc Z1 : Zs} {Dd : DEnds} {D : Ends} (h : EndsOk K E Z0 Zc Dd D) (l : Kp Zc Z1) : EndsOk K E Z0 Z1 Dd D :=
  ⟨fun Z sl σ a b => h.nx Z sl σ a (l.trans b), h.rt, h.ex.at l, fun Z sl σ a b => h.bk Z sl σ a (l.trans b), fun Z sl σ a b => h.ct Z sl σ a (l.trans b)⟩
def upS (K : Frag) (E : WXs) (Z0 : Zs) (τ : DS) : TS := fun D σ H => ∃ (Z : Zs) (sl : Sls) (Dd : DEnds), Z.H = H ∧ Le Z0 Z ∧ Ok K Z ∧ SlOk K Z σ sl ∧ τ Dd sl Z.st ∧ EndsOk K E Z0 Z Dd D
structure DSt (X : Cx) (E : WXs) (Z0 : Zs) (st : Stmt) (τ : DS) : Prop where
  run : PS X st (upS X.K E Z0 τ)
structure DSs (X : Cx) (E : WXs) (Z0 : Zs) (st : List Stmt) (τ : DS) : Prop where
  run : PSs X st (upS X.K E Z0 τ)
section
variable {X : Cx}
theorem peI {e : Expr} {t t' : TE} (h : PE X e t) (i : ∀ σ H Q, t' σ H Q → t σ H Q) : PE X e t' := ⟨fun pins s σ H Q I q => h.run pins s σ H Q I (i σ H Q q)⟩
theorem ptI {e : Expr} {t t' : TT} (h : PT X e t) (i : ∀ σ H Q, t' σ H Q → t σ H Q) : PT X e t' := ⟨fun pins s σ H Q I q => h.run pins s σ H Q I (i σ H Q q)⟩
theorem pwI {e : Expr} {t t' : TT} (h : PW X e t) (i : ∀ σ H Q, t' σ H Q → t σ H Q) : PW X e t' := ⟨fun wh pins s σ H Q I q => h.run wh pins s σ H Q I (i σ H Q q)⟩
theorem paI {e : List Expr} {t t' : TA} (h : PA X e t) (i : ∀ σ H Q, t' σ H Q → t σ H Q) : PA X e t' := ⟨fun po pins s σ H Q I q => h.run po pins s σ H Q I (i σ H Q q)⟩
theorem psI {e : Stmt} {t t' : TS} (h : PS X e t) (i : ∀ D σ H, t' D σ H → t D σ H) : PS X e t' := ⟨fun pins s σ H D I q => h.run pins s σ H D I (i D σ H q)⟩
theorem pssI {e : List Stmt} {t t' : TS} (h : PSs X e t) (i : ∀ D σ H, t' D σ H → t D σ H) : PSs X e t' := ⟨fun pins s σ H D I q => h.run pins s σ H D I (i D σ H q)⟩
end
section
variable {X : Cx} {E : WXs} {Z0 : Zs} {a b c : Expr} {ta tb tc : DE} {pos : Pos}
def wC (s : Sl) : DE := fun _ _ st Q => Q s st
def wVar (i : Nat) : DE := fun _ sl st Q => match nthS sl i with
  | some s => Q s st
  | none => False
theorem de_c {e : Expr} {v : V} {x : PyData} (h : PE X e (tC v)) (r : ∀ (Z : Zs), Z.Im X.K v x) : DEx X E e (wC (.d x)) := ⟨peI h fun σ H Q ⟨Z, sl, Qd, Ed, e, ok, so, w, k, kx⟩ => by
  subst e
  exact k Z v (.d x) (.refl ok) ok (r Z) w⟩
theorem de_int {i j pos} : DEx X E (.Constant (.int i) j pos) (wC (.d (.int i))) := de_c pe_int fun _ => .int i
theorem de_bl {i j pos} : DEx X E (.Constant (.bool i) j pos) (wC (.d (.bool i))) := de_c pe_bl fun _ => .bl i
theorem de_str {i j pos} : DEx X E (.Constant (.str i) j pos) (wC (.d (.str i))) := de_c pe_str fun _ => .str i
theorem de_v (i : Nat) {x : Str} (h : PE X (.Name x pos) (tVar i)) : DEx X E (.Name x pos) (wVar i) := ⟨peI h fun σ H Q ⟨Z, sl, Qd, Ed, e, ok, so, w, k, kx⟩ => by
  subst e
  unfold wVar at w
  split at w
  · rename_i s es
    obtain ⟨v, q, r⟩ := so.has i s (nthS_get es)
    exact ⟨v, q, k Z v s (.refl ok) ok r w⟩
  · exact w.elim⟩
def D2 (K : Frag) (r : R2) (f : Sl → Sl → Sto → DK → Prop) : Prop := ∀ (Z : Zs) (v u : V) (s t : Sl) (Qd : DK) (Q : VK), Ok K Z → Rp K Z v s → Rp K Z u t → f s t Z.st Qd → KOk K Z Qd Q → r v u Z.H Q
def wOp (f : Sl → Sl → Sto → DK → Prop) (ta tb : DE) : DE := fun Ed sl st Q => ta Ed sl st fun x st => tb Ed sl st fun y st => f x y st Q
theorem wOp_ok {K : Frag} {r : R2} {f : Sl → Sl → Sto → DK → Prop} (hd : D2 K r f) (σ : L2.St) (H : Hp) (Q : VK) (h : upE K E (wOp f ta tb) σ H Q) : tOp r (upE K E ta) (upE K E tb) σ H Q := by
  obtain ⟨Z, sl, Qd, Ed, e, ok, so, w, k, kx⟩ := h
  refine ⟨Z, sl, _, Ed, e, ok, so, w, fun Z1 v s l1 ok1 r1 w1 => ?_, kx⟩
  refine ⟨Z1, sl, _, Ed, rfl, ok1, so.tr l1, w1, fun Z2 u t l2 ok2 r2 w2 => ?_, kx.le l1⟩
  exact hd Z2 v u s t Qd Q ok2 (r1.tr l2) r2 w2 (k.le (l1.trans l2))
theorem de_op {op : Operator} {r : R2} {f : Sl → Sl → Sto → DK → Prop} (hd : D2 X.K r f) (ho : OpR X (binaryOp op) r) (ha : DEx X E a ta) (hb : DEx X E b tb) : DEx X E (.BinOp a op b pos) (wOp f ta tb) :=
  ⟨peI (pe_op ho ha.run hb.run) (wOp_ok hd)⟩
theorem de_cmp {op : CmpOp} {r : R2} {f : Sl → Sl → Sto → DK → Prop} (hd : D2 X.K r f) (ho : OpR X (compareOp op) r) (ha : DEx X E a ta) (hb : DEx X E b tb) (hm : behindInMarks op b = false) : DEx X E (.Compare a [op] [b] pos) (wOp f ta tb) :=
  ⟨peI (pe_cmpR ho ha.run hb.run hm) (wOp_ok hd)⟩
def wTest (t : DE) : DT := fun Ed sl st Q => t Ed sl st fun s st => match s with
  | .d (.bool b) => Q b st
  | _ => False
theorem dt_cmp {op : CmpOp} {r : R2} {f : Sl → Sl → Sto → DK → Prop} (hd : D2 X.K r f) (ho : OpR X (compareOp op) r) (ha : DEx X E a ta) (hb : DEx X E b tb) (hm : behindInMarks op b = false) : DTs X E (.Compare a [op] [b] pos) (wTest (wOp f ta tb)) :=
  ⟨ptI (pt_cmpR ho ha.run hb.run hm) fun σ H Q h => wOp_ok hd σ H _ (by
    obtain ⟨Z, sl, Qd, Ed, e, ok, so, w, k, kx⟩ := h
    exact ⟨Z, sl, _, Ed, e, ok, so, w, (fun Z1 v s l1 ok1 r1 w1 => by
      simp only at w1
      split at w1
      · cases r1
        exact ⟨_, rfl, k Z1 _ l1 ok1 w1⟩
      · exact w1.elim), kx⟩)⟩
end
end Pz
set_option maxRecDepth 100000
namespace Pz
open PySem PySem.Spec PyProof.Rows L2 TL
variable [TabC]
section
variable {K : Frag} {Z : Zs}
theorem KOk.now {Qd : DK} {Q : VK} (k : KOk K Z Qd Q) (ok : Ok K Z) {v : V} {x : PyData} (r : Z.Im K v x) (q : Qd (.d x) Z.st) : Q v Z.H := k Z v (.d x) (.refl ok) ok r q
theorem KOk.same {Qd : DK} {Q : VK} (k : KOk K Z Qd Q) (ok : Ok K Z) {v : V} {s : Sl} (r : Rp K Z v s) (q : Qd s Z.st) : Q v Z.H := k Z v s (.refl ok) ok r q
theorem KOk.newL {Qd : DK} {Q : VK} (k : KOk K Z Qd Q) (ok : Ok K Z) {xs : List V} {ds : List PyData} (r : Z.ImAll K xs ds) (q : Qd (.d (.list ds)) Z.st) : ∀ p, Z.H p = none → Q (.ref p) (upd Z.H p (.lst xs)) :=
  fun p n => k (Z.new p (.lst xs)) (.ref p) _ (ok.leNew n) (ok.new n) (ok.rpL n r) q
theorem KOk.newT {Qd : DK} {Q : VK} (k : KOk K Z Qd Q) (ok : Ok K Z) {xs : List V} {ds : List PyData} (r : Z.ImAll K xs ds) (q : Qd (.d (.tuple ds)) Z.st) : ∀ p, Z.H p = none → Q (.ref p) (upd Z.H p (.tup xs)) :=
  fun p n => k (Z.new p (.tup xs)) (.ref p) _ (ok.leNew n) (ok.new n) (ok.rpT n r) q
theorem ImAll.nilIff {W : Addr → Prop} {H : Hp} {vs : List V} {ds : List PyData} (h : ImAll K W H vs ds) : vs = [] ↔ ds = [] := by
  cases h <;> simp
end
def oAdd (x y : Sl) (st : Sto) (Q : DK) : Prop := match vw st x, vw st y with
  | some (.int i), some (.int j) => Q (.d (.int (i + j))) st
  | some (.str a), some (.str b) => a.length + b.length ≤ sizeLine ∧ Q (.d (.str (a ++ b))) st
  | some (.list a), some (.list b) => a.length + b.length ≤ sizeLine ∧ Q (.d (.list (a ++ b))) st
  | some (.tuple a), some (.tuple b) => a.length + b.length ≤ sizeLine ∧ Q (.d (.tuple (a ++ b))) st
  | _, _ => False
def rAdd (K : Frag) : R2 := fun x y H Q => rI0 (fun i j => .int (i + j)) x y H Q ∨ (∃ i j, x = .str i ∧ y = .str j ∧ i.length + j.length ≤ sizeLine ∧ Q (.str (i ++ j)) H) ∨ rCat x y H Q ∨ rCatA K x y H Q
theorem op_addR {X : Cx} : OpR X (binaryOp .Add) (rAdd X.K) := op_add.or (op_add_str.or (op_cat.or op_catA))
theorem d2_add {K : Frag} : D2 K (rAdd K) oAdd := by
  intro Z v u s t Qd Q ok r1 r2 w k
  unfold oAdd at w
  split at w
  · rename_i i j e1 e2
    exact .inl ⟨i, j, r1.int e1, r2.int e2, k.now ok (.int _) w⟩
  · rename_i a b e1 e2
    exact .inr (.inl ⟨a, b, r1.str e1, r2.str e2, w.1, k.now ok (.str _) w.2⟩)
  · rename_i a b e1 e2
    obtain ⟨p, xs, rfl, h1, q1⟩ := r1.list ok e1
    obtain ⟨p2, ys, rfl, h2, q2⟩ := r2.list ok e2
    exact .inr (.inr (.inl ⟨p, p2, xs, ys, rfl, rfl, h1, h2, by rw [q1.length, q2.length]; exact w.1, k.newL ok (q1.append q2) w.2⟩))
  · rename_i a b e1 e2
    obtain ⟨p, xs, rfl, h1, q1⟩ := r1.tuple e1
    obtain ⟨p2, ys, rfl, h2, q2⟩ := r2.tuple e2
    refine .inr (.inr (.inr ⟨p, p2, xs, ys, rfl, rfl, h1.sq, h2.sq, by rw [q1.length, q2.length]; exact w.1, fun z => ?_, fun _ z => ?_, fun _ _ => k.newT ok (q1.append q2) w.2⟩))
    · have z' := q1.nilIff.mp z
      subst z'
      exact k.now ok (.tup h2 q2) (by simpa using w.2)
    · have z' := q2.nilIff.mp z
      subst z'
      exact k.now ok (.tup h1 q1) (by simpa using w.2)
  · exact w.elim
def oSub (x y : Sl) (st : Sto) (Q : DK) : Prop := match vw st x, vw st y with
  | some (.int i), some (.int j) => Q (.d (.int (i - j))) st
  | _, _ => False
theorem op_mul_str {X : Cx} : OpR X (binaryOp .Mult) (fun x y H Q => ∃ a n, x = .str a ∧ y = .int n ∧ -(2 ^ 63) ≤ n ∧ n < 2 ^ 63 ∧ a.length * n.toNat ≤ sizeLine ∧ Q (.str (Txt.mul a n)) H) := by
  intro pins s σ H x y v u Q I rx ry h
  obtain ⟨a, n, rfl, rfl, h1, h2, h3, q⟩ := h
  obtain ⟨t, rfl⟩ := rx
  obtain ⟨t', rfl⟩ := ry
  refine SB.mul ⟨?_, fun n1 _ => ?_, fun n1 _ => ?_⟩ fun t' k => ⟨.str _, H, I.tok _, ⟨_, rfl⟩, q⟩
  · have e1 : decide (n < -(2 ^ 63 : Int)) = false := decide_eq_false (by omega)
    have e2 : decide (n ≥ 2 ^ 63) = false := decide_eq_false (by omega)
    rw [e1, e2]; rfl
  · intro z
    have hs : sizeLine = 16777216 := sizeLine_eq
    have hn : (n.toNat : Int) = n := Int.toNat_of_nonneg (by omega)
    have h4 : (a.length : Int) * n ≤ 16777216 := by
      rw [← hn]
      have : ((a.length * n.toNat : Nat) : Int) ≤ 16777216 := by omega
      simpa using this
    have h5 : ((2 ^ 63 - 1) / n + 1) * n ≤ (a.length : Int) * n := Int.mul_le_mul_of_nonneg_right (by omega) (by omega)
    have h6 : n * ((2 ^ 63 - 1) / n) + (2 ^ 63 - 1) % n = (2 ^ 63 - 1 : Int) := Int.mul_ediv_add_emod _ _
    have h7 : (2 ^ 63 - 1 : Int) % n < n := Int.emod_lt_of_pos _ (by omega)
    rw [Int.add_mul, Int.one_mul, Int.mul_comm] at h5
    generalize n * ((2 ^ 63 - 1) / n) = q at h5 h6
    generalize (a.length : Int) * n = m at h4 h5
    generalize (2 ^ 63 - 1 : Int) % n = r at h6 h7
    omega
  · unfold Builtin.Str.tooLong
    exact decide_eq_false (by omega)
def SmallI (i : Int) : Prop := -(2 ^ 64) < i ∧ i < 2 ^ 64
instance {i : Int} : Decidable (SmallI i) := inferInstanceAs (Decidable (_ ∧ _))
def oMul (x y : Sl) (st : Sto) (Q : DK) : Prop := match vw st x, vw st y with
  | some (.int i), some (.int j) => (SmallI i ∨ SmallI j) ∧ Q (.d (.int (i * j))) st
  | some (.list a), some (.int j) => -(2 ^ 63) ≤ j ∧ j < 2 ^ 63 ∧ a.length * j.toNat ≤ sizeLine ∧ Q (.d (.list (List.replicate j.toNat a).flatten)) st
  | some (.str a), some (.int j) => -(2 ^ 63) ≤ j ∧ j < 2 ^ 63 ∧ a.length * j.toNat ≤ sizeLine ∧ Q (.d (.str (Txt.mul a j))) st
  | _, _ => False
def rMul : R2 := fun x y H Q => rI CMul (fun i j => .int (i * j)) x y H Q ∨ rRep x y H Q ∨ ∃ a n, x = .str a ∧ y = .int n ∧ -(2 ^ 63) ≤ n ∧ n < 2 ^ 63 ∧ a.length * n.toNat ≤ sizeLine ∧ Q (.str (Txt.mul a n)) H
theorem op_mulR {X : Cx} : OpR X (binaryOp .Mult) rMul := op_mul.or (op_rep.or op_mul_str)
theorem ImAll.rep {K : Frag} {W : Addr → Prop} {H : Hp} {vs : List V} {ds : List PyData} (h : ImAll K W H vs ds) : ∀ n : Nat, ImAll K W H (List.replicate n vs).flatten (List.replicate n ds).flatten
  | 0 => .nil
  | n + 1 => by
    rw [List.replicate_succ, List.replicate_succ, List.flatten_cons, List.flatten_cons]
    exact h.append (ImAll.rep h n)
theorem d2_mul {K : Frag} : D2 K rMul oMul := by
  intro Z v u s t Qd Q ok r1 r2 w k
  unfold oMul at w
  split at w
  · rename_i i j e1 e2
    exact .inl ⟨i, j, r1.int e1, r2.int e2, w.1, k.now ok (.int _) w.2⟩
  · rename_i a j e1 e2
    obtain ⟨p, xs, rfl, h1, q1⟩ := r1.list ok e1
    obtain ⟨w1, w2, w3, w4⟩ := w
    exact .inr (.inl ⟨p, j, xs, rfl, r2.int e2, h1, w1, w2, by rw [q1.length]; exact w3, k.newL ok (q1.rep _) w4⟩)
  · rename_i a j e1 e2
    obtain ⟨w1, w2, w3, w4⟩ := w
    exact .inr (.inr ⟨a, j, r1.str e1, r2.int e2, w1, w2, w3, k.now ok (.str _) w4⟩)
  · exact w.elim
def oII (C : Int → Int → Prop) (g : Int → Int → PyData) (x y : Sl) (st : Sto) (Q : DK) : Prop := match vw st x, vw st y with
  | some (.int i), some (.int j) => C i j ∧ Q (.d (g i j)) st
  | _, _ => False
theorem d2_ii {K : Frag} {C : Int → Int → Prop} {g : Int → Int → Int} : D2 K (rI C fun i j => .int (g i j)) (oII C fun i j => .int (g i j)) := by
  intro Z v u s t Qd Q ok r1 r2 w k
  unfold oII at w
  split at w
  · rename_i i j e1 e2
    exact ⟨i, j, r1.int e1, r2.int e2, w.1, k.now ok (.int _) w.2⟩
  · exact w.elim
def oFdiv := oII CDivW fun i j => .int (i / j)
def oMod := oII (fun _ j => 0 < j) fun i j => .int (i % j)
def oPow := oII CPow fun i j => .int (i ^ j.toNat)
def oShl := oII CPow fun i j => .int (i * 2 ^ j.toNat)
def oShr := oII (fun _ j => 0 ≤ j) fun i j => .int (i / 2 ^ j.toNat)
theorem d2_fdiv {K : Frag} : D2 K (rI CDivW fun i j => .int (i / j)) oFdiv := d2_ii
theorem d2_mod {K : Frag} : D2 K (rI (fun _ j => 0 < j) fun i j => .int (i % j)) oMod := d2_ii
theorem d2_pow {K : Frag} : D2 K (rI CPow fun i j => .int (i ^ j.toNat)) oPow := d2_ii
def oBool (g : Int → Int → Bool) (x y : Sl) (st : Sto) (Q : DK) : Prop := match vw st x, vw st y with
  | some (.int i), some (.int j) => Q (.d (.bool (g i j))) st
  | _, _ => False
theorem d2_bool {K : Frag} {g : Int → Int → Bool} : D2 K (rI0 fun i j => .bl (g i j)) (oBool g) := by
  intro Z v u s t Qd Q ok r1 r2 w k
  unfold oBool at w
  split at w
  · rename_i i j e1 e2
    exact ⟨i, j, r1.int e1, r2.int e2, k.now ok (.bl _) w⟩
  · exact w.elim
def flatEq (d : PyData) : Prop := SeqAt.shaped d = true
theorem shaped_dict {d : PyData} (h : SeqAt.shaped d = true) : d.hasDict = false := PyData.hasDict_of_canLay d (SeqAt.canLay_of_shaped h)
def oEq (x y : Sl) (st : Sto) (Q : DK) : Prop := match vw st x, vw st y with
  | some a, some b => SeqAt.shaped a = true ∧ SeqAt.shaped b = true ∧ Q (.d (.bool (PyData.eqv a b))) st
  | _, _ => False
def oNe (x y : Sl) (st : Sto) (Q : DK) : Prop := match vw st x, vw st y with
  | some a, some b => SeqAt.shaped a = true ∧ SeqAt.shaped b = true ∧ Q (.d (.bool (!PyData.eqv a b))) st
  | _, _ => False
theorem d2_eq {K : Frag} : D2 K (rEqD K) oEq := by
  intro Z v u s t Qd Q ok r1 r2 w k
  unfold oEq at w
  split at w
  · rename_i a b e1 e2
    exact ⟨a, b, r1.dp ok e1 (shaped_dict w.1), r2.dp ok e2 (shaped_dict w.2.1), w.1, w.2.1, k.now ok (.bl _) w.2.2⟩
  · exact w.elim
theorem d2_ne {K : Frag} : D2 K (rNeD K) oNe := by
  intro Z v u s t Qd Q ok r1 r2 w k
  unfold oNe at w
  split at w
  · rename_i a b e1 e2
    exact ⟨a, b, r1.dp ok e1 (shaped_dict w.1), r2.dp ok e2 (shaped_dict w.2.1), w.1, w.2.1, k.now ok (.bl _) w.2.2⟩
  · exact w.elim
def noneS (st : Sto) : Sl → Option Bool
  | .d .none => some true
  | .d _ => some false
  | .o _ => some false
  | .r u => some (decide (u = .non))
  | .l _ _ _ => none
  | .f _ => some false
def oIsN (x y : Sl) (st : Sto) (Q : DK) : Prop := match noneS st x, y with
  | some b, .d .none => Q (.d (.bool b)) st
  | _, _ => False
def oNotN (x y : Sl) (st : Sto) (Q : DK) : Prop := match noneS st x, y with
  | some b, .d .none => Q (.d (.bool (!b))) st
  | _, _ => False
end Pz
set_option maxRecDepth 100000
namespace Pz
open PySem PySem.Spec PyProof.Rows L2 TL
variable [TabC]
structure FnG (P : Program) (w : World) (K : Frag) (mg : Str → Option Value) (base : Heap) (CX : CXT) (k : Nat) (f : Addr) (fd : FuncData) (ps : List Str) (sp : Sp) : Prop where
  len : ∀ vs H Q E, sp vs H Q E → vs.length = ps.length
  go : ∀ A : Around, A.guards = some [] → Room k A → ∀ outer s H, Env0 P w K mg base A outer s H → ∀ args us, BindsTo s fd args (ps.zip us) → ∀ vs Q E, Vals vs us → sp vs H Q E → codeAny (model P w) A (.call (.ref f) args) (CR CX outer P w H s Q E) s
section
variable {P : Program} {w : World} {K : Frag} {mg : Str → Option Value} {base : Heap} {CX : CXT} {j k : Nat} {f : Addr} {fd : FuncData} {ps N : List Str} {sp sp' : Sp}
theorem FnG.mono (F : FnG P w K mg base CX j f fd ps sp) (h : j ≤ k) : FnG P w K mg base CX k f fd ps sp :=
  ⟨F.len, fun A hg hr => F.go A hg (hr.mono h)⟩
theorem FnG.imp (F : FnG P w K mg base CX k f fd ps sp) (h : ∀ vs H Q E, sp' vs H Q E → sp vs H Q E) : FnG P w K mg base CX k f fd ps sp' :=
  ⟨fun vs H Q E q => F.len vs H Q E (h _ _ _ _ q), fun A hg hr outer s H e args us b vs Q E v q => F.go A hg hr outer s H e args us b vs Q E v (h _ _ _ _ q)⟩
theorem FnG.of {x qual : Str} {st : Stmt} (F : Fun K x qual st f fd) (S : FnScope N ps (defScope st)) (len : ∀ vs H Q E, sp vs H Q E → vs.length = ps.length)
    (body : ∀ (cdv : Value) (A : Around) (outer : List Env) (s : Shared) (H : Hp) (vs : List V) (Q : VK) (E : XK), A.guards = some [] → Room k (A.deeper (envOfC qual (defScope st) s.heap.objs.size f cdv)) → sp vs H Q E →
      ∃ t, PSs (cxOf CX P w K mg base N qual (defScope st) f cdv A outer s H E) (defBody st) t ∧ t { nx := fun _ H' => Q .non H', rt := Q } (start N vs) H) :
    FnG P w K mg base CX (k + 1) f fd ps sp := by
  obtain ⟨oc, od, kV, doc, pm, an, cdv, ct, osl, rfl, lk, hcd⟩ := F.ex
  refine ⟨len, fun A hg hr outer s H e0 args us hb vs Q E rv q => ?_⟩
  have inK : K.In s.heap := e0.mod.kin.keeps fun b o e => (e0.bs b o e).1
  have par : ∀ y ∈ ps.zip us, (defScope st).names.lookup y.1 = some .local ∨ ((defScope st).names.lookup y.1 = some .cell ∧ ((cellsFrom (s.heap.objs.size + 1) (defScope st).names []).lookup y.1).isSome = true) := by
    rintro ⟨n, u⟩ hy
    rcases S.par n (List.of_mem_zip hy).1 with z | z
    · exact .inl z
    · exact .inr ⟨z, PySem.W.cellsFrom_some _ _ _ (.inl z)⟩
  apply codeAny_call_function hr.depth (inK _ _ lk) rfl S.co S.gen rfl (PySem.W.codeRec_of inK hcd) (hb _ _ _ _ _)
  apply wpAny_newFunctionEnv_cells S.kind par
  rintro env rfl s1 x
  refine ⟨(e0.mod.nolimit.keeps fun b o e => (e0.bs b o e).1).keeps x.toInCall.keep, codeAny_func ?_⟩
  obtain ⟨t, ht, hq⟩ := body cdv A outer s H vs Q E hg (hr.deeper _) q
  have I := inv_start (CX := CX) (E := E) S hr.hd e0 (len _ _ _ _ q) rv x
  refine wpAny_mono (ht.run [] s1 (start N vs) H _ I hq) ?_ fun e s' z => z
  rintro (_ | _ | _ | u) s' z
  · obtain ⟨σ', H', J, z⟩ := z
    exact ⟨.non, H', J.os, J.bare, J.base, J.hok, rfl, z⟩
  · obtain ⟨_, _, _, z⟩ := z
    exact z.elim
  · obtain ⟨_, _, _, z⟩ := z
    exact z.elim
  · obtain ⟨v, σ', H', J, r, z⟩ := z
    exact ⟨v, H', J.os, J.bare, J.base, J.hok, r, z⟩
end
abbrev DXF := Str → List (Str × PyData) → Sto → Prop
abbrev DSp := List Sl → Sto → DK → DXF → Prop
def KXF (K : Frag) (Z : Zs) (Ed : DXF) (E : XK) : Prop := ∀ (Z' : Zs) (c : Value) (x : Str) (d : Option Addr) (fs : List (Str × PyData)), Le Z Z' → Ok K Z' → XdOk K Z' fs d → ClsV K x c → Ed x fs Z'.st → E c d Z'.H
def toSp (K : Frag) (n : Nat) (dsp : DSp) : Sp := fun vs H Q E => ∃ (Z : Zs) (ss : List Sl) (Qd : DK) (Ed : DXF), Z.H = H ∧ Ok K Z ∧ RpAll K Z vs ss ∧ ss.length = n ∧ dsp ss Z.st Qd Ed ∧ KOk K Z Qd Q ∧ KXF K Z Ed E
abbrev FnD (P : Program) (w : World) (K : Frag) (mg : Str → Option Value) (base : Heap) (CX : CXT) (k : Nat) (f : Addr) (fd : FuncData) (ps : List Str) (dsp : DSp) : Prop := FnG P w K mg base CX k f fd ps (toSp K ps.length dsp)
def SlIn (n : Nat) : Sl → Prop
  | .o h => h < n
  | _ => True
def Cl (n : Nat) : Ct → Prop
  | .ins _ fs => ∀ p ∈ fs, SlIn n p.2
  | .lsS xs => ∀ x ∈ xs, SlIn n x
  | .dN kvs => ∀ p ∈ kvs, SlIn n p.2
  | _ => True
def Ret (n : Nat) (s : Sl) (st : Sto) (Q : DK) : Prop := (∀ c ∈ st.take n, Cl n c) ∧ match s with
  | .o h => if h < n then Q (.o h) (st.take n) else match st[h]? with
    | some c => c.live ∧ Cl n c ∧ Q (.o n) (st.take n ++ [c])
    | none => False
  | s => Q s (st.take n)
section
variable {K : Frag} {Z Z' : Zs}
theorem Stay.less {W W' : Addr → Prop} {H : Hp} (h : ∀ a, W' a → W a) : Stay W W' H H := ⟨fun _ _ e _ _ => e, fun _ _ _ n _ w => n (h _ w)⟩
theorem rp_less {n : Nat} (hF : Z'.F = Z.F) (hH : Z'.H = Z.H) (hW : ∀ a, Z'.W a → Z.W a) (hφ : ∀ i, i < n → Z'.φ[i]? = Z.φ[i]?) (hst : ∀ i, i < n → Z'.st[i]? = Z.st[i]?) {v : V} {s : Sl} (hs : SlIn n s) (r : Rp K Z v s) : Rp K Z' v s := by
  cases s with
  | d x =>
    have q := Im.tr (Stay.less hW) (show Pz.Im K Z.W Z.H v x from r)
    rw [← hH] at q
    exact q
  | o h =>
    obtain ⟨a, c, e, e1, e2, e3⟩ := r
    exact ⟨a, c, e, by rw [hφ h hs]; exact e1, by rw [hst h hs]; exact e2, e3⟩
  | r u => exact r
  | l _ _ _ => exact ⟨r.1, by rw [hH]; exact r.2.trans (Stay.less hW)⟩
  | f ns =>
    obtain ⟨a, e, q⟩ := r
    have q' := q.tr (Stay.less hW)
    rw [← hH] at q'
    exact ⟨a, e, q'⟩
theorem rpAll_less {n : Nat} (hF : Z'.F = Z.F) (hH : Z'.H = Z.H) (hW : ∀ a, Z'.W a → Z.W a) (hφ : ∀ i, i < n → Z'.φ[i]? = Z.φ[i]?) (hst : ∀ i, i < n → Z'.st[i]? = Z.st[i]?) : ∀ {vs : List V} {ss : List Sl}, (∀ s ∈ ss, SlIn n s) → RpAll K Z vs ss → RpAll K Z' vs ss
  | _, _, _, .nil => .nil
  | _, _, hs, .cons p r => .cons (rp_less hF hH hW hφ hst (hs _ (by simp)) p) (rpAll_less hF hH hW hφ hst (fun s m => hs s (by simp [m])) r)
theorem ct_less {n : Nat} (hF : Z'.F = Z.F) (hH : Z'.H = Z.H) (hW : ∀ a, Z'.W a → Z.W a) (hφ : ∀ i, i < n → Z'.φ[i]? = Z.φ[i]?) (hst : ∀ i, i < n → Z'.st[i]? = Z.st[i]?) {a : Addr} : ∀ {c : Ct}, Cl n c → CtOk K Z a c → CtOk K Z' a c
  | .lst ds, _, h => by
    obtain ⟨vs, e, q⟩ := h
    have q' := ImAll.tr (Stay.less hW) (show Pz.ImAll K Z.W Z.H vs ds from q)
    rw [← hH] at e q'
    exact ⟨vs, e, q'⟩
  | .lsS xs, hc, h => by
    obtain ⟨us, e, q⟩ := h
    rw [← hH] at e
    exact ⟨us, e, rpAll_less hF hH hW hφ hst hc q⟩
  | .dK kvs, _, h => by
    obtain ⟨vs, e, e2, q⟩ := h
    have q' := ImAll.tr (Stay.less hW) (show Pz.ImAll K Z.W Z.H _ _ from q)
    rw [← hH] at e q'
    exact ⟨vs, e, e2, q'⟩
  | .dT kvs, _, h => by
    obtain ⟨vs, e, e2, q⟩ := h
    have q' := ImAll.tr (Stay.less hW) (show Pz.ImAll K Z.W Z.H _ _ from q)
    rw [← hH] at e q'
    exact ⟨vs, e, e2, q'⟩
  | .dN fs, hc, h => by
    obtain ⟨us, e, e2, q⟩ := h
    rw [← hH] at e
    refine ⟨us, e, e2, rpAll_less hF hH hW hφ hst (fun s m => ?_) q⟩
    obtain ⟨p, hp, rfl⟩ := List.mem_map.mp m
    exact hc p hp
  | .ins C fs, hc, h => by
    obtain ⟨dx, us, e, e2, q⟩ := h
    rw [← hH] at e
    refine ⟨dx, us, e, e2, rpAll_less hF hH hW hφ hst (fun s m => ?_) q⟩
    obtain ⟨p, hp, rfl⟩ := List.mem_map.mp m
    exact hc p hp
  | .exc c fs, _, h => by
    obtain ⟨cv, d, hc, e, q⟩ := h
    have s : Stay Z.W Z'.W Z.H Z'.H := by rw [hH]; exact Stay.less hW
    rw [← hH] at e
    exact ⟨cv, d, hc, e, q.tr s⟩
  | .dead, _, h => by
    show Z'.H a ≠ none
    rw [hH]
    exact h
theorem take_get {α : Type} {l : List α} {n i : Nat} (h : i < n) : (l.take n)[i]? = l[i]? := by
  rw [List.getElem?_take, if_pos h]
theorem ret_ok {Z0 : Zs} {n : Nat} {v : V} {s : Sl} {Qd : DK} {Q : VK} (hn : Z0.st.length = n) (l : Le Z0 Z) (ok : Ok K Z) (r : Rp K Z v s) (h : Ret n s Z.st Qd) (k : KOk K Z0 Qd Q) : Q v Z.H := by
  obtain ⟨hc, h⟩ := h
  obtain ⟨ψ, eφ, hψ⟩ := l.pre
  have n0 : Z0.φ.length = n := by rw [← l.len]; exact hn
  have nle : n ≤ Z.φ.length := by rw [eφ, List.length_append]; omega
  have nle2 : n ≤ Z.st.length := by rw [← ok.len]; exact nle
  have tφ : Z.φ.take n = Z0.φ := by rw [eφ, ← n0, List.take_left]
  have wless : ∀ {φ' : List Addr} {st' : Sto}, (∀ i c, φ'[i]? = some c → ∀ ct : Ct, st'[i]? = some ct → ct.live → Z.O c) → ∀ a, (Zs.mk φ' st' Z.H Z.F).W a → Z.W a := fun {φ' st'} hh a w => by
    rcases w with ⟨i, c, e1, e2, e3⟩ | w
    · exact .inl (hh i a e1 c e2 e3)
    · exact .inr w
  have plain : ∀ s', SlIn n s' → Rp K Z v s' → Qd s' (Z.st.take n) → Q v Z.H := fun s' hs r' q => by
    have hW : ∀ a, (Zs.mk (Z.φ.take n) (Z.st.take n) Z.H Z.F).W a → Z.W a := wless fun i a e1 c e2 e3 => by
      have hi : i < n := by
        have := (List.getElem?_eq_some_iff.mp e1).1
        rw [List.length_take] at this
        omega
      rw [take_get hi] at e1 e2
      exact ⟨i, c, e1, e2, e3⟩
    refine k (Zs.mk (Z.φ.take n) (Z.st.take n) Z.H Z.F) v s' ⟨⟨[], by rw [List.append_nil]; exact tφ, fun _ h => by cases h⟩, l.len, fun i c e => ?_, l.frm, l.fgn, l.dom⟩ ⟨?_, ?_, fun i a c e1 e2 => ?_, ok.fo, fun a m => ok.fd a (List.mem_of_mem_take m), ok.tb.less hW⟩ ?_ q
    · obtain ⟨c', q1, q2⟩ := l.liv i c e
      have hi : i < n := by rw [← hn]; exact (List.getElem?_eq_some_iff.mp e).1
      exact ⟨c', by show (Z.st.take n)[i]? = _; rw [take_get hi]; exact q1, q2⟩
    · show (Z.φ.take n).length = (Z.st.take n).length
      rw [List.length_take, List.length_take, ok.len]
    · exact ok.nd.sublist (List.take_sublist _ _)
    · have hi : i < n := by
        have := (List.getElem?_eq_some_iff.mp (show (Z.φ.take n)[i]? = some a from e1)).1
        rw [List.length_take] at this
        omega
      have e2' : (Z.st.take n)[i]? = some c := e2
      have m : c ∈ Z.st.take n := List.mem_of_getElem? e2'
      have e1' : (Z.φ.take n)[i]? = some a := e1
      rw [take_get hi] at e1' e2'
      exact ct_less (Z := Z) (Z' := ⟨Z.φ.take n, Z.st.take n, Z.H, Z.F⟩) (n := n) rfl rfl hW (fun j hj => take_get (l := Z.φ) hj) (fun j hj => take_get (l := Z.st) hj) (hc c m) (ok.ct i a c e1' e2')
    · exact rp_less (Z := Z) (Z' := ⟨Z.φ.take n, Z.st.take n, Z.H, Z.F⟩) (n := n) rfl rfl hW (fun j hj => take_get (l := Z.φ) hj) (fun j hj => take_get (l := Z.st) hj) hs r'
  cases s with
  | d x => exact plain (.d x) trivial r h
  | r u => exact plain (.r u) trivial r h
  | l a b c => exact plain (.l a b c) trivial r h
  | f ns => exact plain (.f ns) trivial r h
  | o hh =>
    simp only at h
    split at h
    · rename_i hlt
      exact plain (.o hh) hlt r h
    · rename_i hlt
      split at h
      · rename_i c ec
        obtain ⟨lv, hcl, q⟩ := h
        obtain ⟨a, c', ev, e1, e2, e3⟩ := id r
        rw [ec] at e2
        cases e2
        have ha : a ∈ ψ := by
          rw [eφ, List.getElem?_append_right (by omega)] at e1
          exact List.mem_of_getElem? e1
        have ht : (Z.st.take n).length = n := by rw [List.length_take]; omega
        have htφ : (Z.φ.take n).length = n := by rw [List.length_take]; omega
        have gφ : ∀ i b, (Z.φ.take n ++ [a])[i]? = some b → (i < n ∧ Z.φ[i]? = some b) ∨ (i = n ∧ b = a) := fun i b e => by
          by_cases hi : i < n
          · rw [List.getElem?_append_left (by omega), take_get hi] at e
            exact .inl ⟨hi, e⟩
          · rw [List.getElem?_append_right (by omega), htφ] at e
            have : i - n = 0 := by
              have := (List.getElem?_eq_some_iff.mp e).1
              simp at this
              omega
            rw [this] at e
            simp at e
            exact .inr ⟨by omega, e.symm⟩
        have gs1 : ∀ i, i < n → (Z.st.take n ++ [c])[i]? = Z.st[i]? := fun i hi => by rw [List.getElem?_append_left (by omega), take_get hi]
        have gs2 : (Z.st.take n ++ [c])[n]? = some c := by rw [List.getElem?_append_right (by omega), ht]; simp
        have hW : ∀ b, (Zs.mk (Z.φ.take n ++ [a]) (Z.st.take n ++ [c]) Z.H Z.F).W b → Z.W b := wless fun i b q1 c2 q2 q3 => by
          rcases gφ i b q1 with ⟨hi, q1⟩ | ⟨rfl, rfl⟩
          · rw [gs1 i hi] at q2
            exact ⟨i, c2, q1, q2, q3⟩
          · exact ⟨hh, c, e1, ec, e3⟩
        have p1 : ∀ i, i < n → (Z.φ.take n ++ [a])[i]? = Z.φ[i]? := fun i hi => by rw [List.getElem?_append_left (by omega), take_get hi]
        refine k (Zs.mk (Z.φ.take n ++ [a]) (Z.st.take n ++ [c]) Z.H Z.F) v (.o n) ⟨⟨[a], by rw [tφ], fun b hb => ?_⟩, l.len, fun i c2 e => ?_, l.frm, l.fgn, l.dom⟩ ⟨?_, ?_, fun i b c2 q1 q2 => ?_, ok.fo, fun b m => ?_, ok.tb.less hW⟩ ?_ q
        · have : b = a := by simpa using hb
          subst this
          exact hψ b ha
        · obtain ⟨c3, q1, q2⟩ := l.liv i c2 e
          have hi : i < n := by rw [← hn]; exact (List.getElem?_eq_some_iff.mp e).1
          exact ⟨c3, (gs1 i hi).trans q1, q2⟩
        · show (Z.φ.take n ++ [a]).length = (Z.st.take n ++ [c]).length
          rw [List.length_append, List.length_append, ht, htφ]
          rfl
        · have nd := ok.nd
          rw [eφ] at nd
          show (Z.φ.take n ++ [a]).Nodup
          rw [tφ]
          exact nd.sublist (List.Sublist.append (List.Sublist.refl _) (List.singleton_sublist.mpr ha))
        · have q1' : (Z.φ.take n ++ [a])[i]? = some b := q1
          have q2' : (Z.st.take n ++ [c])[i]? = some c2 := q2
          rcases gφ i b q1' with ⟨hi, q1'⟩ | ⟨rfl, rfl⟩
          · have m : c2 ∈ Z.st.take n := by
              rw [List.getElem?_append_left (by omega)] at q2'
              exact List.mem_of_getElem? q2'
            rw [gs1 i hi] at q2'
            exact ct_less (Z := Z) (Z' := ⟨Z.φ.take n ++ [a], Z.st.take n ++ [c], Z.H, Z.F⟩) (n := n) rfl rfl hW p1 gs1 (hc c2 m) (ok.ct i b c2 q1' q2')
          · rw [gs2] at q2'
            cases q2'
            exact ct_less (Z := Z) (Z' := ⟨Z.φ.take i ++ [b], Z.st.take i ++ [c], Z.H, Z.F⟩) (n := i) rfl rfl hW p1 gs1 hcl (ok.ct hh b c e1 ec)
        · rcases List.mem_append.mp m with m | m
          · exact ok.fd b (List.mem_of_mem_take m)
          · have : b = a := by simpa using m
            subst this
            exact ok.fd b (List.mem_of_getElem? e1)
        · exact ⟨a, c, ev, by show (Z.φ.take n ++ [a])[n]? = _; rw [List.getElem?_append_right (by omega), htφ]; simp, gs2, e3⟩
      · exact h.elim
end
theorem RpAll.get {K : Frag} {Z : Zs} : ∀ {vs : List V} {ss : List Sl} {i : Nat} {s : Sl}, RpAll K Z vs ss → ss[i]? = some s → ∃ v, vs[i]? = some v ∧ Rp K Z v s
  | _, _, 0, _, .cons q _, e => by simp at e; subst e; exact ⟨_, rfl, q⟩
  | _, _, i + 1, s, .cons _ r, e => by simpa using RpAll.get (i := i) (s := s) r (by simpa using e)
def startS (N : List Str) (ss : List Sl) : Sls := ss.map some ++ List.replicate (N.length - ss.length) none
theorem startS_ok {K : Frag} {Z : Zs} {N : List Str} {vs : List V} {ss : List Sl} (r : RpAll K Z vs ss) : SlOk K Z (L2.start N vs) (startS N ss) := by
  have hl := r.length
  refine ⟨?_, fun i s e => ?_⟩
  · unfold L2.start startS
    simp [hl]
  · unfold startS at e
    have hi : i < ss.length := by
      rcases Nat.lt_or_ge i ss.length with z | z
      · exact z
      · rw [List.getElem?_append_right (by simpa using z), List.getElem?_replicate] at e
        split at e <;> cases e
    rw [List.getElem?_append_left (by simpa using hi), List.getElem?_map] at e
    cases q : ss[i]? with
    | none => rw [q] at e; cases e
    | some t =>
      rw [q] at e
      cases e
      obtain ⟨v, hv, rv⟩ := r.get q
      refine ⟨v, ?_, rv⟩
      unfold L2.start
      rw [List.getElem?_append_left (by rw [List.length_map, hl]; exact hi), List.getElem?_map, hv]
      rfl
theorem EndsOk.ret {K : Frag} {Z0 Zc : Zs} {n0 : Nat} {Qd : DK} {Q : VK} (hn : Z0.st.length = n0) (k : KOk K Z0 Qd Q) :
    EndsOk K W0 Z0 Zc ⟨fun _ st => Ret n0 (.d .none) st Qd, fun s st => Ret n0 s st Qd, fun _ _ _ _ => False, fun _ _ => False, fun _ _ => False⟩ { nx := fun _ H' => Q .non H', rt := Q } where
  nx := fun Z sl σ l _ ok so h => ret_ok hn l ok (v := .non) (s := .d .none) Im.non h k
  rt := fun Z v s l ok r h => ret_ok hn l ok r h k
  ex := fun _ _ _ _ _ _ _ _ _ _ _ _ _ h => h
  bk := fun _ _ _ _ _ _ _ h => h
  ct := fun _ _ _ _ _ _ _ h => h
section
variable {P : Program} {w : World} {K : Frag} {mg : Str → Option Value} {base : Heap} {k : Nat} {f : Addr} {fd : FuncData} {ps N : List Str} {dsp : DSp} {x qual : Str} {st : Stmt}
theorem FnD.of0 (F : Fun K x qual st f fd) (S : FnScope N ps (defScope st)) (n0 : Nat) (τ : DS)
    (hb : ∀ (cdv : Value) (A : Around) (outer : List Env) (s : Shared) (H : Hp) (E : XK) (Z0 : Zs), A.guards = some [] → Room k (A.deeper (envOfC qual (defScope st) s.heap.objs.size f cdv)) → Z0.st.length = n0 →
      DSs (cxOf CX0 P w K mg base N qual (defScope st) f cdv A outer s H E).nox W0 Z0 (defBody st) τ)
    (hw : ∀ (ss : List Sl) (cs : Sto) (Qd : DK) (Ed : DXF), dsp ss cs Qd Ed → ss.length = ps.length → cs.length = n0 ∧ τ ⟨fun _ st => Ret n0 (.d .none) st Qd, fun s st => Ret n0 s st Qd, fun _ _ _ _ => False, fun _ _ => False, fun _ _ => False⟩ (startS N ss) cs) :
    FnD P w K mg base CX0 (k + 1) f fd ps dsp := by
  refine FnG.of F S (fun vs H Q E ⟨Z, ss, Qd, Ed, _, _, ra, hl, _⟩ => ra.length.trans hl) fun cdv A outer s H vs Q E hg hr ⟨Z, ss, Qd, Ed, e, ok, ra, hl, hd, kQ, kE⟩ => ?_
  obtain ⟨hn, q⟩ := hw ss Z.st Qd Ed hd hl
  refine ⟨_, (hb cdv A outer s H E Z hg hr hn).run.nox, ?_⟩
  exact ⟨Z, startS N ss, _, e, .refl ok, ok, startS_ok ra, q, .ret hn kQ⟩
end
def hsOf : List Sl → List Nat
  | [] => []
  | .o h :: r => h :: (hsOf r).filter fun j => j != h
  | .d _ :: r => hsOf r
  | .r _ :: r => hsOf r
  | .l _ _ _ :: r => hsOf r
  | .f _ :: r => hsOf r
def locS (hs : List Nat) : Sl → Sl
  | .o h => .o (hs.idxOf h)
  | s => s
def gloS (hs : List Nat) (n : Nat) : Sl → Sl
  | .o j => .o (if j < hs.length then hs.getD j 0 else n + (j - hs.length))
  | s => s
def getAll (st : Sto) : List Nat → Option (List Ct)
  | [] => some []
  | h :: hs => match st[h]?, getAll st hs with
    | some c, some cs => some (c :: cs)
    | _, _ => none
def putAll (st : Sto) : List Nat → List Ct → Sto
  | h :: hs, c :: cs => putAll (st.set h c) hs cs
  | [], cs => st ++ cs
  | _, [] => st
theorem getAll_get {st : Sto} : ∀ {hs : List Nat} {cs : List Ct}, getAll st hs = some cs → cs.length = hs.length ∧ ∀ (i h : Nat), hs[i]? = some h → ∃ c, st[h]? = some c ∧ cs[i]? = some c
  | [], cs, e => by
    simp only [getAll, Option.some.injEq] at e
    subst e
    exact ⟨rfl, fun i h z => by simp at z⟩
  | h :: hs, cs, e => by
    simp only [getAll] at e
    split at e
    · rename_i c cs' e1 e2
      simp only [Option.some.injEq] at e
      subst e
      obtain ⟨l, g⟩ := getAll_get e2
      refine ⟨by simp [l], fun i h' z => ?_⟩
      cases i with
      | zero => simp at z; subst z; exact ⟨c, e1, rfl⟩
      | succ i => obtain ⟨c', q1, q2⟩ := g i h' (by simpa using z); exact ⟨c', q1, by simpa using q2⟩
    · cases e
theorem hsOf_nd : ∀ ss : List Sl, (hsOf ss).Nodup
  | [] => .nil
  | .o h :: r => by
    unfold hsOf
    refine List.nodup_cons.mpr ⟨fun m => ?_, (hsOf_nd r).sublist List.filter_sublist⟩
    have := (List.mem_filter.mp m).2
    simp at this
  | .d _ :: r => hsOf_nd r
  | .r _ :: r => hsOf_nd r
  | .l _ _ _ :: r => hsOf_nd r
  | .f _ :: r => hsOf_nd r
theorem hsOf_mem : ∀ {ss : List Sl} {h : Nat}, Sl.o h ∈ ss → h ∈ hsOf ss
  | .o h :: r, j, m => by
    unfold hsOf
    rcases List.mem_cons.mp m with e | m
    · cases e; exact List.mem_cons_self
    · by_cases z : j = h
      · subst z; exact List.mem_cons_self
      · exact List.mem_cons_of_mem _ (List.mem_filter.mpr ⟨hsOf_mem m, by simpa using z⟩)
  | .d _ :: r, j, m => by
    rcases List.mem_cons.mp m with e | m
    · cases e
    · exact hsOf_mem (ss := r) m
  | .r _ :: r, j, m => by
    rcases List.mem_cons.mp m with e | m
    · cases e
    · exact hsOf_mem (ss := r) m
  | .l _ _ _ :: r, j, m => by
    rcases List.mem_cons.mp m with e | m
    · cases e
    · exact hsOf_mem (ss := r) m
  | .f _ :: r, j, m => by
    rcases List.mem_cons.mp m with e | m
    · cases e
    · exact hsOf_mem (ss := r) m
  | [], _, m => by cases m
theorem putAll_spec : ∀ {hs : List Nat} {st : Sto} {cs : List Ct}, hs.Nodup → (∀ h ∈ hs, h < st.length) → hs.length ≤ cs.length →
    (putAll st hs cs).length = st.length + (cs.length - hs.length) ∧ (∀ (i h : Nat), hs[i]? = some h → (putAll st hs cs)[h]? = cs[i]?) ∧ (∀ h : Nat, h < st.length → h ∉ hs → (putAll st hs cs)[h]? = st[h]?) ∧ ∀ j : Nat, (putAll st hs cs)[st.length + j]? = cs[hs.length + j]?
  | [], st, cs, _, _, _ => by
    refine ⟨by simp [putAll], fun i h e => by simp at e, fun h hh _ => ?_, fun j => ?_⟩
    · simp only [putAll]; rw [List.getElem?_append_left hh]
    · simp only [putAll, List.length_nil, Nat.zero_add]; rw [List.getElem?_append_right (by omega), Nat.add_sub_cancel_left]
  | h :: hs, st, [], _, _, z => by simp at z
  | h :: hs, st, c :: cs, nd, hb, hl => by
    have nd' := List.nodup_cons.mp nd
    have hb' : ∀ x ∈ hs, x < (st.set h c).length := fun x m => by rw [List.length_set]; exact hb x (List.mem_cons_of_mem _ m)
    obtain ⟨a1, a2, a3, a4⟩ := putAll_spec (hs := hs) (st := st.set h c) (cs := cs) nd'.2 hb' (by simpa using hl)
    have hh : h < st.length := hb h List.mem_cons_self
    refine ⟨by simp only [putAll]; rw [a1, List.length_set]; simp, fun i x e => ?_, fun x hx nm => ?_, fun j => ?_⟩
    · cases i with
      | zero =>
        simp at e
        subst e
        simp only [putAll]
        rw [a3 h (by rw [List.length_set]; exact hh) nd'.1, List.getElem?_set_self hh]
        rfl
      | succ i =>
        simp only [putAll]
        rw [a2 i x (by simpa using e)]
        simp
    · simp only [putAll]
      have hne : h ≠ x := fun z => nm (z ▸ List.mem_cons_self)
      rw [a3 x (by rw [List.length_set]; exact hx) (fun m => nm (List.mem_cons_of_mem _ m)), List.getElem?_set_ne hne]
    · simp only [putAll]
      have := a4 j
      rw [List.length_set] at this
      rw [this]
      simp [Nat.add_right_comm]
def locCall (dsp : DSp) (ss : List Sl) (st : Sto) (Q : DK) (Ed : DXF) : Prop := match getAll st (hsOf ss) with
  | some cs => (∀ c ∈ cs, Cl 0 c) ∧ dsp (ss.map (locS (hsOf ss))) cs (fun s cs' => (∀ c ∈ cs', Cl 0 c) ∧ Q (gloS (hsOf ss) st.length s) (putAll st (hsOf ss) cs')) fun c fs cs' => (∀ c ∈ cs', Cl 0 c) ∧ Ed c fs (putAll st (hsOf ss) cs')
  | none => False
def Zs.loc (Z : Zs) (hs : List Nat) (cs : Sto) : Zs := ⟨hs.map fun h => Z.φ.getD h 0, cs, Z.H, fun a => Z.W a ∧ a ∉ hs.map fun h => Z.φ.getD h 0⟩
def Zs.back (Z Z' : Zs) (hs : List Nat) : Zs := ⟨Z.φ ++ Z'.φ.drop hs.length, putAll Z.st hs Z'.st, Z'.H, Z.F⟩
section
variable {K : Frag} {Z : Zs} {hs : List Nat} {cs : Sto}
theorem rp_handle {v : V} {h : Nat} (r : Rp K Z v (.o h)) : h < Z.φ.length := by
  obtain ⟨a, c, _, e, _⟩ := r
  exact (List.getElem?_eq_some_iff.mp e).1
theorem loc_at (hb : ∀ h ∈ hs, h < Z.φ.length) {i h : Nat} (e : hs[i]? = some h) : (Z.loc hs cs).φ[i]? = Z.φ[h]? := by
  have hh := hb h (List.mem_of_getElem? e)
  simp only [Zs.loc, List.getElem?_map, e, Option.map_some]
  rw [List.getElem?_eq_getElem hh, List.getD_eq_getElem?_getD, List.getElem?_eq_getElem hh]
  rfl
theorem loc_inv (hb : ∀ h ∈ hs, h < Z.φ.length) {i : Nat} {a : Addr} (e : (Z.loc hs cs).φ[i]? = some a) : ∃ h, hs[i]? = some h ∧ Z.φ[h]? = some a := by
  have hi : i < hs.length := by
    have := (List.getElem?_eq_some_iff.mp e).1
    simpa [Zs.loc] using this
  have q : hs[i]? = some hs[i] := List.getElem?_eq_getElem hi
  exact ⟨hs[i], q, (loc_at hb q).symm.trans e⟩
theorem loc_in (ok : Ok K Z) (hg : getAll Z.st hs = some cs) (hb : ∀ h ∈ hs, h < Z.φ.length) {a : Addr} (m : a ∈ (Z.loc hs cs).φ) (w : Z.W a) : (Z.loc hs cs).O a := by
  obtain ⟨i, hi, e⟩ := List.getElem_of_mem m
  have e1 : (Z.loc hs cs).φ[i]? = some a := by rw [List.getElem?_eq_getElem hi, e]
  obtain ⟨h, q1, q2⟩ := loc_inv hb e1
  obtain ⟨c, p1, p2⟩ := (getAll_get hg).2 i h q1
  rcases w with ⟨j, c', r1, r2, r3⟩ | w
  · have lt1 := (List.getElem?_eq_some_iff.mp q2).1
    have lt2 := (List.getElem?_eq_some_iff.mp r1).1
    rw [List.getElem?_eq_getElem lt1] at q2
    rw [List.getElem?_eq_getElem lt2] at r1
    have z : h = j := (List.getElem_inj ok.nd).mp ((Option.some.inj q2).trans (Option.some.inj r1).symm)
    subst z
    rw [p1] at r2
    cases r2
    exact ⟨i, c, e1, p2, r3⟩
  · exact absurd w (ok.fd a (List.mem_of_getElem? q2))
theorem loc_W (ok : Ok K Z) (hg : getAll Z.st hs = some cs) (hb : ∀ h ∈ hs, h < Z.φ.length) : (Z.loc hs cs).W = Z.W := by
  funext a
  refine propext ⟨fun w => ?_, fun w => ?_⟩
  · rcases w with ⟨i, c, e1, e2, e3⟩ | w
    · obtain ⟨h, q1, q2⟩ := loc_inv hb e1
      obtain ⟨c', p1, p2⟩ := (getAll_get hg).2 i h q1
      rw [show (Z.loc hs cs).st = cs from rfl, p2] at e2
      cases e2
      exact .inl ⟨h, _, q2, p1, e3⟩
    · exact w.1
  · by_cases m : a ∈ (Z.loc hs cs).φ
    · exact .inl (loc_in ok hg hb m w)
    · exact .inr ⟨w, m⟩
theorem loc_Ok (ok : Ok K Z) (hg : getAll Z.st hs = some cs) (hb : ∀ h ∈ hs, h < Z.φ.length) (nd : hs.Nodup) (hc : ∀ c ∈ cs, Cl 0 c) : Ok K (Z.loc hs cs) where
  len := by
    show (hs.map _).length = cs.length
    rw [List.length_map, (getAll_get hg).1]
  nd := by
    refine List.pairwise_iff_getElem.mpr fun i j hi hj lt e => ?_
    have hi' : i < hs.length := by simpa [Zs.loc] using hi
    have hj' : j < hs.length := by simpa [Zs.loc] using hj
    have e1 := loc_at (cs := cs) hb (List.getElem?_eq_getElem hi')
    have e2 := loc_at (cs := cs) hb (List.getElem?_eq_getElem hj')
    rw [List.getElem?_eq_getElem hi, List.getElem?_eq_getElem (hb _ (List.getElem_mem hi'))] at e1
    rw [List.getElem?_eq_getElem hj, List.getElem?_eq_getElem (hb _ (List.getElem_mem hj'))] at e2
    have e3 : hs[i] = hs[j] := (List.getElem_inj ok.nd).mp (by rw [← Option.some.inj e1, ← Option.some.inj e2, e])
    have e4 : i = j := (List.getElem_inj nd).mp e3
    omega
  ct := fun i a c e1 e2 => by
    obtain ⟨h, q1, q2⟩ := loc_inv hb e1
    obtain ⟨c', p1, p2⟩ := (getAll_get hg).2 i h q1
    have e2' : cs[i]? = some c := e2
    rw [p2] at e2'
    obtain rfl : c' = c := Option.some.inj e2'
    have hcl := hc c' (List.mem_of_getElem? p2)
    have q := ok.ct h a c' q2 p1
    cases c' with
    | lst ds => obtain ⟨vs, z1, z2⟩ := q; exact ⟨vs, z1, by rw [Zs.ImAll, loc_W ok hg hb]; exact z2⟩
    | lsS xs =>
      obtain ⟨us, z1, z3⟩ := q
      refine ⟨us, z1, ?_⟩
      have all : ∀ {vs : List V} {ss : List Sl}, (∀ s ∈ ss, SlIn 0 s) → RpAll K Z vs ss → RpAll K (Z.loc hs cs) vs ss := by
        intro vs ss hss r
        induction r with
        | nil => exact .nil
        | @cons v vs s ss p r ih =>
          refine .cons ?_ (ih fun x m => hss x (List.mem_cons_of_mem _ m))
          have hz := hss s List.mem_cons_self
          cases s with
          | d x => show Pz.Im K (Z.loc hs cs).W _ _ _; rw [loc_W ok hg hb]; exact p
          | o h => exact absurd hz (Nat.not_lt_zero _)
          | r u => exact p
          | l _ _ _ => exact ⟨p.1, by rw [loc_W ok hg hb]; exact p.2⟩
          | f ns => obtain ⟨a, z, y⟩ := p; exact ⟨a, z, by rw [loc_W ok hg hb]; exact y⟩
      exact all hcl z3
    | dK kvs => obtain ⟨vs, z1, z2, z3⟩ := q; exact ⟨vs, z1, z2, by rw [Zs.ImAll, loc_W ok hg hb]; exact z3⟩
    | dT kvs => obtain ⟨vs, z1, z2, z3⟩ := q; exact ⟨vs, z1, z2, by rw [Zs.ImAll, loc_W ok hg hb]; exact z3⟩
    | dN fs =>
      obtain ⟨us, z1, z2, z3⟩ := q
      refine ⟨us, z1, z2, ?_⟩
      have all : ∀ {vs : List V} {ss : List Sl}, (∀ s ∈ ss, SlIn 0 s) → RpAll K Z vs ss → RpAll K (Z.loc hs cs) vs ss := by
        intro vs ss hss r
        induction r with
        | nil => exact .nil
        | @cons v vs s ss p r ih =>
          refine .cons ?_ (ih fun x m => hss x (List.mem_cons_of_mem _ m))
          have hz := hss s List.mem_cons_self
          cases s with
          | d x => show Pz.Im K (Z.loc hs cs).W _ _ _; rw [loc_W ok hg hb]; exact p
          | o h => exact absurd hz (Nat.not_lt_zero _)
          | r u => exact p
          | l _ _ _ => exact ⟨p.1, by rw [loc_W ok hg hb]; exact p.2⟩
          | f ns => obtain ⟨a, z, y⟩ := p; exact ⟨a, z, by rw [loc_W ok hg hb]; exact y⟩
      refine all (fun s m => ?_) z3
      obtain ⟨p, hp, rfl⟩ := List.mem_map.mp m
      exact hcl p hp
    | ins C fs =>
      obtain ⟨dx, us, z1, z2, z3⟩ := q
      refine ⟨dx, us, z1, z2, ?_⟩
      have all : ∀ {vs : List V} {ss : List Sl}, (∀ s ∈ ss, SlIn 0 s) → RpAll K Z vs ss → RpAll K (Z.loc hs cs) vs ss := by
        intro vs ss hss r
        induction r with
        | nil => exact .nil
        | @cons v vs s ss p r ih =>
          refine .cons ?_ (ih fun x m => hss x (List.mem_cons_of_mem _ m))
          have hz := hss s List.mem_cons_self
          cases s with
          | d x => show Pz.Im K (Z.loc hs cs).W _ _ _; rw [loc_W ok hg hb]; exact p
          | o h => exact absurd hz (Nat.not_lt_zero _)
          | r u => exact p
          | l _ _ _ => exact ⟨p.1, by rw [loc_W ok hg hb]; exact p.2⟩
          | f ns => obtain ⟨a, z, y⟩ := p; exact ⟨a, z, by rw [loc_W ok hg hb]; exact y⟩
      refine all (fun s m => ?_) z3
      obtain ⟨p, hp, rfl⟩ := List.mem_map.mp m
      exact hcl p hp
    | exc c fs =>
      obtain ⟨cv, d, hc, z1, z2⟩ := q
      have s : Stay Z.W (Z.loc hs cs).W Z.H (Z.loc hs cs).H := by rw [loc_W ok hg hb]; exact Stay.less fun _ w => w
      exact ⟨cv, d, hc, z1, z2.tr s⟩
    | dead => exact q
  fo := fun a w => by
    have w' : Z.W a := w.1
    rcases w' with w' | w'
    · exact ok.has w'.mem
    · exact ok.fo a w'
  fd := fun a m w => w.2 m
  tb := ok.tb.less fun a w => by rw [← loc_W ok hg hb]; exact w
theorem loc_rp (ok : Ok K Z) (hg : getAll Z.st hs = some cs) (hb : ∀ h ∈ hs, h < Z.φ.length) {v : V} {s : Sl} (hm : ∀ h, s = .o h → h ∈ hs) (r : Rp K Z v s) : Rp K (Z.loc hs cs) v (locS hs s) := by
  cases s with
  | d x => show Pz.Im K (Z.loc hs cs).W _ _ _; rw [loc_W ok hg hb]; exact r
  | o h =>
    obtain ⟨a, c, e, e1, e2, e3⟩ := r
    have m := hm h rfl
    have q : hs[hs.idxOf h]? = some h := by
      rw [List.getElem?_eq_getElem (List.idxOf_lt_length_of_mem m)]
      exact congrArg some (List.getElem_idxOf _)
    obtain ⟨c', p1, p2⟩ := (getAll_get hg).2 _ h q
    rw [e2] at p1
    cases p1
    exact ⟨a, c, e, (loc_at hb q).trans e1, p2, e3⟩
  | r u => exact r
  | l _ _ _ => exact ⟨r.1, by rw [loc_W ok hg hb]; exact r.2⟩
  | f ns => obtain ⟨a, z, y⟩ := r; exact ⟨a, z, by rw [loc_W ok hg hb]; exact y⟩
end
section
variable {K : Frag} {Z Z' : Zs} {hs : List Nat} {cs : Sto}
theorem back_pre (l : Le (Z.loc hs cs) Z') : ∃ ψ, Z'.φ = (Z.loc hs cs).φ ++ ψ ∧ Z'.φ.drop hs.length = ψ ∧ ∀ a ∈ ψ, Z.H a = none := by
  obtain ⟨ψ, e, hn⟩ := l.pre
  refine ⟨ψ, e, ?_, hn⟩
  rw [e]
  have : (Z.loc hs cs).φ.length = hs.length := by simp [Zs.loc]
  rw [← this, List.drop_left]
theorem back_le (ok : Ok K Z) (hg : getAll Z.st hs = some cs) (hb : ∀ h ∈ hs, h < Z.φ.length) (nd : hs.Nodup) (l : Le (Z.loc hs cs) Z') (ok' : Ok K Z') : Le Z (Z.back Z' hs) := by
  obtain ⟨ψ, e, ed, hn⟩ := back_pre l
  have hb2 : ∀ h ∈ hs, h < Z.st.length := fun h m => by rw [← ok.len]; exact hb h m
  have hl : hs.length ≤ Z'.st.length := by
    rw [← ok'.len, e, List.length_append]
    simp [Zs.loc]
  obtain ⟨s1, s2, s3, s4⟩ := putAll_spec nd hb2 hl
  refine ⟨⟨ψ, by show Z.φ ++ _ = _; rw [ed], hn⟩, ok.len.symm, fun h c ec => ?_, fun a o ea na nt => ?_, rfl, fun a o ea => l.dom a o ea⟩
  · have hh : h < Z.st.length := (List.getElem?_eq_some_iff.mp ec).1
    show ∃ c', (putAll Z.st hs Z'.st)[h]? = some c' ∧ _
    by_cases m : h ∈ hs
    · obtain ⟨i, hi, ei⟩ := List.getElem_of_mem m
      have q : hs[i]? = some h := by rw [List.getElem?_eq_getElem hi, ei]
      obtain ⟨c', p1, p2⟩ := (getAll_get hg).2 i h q
      rw [ec] at p1
      cases p1
      obtain ⟨c2, r1, r2⟩ := l.liv i c p2
      exact ⟨c2, by rw [s2 i h q]; exact r1, r2⟩
    · exact ⟨c, by rw [s3 h hh m]; exact ec, Iff.rfl⟩
  · refine l.frm a o ea (fun w => ?_) nt
    obtain ⟨i, c, e1, e2, e3⟩ := w
    obtain ⟨h, q1, q2⟩ := loc_inv hb e1
    obtain ⟨c', p1, p2⟩ := (getAll_get hg).2 i h q1
    have e2' : cs[i]? = some c := e2
    rw [p2] at e2'
    cases e2'
    exact na ⟨h, _, q2, p1, e3⟩
theorem back_at (ok : Ok K Z) (hg : getAll Z.st hs = some cs) (hb : ∀ h ∈ hs, h < Z.φ.length) (nd : hs.Nodup) (l : Le (Z.loc hs cs) Z') (ok' : Ok K Z') {h : Nat} {a : Addr} {c : Ct} (e1 : (Z.back Z' hs).φ[h]? = some a) (e2 : (Z.back Z' hs).st[h]? = some c) :
    (h ∉ hs ∧ Z.φ[h]? = some a ∧ Z.st[h]? = some c) ∨ ∃ i : Nat, Z'.φ[i]? = some a ∧ Z'.st[i]? = some c := by
  obtain ⟨ψ, e, ed, hn⟩ := back_pre l
  have hb2 : ∀ h ∈ hs, h < Z.st.length := fun h m => by rw [← ok.len]; exact hb h m
  have lφ : (Z.loc hs cs).φ.length = hs.length := by simp [Zs.loc]
  have hl : hs.length ≤ Z'.st.length := by
    rw [← ok'.len, e, List.length_append, lφ]
    omega
  obtain ⟨s1, s2, s3, s4⟩ := putAll_spec nd hb2 hl
  have e1' : (Z.φ ++ ψ)[h]? = some a := by rw [← ed]; exact e1
  have e2' : (putAll Z.st hs Z'.st)[h]? = some c := e2
  by_cases hh : h < Z.φ.length
  · rw [List.getElem?_append_left hh] at e1'
    by_cases m : h ∈ hs
    · obtain ⟨i, hi, ei⟩ := List.getElem_of_mem m
      have q : hs[i]? = some h := by rw [List.getElem?_eq_getElem hi, ei]
      refine .inr ⟨i, ?_, by rw [← s2 i h q]; exact e2'⟩
      rw [e, List.getElem?_append_left (by rw [lφ]; exact hi), loc_at hb q]
      exact e1'
    · exact .inl ⟨m, e1', by rw [← s3 h (by rw [← ok.len]; exact hh) m]; exact e2'⟩
  · rw [List.getElem?_append_right (by omega)] at e1'
    refine .inr ⟨hs.length + (h - Z.φ.length), ?_, ?_⟩
    · rw [e, List.getElem?_append_right (by rw [lφ]; omega), lφ, Nat.add_sub_cancel_left]
      exact e1'
    · rw [← s4 (h - Z.φ.length), ← ok.len]
      rw [show Z.φ.length + (h - Z.φ.length) = h by omega]
      exact e2'
theorem back_W (ok : Ok K Z) (hg : getAll Z.st hs = some cs) (hb : ∀ h ∈ hs, h < Z.φ.length) (nd : hs.Nodup) (l : Le (Z.loc hs cs) Z') (ok' : Ok K Z') (a : Addr) (w : (Z.back Z' hs).W a) : Z'.W a := by
  have notin : ∀ (h : Nat), h ∉ hs → Z.φ[h]? = some a → a ∉ (Z.loc hs cs).φ := fun h m q1 z => by
    obtain ⟨i, hi, e⟩ := List.getElem_of_mem z
    obtain ⟨h', r1, r2⟩ := loc_inv (cs := cs) hb (show (Z.loc hs cs).φ[i]? = some a by rw [List.getElem?_eq_getElem hi, e])
    have lt1 := (List.getElem?_eq_some_iff.mp q1).1
    have lt2 := (List.getElem?_eq_some_iff.mp r2).1
    rw [List.getElem?_eq_getElem lt1] at q1
    rw [List.getElem?_eq_getElem lt2] at r2
    have z : h = h' := (List.getElem_inj ok.nd).mp ((Option.some.inj q1).trans (Option.some.inj r2).symm)
    exact m (z ▸ List.mem_of_getElem? r1)
  rcases w with ⟨h, c, e1, e2, e3⟩ | w
  · rcases back_at ok hg hb nd l ok' e1 e2 with ⟨m, q1, q2⟩ | ⟨i, q1, q2⟩
    · refine .inr ?_
      rw [l.fgn]
      exact ⟨.inl ⟨h, c, q1, q2, e3⟩, notin h m q1⟩
    · exact .inl ⟨i, c, q1, q2, e3⟩
  · refine .inr ?_
    rw [l.fgn]
    refine ⟨.inr w, fun z => ?_⟩
    have z' : a ∈ (Z.loc hs cs).φ := z
    obtain ⟨i, hi, e⟩ := List.getElem_of_mem z'
    obtain ⟨h', r1, r2⟩ := loc_inv (cs := cs) hb (show (Z.loc hs cs).φ[i]? = some a by rw [List.getElem?_eq_getElem hi, e])
    exact ok.fd a (List.mem_of_getElem? r2) w
theorem back_rp (ok : Ok K Z) (hg : getAll Z.st hs = some cs) (hb : ∀ h ∈ hs, h < Z.φ.length) (nd : hs.Nodup) (l : Le (Z.loc hs cs) Z') (ok' : Ok K Z') {v : V} {s : Sl} (r : Rp K Z' v s) : Rp K (Z.back Z' hs) v (gloS hs Z.st.length s) := by
  have hW := back_W ok hg hb nd l ok'
  cases s with
  | d x => exact Im.tr (Stay.less hW) (show Pz.Im K Z'.W Z'.H v x from r)
  | r u => exact r
  | l _ _ _ => exact ⟨r.1, r.2.trans (Stay.less hW)⟩
  | f ns => obtain ⟨a, z, y⟩ := r; exact ⟨a, z, y.tr (Stay.less hW)⟩
  | o j =>
    obtain ⟨a, c, ev, e1, e2, e3⟩ := r
    obtain ⟨ψ, e, ed, hn⟩ := back_pre l
    have hb2 : ∀ h ∈ hs, h < Z.st.length := fun h m => by rw [← ok.len]; exact hb h m
    have lφ : (Z.loc hs cs).φ.length = hs.length := by simp [Zs.loc]
    have hl : hs.length ≤ Z'.st.length := by
      rw [← ok'.len, e, List.length_append, lφ]
      omega
    obtain ⟨s1, s2, s3, s4⟩ := putAll_spec nd hb2 hl
    by_cases hj : j < hs.length
    · have q : hs[j]? = some (hs.getD j 0) := by
        rw [List.getD_eq_getElem?_getD, List.getElem?_eq_getElem hj]
        rfl
      refine ⟨a, c, ev, ?_, ?_, e3⟩
      · simp only [if_pos hj]
        show (Z.φ ++ _)[_]? = _
        rw [List.getElem?_append_left (hb _ (List.mem_of_getElem? q)), ← loc_at (cs := cs) hb q]
        rw [e, List.getElem?_append_left (by rw [lφ]; exact hj)] at e1
        exact e1
      · simp only [if_pos hj]
        show (putAll Z.st hs Z'.st)[_]? = _
        rw [s2 j _ q]
        exact e2
    · refine ⟨a, c, ev, ?_, ?_, e3⟩
      · simp only [if_neg hj]
        show (Z.φ ++ Z'.φ.drop hs.length)[_]? = _
        rw [ed, List.getElem?_append_right (by rw [ok.len]; omega), ok.len, Nat.add_sub_cancel_left]
        rw [e, List.getElem?_append_right (by rw [lφ]; omega), lφ] at e1
        exact e1
      · simp only [if_neg hj]
        show (putAll Z.st hs Z'.st)[_]? = _
        rw [s4]
        rw [show hs.length + (j - hs.length) = j by omega]
        exact e2
end
section
variable {K : Frag} {Z Z' : Zs} {hs : List Nat} {cs : Sto}
theorem cl_tr (hW : ∀ a, Z'.W a → Z.W a) (hH : Z'.H = Z.H) {a : Addr} : ∀ {c : Ct}, Cl 0 c → CtOk K Z a c → CtOk K Z' a c
  | .lst ds, _, h => by
    obtain ⟨vs, e, q⟩ := h
    have q' := ImAll.tr (Stay.less hW) (show Pz.ImAll K Z.W Z.H vs ds from q)
    rw [← hH] at e q'
    exact ⟨vs, e, q'⟩
  | .lsS xs, hc, h => by
    obtain ⟨us, e, q⟩ := h
    have all : ∀ {vs : List V} {ss : List Sl}, (∀ s ∈ ss, SlIn 0 s) → RpAll K Z vs ss → RpAll K Z' vs ss := by
      intro vs ss hss r
      induction r with
      | nil => exact .nil
      | @cons v vs s ss p r ih =>
        refine .cons ?_ (ih fun x m => hss x (List.mem_cons_of_mem _ m))
        have hz := hss s List.mem_cons_self
        cases s with
        | d x => show Pz.Im K Z'.W Z'.H _ _; rw [hH]; exact Im.tr (Stay.less hW) (show Pz.Im K Z.W Z.H v x from p)
        | o h => exact absurd hz (Nat.not_lt_zero _)
        | r u => exact p
        | l _ _ _ => exact ⟨p.1, by rw [hH]; exact p.2.trans (Stay.less hW)⟩
        | f ns => obtain ⟨a, z, y⟩ := p; exact ⟨a, z, by rw [hH]; exact y.tr (Stay.less hW)⟩
    rw [← hH] at e
    exact ⟨us, e, all hc q⟩
  | .dK kvs, _, h => by
    obtain ⟨vs, e, e2, q⟩ := h
    have q' := ImAll.tr (Stay.less hW) (show Pz.ImAll K Z.W Z.H _ _ from q)
    rw [← hH] at e q'
    exact ⟨vs, e, e2, q'⟩
  | .dT kvs, _, h => by
    obtain ⟨vs, e, e2, q⟩ := h
    have q' := ImAll.tr (Stay.less hW) (show Pz.ImAll K Z.W Z.H _ _ from q)
    rw [← hH] at e q'
    exact ⟨vs, e, e2, q'⟩
  | .dN fs, hc, h => by
    obtain ⟨us, e, e2, q⟩ := h
    have all : ∀ {vs : List V} {ss : List Sl}, (∀ s ∈ ss, SlIn 0 s) → RpAll K Z vs ss → RpAll K Z' vs ss := by
      intro vs ss hss r
      induction r with
      | nil => exact .nil
      | @cons v vs s ss p r ih =>
        refine .cons ?_ (ih fun x m => hss x (List.mem_cons_of_mem _ m))
        have hz := hss s List.mem_cons_self
        cases s with
        | d x => show Pz.Im K Z'.W Z'.H _ _; rw [hH]; exact Im.tr (Stay.less hW) (show Pz.Im K Z.W Z.H v x from p)
        | o h => exact absurd hz (Nat.not_lt_zero _)
        | r u => exact p
        | l _ _ _ => exact ⟨p.1, by rw [hH]; exact p.2.trans (Stay.less hW)⟩
        | f ns => obtain ⟨a, z, y⟩ := p; exact ⟨a, z, by rw [hH]; exact y.tr (Stay.less hW)⟩
    rw [← hH] at e
    refine ⟨us, e, e2, all (fun s m => ?_) q⟩
    obtain ⟨p, hp, rfl⟩ := List.mem_map.mp m
    exact hc p hp
  | .ins C fs, hc, h => by
    obtain ⟨dx, us, e, e2, q⟩ := h
    have all : ∀ {vs : List V} {ss : List Sl}, (∀ s ∈ ss, SlIn 0 s) → RpAll K Z vs ss → RpAll K Z' vs ss := by
      intro vs ss hss r
      induction r with
      | nil => exact .nil
      | @cons v vs s ss p r ih =>
        refine .cons ?_ (ih fun x m => hss x (List.mem_cons_of_mem _ m))
        have hz := hss s List.mem_cons_self
        cases s with
        | d x => show Pz.Im K Z'.W Z'.H _ _; rw [hH]; exact Im.tr (Stay.less hW) (show Pz.Im K Z.W Z.H v x from p)
        | o h => exact absurd hz (Nat.not_lt_zero _)
        | r u => exact p
        | l _ _ _ => exact ⟨p.1, by rw [hH]; exact p.2.trans (Stay.less hW)⟩
        | f ns => obtain ⟨a, z, y⟩ := p; exact ⟨a, z, by rw [hH]; exact y.tr (Stay.less hW)⟩
    rw [← hH] at e
    refine ⟨dx, us, e, e2, all (fun s m => ?_) q⟩
    obtain ⟨p, hp, rfl⟩ := List.mem_map.mp m
    exact hc p hp
  | .exc c fs, _, h => by
    obtain ⟨cv, d, hc, e, q⟩ := h
    have s : Stay Z.W Z'.W Z.H Z'.H := by rw [hH]; exact Stay.less hW
    rw [← hH] at e
    exact ⟨cv, d, hc, e, q.tr s⟩
  | .dead, _, h => by
    show Z'.H a ≠ none
    rw [hH]
    exact h
theorem back_Ok (ok : Ok K Z) (hg : getAll Z.st hs = some cs) (hb : ∀ h ∈ hs, h < Z.φ.length) (nd : hs.Nodup) (l : Le (Z.loc hs cs) Z') (ok' : Ok K Z') (hc : ∀ c ∈ Z'.st, Cl 0 c) : Ok K (Z.back Z' hs) := by
  obtain ⟨ψ, e, ed, hn⟩ := back_pre l
  have hb2 : ∀ h ∈ hs, h < Z.st.length := fun h m => by rw [← ok.len]; exact hb h m
  have lφ : (Z.loc hs cs).φ.length = hs.length := by simp [Zs.loc]
  have hl : hs.length ≤ Z'.st.length := by
    rw [← ok'.len, e, List.length_append, lφ]
    omega
  obtain ⟨s1, s2, s3, s4⟩ := putAll_spec nd hb2 hl
  have ll := back_le ok hg hb nd l ok'
  refine ⟨?_, ?_, fun h a c e1 e2 => ?_, fun a w => ?_, fun a m w => ?_, ok'.tb.less (back_W ok hg hb nd l ok')⟩
  · show (Z.φ ++ _).length = (putAll Z.st hs Z'.st).length
    rw [ed, s1, List.length_append, ok.len, ← ok'.len, e, List.length_append, lφ]
    omega
  · show (Z.φ ++ _).Nodup
    rw [ed]
    refine List.nodup_append.mpr ⟨ok.nd, ?_, fun a ha b hb' z => ?_⟩
    · have := ok'.nd
      rw [e] at this
      exact (List.nodup_append.mp this).2.1
    · subst z
      exact ok.fresh (hn a hb') ha
  · rcases back_at ok hg hb nd l ok' e1 e2 with ⟨m, q1, q2⟩ | ⟨i, q1, q2⟩
    · refine ctok_st ll.stay (fun r => r.tr ll) (fun o eo nt => ?_) (fun o eo => l.dom a o eo) (ok.ct h a c q1 q2)
      refine l.frm a o eo (fun w => ?_) nt
      obtain ⟨j, c', p1, p2, p3⟩ := w
      obtain ⟨h', r1, r2⟩ := loc_inv hb p1
      have lt1 := (List.getElem?_eq_some_iff.mp q1).1
      have lt2 := (List.getElem?_eq_some_iff.mp r2).1
      rw [List.getElem?_eq_getElem lt1] at q1
      rw [List.getElem?_eq_getElem lt2] at r2
      have z : h = h' := (List.getElem_inj ok.nd).mp (by rw [Option.some.inj q1, Option.some.inj r2])
      exact m (z ▸ List.mem_of_getElem? r1)
    · exact cl_tr (Z := Z') (Z' := Z.back Z' hs) (back_W ok hg hb nd l ok') rfl (hc c (List.mem_of_getElem? q2)) (ok'.ct i a c q1 q2)
  · obtain ⟨o, eo⟩ := ok.fo a w
    exact l.dom a o eo
  · rcases List.mem_append.mp (show a ∈ Z.φ ++ Z'.φ.drop hs.length from m) with m | m
    · exact ok.fd a m w
    · rw [ed] at m
      obtain ⟨o, eo⟩ := ok.fo a w
      rw [hn a m] at eo
      cases eo
theorem mem_o : ∀ {vs : List V} {ss : List Sl}, RpAll K Z vs ss → ∀ h, Sl.o h ∈ ss → h < Z.φ.length
  | _, _, .nil, _, m => by cases m
  | _, _, .cons p r, h, m => by
    rcases List.mem_cons.mp m with e | m
    · subst e; exact rp_handle p
    · exact mem_o r h m
theorem hsOf_in : ∀ {ss : List Sl} {h : Nat}, h ∈ hsOf ss → Sl.o h ∈ ss
  | .o j :: r, h, m => by
    unfold hsOf at m
    rcases List.mem_cons.mp m with e | m
    · subst e; exact List.mem_cons_self
    · exact List.mem_cons_of_mem _ (hsOf_in (List.mem_filter.mp m).1)
  | .d _ :: r, h, m => List.mem_cons_of_mem _ (hsOf_in (ss := r) m)
  | .r _ :: r, h, m => List.mem_cons_of_mem _ (hsOf_in (ss := r) m)
  | .l _ _ _ :: r, h, m => List.mem_cons_of_mem _ (hsOf_in (ss := r) m)
  | .f _ :: r, h, m => List.mem_cons_of_mem _ (hsOf_in (ss := r) m)
  | [], _, m => by cases m
theorem xd_back (ok : Ok K Z) (hg : getAll Z.st hs = some cs) (hb : ∀ h ∈ hs, h < Z.φ.length) (nd : hs.Nodup) (l : Le (Z.loc hs cs) Z') (ok' : Ok K Z') {fs : List (Str × PyData)} : ∀ {d : Option Addr}, XdOk K Z' fs d → XdOk K (Z.back Z' hs) fs d
  | none, h => h
  | some a, h => by
    obtain ⟨nw, us, e, e2, q⟩ := h
    exact ⟨fun w => nw (back_W ok hg hb nd l ok' _ w), us, e, e2, ImAll.tr (Stay.less (back_W ok hg hb nd l ok')) (show Pz.ImAll K Z'.W Z'.H _ _ from q)⟩
theorem loc_sp {vs : List V} {ss : List Sl} {dsp : DSp} {Qd : DK} {Q : VK} {Ed : DXF} {E : XK} {n : Nat} (ok : Ok K Z) (ra : RpAll K Z vs ss) (hn : ss.length = n) (h : locCall dsp ss Z.st Qd Ed) (k : KOk K Z Qd Q) (kx : KXF K Z Ed E) : toSp K n dsp vs Z.H Q E := by
  unfold locCall at h
  split at h
  · rename_i cs hg
    obtain ⟨hc, h⟩ := h
    have hb : ∀ h ∈ hsOf ss, h < Z.φ.length := fun h m => mem_o ra h (hsOf_in m)
    have nd := hsOf_nd ss
    refine ⟨Z.loc (hsOf ss) cs, ss.map (locS (hsOf ss)), _, _, rfl, loc_Ok ok hg hb nd hc, ?_, by rw [List.length_map]; exact hn, h, fun Z' v s l ok' r q => ?_, fun Z' c xn d fs l ok' x hcv q => ?_⟩
    · have all : ∀ {vs : List V} {ss' : List Sl}, (∀ h, Sl.o h ∈ ss' → h ∈ hsOf ss) → RpAll K Z vs ss' → RpAll K (Z.loc (hsOf ss) cs) vs (ss'.map (locS (hsOf ss))) := by
        intro vs ss' hm r
        induction r with
        | nil => exact .nil
        | cons p r ih => exact .cons (loc_rp ok hg hb (fun h e => hm h (by rw [← e]; exact List.mem_cons_self)) p) (ih fun h m => hm h (List.mem_cons_of_mem _ m))
      exact all (fun h m => hsOf_mem m) ra
    · exact k (Z.back Z' (hsOf ss)) v _ (back_le ok hg hb nd l ok') (back_Ok ok hg hb nd l ok' q.1) (back_rp ok hg hb nd l ok' r) q.2
    · exact kx (Z.back Z' (hsOf ss)) c xn d fs (back_le ok hg hb nd l ok') (back_Ok ok hg hb nd l ok' q.1) (xd_back ok hg hb nd l ok' x) hcv q.2
  · exact h.elim
end
section
variable {X : Cx} {CX : CXT} {k : Nat} {f : Addr} {fd : FuncData} {ps : List Str} {sp : Sp} {E : XK} {x : Str} {p pos : Pos} {e : Expr} {es : List Expr} {t : TA}
theorem runG {pins : List (Addr × Obj)} {σ : L2.St} {H : Hp} {s : Shared} {Q : VK} {us : List Value} {kw : List (Str × Value)} {vs : List V} {ws : List Value} (F : FnG X.prog X.w X.K X.mg X.base CX k f fd ps sp) (hg : X.A.guards = some []) (hr : Room k X.A) (hb : BindsTo s fd ⟨us, kw⟩ (ps.zip ws)) (hx : Passes CX X E)
    (I : L2.Inv X pins σ H s) (r : Vals vs ws) (h : sp vs H Q E) : wpAny (model X.prog X.w) X.A (call (.ref f) us kw) (EP X pins σ Q) X.xe s := by
  apply wpAny_call
  refine codeAny_mono (F.go X.A hg hr X.stack s H I.env0 ⟨us, kw⟩ ws hb vs Q E r h) ?_
  rintro (er | fl) s' q
  · exact hx pins σ H s er s' I q
  · rcases fl with _ | _ | _ | u
    · exact q.elim
    · exact q.elim
    · exact q.elim
    · exact I.after q
theorem pe_callG (F : FnG X.prog X.w X.K X.mg X.base CX k f fd ps sp) (hA : X.A.guards = some []) (hr : Room k X.A) (hg : Gl X x) (hm : X.mg x = some (.ref f)) (hk : PySem.W.keepIn X.K (.ref f) = true) (hb : Binds X.K fd ps []) (hx : Passes CX X E)
    (ha : PA X (e :: es) t) (hdb : (x == ("__debug__" : Str)) = false := by decide) (he : starEach (e :: es) X.env = (false, eval e X.env) :: starEach es X.env := by rfl) (hpl : (backTo pos (starEach es X.env)).any (·.1) = false := by rfl) :
    PE X (.Call (.Name x p) (e :: es) [] pos) (tCall sp [] E t) := by
  constructor
  intro pins s σ H Q I h
  refine wpAny_Call_Name_kw (ld_glob I hg hm (PySem.W.callWith_K (h₀ := X.base) I.ok.mod.kin hk (thn (ha.run pos pins s σ H _ I h) ?_) he hpl) hdb)
  rintro us s1 ⟨vs, H1, I1, r, q⟩
  rw [List.append_nil] at q
  have b := hb s1 us I1.kIn (by rw [List.append_nil, ← r.length]; exact F.len _ _ _ _ q)
  rw [List.append_nil] at b
  exact ⟨I1.kIn, runG F hA hr b hx I1 r q⟩
structure KwB (K : Frag) (fd : FuncData) (ps : List Str) (n : Nat) (ks : List Str) (g : ∀ {α : Type}, List α → List α → List α) : Prop where
  to : ∀ (s : Shared) (us ws : List Value), K.In s.heap → us.length = n → ws.length = ks.length → BindsTo s fd ⟨us, ks.zip ws⟩ (ps.zip (g us ws))
  rel : ∀ {vs : List V} {us : List Value} {zs : List V} {ws : List Value}, vs.length = n → zs.length = ks.length → Vals vs us → Vals zs ws → Vals (g vs zs) (g us ws)
variable {kws : List Keyword} {tk : TA} {n : Nat} {ks : List Str} {g : ∀ {α : Type}, List α → List α → List α}
def tCallW (n m : Nat) (sp : Sp) (g : ∀ {α : Type}, List α → List α → List α) (E : XK) (t tk : TA) : TE := fun σ H Q => t σ H fun vs H1 => tk σ H1 fun zs H2 => vs.length = n ∧ zs.length = m ∧ sp (g vs zs) H2 Q E
end
end Pz
set_option maxRecDepth 100000
namespace Pz
open PySem PySem.Spec PyProof.Rows L2 TL
variable [TabC]
section
variable {X : Cx} {E : WXs} {Z0 : Zs} {a b c e : Expr} {es : List Expr} {ta tb tc te : DE} {t : DA} {pos p : Pos} {x : Str}
def wNil : DA := fun _ _ st Q => Q [] st
def wCons (te : DE) (t : DA) : DA := fun Ed sl st Q => te Ed sl st fun x st => t Ed sl st fun xs st => Q (x :: xs) st
theorem da_nil : DAs X E [] wNil := ⟨paI pa_nil fun σ H Q ⟨Z, sl, Qd, Ed, h, ok, so, w, k, kx⟩ => by
  subst h
  exact k Z [] [] (.refl ok) ok .nil w⟩
theorem cons_ok {σ : L2.St} {H : Hp} {Q : List V → Hp → Prop} (h : upA X.K E (wCons te t) σ H Q) : tCons (upE X.K E te) (upA X.K E t) σ H Q := by
  obtain ⟨Z, sl, Qd, Ed, h, ok, so, w, k, kx⟩ := h
  refine ⟨Z, sl, _, Ed, h, ok, so, w, fun Z1 v s l1 ok1 r1 w1 => ?_, kx⟩
  refine ⟨Z1, sl, _, Ed, rfl, ok1, so.tr l1, w1, fun Z2 vs ss l2 ok2 r2 w2 => ?_, kx.le l1⟩
  exact k Z2 (v :: vs) (s :: ss) (l1.trans l2) ok2 (.cons (r1.tr l2) r2) w2
theorem da_cons (ha : DEx X E e te) (hr : DAs X E es t) (hs : starEach (e :: es) X.env = (false, eval e X.env) :: starEach es X.env := by rfl) : DAs X E (e :: es) (wCons te t) :=
  ⟨paI (pa_cons ha.run hr.run hs) fun _ _ _ h => cons_ok h⟩
structure DKs (X : Cx) (E : WXs) (ks : List Keyword) (τ : DA) : Prop where
  run : PK X ks (upA X.K E τ)
theorem dk_nil : DKs X E [] wNil := ⟨⟨fun po pins s σ H Q I h => pk_nil.run po pins s σ H Q I (by
  obtain ⟨Z, sl, Qd, Ed, h, ok, so, w, k, kx⟩ := h
  subst h
  exact k Z [] [] (.refl ok) ok .nil w)⟩⟩
theorem dk_cons {nm : Option Str} {kpos : Pos} {kws : List Keyword} (ha : DEx X E e te) (hr : DKs X E kws t) : DKs X E (⟨nm, e, kpos⟩ :: kws) (wCons te t) :=
  ⟨⟨fun po pins s σ H Q I h => (pk_cons ha.run hr.run).run po pins s σ H Q I (cons_ok h)⟩⟩
def wCall (dsp : DSp) (t : DA) : DE := fun Ed sl st Q => t Ed sl st fun ss st => locCall dsp ss st Q fun _ _ _ => False
variable {k n m : Nat} {f : Addr} {fd : FuncData} {ps ks : List Str} {dsp : DSp} {kws : List Keyword} {tk : DA}
theorem locCall_len {ss : List Sl} {st : Sto} {Q : DK} {Ed : DXF} (h : locCall dsp ss st Q Ed) (hl : ∀ ss cs Q Ed, dsp ss cs Q Ed → ss.length = n) : ss.length = n := by
  unfold locCall at h
  split at h
  · have := hl _ _ _ _ h.2
    simpa using this
  · exact h.elim
theorem de_call (F : FnD X.prog X.w X.K X.mg X.base CX0 k f fd ps dsp) (hA : X.A.guards = some []) (hr : Room k X.A) (hl : ∀ ss cs Q Ed, dsp ss cs Q Ed → ss.length = ps.length) (hg : Gl X x) (hm : X.mg x = some (.ref f)) (hk : PySem.W.keepIn X.K (.ref f) = true) (hb : Binds X.K fd ps [])
    (ha : DAs X E (e :: es) t) (hdb : (x == ("__debug__" : Str)) = false := by decide) (he : starEach (e :: es) X.env = (false, eval e X.env) :: starEach es X.env := by rfl) (hpl : (backTo pos (starEach es X.env)).any (·.1) = false := by rfl) :
    DEx X E (.Call (.Name x p) (e :: es) [] pos) (wCall dsp t) :=
  ⟨peI (pe_callG F hA hr hg hm hk hb pass0 ha.run hdb he hpl) fun σ H Q ⟨Z, sl, Qd, Ed, h, ok, so, w, kq, kx⟩ =>
    ⟨Z, sl, _, Ed, h, ok, so, w, fun Z1 vs ss l1 ok1 r1 w1 => by
      show toSp X.K ps.length dsp (vs ++ []) Z1.H Q E0
      rw [List.append_nil]
      exact loc_sp ok1 r1 (locCall_len w1 hl) w1 (kq.le l1) (fun _ _ _ _ _ _ _ _ _ z => z), kx⟩⟩
def wCallW (n m : Nat) (dsp : DSp) (g : ∀ {α : Type}, List α → List α → List α) (t tk : DA) : DE := fun Ed sl st Q => t Ed sl st fun ss st => tk Ed sl st fun zs st => ss.length = n ∧ zs.length = m ∧ locCall dsp (g ss zs) st Q fun _ _ _ => False
structure KwD (K : Frag) (fd : FuncData) (ps : List Str) (n : Nat) (ks : List Str) (g : ∀ {α : Type}, List α → List α → List α) : Prop where
  kb : KwB K fd ps n ks g
  rp : ∀ {Z : Zs} {vs zs : List V} {ss us : List Sl}, ss.length = n → us.length = ks.length → RpAll K Z vs ss → RpAll K Z zs us → RpAll K Z (g vs zs) (g ss us)
variable {g : ∀ {α : Type}, List α → List α → List α}
abbrev FA := List Sl → Sto → DK → Prop
def CallD (K : Frag) (r : List V → Hp → VK → Prop) (f : FA) : Prop := ∀ (Z : Zs) (vs : List V) (ss : List Sl) (Qd : DK) (Q : VK), Ok K Z → RpAll K Z vs ss → f ss Z.st Qd → KOk K Z Qd Q → r vs Z.H Q
def wApp (f : FA) (t : DA) : DE := fun Ed sl st Q => t Ed sl st fun ss st => f ss st Q
theorem app_ok {r : List V → Hp → VK → Prop} {f : FA} (hd : CallD X.K r f) {σ : L2.St} {H : Hp} {Q : VK} (h : upE X.K E (wApp f t) σ H Q) : tCB r (upA X.K E t) σ H Q := by
  obtain ⟨Z, sl, Qd, Ed, h, ok, so, w, kq, kx⟩ := h
  exact ⟨Z, sl, _, Ed, h, ok, so, w, fun Z1 vs ss l1 ok1 r1 w1 => hd Z1 vs ss Qd Q ok1 r1 w1 (kq.le l1), kx⟩
theorem de_callB {id : String} {r : List V → Hp → VK → Prop} {f : FA} (hd : CallD X.K r f) (hc : CallR X (.builtin id) r) (hg : Gl X x) (hm : X.mg x = none) (hv : bootBuiltins x = some (.builtin id)) (ha : DAs X E (e :: es) t) (hn : x ≠ "__name__" := by decide) (hdb : (x == ("__debug__" : Str)) = false := by decide)
    (he : starEach (e :: es) X.env = (false, eval e X.env) :: starEach es X.env := by rfl) (hpl : (backTo pos (starEach es X.env)).any (·.1) = false := by rfl) : DEx X E (.Call (.Name x p) (e :: es) [] pos) (wApp f t) :=
  ⟨peI (pe_callB hc hg hm hv ha.run hn hdb he hpl) fun _ _ _ h => app_ok hd h⟩
theorem de_callTy {id : String} {r : List V → Hp → VK → Prop} {f : FA} (hd : CallD X.K r f) (hc : CallR X (.type id) r) (hg : Gl X x) (hm : X.mg x = none) (hv : bootBuiltins x = some (.type id)) (ha : DAs X E (e :: es) t) (hn : x ≠ "__name__" := by decide) (hdb : (x == ("__debug__" : Str)) = false := by decide)
    (he : starEach (e :: es) X.env = (false, eval e X.env) :: starEach es X.env := by rfl) (hpl : (backTo pos (starEach es X.env)).any (·.1) = false := by rfl) : DEx X E (.Call (.Name x p) (e :: es) [] pos) (wApp f t) :=
  ⟨peI (pe_callTy hc hg hm hv ha.run hn hdb he hpl) fun _ _ _ h => app_ok hd h⟩
def dsOf : List Sl → Option (List PyData)
  | [] => some []
  | .d x :: r => match dsOf r with
    | some ds => some (x :: ds)
    | none => none
  | .o _ :: _ => none
  | .r _ :: _ => none
  | .l _ _ _ :: _ => none
  | .f _ :: _ => none
theorem dsOf_ok {K : Frag} {Z : Zs} : ∀ {vs : List V} {ss : List Sl} {ds : List PyData}, RpAll K Z vs ss → dsOf ss = some ds → Z.ImAll K vs ds
  | _, _, ds, .nil, e => by simp only [dsOf, Option.some.injEq] at e; subst e; exact .nil
  | _, _, ds, .cons (s := .d x) p r, e => by
    simp only [dsOf] at e
    split at e
    · rename_i ds' e'
      simp only [Option.some.injEq] at e
      subst e
      exact .cons p (dsOf_ok r e')
    · cases e
  | _, _, ds, .cons (s := .o h) p r, e => by simp [dsOf] at e
  | _, _, ds, .cons (s := .r _) p r, e => by simp [dsOf] at e
  | _, _, ds, .cons (s := .l _ _ _) p r, e => by simp [dsOf] at e
  | _, _, ds, .cons (s := .f h) p r, e => by simp [dsOf] at e
def wLst (t : DA) : DE := fun Ed sl st Q => t Ed sl st fun ss st => match dsOf ss with
  | some ds => ds.length ≤ sizeLine ∧ Q (.d (.list ds)) st
  | none => False
def wTup (t : DA) : DE := fun Ed sl st Q => t Ed sl st fun ss st => match dsOf ss with
  | some ds => ds.length ≤ sizeLine ∧ Q (.d (.tuple ds)) st
  | none => False
def wLstO (t : DA) : DE := fun Ed sl st Q => t Ed sl st fun ss st => match dsOf ss with
  | some ds => ds.length ≤ sizeLine ∧ Q (.o st.length) (st ++ [.lst ds])
  | none => False
theorem de_lst (h : DAs X E es t) : DEx X E (.List es pos) (wLst t) := ⟨peI (pe_lst h.run) fun σ H Q ⟨Z, sl, Qd, Ed, h, ok, so, w, kq, kx⟩ =>
  ⟨Z, sl, _, Ed, h, ok, so, w, fun Z1 vs ss l1 ok1 r1 w1 => by
    simp only at w1
    split at w1
    · rename_i ds e
      have q := dsOf_ok r1 e
      exact ⟨by rw [q.length]; exact w1.1, (kq.le l1).newL ok1 q w1.2⟩
    · exact w1.elim, kx⟩⟩
theorem de_tup {x1 : Nat} (h : DAs X E es t) : DEx X E (.Tuple es x1 pos) (wTup t) := ⟨peI (pe_tup h.run) fun σ H Q ⟨Z, sl, Qd, Ed, h, ok, so, w, kq, kx⟩ =>
  ⟨Z, sl, _, Ed, h, ok, so, w, fun Z1 vs ss l1 ok1 r1 w1 => by
    simp only at w1
    split at w1
    · rename_i ds e
      have q := dsOf_ok r1 e
      exact ⟨by rw [q.length]; exact w1.1, (kq.le l1).newT ok1 q w1.2⟩
    · exact w1.elim, kx⟩⟩
def Zs.own (Z : Zs) (p : Addr) (o : HO) (c : Ct) : Zs := ⟨Z.φ ++ [p], Z.st ++ [c], upd Z.H p o, Z.F⟩
theorem app1_get {α : Type} {l : List α} {y z : α} {i : Nat} (h : (l ++ [y])[i]? = some z) : l[i]? = some z ∨ (i = l.length ∧ z = y) := by
  by_cases hi : i < l.length
  · rw [List.getElem?_append_left hi] at h; exact .inl h
  · rw [List.getElem?_append_right (by omega)] at h
    have : i - l.length = 0 := by
      have := (List.getElem?_eq_some_iff.mp h).1
      simp at this
      omega
    rw [this] at h
    simp at h
    exact .inr ⟨by omega, h.symm⟩
section
variable {K : Frag} {Z : Zs} {q : Addr} {o : HO} {ct : Ct}
theorem Ok.leOwn (ok : Ok K Z) (n : Z.H q = none) : Le Z (Z.own q o ct) where
  pre := ⟨[q], rfl, fun a h => by have : a = q := by simpa using h
                                  subst this; exact n⟩
  len := ok.len.symm
  liv := fun h c e => ⟨c, by show (Z.st ++ [ct])[h]? = _; rw [List.getElem?_append_left (List.getElem?_eq_some_iff.mp e).1]; exact e, Iff.rfl⟩
  frm := fun a u e _ _ => upd_keep n e
  fgn := rfl
  dom := fun a u e => ⟨u, upd_keep n e⟩
theorem Ok.own (ok : Ok K Z) (n : Z.H q = none) (hc : CtOk K (Z.own q o ct) q ct) (ho : NotTbl o := by exact fun _ z => nomatch z) : Ok K (Z.own q o ct) where
  len := by show (Z.φ ++ [q]).length = (Z.st ++ [ct]).length; rw [List.length_append, List.length_append, ok.len]; rfl
  nd := List.nodup_append.mpr ⟨ok.nd, by simp, fun a ha b hb z => by
    have : b = q := by simpa using hb
    subst this z
    exact ok.fresh n ha⟩
  ct := fun h a c e1 e2 => by
    have e1' : (Z.φ ++ [q])[h]? = some a := e1
    have e2' : (Z.st ++ [ct])[h]? = some c := e2
    rcases app1_get e1' with e1' | ⟨e1', z1⟩
    · rcases app1_get e2' with e2' | ⟨e2', z2⟩
      · exact ctok_st (ok.leOwn n).stay (fun q => q.tr (ok.leOwn n)) (fun u e _ => upd_keep n e) (fun u e => ⟨u, upd_keep n e⟩) (ok.ct h a c e1' e2')
      · have := (List.getElem?_eq_some_iff.mp e1').1
        rw [ok.len] at this
        omega
    · rcases app1_get e2' with e2' | ⟨e2', z2⟩
      · have := (List.getElem?_eq_some_iff.mp e2').1
        rw [← ok.len] at this
        omega
      · subst z1 z2
        exact hc
  fo := fun a h => let ⟨u, e⟩ := ok.fo a h; ⟨u, upd_keep n e⟩
  fd := fun a m f => by
    rcases List.mem_append.mp (show a ∈ Z.φ ++ [q] from m) with m | m
    · exact ok.fd a m f
    · have : a = q := by simpa using m
      subst this
      obtain ⟨o, e⟩ := ok.fo a f
      rw [n] at e; cases e
  tb := tabs_new ok.tb n (ok.leOwn (o := o) (ct := ct) n).w ho fun xs e w => by
    have eq : (Z.own q o ct).H q = some (.tup xs) := by rw [← e]; exact upd_same
    rcases w with ⟨i, c, e1, e2, lv⟩ | w
    · have e1' : (Z.φ ++ [q])[i]? = some q := e1
      have e2' : (Z.st ++ [ct])[i]? = some c := e2
      rcases app1_get e1' with e1' | ⟨e1', z1⟩
      · exact ok.fresh n (List.mem_of_getElem? e1')
      · rcases app1_get e2' with e2' | ⟨e2', z2⟩
        · have := (List.getElem?_eq_some_iff.mp e2').1
          rw [← ok.len] at this
          omega
        · subst z2
          exact hc.notup lv xs eq
    · obtain ⟨u, e⟩ := ok.fo q w
      rw [n] at e; cases e
theorem KOk.ownL {Qd : DK} {Q : VK} (k : KOk K Z Qd Q) (ok : Ok K Z) {xs : List V} {ds : List PyData} (r : Z.ImAll K xs ds) (w : Qd (.o Z.st.length) (Z.st ++ [.lst ds])) : ∀ p, Z.H p = none → Q (.ref p) (upd Z.H p (.lst xs)) := fun p n => by
  have l := ok.leOwn (o := .lst xs) (ct := .lst ds) n
  refine k (Z.own p (.lst xs) (.lst ds)) (.ref p) (.o Z.st.length) l (ok.own n ⟨xs, upd_same, ImAll.tr l.stay r⟩) ⟨p, .lst ds, rfl, ?_, ?_, trivial⟩ w
  · show (Z.φ ++ [p])[Z.st.length]? = _
    rw [← ok.len, List.getElem?_append_right (Nat.le_refl _)]
    simp
  · show (Z.st ++ [Ct.lst ds])[Z.st.length]? = _
    rw [List.getElem?_append_right (Nat.le_refl _)]
    simp
end
theorem de_lstO (h : DAs X E es t) : DEx X E (.List es pos) (wLstO t) := ⟨peI (pe_lst h.run) fun σ H Q ⟨Z, sl, Qd, Ed, h, ok, so, w, kq, kx⟩ =>
  ⟨Z, sl, _, Ed, h, ok, so, w, fun Z1 vs ss l1 ok1 r1 w1 => by
    simp only at w1
    split at w1
    · rename_i ds e
      have q := dsOf_ok r1 e
      exact ⟨by rw [q.length]; exact w1.1, (kq.le l1).ownL ok1 q w1.2⟩
    · exact w1.elim, kx⟩⟩
end
end Pz
set_option maxRecDepth 100000
namespace Pz
open PySem PySem.Spec PyProof.Rows L2 TL
variable [TabC]
section
variable {X : Cx} {E : WXs} {Z0 : Zs} {a b c e : Expr} {es : List Expr} {ta tb tc te : DE} {t : DA} {pos p : Pos} {x : Str} {K : Frag}
theorem rp1 {Z : Zs} {vs : List V} {s : Sl} (r : RpAll K Z vs [s]) : ∃ v, vs = [v] ∧ Rp K Z v s := by
  cases r with
  | cons p r => cases r; exact ⟨_, rfl, p⟩
theorem rp2 {Z : Zs} {vs : List V} {s t : Sl} (r : RpAll K Z vs [s, t]) : ∃ v u, vs = [v, u] ∧ Rp K Z v s ∧ Rp K Z u t := by
  cases r with
  | cons p r => obtain ⟨u, rfl, q⟩ := rp1 r; exact ⟨_, u, rfl, p, q⟩
def fLen : FA := fun ss st Q => match ss with
  | [s] => match vw st s with
    | some (.list ds) => Q (.d (.int ds.length)) st
    | some (.tuple ds) => Q (.d (.int ds.length)) st
    | some (.str z) => z.length ≤ sizeLine ∧ Q (.d (.int z.length)) st
    | _ => False
  | _ => False
theorem cd_len : CallD K (fun xs H Q => ∃ x n, xs = [x] ∧ LenV K x H n ∧ Q (.int n) H) fLen := by
  intro Z vs ss Qd Q ok ra w k
  unfold fLen at w
  split at w
  · obtain ⟨v, rfl, r⟩ := rp1 ra
    split at w
    · rename_i ds e
      obtain ⟨a, xs, rfl, h, q⟩ := r.list ok e
      exact ⟨_, ds.length, rfl, .inl ⟨xs, .of h, q.length.symm⟩, k.now ok (.int _) w⟩
    · rename_i ds e
      obtain ⟨a, xs, rfl, h, q⟩ := r.tuple e
      exact ⟨_, ds.length, rfl, .inr ⟨xs, h.sq, q.length.symm⟩, k.now ok (.int _) w⟩
    · rename_i z e
      obtain rfl := r.str e
      exact ⟨_, z.length, rfl, ⟨w.1, rfl⟩, k.now ok (.int _) w.2⟩
    · exact w.elim
  · exact w.elim
def fAbs : FA := fun ss st Q => match ss with
  | [s] => match vw st s with
    | some (.int i) => Q (.d (.int (if i < 0 then -i else i))) st
    | _ => False
  | _ => False
theorem cd_abs : CallD K (fun xs H Q => ∃ i, xs = [.int i] ∧ Q (.int (if i < 0 then -i else i)) H) fAbs := by
  intro Z vs ss Qd Q ok ra w k
  unfold fAbs at w
  split at w
  · obtain ⟨v, rfl, r⟩ := rp1 ra
    split at w
    · rename_i i e
      obtain rfl := r.int e
      exact ⟨i, rfl, k.now ok (.int _) w⟩
    · exact w.elim
  · exact w.elim
def fInt : FA := fun ss st Q => match ss with
  | [s] => match vw st s with
    | some (.int i) => Q (.d (.int i)) st
    | some (.bool b) => Q (.d (.int (if b then 1 else 0))) st
    | _ => False
  | _ => False
theorem cd_int : CallD K (fun xs H Q => (∃ i, xs = [.int i] ∧ Q (.int i) H) ∨ ∃ k, xs = [.bl k] ∧ Q (.int (if k then 1 else 0)) H) fInt := by
  intro Z vs ss Qd Q ok ra w k
  unfold fInt at w
  split at w
  · obtain ⟨v, rfl, r⟩ := rp1 ra
    split at w
    · rename_i i e
      obtain rfl := r.int e
      exact .inl ⟨i, rfl, k.now ok (.int _) w⟩
    · rename_i i e
      obtain rfl := r.bl e
      exact .inr ⟨i, rfl, k.now ok (.int _) w⟩
    · exact w.elim
  · exact w.elim
def asInts : List PyData → Option (List Int)
  | [] => some []
  | .int i :: r => match asInts r with
    | some ns => some (i :: ns)
    | none => none
  | .none :: _ => none
  | .bool _ :: _ => none
  | .str _ :: _ => none
  | .list _ :: _ => none
  | .tuple _ :: _ => none
  | .dict _ :: _ => none
theorem asInts_eq : ∀ {ds : List PyData} {ns : List Int}, asInts ds = some ns → ds = ns.map .int
  | [], ns, e => by simp only [asInts, Option.some.injEq] at e; subst e; rfl
  | .int i :: r, ns, e => by
    simp only [asInts] at e
    split at e
    · rename_i ns' e'
      simp only [Option.some.injEq] at e
      subst e
      rw [List.map_cons, ← asInts_eq e']
    · cases e
  | .none :: _, _, e => by simp [asInts] at e
  | .bool _ :: _, _, e => by simp [asInts] at e
  | .str _ :: _, _, e => by simp [asInts] at e
  | .list _ :: _, _, e => by simp [asInts] at e
  | .tuple _ :: _, _, e => by simp [asInts] at e
  | .dict _ :: _, _, e => by simp [asInts] at e
theorem ints_im {W : Addr → Prop} {H : Hp} : ∀ (ns : List Int), ImAll K W H (ns.map V.int) (ns.map .int)
  | [] => .nil
  | n :: ns => .cons (.int n) (ints_im ns)
def lmax : List Int → Int
  | [] => 0
  | x :: r => r.foldl max x
def lmin : List Int → Int
  | [] => 0
  | x :: r => r.foldl min x
def vwI (st : Sto) (s : Sl) : Option (List Int) := match vw st s with
  | some (.list ds) => asInts ds
  | _ => none
def fMax : FA := fun ss st Q => match ss with
  | [s] => match vwI st s with
    | some ns => 0 < ns.length ∧ Q (.d (.int (lmax ns))) st
    | none => False
  | [s, t] => match vw st s, vw st t with
    | some (.int i), some (.int j) => Q (.d (.int (max i j))) st
    | _, _ => False
  | _ => False
def fMin : FA := fun ss st Q => match ss with
  | [s] => match vwI st s with
    | some ns => 0 < ns.length ∧ Q (.d (.int (lmin ns))) st
    | none => False
  | [s, t] => match vw st s, vw st t with
    | some (.int i), some (.int j) => Q (.d (.int (min i j))) st
    | _, _ => False
  | _ => False
def fSum : FA := fun ss st Q => match ss with
  | [s] => match vwI st s with
    | some ns => Q (.d (.int ns.sum)) st
    | none => False
  | _ => False
def asBools : List PyData → Option (List Bool)
  | [] => some []
  | .bool i :: r => match asBools r with
    | some ns => some (i :: ns)
    | none => none
  | .none :: _ => none
  | .int _ :: _ => none
  | .str _ :: _ => none
  | .list _ :: _ => none
  | .tuple _ :: _ => none
  | .dict _ :: _ => none
def vwB (st : Sto) (s : Sl) : Option (List Bool) := match vw st s with
  | some (.list ds) => asBools ds
  | _ => none
def fAll : FA := fun ss st Q => match ss with
  | [s] => match vwB st s with
    | some ns => Q (.d (.bool (ns.all id))) st
    | none => False
  | _ => False
def fAny : FA := fun ss st Q => match ss with
  | [s] => match vwB st s with
    | some ns => Q (.d (.bool (ns.any id))) st
    | none => False
  | _ => False
def fList : FA := fun ss st Q => match ss with
  | [s] => match vw st s with
    | some (.list ds) => Q (.d (.list ds)) st
    | some (.tuple ds) => Q (.d (.list ds)) st
    | _ => False
  | _ => False
def fListO : FA := fun ss st Q => match ss with
  | [s] => match vw st s with
    | some (.list ds) => Q (.o st.length) (st ++ [.lst ds])
    | some (.tuple ds) => Q (.o st.length) (st ++ [.lst ds])
    | _ => False
  | _ => False
def fTuple : FA := fun ss st Q => match ss with
  | [s] => match vw st s with
    | some (.list ds) => Q (.d (.tuple ds)) st
    | some (.tuple ds) => Q (.d (.tuple ds)) st
    | _ => False
  | _ => False
def isort (ns : List Int) : List Int := ns.mergeSort fun a b => decide (a ≤ b)
def fSorted : FA := fun ss st Q => match ss with
  | [s] => match vwI st s with
    | some ns => Q (.d (.list ((isort ns).map .int))) st
    | none => False
  | _ => False
def fRepr : FA := fun ss st Q => match ss with
  | [s] => match vw st s with
    | some d => d.showable = true ∧ d.hasDict = false ∧ d.depth ≤ 60 ∧ d.shown.length ≤ sizeLine ∧ Q (.d (.str d.shown)) st
    | none => False
  | _ => False
end
end Pz
set_option maxRecDepth 100000
namespace Pz
open PySem PySem.Spec PyProof.Rows L2 TL
variable [TabC]
section
variable {X : Cx} {E : WXs} {Z0 : Zs} {a b c e : Expr} {es : List Expr} {ta tb tc te : DE} {t : DA} {pos p : Pos} {x : Str} {K : Frag}
def oIx (s t : Sl) (st : Sto) (Q : DK) : Prop := match vw st s, vw st t with
  | some (.list ds), some (.int i) => match atI ds i with
    | some d => Q (.d d) st
    | none => False
  | some (.tuple ds), some (.int i) => match atI ds i with
    | some d => Q (.d d) st
    | none => False
  | some (.str z), some (.int i) => z.length ≤ sizeLine ∧ match atI (tl z) i with
    | some c => Q (.d (.str ⟨#[c]⟩)) st
    | none => False
  | _, _ => False
theorem im_at {W : Addr → Prop} {H : Hp} {xs : List V} {ds : List PyData} {i : Int} {d : PyData} (q : ImAll K W H xs ds) (e : atI ds i = some d) : ∃ v, atI xs i = some v ∧ Im K W H v d := by
  unfold atI at e ⊢
  rw [q.length]
  cases z : ixN ds.length i with
  | none => rw [z] at e; cases e
  | some j =>
    rw [z] at e
    exact q.get' e
theorem d2_ix : D2 K (rIx K) oIx := by
  intro Z v u s t Qd Q ok r1 r2 w k
  unfold oIx at w
  split at w
  · rename_i ds i e1 e2
    split at w
    · rename_i d ed
      obtain ⟨a, xs, rfl, h, q⟩ := r1.list ok e1
      obtain rfl := r2.int e2
      obtain ⟨v, ev, rv⟩ := im_at q ed
      exact .inl ⟨a, xs, i, v, rfl, rfl, .of h, ev, k.now ok rv w⟩
    · exact w.elim
  · rename_i ds i e1 e2
    split at w
    · rename_i d ed
      obtain ⟨a, xs, rfl, h, q⟩ := r1.tuple e1
      obtain rfl := r2.int e2
      obtain ⟨v, ev, rv⟩ := im_at q ed
      exact .inr (.inl ⟨a, xs, i, v, rfl, rfl, h.sq, ev, k.now ok rv w⟩)
    · exact w.elim
  · rename_i z i e1 e2
    obtain ⟨hz, w⟩ := w
    split at w
    · rename_i c ec
      obtain rfl := r1.str e1
      obtain rfl := r2.int e2
      exact .inr (.inr ⟨z, i, c, rfl, rfl, hz, ec, k.now ok (.str _) w⟩)
    · exact w.elim
  · exact w.elim
abbrev DO := DX → Sls → Sto → (Option Int → Sto → Prop) → Prop
structure DPo (X : Cx) (E : WXs) (e : Option Expr) (τ : DO) : Prop where
  run : PO X e fun σ H Q => ∃ (Z : Zs) (sl : Sls) (Qd : Option Int → Sto → Prop) (Ed : DX), Z.H = H ∧ Ok X.K Z ∧ SlOk X.K Z σ sl ∧ τ Ed sl Z.st Qd ∧ (∀ (Z' : Zs) (o : Option Int), Le Z Z' → Ok X.K Z' → Qd o Z'.st → Q o Z'.H) ∧ KXOk X.K Z Ed E
def wNoPart : DO := fun _ _ st Q => Q none st
def wPart (te : DE) : DO := fun Ed sl st Q => te Ed sl st fun s st => match vw st s with
  | some (.int i) => Q (some i) st
  | _ => False
theorem poI {e : Option Expr} {t t' : TO} (h : PO X e t) (i : ∀ σ H Q, t' σ H Q → t σ H Q) : PO X e t' := by
  obtain ⟨h⟩ := h
  constructor
  intros
  exact h _ _ _ _ _ (by assumption) (i _ _ _ (by assumption))
theorem dpo_none : DPo X E none wNoPart := ⟨poI po_none fun σ H Q ⟨Z, sl, Qd, Ed, h, ok, so, w, k, kx⟩ => by
  subst h
  exact k Z none (.refl ok) ok w⟩
theorem dpo_some (he : DEx X E e te) : DPo X E (some e) (wPart te) := ⟨poI (po_some he.run) fun σ H Q ⟨Z, sl, Qd, Ed, h, ok, so, w, k, kx⟩ =>
  ⟨Z, sl, _, Ed, h, ok, so, w, fun Z1 v s l1 ok1 r1 w1 => by
    simp only at w1
    split at w1
    · rename_i i e
      exact ⟨i, r1.int e, k Z1 _ l1 ok1 w1⟩
    · exact w1.elim, kx⟩⟩
def cutD (xs : List α) (lo hi : Option Int) : List α := (xs.drop (HT.sIx xs.length 0 lo)).take (HT.sIx xs.length xs.length hi - HT.sIx xs.length 0 lo)
def oSl (s : Sl) (lo hi : Option Int) (st : Sto) (Q : DK) : Prop := match s with
  | .f ns => Q (.d (.list ((cutD ns lo hi).map .int))) st
  | s => match vw st s with
    | some (.list ds) => Q (.d (.list (cutD ds lo hi))) st
    | some (.tuple ds) => Q (.d (.tuple (cutD ds lo hi))) st
    | some (.str z) => z.length ≤ sizeLine ∧ Q (.d (.str (cutS z lo hi))) st
    | _ => False
def rSl (K : Frag) : V → Option Int → Option Int → Hp → VK → Prop := fun x lo hi H Q => rSlL K x lo hi H Q ∨ rSlA K x lo hi H Q ∨ rSlS x lo hi H Q
theorem sl_any : SlR X (rSl X.K) := sl_list.or (sl_tupA.or sl_str)
theorem im_cut {W : Addr → Prop} {H : Hp} {xs : List V} {ds : List PyData} (q : ImAll K W H xs ds) (lo hi : Option Int) : ImAll K W H (cutV xs lo hi) (cutD ds lo hi) := by
  unfold cutV cutD
  rw [q.length]
  exact (q.drop _).take _
theorem cut_map (f : α → β) (xs : List α) (lo hi : Option Int) : cutD (xs.map f) lo hi = (cutD xs lo hi).map f := by
  unfold cutD
  rw [List.length_map, ← List.map_drop, ← List.map_take]
def wSl (te : DE) (tl th : DO) : DE := fun Ed sl st Q => te Ed sl st fun s st => tl Ed sl st fun lo st => th Ed sl st fun hi st => oSl s lo hi st Q
variable {lo hi : Option Expr} {tlo thi : DO} {p2 : Pos}
theorem oSl_ok {Z : Zs} {v : V} {s : Sl} {lo hi : Option Int} {Qd : DK} {Q : VK} (ok : Ok K Z) (r : Rp K Z v s) (w : oSl s lo hi Z.st Qd) (k : KOk K Z Qd Q) : rSl K v lo hi Z.H Q := by
  have gen : ∀ s', (∀ ns, s' ≠ .f ns) → Rp K Z v s' → oSl s' lo hi Z.st Qd → rSl K v lo hi Z.H Q := fun s' ne r w => by
    unfold oSl at w
    split at w
    · exact absurd rfl (ne _)
    · split at w
      · rename_i ds e1
        obtain ⟨a, xs, rfl, h, q⟩ := r.list ok e1
        exact .inl ⟨a, xs, rfl, .of h, k.newL ok (im_cut q lo hi) w⟩
      · rename_i ds e1
        obtain ⟨a, xs, rfl, h, q⟩ := r.tuple e1
        refine .inr (.inl ⟨a, xs, rfl, h.sq, fun z => ?_, fun _ => k.newT ok (im_cut q lo hi) w⟩)
        have e2 : cutD ds lo hi = ds := by
          unfold cutD
          rw [← q.length, z.1, z.2, List.drop_zero, Nat.sub_zero, q.length]
          exact List.take_length
        rw [e2] at w
        exact k.now ok (.tup h q) w
      · rename_i z e1
        obtain rfl := r.str e1
        exact .inr (.inr ⟨z, rfl, w.1, k.now ok (.str _) w.2⟩)
      · exact w.elim
  cases s with
  | f ns =>
    obtain ⟨a, rfl, h⟩ := r
    refine .inl ⟨a, ns.map V.int, rfl, h.sq, ?_⟩
    rw [show cutV (ns.map V.int) lo hi = (cutD ns lo hi).map V.int from cut_map V.int ns lo hi]
    exact k.newL ok (ints_im _) w
  | d x => exact gen (.d x) (fun _ z => nomatch z) r w
  | o h => exact gen (.o h) (fun _ z => nomatch z) r w
  | r u => exact gen (.r u) (fun _ z => nomatch z) r w
  | l a b c => exact gen (.l a b c) (fun _ z => nomatch z) r w
theorem de_slice (he : DEx X E e te) (hl : DPo X E lo tlo) (hh : DPo X E hi thi) : DEx X E (.Subscript e (.Slice lo hi none p2) pos) (wSl te tlo thi) :=
  ⟨peI (pe_slice sl_any he.run hl.run hh.run) fun σ H Q ⟨Z, sl, Qd, Ed, h, ok, so, w, k, kx⟩ =>
    ⟨Z, sl, _, Ed, h, ok, so, w, fun Z1 v s l1 ok1 r1 w1 =>
      ⟨Z1, sl, _, Ed, rfl, ok1, so.tr l1, w1, fun Z2 o l2 ok2 w2 =>
        ⟨Z2, sl, _, Ed, rfl, ok2, (so.tr l1).tr l2, w2, fun Z3 o' l3 ok3 w3 =>
          oSl_ok ok3 ((r1.tr l2).tr l3) w3 (k.le ((l1.trans l2).trans l3)), (kx.le l1).le l2⟩, kx.le l1⟩, kx⟩⟩
variable {A : DT} {B : DT} {rest : List Expr}
def wAnd (t u : DT) : DT := fun Ed sl st Q => t Ed sl st fun b st => if b = true then u Ed sl st Q else Q false st
def wOr (t u : DT) : DT := fun Ed sl st Q => t Ed sl st fun b st => if b = true then Q true st else u Ed sl st Q
def wNot (t : DT) : DT := fun Ed sl st Q => t Ed sl st fun b st => Q (!b) st
theorem DWs.dt {τ : DT} (h : DWs X E e τ) : DTs X E e τ := ⟨h.run.pt⟩
theorem dw_and1 (ha : DTs X E a A) : DWs X E (.BoolOp .And [a] pos) A := ⟨pw_and1 ha.run⟩
theorem dw_or1 (ha : DTs X E a A) : DWs X E (.BoolOp .Or [a] pos) A := ⟨pw_or1 ha.run⟩
theorem dw_and (ha : DTs X E a A) (hb : DWs X E (.BoolOp .And (b :: rest) pos) B) : DWs X E (.BoolOp .And (a :: b :: rest) pos) (wAnd A B) :=
  ⟨pwI (pw_and ha.run hb.run) fun σ H Q ⟨Z, sl, Qd, Ed, h, ok, so, w, k, kx⟩ => ⟨Z, sl, _, Ed, h, ok, so, w, fun Z1 b l1 ok1 w1 => by
    cases b with
    | true => exact ⟨Z1, sl, Qd, Ed, rfl, ok1, so.tr l1, w1, fun Z2 c l2 => k Z2 c (l1.trans l2), kx.le l1⟩
    | false => exact k Z1 false l1 ok1 w1, kx⟩⟩
theorem dw_or (ha : DTs X E a A) (hb : DWs X E (.BoolOp .Or (b :: rest) pos) B) : DWs X E (.BoolOp .Or (a :: b :: rest) pos) (wOr A B) :=
  ⟨pwI (pw_or ha.run hb.run) fun σ H Q ⟨Z, sl, Qd, Ed, h, ok, so, w, k, kx⟩ => ⟨Z, sl, _, Ed, h, ok, so, w, fun Z1 b l1 ok1 w1 => by
    cases b with
    | false => exact ⟨Z1, sl, Qd, Ed, rfl, ok1, so.tr l1, w1, fun Z2 c l2 => k Z2 c (l1.trans l2), kx.le l1⟩
    | true => exact k Z1 true l1 ok1 w1, kx⟩⟩
theorem dt_not (ha : DTs X E a A) : DTs X E (.UnaryOp .Not a pos) (wNot A) :=
  ⟨ptI (pt_not ha.run) fun σ H Q ⟨Z, sl, Qd, Ed, h, ok, so, w, k, kx⟩ => ⟨Z, sl, _, Ed, h, ok, so, w, fun Z1 b l1 ok1 w1 => k Z1 (!b) l1 ok1 w1, kx⟩⟩
def wAndV (ta tb : DE) : DE := fun Ed sl st Q => ta Ed sl st fun s st => match s with
  | .d (.bool b) => if b = true then tb Ed sl st Q else Q (.d (.bool false)) st
  | _ => False
def wOrV (ta tb : DE) : DE := fun Ed sl st Q => ta Ed sl st fun s st => match s with
  | .d (.bool b) => if b = true then Q (.d (.bool true)) st else tb Ed sl st Q
  | _ => False
def wNotV (ta : DE) : DE := fun Ed sl st Q => ta Ed sl st fun s st => match s with
  | .d (.bool b) => Q (.d (.bool (!b))) st
  | _ => False
def wIfE (t : DT) (ta tb : DE) : DE := fun Ed sl st Q => t Ed sl st fun b st => if b = true then ta Ed sl st Q else tb Ed sl st Q
def truD (st : Sto) (s : Sl) : Option Bool := match vw st s with
  | some .none => some false
  | some (.bool b) => some b
  | some (.int i) => some (i != 0)
  | some (.str z) => if z.length ≤ sizeLine then some ((z.length : Int) != 0) else none
  | some (.list ds) => some (!ds.isEmpty)
  | some (.tuple ds) => some (!ds.isEmpty)
  | _ => none
theorem im_empty {W : Addr → Prop} {H : Hp} {xs : List V} {ds : List PyData} (q : ImAll K W H xs ds) : xs.isEmpty = ds.isEmpty := by cases q <;> rfl
theorem truD_ok {Z : Zs} (ok : Ok K Z) {v : V} {s : Sl} {b : Bool} (r : Rp K Z v s) (e : truD Z.st s = some b) : TruV K v Z.H b := by
  unfold truD at e
  split at e
  · rename_i e1; obtain rfl := r.non e1; simp only [Option.some.injEq] at e; exact (show b = false from e.symm)
  · rename_i e1; obtain rfl := r.bl e1; simp only [Option.some.injEq] at e; exact (show b = _ from e.symm)
  · rename_i e1; obtain rfl := r.int e1; simp only [Option.some.injEq] at e; exact e.symm
  · rename_i z e1
    obtain rfl := r.str e1
    split at e
    · rename_i hz; simp only [Option.some.injEq] at e; exact ⟨hz, e.symm⟩
    · cases e
  · rename_i ds e1
    obtain ⟨a, xs, rfl, h, q⟩ := r.list ok e1
    simp only [Option.some.injEq] at e
    exact .inl ⟨xs, .of h, by rw [im_empty q]; exact e.symm⟩
  · rename_i ds e1
    obtain ⟨a, xs, rfl, h, q⟩ := r.tuple e1
    simp only [Option.some.injEq] at e
    exact .inr (.inl ⟨xs, h.sq, by rw [im_empty q]; exact e.symm⟩)
  · cases e
def wTru (te : DE) : DT := fun Ed sl st Q => te Ed sl st fun s st => match truD st s with
  | some b => Q b st
  | none => False
theorem dt_tru (ha : DEx X E a ta) (he : ∀ whole, isTrue a X.env whole = (do let v ← whole; standAt a.pos; holding [v] (truthy v)) := by intro _; rfl) : DTs X E a (wTru ta) :=
  ⟨ptI (pt_truth ha.run he) fun σ H Q ⟨Z, sl, Qd, Ed, h, ok, so, w, k, kx⟩ => ⟨Z, sl, _, Ed, h, ok, so, w, fun Z1 v s l1 ok1 r1 w1 => by
    simp only at w1
    split at w1
    · rename_i b e
      exact ⟨b, truD_ok ok1 r1 e, k Z1 b l1 ok1 w1⟩
    · exact w1.elim, kx⟩⟩
def wChain (f g : Sl → Sl → Sto → DK → Prop) (ta tb tc : DE) : DE := fun Ed sl st Q => ta Ed sl st fun x st => tb Ed sl st fun y st => f x y st fun z st => match z with
  | .d (.bool b) => if b = true then tc Ed sl st fun w st => g y w st Q else Q (.d (.bool false)) st
  | _ => False
variable {op op' : CmpOp} {r r' : R2} {f g : Sl → Sl → Sto → DK → Prop}
def wNeg (ta : DE) : DE := fun Ed sl st Q => ta Ed sl st fun s st => match vw st s with
  | some (.int i) => Q (.d (.int (-i))) st
  | _ => False
end
end Pz
set_option maxRecDepth 100000
namespace Pz
open PySem PySem.Spec PyProof.Rows L2 TL
variable [TabC]
section
variable {X : Cx} {E : WXs} {Z0 : Zs} {a b c e : Expr} {es : List Expr} {ta tb tc te : DE} {t : DA} {pos p : Pos} {x : Str} {K : Frag} {st : Stmt} {rest body : List Stmt} {u v : DS}
def wNext : DS := fun D sl st => D.nx sl st
def wSeq (t u : DS) : DS := fun D sl st => t { D with nx := u D } sl st
theorem dss_nil : DSs X E Z0 [] wNext := ⟨pssI pss_nil fun D σ H ⟨Z, sl, Dd, h, l0, ok, so, w, en⟩ => by
  subst h
  exact en.nx Z sl σ l0 ⟨fun _ _ e _ _ => e, fun _ _ _ n _ => n⟩ ok so w⟩
theorem dss_cons (h1 : DSt X E Z0 st u) (h2 : DSs X E Z0 rest v) : DSs X E Z0 (st :: rest) (wSeq u v) :=
  ⟨pssI (pss_cons h1.run h2.run) fun D σ H ⟨Z, sl, Dd, h, l0, ok, so, w, en⟩ =>
    ⟨Z, sl, _, h, l0, ok, so, w, ⟨fun Z1 sl1 σ1 l1 k1 ok1 so1 w1 => ⟨Z1, sl1, Dd, rfl, l1, ok1, so1, w1, en.at k1⟩, en.rt, en.ex, en.bk, en.ct⟩⟩⟩
theorem dss_one (h1 : DSt X E Z0 st u) : DSs X E Z0 [st] u := ⟨pss_one h1.run⟩
def wBreak : DS := fun D sl st => D.bk sl st
def wCont : DS := fun D sl st => D.ct sl st
def wExpr (te : DE) : DS := fun D sl st => te D.ex sl st fun _ st => D.nx sl st
def wRet (te : DE) : DS := fun D sl st => te D.ex sl st D.rt
theorem ds_ret (he : DEx X E e te) : DSt X E Z0 (.Return (some e) pos) (wRet te) :=
  ⟨psI (ps_ret he.run) fun D σ H ⟨Z, sl, Dd, h, l0, ok, so, w, en⟩ =>
    ⟨Z, sl, _, Dd.ex, h, ok, so, w, fun Z1 v s l1 ok1 r1 w1 => en.rt Z1 v s (l0.trans l1) ok1 r1 w1, en.ex.le l0⟩⟩
def wRetN : DS := fun D _ st => D.rt (.d .none) st
def wIf (t : DT) (u v : DS) : DS := fun D sl st => t D.ex sl st fun b st => if b = true then u D sl st else v D sl st
theorem ds_if {A : DT} {s1 s2 : List Stmt} (hc : DTs X E c A) (ha : DSs X E Z0 s1 u) (hb : DSs X E Z0 s2 v) : DSt X E Z0 (.If c s1 s2 pos) (wIf A u v) :=
  ⟨psI (ps_if hc.run ha.run hb.run) fun D σ H ⟨Z, sl, Dd, h, l0, ok, so, w, en⟩ =>
    ⟨Z, sl, _, Dd.ex, h, ok, so, w, fun Z1 b l1 ok1 w1 => by
      cases b with
      | true => exact ⟨Z1, sl, Dd, rfl, l0.trans l1, ok1, so.tr l1, w1, en.at l1.stay⟩
      | false => exact ⟨Z1, sl, Dd, rfl, l0.trans l1, ok1, so.tr l1, w1, en.at l1.stay⟩, en.ex.le l0⟩⟩
def wNever : DS := fun _ _ _ => False
def wSet (i : Nat) (te : DE) : DS := fun D sl st => te D.ex sl st fun s st => D.nx (sl.set i (some s)) st
theorem ds_set (i : Nat) {pos' : Pos} (hN : X.N.Nodup) (he : DEx X E e te) (hi : X.N[i]? = some x := by rfl) (hx : Loc X.env.scope x := by first | exact Or.inl rfl | exact Or.inr rfl) (hs : swapsWith e (some (.Name x pos')) pos.line X.env = pure false := by rfl) (hf : X.fn x = true ∨ X.env.scope.names.lookup x = some .local := by first | exact .inl rfl | exact .inr rfl) :
    DSt X E Z0 (.Assign [.Name x pos'] e pos) (wSet i te) :=
  ⟨psI (ps_set hN hi hx he.run hs hf) fun D σ H ⟨Z, sl, Dd, h, l0, ok, so, w, en⟩ =>
    ⟨Z, sl, _, Dd.ex, h, ok, so, w, fun Z1 v s l1 ok1 r1 w1 => en.nx Z1 (sl.set i (some s)) _ (l0.trans l1) l1.stay ok1 ((so.tr l1).set i r1) w1, en.ex.le l0⟩⟩
def wAug (i : Nat) (f : Sl → Sl → Sto → DK → Prop) (te : DE) : DS := fun D sl st => match nthS sl i with
  | some s => te D.ex sl st fun t st => f s t st fun z st => D.nx (sl.set i (some z)) st
  | none => False
def wWhileN (t : DT) (u : DS) (D : DEnds) : Nat → Sls → Sto → Prop
  | 0 => fun _ _ => False
  | n + 1 => fun sl st => t D.ex sl st fun b st => if b = true then u { D with nx := wWhileN t u D n, ct := wWhileN t u D n, bk := D.nx } sl st else D.nx sl st
def wWhile (t : DT) (u : DS) : DS := fun D sl st => ∃ n, wWhileN t u D n sl st
abbrev DG := Sl → Sls → Sto → (Sls → Sto → Prop) → Prop
abbrev DGL := List PyData → Sls → Sto → (Sls → Sto → Prop) → Prop
structure DGt (X : Cx) (tg : Expr) (is : List Nat) (g : DG) : Prop where
  run : PG X tg fun v σ H Q => ∃ (Z : Zs) (sl : Sls) (s : Sl) (Qd : Sls → Sto → Prop), Z.H = H ∧ Ok X.K Z ∧ SlOk X.K Z σ sl ∧ Rp X.K Z v s ∧ g s sl Z.st Qd ∧ ∀ (σ' : L2.St) (sl' : Sls), σ'.length = σ.length → (∀ j : Nat, j ∉ is → σ'[j]? = σ[j]?) → SlOk X.K Z σ' sl' → Qd sl' Z.st → Q σ' Z.H
structure DGs (X : Cx) (ts : List Expr) (is : List Nat) (g : DGL) : Prop where
  run : PGs X ts fun vs σ H Q => ∃ (Z : Zs) (sl : Sls) (ds : List PyData) (Qd : Sls → Sto → Prop), Z.H = H ∧ Ok X.K Z ∧ SlOk X.K Z σ sl ∧ Z.ImAll X.K vs ds ∧ g ds sl Z.st Qd ∧ ∀ (σ' : L2.St) (sl' : Sls), σ'.length = σ.length → (∀ j : Nat, j ∉ is → σ'[j]? = σ[j]?) → SlOk X.K Z σ' sl' → Qd sl' Z.st → Q σ' Z.H
theorem pgI {tg : Expr} {t t' : TG} (h : PG X tg t) (i : ∀ v σ H Q, t' v σ H Q → t v σ H Q) : PG X tg t' := ⟨fun pins s σ H v u Q I r q => h.run pins s σ H v u Q I r (i v σ H Q q)⟩
theorem pgsI {tg : List Expr} {t t' : TGs} (h : PGs X tg t) (i : ∀ v σ H Q, t' v σ H Q → t v σ H Q) : PGs X tg t' := ⟨fun pins s σ H v u Q I r q => h.run pins s σ H v u Q I r (i v σ H Q q)⟩
def gNm (i : Nat) : DG := fun s sl st Q => Q (sl.set i (some s)) st
theorem dg_name (i : Nat) (hN : X.N.Nodup) (hi : X.N[i]? = some x := by rfl) (hx : Loc X.env.scope x := by first | exact Or.inl rfl | exact Or.inr rfl) (hf : X.fn x = true ∨ X.env.scope.names.lookup x = some .local := by first | exact .inl rfl | exact .inr rfl) : DGt X (.Name x pos) [i] (gNm i) :=
  ⟨pgI (pg_name hN hi hx hf) fun v σ H Q ⟨Z, sl, s, Qd, h, ok, so, r, w, k⟩ => by
    subst h
    exact k _ _ (List.length_set) (fun j hj => List.getElem?_set_ne (by simpa using fun z => hj (by simp [z]))) (so.set i r) w⟩
def gNl : DGL := fun ds sl st Q => match ds with
  | [] => Q sl st
  | _ => False
def gCn (g : DG) (gs : DGL) : DGL := fun ds sl st Q => match ds with
  | d :: ds => g (.d d) sl st fun sl st => gs ds sl st Q
  | [] => False
theorem dgs_nil : DGs X [] [] gNl := ⟨pgsI pgs_nil fun vs σ H Q ⟨Z, sl, ds, Qd, h, ok, so, r, w, k⟩ => by
  subst h
  unfold gNl at w
  split at w
  · cases r
    exact ⟨rfl, k σ sl rfl (fun _ _ => rfl) so w⟩
  · exact w.elim⟩
theorem dgs_cons {e : Expr} {es : List Expr} {is js : List Nat} {g : DG} {gs : DGL} (h1 : DGt X e is g) (h2 : DGs X es js gs) (hs : (assignEach (e :: es) X.env).map (·.2) = assign e X.env :: (assignEach es X.env).map (·.2) := by rfl) : DGs X (e :: es) (is ++ js) (gCn g gs) :=
  ⟨pgsI (pgs_cons h1.run h2.run hs) fun vs σ H Q ⟨Z, sl, ds, Qd, h, ok, so, r, w, k⟩ => by
    subst h
    unfold gCn at w
    split at w
    · rename_i d ds
      cases r with
      | cons p r =>
        refine ⟨_, _, rfl, Z, sl, .d d, _, rfl, ok, so, p, w, fun σ1 sl1 e1 f1 so1 w1 => ?_⟩
        refine ⟨Z, sl1, ds, Qd, rfl, ok, so1, r, w1, fun σ2 sl2 e2 f2 so2 w2 => k σ2 sl2 (e2.trans e1) (fun j hj => ?_) so2 w2⟩
        rw [f2 j fun z => hj (List.mem_append_right _ z), f1 j fun z => hj (List.mem_append_left _ z)]
    · exact w.elim⟩
def gTp (n : Nat) (gs : DGL) : DG := fun s sl st Q => match vw st s with
  | some (.tuple ds) => ds.length = n ∧ gs ds sl st Q
  | _ => False
theorem dg_tup {es : List Expr} {is : List Nat} {gs : DGL} {kk n : Nat} (hc : X.calm = true) (h : DGs X es is gs) (hn : (assignEach es X.env).length = n := by rfl) (hst : (assignEach es X.env).findIdx? (·.1) = none := by rfl) : DGt X (.Tuple es kk pos) is (gTp n gs) :=
  ⟨pgI (pg_tup hc h.run hn hst) fun v σ H Q ⟨Z, sl, s, Qd, h, ok, so, r, w, k⟩ => by
    subst h
    unfold gTp at w
    split at w
    · rename_i ds e1
      obtain ⟨a, xs, rfl, h, q⟩ := r.tuple e1
      exact ⟨a, xs, rfl, h.sq, q.length.trans w.1, Z, sl, ds, Qd, rfl, ok, so, q, w.2, k⟩
    · exact w.elim⟩
def wAsg (te : DE) (g : DG) : DS := fun D sl st => te D.ex sl st fun s st => g s sl st D.nx
structure ItD (K : Frag) (J : It) (Z1 : Zs) (ds : List PyData) : Prop where
  go : ∀ Z, Kp Z1 Z → Ok K Z → ∀ i, i < ds.length → J.go i Z.H
  stop : ∀ Z, Kp Z1 Z → Ok K Z → J.stop ds.length Z.H
  yld : ∀ Z, Kp Z1 Z → Ok K Z → ∀ (i : Nat) v H' d, ds[i]? = some d → J.yld i Z.H v H' → ∃ Z', Le Z Z' ∧ Ok K Z' ∧ Z'.H = H' ∧ Z'.st = Z.st ∧ Z'.Im K v d
abbrev DI := DX → Sls → Sto → (List PyData → Sto → Prop) → Prop
def upI (K : Frag) (E : WXs) (ω : DI) : TI := fun σ H R => ∃ (Z : Zs) (sl : Sls) (Rd : List PyData → Sto → Prop) (Ed : DX), Z.H = H ∧ Ok K Z ∧ SlOk K Z σ sl ∧ ω Ed sl Z.st Rd ∧ (∀ (Z' : Zs) (J : It) (ds : List PyData), Le Z Z' → Ok K Z' → ItD K J Z' ds → Rd ds Z'.st → R J Z'.H) ∧ KXOk K Z Ed E
structure DIt (X : Cx) (E : WXs) (tg iter : Expr) (ω : DI) : Prop where
  run : PI X tg iter (upI X.K E ω)
theorem piI {tg iter : Expr} {t t' : TI} (h : PI X tg iter t) (i : ∀ σ H R, t' σ H R → t σ H R) : PI X tg iter t' := ⟨fun pins s σ H R I q => h.run pins s σ H R I (i σ H R q)⟩
def wForL (g : DG) (u : DS) (D : DEnds) : List PyData → Sls → Sto → Prop
  | [] => D.nx
  | d :: ds => fun sl st => g (.d d) sl st fun sl st => u { D with nx := wForL g u D ds, ct := wForL g u D ds, bk := D.nx } sl st
def wFor (ω : DI) (g : DG) (u : DS) : DS := fun D sl st => ω D.ex sl st fun ds st => wForL g u D ds sl st
theorem ds_for {tg iter : Expr} {is : List Nat} {ω : DI} {g : DG} (hp : PassesOwn (model X.prog X.w) X.A X.env X.xe) (hc : X.calm = true) (hi : DIt X E tg iter ω) (hg : DGt X tg is g) (hb : DSs X E Z0 body u)
    (hs : ∀ x, foldedSetIterable iter X.env x = pure x := by intro _; rfl) : DSt X E Z0 (.For tg iter body [] pos) (wFor ω g u) :=
  ⟨psI (ps_for hp hc hi.run hg.run hb.run hs) fun D σ H ⟨Z, sl, Dd, h, l0, ok, so, w, en⟩ => by
    refine ⟨Z, sl, _, Dd.ex, h, ok, so, w, fun Z1 J ds l1 ok1 it w1 => ?_, en.ex.le l0⟩
    refine ⟨fun i m σ H => m = ds.length - i ∧ i ≤ ds.length ∧ ∃ (Z2 : Zs) (sl2 : Sls), Z2.H = H ∧ Le Z0 Z2 ∧ Kp Z1 Z2 ∧ Ok X.K Z2 ∧ SlOk X.K Z2 σ sl2 ∧ wForL g u Dd (ds.drop i) sl2 Z2.st,
      ⟨ds.length, by simp, Nat.zero_le _, Z1, sl, rfl, l0.trans l1, ⟨fun _ _ e _ _ => e, fun _ _ _ n _ => n⟩, ok1, so.tr l1, w1⟩, ?_⟩
    rintro i m σ2 H2 ⟨rfl, hi, Z2, sl2, rfl, l2, k2, ok2, so2, w2⟩
    have kz := l1.stay.trans k2
    by_cases hlt : i < ds.length
    · rw [List.drop_eq_getElem_cons hlt] at w2
      refine .inr ⟨it.go Z2 k2 ok2 i hlt, fun σ' H' => ∃ (Z3 : Zs) (sl3 : Sls), Z3.H = H' ∧ Le Z0 Z3 ∧ Kp Z1 Z3 ∧ Ok X.K Z3 ∧ SlOk X.K Z3 σ' sl3 ∧ wForL g u Dd (ds.drop (i + 1)) sl3 Z3.st,
        fun σ' H' z => ⟨ds.length - (i + 1), by omega, rfl, hlt, z⟩, fun v H' y => ?_⟩
      obtain ⟨Z3, l3, ok3, rfl, est, rv⟩ := it.yld Z2 k2 ok2 i v H' _ (List.getElem?_eq_getElem hlt) y
      rw [← est] at w2
      refine ⟨Z3, sl2, .d ds[i], _, rfl, ok3, so2.tr l3, rv, w2, fun σ4 sl4 _ _ so4 w4 => ?_⟩
      have kw := k2.trans l3.stay
      have kv := kz.trans l3.stay
      exact ⟨Z3, sl4, _, rfl, l2.trans l3, ok3, so4, w4, ⟨fun Z5 sl5 σ5 l5 k5 ok5 so5 w5 => ⟨Z5, sl5, rfl, l5, kw.trans k5, ok5, so5, w5⟩, en.rt, en.ex.at kv, fun Z5 sl5 σ5 l5 k5 => en.nx Z5 sl5 σ5 l5 (kv.trans k5), fun Z5 sl5 σ5 l5 k5 ok5 so5 w5 => ⟨Z5, sl5, rfl, l5, kw.trans k5, ok5, so5, w5⟩⟩⟩
    · have e : i = ds.length := by omega
      subst e
      rw [List.drop_length] at w2
      exact .inl ⟨it.stop Z2 k2 ok2, en.nx Z2 sl2 σ2 l2 kz ok2 so2 w2⟩⟩
theorem it_list {tg iter : Expr} {pins : List (Addr × Obj)} {σ : L2.St} {H : Hp} {s : Shared} {R : It → Hp → Prop} {a : Addr} {xs : List V} (I : L2.Inv X pins σ H s) (h : SqL X.K H a xs) (q : R (Itl X.K a) H) : wpAny (model X.prog X.w) X.A (pyIter (.ref a)) (PIE X pins σ tg R) X.xe s := by
  obtain ⟨its, rv, p, hz⟩ := I.list h
  exact wpAny_pyIter_list p.isList (pi_one (tk := s.toks) I _ (turn_list a _) ⟨_, Heap.get?_push_size _ rfl, rfl, rfl⟩ q)
theorem it_tup {tg iter : Expr} {pins : List (Addr × Obj)} {σ : L2.St} {H : Hp} {s : Shared} {R : It → Hp → Prop} {a : Addr} {xs : List V} (I : L2.Inv X pins σ H s) (h : SqT X.K H a xs) (q : R (Itt X.K a) H) : wpAny (model X.prog X.w) X.A (pyIter (.ref a)) (PIE X pins σ tg R) X.xe s := by
  obtain ⟨its, rv, p, hz⟩ := I.tuple h
  exact wpAny_pyIter_tuple (show s.heap.IsTuple a its.toArray from p) (pi_one (tk := s.toks) I _ (turn_tuple a _) ⟨_, Heap.get?_push_size _ rfl, rfl, rfl⟩ q)
theorem it_str {tg iter : Expr} {pins : List (Addr × Obj)} {σ : L2.St} {H : Hp} {s : Shared} {R : It → Hp → Prop} {z : Str} {tk : Tok} (I : L2.Inv X pins σ H s) (q : R (Its z) H) : wpAny (model X.prog X.w) X.A (pyIter (.str z tk)) (PIE X pins σ tg R) X.xe s := by
  cases ha : z.cps.all (· < 128)
  · exact wpAny_pyIter_wide ha (pi_one (tk := s.toks) I _ (turn_str _ z tk "str_iterator" (.inr rfl)) ⟨_, Heap.get?_push_size _ rfl, rfl, rfl⟩ q)
  · exact wpAny_pyIter_ascii ha (pi_one (tk := s.toks) I _ (turn_str _ z tk "str_ascii_iterator" (.inl rfl)) ⟨_, Heap.get?_push_size _ rfl, rfl, rfl⟩ q)
def signs (z : Str) : List PyData := (tl z).map fun c => .str ⟨#[c]⟩
def wItE (te : DE) : DI := fun Ed sl st Q => te Ed sl st fun s st => match s with
  | .d (.list ds) => Q ds st
  | .d (.tuple ds) => Q ds st
  | .d (.str z) => Q (signs z) st
  | _ => False
theorem itd_list {Z1 : Zs} {a : Addr} {xs : List V} {ds : List PyData} (h : Z1.H a = some (.lst xs)) (n : ¬ Z1.W a) (r : Z1.ImAll K xs ds) : ItD K (Itl K a) Z1 ds where
  go := fun Z k ok i hi => ⟨xs, xs[i]'(by rw [r.length]; exact hi), .of (k.f _ _ h n), List.getElem?_eq_getElem _⟩
  stop := fun Z k ok => ⟨xs, .of (k.f _ _ h n), by rw [r.length]; exact Nat.le_refl _⟩
  yld := fun Z k ok i v H' d e y => by
    obtain ⟨rfl, y⟩ := y
    obtain ⟨v', e', r'⟩ := r.get' e
    have := (y xs (.of (k.f _ _ h n))).symm.trans e'
    cases this
    exact ⟨Z, .refl ok, ok, rfl, rfl, Im.tr k r'⟩
theorem itd_tup {Z1 : Zs} {a : Addr} {xs : List V} {ds : List PyData} (h : ImT K Z1.W Z1.H a xs) (r : Z1.ImAll K xs ds) : ItD K (Itt K a) Z1 ds where
  go := fun Z k ok i hi => ⟨xs, xs[i]'(by rw [r.length]; exact hi), (h.tr k).sq, List.getElem?_eq_getElem _⟩
  stop := fun Z k ok => ⟨xs, (h.tr k).sq, by rw [r.length]; exact Nat.le_refl _⟩
  yld := fun Z k ok i v H' d e y => by
    obtain ⟨rfl, y⟩ := y
    obtain ⟨v', e', r'⟩ := r.get' e
    have := (y xs (h.tr k).sq).symm.trans e'
    cases this
    exact ⟨Z, .refl ok, ok, rfl, rfl, Im.tr k r'⟩
theorem itd_str {Z1 : Zs} (z : Str) : ItD K (Its z) Z1 (signs z) where
  go := fun Z k ok i hi => by
    have : i < z.cps.size := by simpa [signs, tl] using hi
    exact this
  stop := fun Z k ok => by
    show z.cps.size ≤ (signs z).length
    simp [signs, tl]
  yld := fun Z k ok i v H' d e y => by
    obtain ⟨rfl, c, ec, rfl⟩ := y
    simp only [signs, List.getElem?_map, tl, Array.getElem?_toList, ec, Option.map_some, Option.some.injEq] at e
    subst e
    exact ⟨Z, .refl ok, ok, rfl, rfl, .str _⟩
theorem di_e {tg : Expr} (he : DEx X E e te) : DIt X E tg e (wItE te) :=
  ⟨⟨fun pins s σ H R I ⟨Z, sl, Rd, Ed, h, ok, so, w, k, kx⟩ => thn (he.run.run pins s σ H (fun v H1 => (∃ a xs, v = .ref a ∧ SqL X.K H1 a xs ∧ R (Itl X.K a) H1) ∨ (∃ a xs, v = .ref a ∧ SqT X.K H1 a xs ∧ R (Itt X.K a) H1) ∨ ∃ z, v = .str z ∧ R (Its z) H1) I ⟨Z, sl, _, Ed, h, ok, so, w, fun Z1 v s l1 ok1 r1 w1 => by
      simp only at w1
      split at w1
      · cases r1 with
        | lst h n r => exact .inl ⟨_, _, rfl, .of h, k Z1 _ _ l1 ok1 (itd_list h n r) w1⟩
      · cases r1 with
        | tup h r => exact .inr (.inl ⟨_, _, rfl, h.sq, k Z1 _ _ l1 ok1 (itd_tup h r) w1⟩)
      · rename_i z
        cases r1
        exact .inr (.inr ⟨z, rfl, k Z1 _ _ l1 ok1 (itd_str z) w1⟩)
      · exact w1.elim, kx⟩) fun v s1 ⟨y, H1, I1, r1, q1⟩ => by
    rcases q1 with ⟨a, xs, rfl, h1, q⟩ | ⟨a, xs, rfl, h1, q⟩ | ⟨z, rfl, q⟩
    · cases r1
      exact it_list (iter := e) I1 h1 q
    · cases r1
      exact it_tup (iter := e) I1 h1 q
    · obtain ⟨tk, rfl⟩ := r1
      exact it_str (iter := e) I1 q⟩⟩
def rng (lo : Int) (n : Nat) : List PyData := (List.range n).map fun i => .int (lo + (i : Nat))
theorem itd_rng {Z1 : Zs} (lo : Int) (n : Nat) : ItD K (Itr lo n) Z1 (rng lo n) where
  go := fun Z k ok i hi => by
    show i < n
    simpa [rng] using hi
  stop := fun Z k ok => by
    show n ≤ _
    simp [rng]
  yld := fun Z k ok i v H' d e y => by
    obtain ⟨rfl, rfl⟩ := y
    have hi : i < n := by
      have := (List.getElem?_eq_some_iff.mp e).1
      simpa [rng] using this
    simp only [rng, List.getElem?_map, List.getElem?_range hi, Option.map_some, Option.some.injEq] at e
    subst e
    exact ⟨Z, .refl ok, ok, rfl, rfl, .int _⟩
def wRng1 (t : DA) : DI := fun Ed sl st Q => t Ed sl st fun ss st => match ss with
  | [s] => match vw st s with
    | some (.int j) => -(2 ^ 62) ≤ j ∧ j < 2 ^ 62 ∧ Q (rng 0 j.toNat) st
    | _ => False
  | _ => False
theorem di_rng1 {tg : Expr} (hg : Gl X "range") (hm : X.mg "range" = none) (ha : DAs X E [a] t) (hs : starEach [a] X.env = [(false, eval a X.env)] := by rfl) : DIt X E tg (.Call (.Name "range" p) [a] [] pos) (wRng1 t) :=
  ⟨piI (pi_range1 hg hm ha.run hs) fun σ H R ⟨Z, sl, Rd, Ed, h, ok, so, w, k, kx⟩ => ⟨Z, sl, _, Ed, h, ok, so, w, fun Z1 vs ss l1 ok1 r1 w1 => by
    simp only at w1
    split at w1
    · obtain ⟨v, rfl, rv⟩ := rp1 r1
      split at w1
      · rename_i j ej
        obtain rfl := rv.int ej
        exact ⟨j, rfl, w1.1, w1.2.1, k Z1 _ _ l1 ok1 (itd_rng 0 j.toNat) w1.2.2⟩
      · exact w1.elim
    · exact w1.elim, kx⟩⟩
def wRng2 (t : DA) : DI := fun Ed sl st Q => t Ed sl st fun ss st => match ss with
  | [s, s'] => match vw st s, vw st s' with
    | some (.int i), some (.int j) => (-(2 ^ 62) ≤ i ∧ i < 2 ^ 62 ∧ -(2 ^ 62) ≤ j ∧ j < 2 ^ 62) ∧ Q (rng i (j - i).toNat) st
    | _, _ => False
  | _ => False
end
end Pz
set_option maxRecDepth 100000
namespace Pz
open PySem PySem.Spec PyProof.Rows L2 TL
variable [TabC]
def wipeS (sl : Sls) : List Nat → Sls
  | [] => sl
  | v :: vs => (wipeS sl vs).set v none
theorem wipe_get (σ : L2.St) : ∀ (vs : List Nat) (j : Nat), (wipe σ vs)[j]? = if j ∈ vs ∧ j < σ.length then some none else σ[j]?
  | [], j => by simp [wipe]
  | v :: vs, j => by
    unfold wipe
    by_cases e : v = j
    · subst e
      by_cases hl : v < σ.length
      · rw [List.getElem?_set_self (by rw [wipe_length]; exact hl), if_pos ⟨by simp, hl⟩]
      · rw [if_neg (fun h => hl h.2), List.getElem?_eq_none (by rw [List.length_set, wipe_length]; omega), List.getElem?_eq_none (by omega)]
    · rw [List.getElem?_set_ne e, wipe_get σ vs j]
      have : j ∈ v :: vs ↔ j ∈ vs := by simp [Ne.symm e]
      simp only [this]
theorem wipe_same {σ τ : L2.St} {vs : List Nat} (hl : τ.length = σ.length) (h : ∀ j, j ∉ vs → τ[j]? = (wipe σ vs)[j]?) : wipe τ vs = wipe σ vs := by
  refine List.ext_getElem? fun j => ?_
  rw [wipe_get τ, wipe_get σ, hl]
  by_cases hj : j ∈ vs
  · by_cases hlt : j < σ.length
    · rw [if_pos ⟨hj, hlt⟩, if_pos ⟨hj, hlt⟩]
    · rw [if_neg (fun h => hlt h.2), if_neg (fun h => hlt h.2), List.getElem?_eq_none (by omega), List.getElem?_eq_none (by omega)]
  · rw [if_neg (fun h => hj h.1), if_neg (fun h => hj h.1), h j hj, wipe_get, if_neg (fun h => hj h.1)]
theorem SlOk.wipe {K : Frag} {Z : Zs} {σ : L2.St} {sl : Sls} (so : SlOk K Z σ sl) : ∀ vs, SlOk K Z (wipe σ vs) (wipeS sl vs)
  | [] => so
  | v :: vs => by
    have ih := SlOk.wipe so vs
    unfold wipeS L2.wipe
    refine ⟨by rw [List.length_set, List.length_set]; exact ih.len, fun i s e => ?_⟩
    by_cases hi : v = i
    · subst hi
      rcases Nat.lt_or_ge v (wipeS sl vs).length with q | q
      · rw [List.getElem?_set_self q] at e; cases e
      · rw [List.getElem?_eq_none (by simpa using q)] at e; cases e
    · rw [List.getElem?_set_ne hi] at e
      obtain ⟨u, q, r⟩ := ih.has i s e
      exact ⟨u, by rw [List.getElem?_set_ne hi]; exact q, r⟩
structure DPt (X : Cx) (E : WXs) (ifs : List Expr) (τ : DT) : Prop where
  run : PTs X ifs (upT X.K E τ)
def wYes : DT := fun _ _ st Q => Q true st
section
variable {X : Cx} {E : WXs} {Z0 : Zs} {a b c e : Expr} {es : List Expr} {ta tb tc te : DE} {t : DA} {pos p : Pos} {x : Str} {K : Frag} {A : DT}
theorem dpt_nil : DPt X E [] wYes := ⟨⟨fun pins s σ H Q I ⟨Z, sl, Qd, Ed, h, ok, so, w, k, kx⟩ => pts_nil.run pins s σ H Q I (by
  subst h
  exact k Z true (.refl ok) ok w)⟩⟩
def wLcL (g : DG) (tt : DT) (te : DE) (sl : Sls) : List PyData → List PyData → Sto → (List PyData → Sto → Prop) → Prop
  | [], acc => fun st Q => Q acc st
  | d :: ds, acc => fun st Q => g (.d d) sl st fun sl2 st => tt (fun _ _ _ _ => False) sl2 st fun b st => if b = true then te (fun _ _ _ _ => False) sl2 st fun s st => match s with
      | .d y => acc.length < sizeLine ∧ wLcL g tt te sl ds (acc ++ [y]) st Q
      | _ => False
    else wLcL g tt te sl ds acc st Q
def wLc (ω : DI) (g : DG) (tt : DT) (te : DE) (vs : List Nat) : DE := fun Ed sl st Q => ω Ed sl st fun ds st => wLcL g tt te (wipeS sl vs) ds [] st fun acc st => Q (.d (.list acc)) st
def wLcO (ω : DI) (g : DG) (tt : DT) (te : DE) (vs : List Nat) : DE := fun Ed sl st Q => ω Ed sl st fun ds st => wLcL g tt te (wipeS sl vs) ds [] st fun acc st => Q (.o st.length) (st ++ [.lst acc])
abbrev Zs.wo (Z : Zs) (F : Addr → Prop) : Zs := ⟨Z.φ, Z.st, Z.H, F⟩
theorem Le.wo {Z Z' : Zs} (l : Le Z Z') (F : Addr → Prop) : Le (Z.wo F) (Z'.wo F) := ⟨l.pre, l.len, l.liv, l.frm, rfl, l.dom⟩
theorem rp_stay {Z Z' : Zs} (s : Stay Z.W Z'.W Z.H Z'.H) (eφ : Z'.φ = Z.φ) (es : Z'.st = Z.st) {v : V} {y : Sl} (r : Rp K Z v y) : Rp K Z' v y := by
  cases y with
  | d x => exact Im.tr s r
  | o h => obtain ⟨a, c, q1, q2, q3, q4⟩ := r; exact ⟨a, c, q1, by rw [eφ]; exact q2, by rw [es]; exact q3, q4⟩
  | r u => exact r
  | l _ _ _ => exact ⟨r.1, r.2.trans s⟩
  | f ns => obtain ⟨a, q1, q2⟩ := r; exact ⟨a, q1, q2.tr s⟩
theorem SlOk.stay {Z Z' : Zs} (s : Stay Z.W Z'.W Z.H Z'.H) (eφ : Z'.φ = Z.φ) (es : Z'.st = Z.st) {σ : L2.St} {sl : Sls} (so : SlOk K Z σ sl) : SlOk K Z' σ sl :=
  ⟨so.len, fun i y e => let ⟨v, q, r⟩ := so.has i y e; ⟨v, q, rp_stay s eφ es r⟩⟩
theorem Ok.stay {Z Z' : Zs} (s : Stay Z.W Z'.W Z.H Z'.H) (eφ : Z'.φ = Z.φ) (es : Z'.st = Z.st) (hH : ∀ a ∈ Z.φ, ∀ o, Z.H a = some o → Z'.H a = some o) (fo : ∀ a, Z'.F a → ∃ o, Z'.H a = some o) (fd : ∀ a ∈ Z.φ, ¬ Z'.F a) (tb : TabOk Z'.W Z'.H) (ok : Ok K Z) : Ok K Z' where
  len := by rw [eφ, es]; exact ok.len
  nd := by rw [eφ]; exact ok.nd
  ct := fun h a c e1 e2 => by
    rw [eφ] at e1
    rw [es] at e2
    exact ctok_st s (fun r => rp_stay s eφ es r) (fun o e _ => hH a (List.mem_of_getElem? e1) o e) (fun o e => ⟨o, hH a (List.mem_of_getElem? e1) o e⟩) (ok.ct h a c e1 e2)
  fo := fo
  fd := by rw [eφ]; exact fd
  tb := tb
theorem mk_new {Z : Zs} {D : Addr} {o : HO} (ok : Ok K Z) (n : Z.H D = none) : Stay Z.W (Zs.mk Z.φ Z.st (upd Z.H D o) fun a => Z.F a ∨ a = D).W Z.H (upd Z.H D o) :=
  ⟨fun b u e _ _ => upd_keep n e, fun b u e nw _ w => by
    rcases w with w | w | w
    · exact nw (.inl w)
    · exact nw (.inr w)
    · subst w; rw [n] at e; cases e⟩
theorem mk_upd {Z : Zs} {D : Addr} {o : HO} (hD : Z.W D) : Stay Z.W (Zs.mk Z.φ Z.st (upd Z.H D o) Z.F).W Z.H (upd Z.H D o) :=
  ⟨fun b u e nw _ => by
    rw [upd_ne (fun z => nw (by subst z; exact hD))]
    exact e, fun b u e nw _ => nw⟩
variable {elt tg iter : Expr} {ifs : List Expr} {scope : Scope} {own : List (Str × Nat)} {ω : DI} {is : List Nat} {g : DG} {tt : DT}
theorem lc_ok {wi : TI} {σ : L2.St} {H : Hp} {Q : VK} (hv : ∀ i ∈ is, i ∈ own.map (·.2)) (own? : Bool)
    (h : upE X.K E (fun Ed sl st Q => ω Ed sl st fun ds st => wLcL g tt te (wipeS sl (own.map (·.2))) ds [] st fun acc st => if own? = true then Q (.o st.length) (st ++ [.lst acc]) else Q (.d (.list acc)) st) σ H Q) :
    tLc (upI X.K E ω) (fun v σ H Q => ∃ (Z : Zs) (sl : Sls) (s : Sl) (Qd : Sls → Sto → Prop), Z.H = H ∧ Ok X.K Z ∧ SlOk X.K Z σ sl ∧ Rp X.K Z v s ∧ g s sl Z.st Qd ∧ ∀ (σ' : L2.St) (sl' : Sls), σ'.length = σ.length → (∀ j : Nat, j ∉ is → σ'[j]? = σ[j]?) → SlOk X.K Z σ' sl' → Qd sl' Z.st → Q σ' Z.H)
      (upT X.K W0 tt) (upE X.K W0 te) (own.map (·.2)) σ H Q := by
  obtain ⟨Z, sl, Qd, Ed, h, ok, so, w, kq, kx⟩ := h
  refine ⟨Z, sl, _, Ed, h, ok, so, w, fun Z1 J ds l1 ok1 it w1 D nD => ?_, kx⟩
  generalize hvs : own.map (·.2) = vs at *
  have so1 := so.tr l1
  have nW1 := ok1.nw nD
  let G : List PyData → Hp → Prop := fun rest H => ∃ (Z2 : Zs) (acc : List PyData) (xs : List V), Z2.H = H ∧ Le Z1 (Z2.wo Z1.F) ∧ Z2.F = (fun a => Z1.F a ∨ a = D) ∧ D ∉ Z2.φ ∧ Kp Z1 Z2 ∧ Ok X.K Z2 ∧ SlOk X.K Z2 σ sl ∧ Z2.H D = some (.lst xs) ∧ Z2.ImAll X.K xs acc ∧
    wLcL g tt te (wipeS sl vs) rest acc Z2.st fun acc st => if own? = true then Qd (.o st.length) (st ++ [.lst acc]) else Qd (.d (.list acc)) st
  refine ⟨fun i m H => m = ds.length - i ∧ i ≤ ds.length ∧ G (ds.drop i) H, ⟨ds.length, by simp, Nat.zero_le _, ?_⟩, ?_⟩
  · have sy := mk_new (o := .lst []) ok1 nD
    refine ⟨Zs.mk Z1.φ Z1.st (upd Z1.H D (.lst [])) fun a => Z1.F a ∨ a = D, [], [], rfl, ⟨⟨[], by simp, fun _ h => by cases h⟩, ok1.len.symm, fun h c e => ⟨c, e, Iff.rfl⟩, fun a u e _ _ => upd_keep nD e, rfl, fun a u e => ⟨u, upd_keep nD e⟩⟩, rfl, ok1.fresh nD, sy, ?_, so1.stay sy rfl rfl, upd_same, .nil, w1⟩
    refine ok1.stay sy rfl rfl (fun a m u e => upd_keep nD e) (fun a f => ?_) (fun a m f => ?_) ?_
    · rcases f with f | f
      · obtain ⟨u, e⟩ := ok1.fo a f
        exact ⟨u, upd_keep nD e⟩
      · subst f
        exact ⟨_, upd_same⟩
    · rcases f with f | f
      · exact ok1.fd a m f
      · subst f
        exact ok1.fresh nD m
    · refine tabs_new ok1.tb nD fun x w => ?_
      rcases w with w | w | w
      · exact .inl (.inl w)
      · exact .inl (.inr w)
      · subst w; exact .inr nD
  rintro i m H2 ⟨rfl, hi, Z2, acc, xs, rfl, l2, eF, nφ, k2, ok2, so2, hD, rx, w2⟩
  by_cases hlt : i < ds.length
  · rw [List.drop_eq_getElem_cons hlt] at w2
    refine .inr ⟨it.go Z2 k2 ok2 i hlt, fun H' => G (ds.drop (i + 1)) H', fun H' z => ⟨ds.length - (i + 1), by omega, rfl, hlt, z⟩, fun v H' y => ?_⟩
    obtain ⟨Z3, l3, ok3, rfl, est, rv⟩ := it.yld Z2 k2 ok2 i v H' _ (List.getElem?_eq_getElem hlt) y
    rw [← est] at w2
    have keep : ∀ {Z4 : Zs}, Le Z2 Z4 → Z4.H D = some (.lst xs) ∧ D ∉ Z4.φ ∧ Z4.F = (fun a => Z1.F a ∨ a = D) ∧ Le Z1 (Z4.wo Z1.F) ∧ Kp Z1 Z4 ∧ SlOk X.K Z4 σ sl ∧ Z4.ImAll X.K xs acc := fun {Z4} l4 => by
      refine ⟨l4.frm D _ hD (fun z => nφ z.mem) (fun _ z => nomatch z), fun z => ?_, l4.fgn.trans eF, l2.trans (l4.wo _), k2.trans l4.stay, so2.tr l4, ImAll.tr l4.stay rx⟩
      obtain ⟨ψ, e, hn⟩ := l4.pre
      rw [e] at z
      rcases List.mem_append.mp z with z | z
      · exact nφ z
      · have := hn D z
        rw [hD] at this
        cases this
    obtain ⟨d3, n3, f3, q3, k3, s3, i3⟩ := keep l3
    refine ⟨Z3, wipeS sl vs, .d ds[i], _, rfl, ok3, s3.wipe vs, rv, w2, fun σ' sl' e1 e2 so4 w4 => ?_⟩
    refine ⟨wipe_same (by rw [e1, wipe_length]) fun j hj => e2 j fun z => hj (hv j z), ?_⟩
    refine ⟨Z3, sl', _, _, rfl, ok3, so4, w4, fun Z4 b l4 ok4 w5 => ?_, fun _ _ _ _ _ _ _ _ _ _ _ _ z => z⟩
    cases b with
    | false =>
      obtain ⟨d4, n4, f4, q4, k4, s4, i4⟩ := keep (l3.trans l4)
      exact ⟨Z4, acc, xs, rfl, q4, f4, n4, k4, ok4, s4, d4, i4, w5⟩
    | true =>
      refine ⟨Z4, sl', _, _, rfl, ok4, so4.tr l4, w5, fun Z5 u s l5 ok5 r5 w6 => ?_, fun _ _ _ _ _ _ _ _ _ _ _ _ z => z⟩
      obtain ⟨d5, n5, f5, q5, k5, s5, i5⟩ := keep ((l3.trans l4).trans l5)
      simp only at w6
      split at w6
      · rename_i y
        have wD : Z5.W D := .inr (by rw [f5]; exact .inr rfl)
        have sy := mk_upd (o := .lst (xs ++ [u])) wD
        refine ⟨xs, d5, by rw [i5.length]; exact w6.1, Zs.mk Z5.φ Z5.st (upd Z5.H D (.lst (xs ++ [u]))) Z5.F, acc ++ [y], xs ++ [u], rfl, ?_, f5, n5, k5.trans sy, ?_, s5.stay sy rfl rfl, upd_same, (ImAll.tr sy i5).append (.cons (Im.tr sy r5) .nil), w6.2⟩
        · refine ⟨q5.pre, q5.len, q5.liv, fun a o e na nt => ?_, rfl, fun a o e => ?_⟩
          · have ne : a ≠ D := fun z => by subst z; rw [nD] at e; cases e
            show upd Z5.H D _ a = _
            rw [upd_ne ne]
            exact q5.frm a o e na nt
          · have ne : a ≠ D := fun z => by subst z; rw [nD] at e; cases e
            obtain ⟨o', e'⟩ := q5.dom a o e
            exact ⟨o', by show upd Z5.H D _ a = _; rw [upd_ne ne]; exact e'⟩
        · refine ok5.stay sy rfl rfl (fun a m o e => ?_) (fun a f => ?_) ok5.fd (tabs_upd ok5.tb (fun _ z => by rw [d5] at z; cases z) (fun _ _ z => by rw [d5] at z; cases z) (fun x w => .inl w))
          · show upd Z5.H D _ a = _
            rw [upd_ne (fun z => n5 (by subst z; exact m))]
            exact e
          · by_cases ne : a = D
            · subst ne; exact ⟨_, upd_same⟩
            · obtain ⟨o, e⟩ := ok5.fo a f
              exact ⟨o, by show upd Z5.H D _ a = _; rw [upd_ne ne]; exact e⟩
      · exact w6.elim
  · have ei : i = ds.length := by omega
    subst ei
    rw [List.drop_length] at w2
    refine .inl ⟨it.stop Z2 k2 ok2, ?_⟩
    have sy : Stay Z2.W (Z2.wo Z1.F).W Z2.H Z2.H := Stay.less fun a w => by
      rcases w with w | w
      · exact .inl w
      · exact .inr (by rw [eF]; exact .inl w)
    have okE : Ok X.K (Z2.wo Z1.F) := ok2.stay sy rfl rfl (fun a _ o e => e) (fun a f => by
      obtain ⟨o, e⟩ := ok1.fo a f
      exact l2.dom a o e) (fun a m f => ok2.fd a m (by rw [eF]; exact .inl f)) (ok2.tb.less fun a w => by
      rcases w with w | w
      · exact .inl w
      · exact .inr (by rw [eF]; exact .inl w))
    have nwD : ¬ (Z2.wo Z1.F).W D := fun w => by
      rcases w with w | w
      · exact nφ w.mem
      · exact nW1 (.inr w)
    have w2' : if own? = true then Qd (.o Z2.st.length) (Z2.st ++ [.lst acc]) else Qd (.d (.list acc)) Z2.st := w2
    cases own? with
    | false => exact kq (Z2.wo Z1.F) (.ref D) (.d (.list acc)) (l1.trans l2) okE (Im.lst hD nwD (ImAll.tr sy rx)) w2'
    | true =>
      rw [if_pos rfl] at w2'
      have hl := ok2.len
      refine kq (Zs.mk (Z2.φ ++ [D]) (Z2.st ++ [.lst acc]) Z2.H Z1.F) (.ref D) (.o Z2.st.length) (l1.trans ?_) ?_ ⟨D, .lst acc, rfl, ?_, ?_, trivial⟩ w2'
      · obtain ⟨ψ, e, hn⟩ := l2.pre
        refine ⟨⟨ψ ++ [D], by show Z2.φ ++ [D] = _; rw [show Z2.φ = Z1.φ ++ ψ from e, List.append_assoc], fun a m => ?_⟩, l2.len, fun h c e => ?_, l2.frm, rfl, l2.dom⟩
        · rcases List.mem_append.mp m with m | m
          · exact hn a m
          · have : a = D := by simpa using m
            subst this; exact nD
        · obtain ⟨c', q1, q2⟩ := l2.liv h c e
          exact ⟨c', by show (Z2.st ++ _)[h]? = _; rw [List.getElem?_append_left (List.getElem?_eq_some_iff.mp q1).1]; exact q1, q2⟩
      · have hW2 : ∀ a, (Zs.mk (Z2.φ ++ [D]) (Z2.st ++ [.lst acc]) Z2.H Z1.F).W a → Z2.W a := fun a w => by
          rcases w with ⟨j, c', p1, p2, p3⟩ | w
          · rcases app1_get (show (Z2.φ ++ [D])[j]? = some a from p1) with p1 | ⟨p1, z1⟩
            · rcases app1_get (show (Z2.st ++ [Ct.lst acc])[j]? = some c' from p2) with p2 | ⟨p2, z2⟩
              · exact .inl ⟨j, c', p1, p2, p3⟩
              · have := (List.getElem?_eq_some_iff.mp p1).1
                omega
            · subst z1
              exact .inr (by rw [eF]; exact .inr rfl)
          · exact .inr (by rw [eF]; exact .inl w)
        have sy2 : Stay Z2.W (Zs.mk (Z2.φ ++ [D]) (Z2.st ++ [.lst acc]) Z2.H Z1.F).W Z2.H Z2.H := Stay.less hW2
        have rp2 : ∀ {v : V} {y : Sl}, Rp X.K Z2 v y → Rp X.K (Zs.mk (Z2.φ ++ [D]) (Z2.st ++ [.lst acc]) Z2.H Z1.F) v y := fun {v y} r => by
          cases y with
          | d x => exact Im.tr sy2 r
          | o h =>
            obtain ⟨a, c, q1, q2, q3, q4⟩ := r
            exact ⟨a, c, q1, by show (Z2.φ ++ _)[h]? = _; rw [List.getElem?_append_left (List.getElem?_eq_some_iff.mp q2).1]; exact q2, by show (Z2.st ++ _)[h]? = _; rw [List.getElem?_append_left (List.getElem?_eq_some_iff.mp q3).1]; exact q3, q4⟩
          | r u => exact r
          | l _ _ _ => exact ⟨r.1, r.2.trans sy2⟩
          | f ns => obtain ⟨a, q1, q2⟩ := r; exact ⟨a, q1, q2.tr sy2⟩
        refine ⟨?_, List.nodup_append.mpr ⟨ok2.nd, by simp, fun a ha b hb z => ?_⟩, fun h a c e1 e2 => ?_, okE.fo, fun a m f => ?_, ok2.tb.less hW2⟩
        · show (Z2.φ ++ [D]).length = (Z2.st ++ [Ct.lst acc]).length
          rw [List.length_append, List.length_append, hl]
          rfl
        · have : b = D := by simpa using hb
          subst this z
          exact nφ ha
        · rcases app1_get (show (Z2.φ ++ [D])[h]? = some a from e1) with e1 | ⟨e1, z1⟩
          · rcases app1_get (show (Z2.st ++ [Ct.lst acc])[h]? = some c from e2) with e2 | ⟨e2, z2⟩
            · exact ctok_st sy2 rp2 (fun _ e _ => e) (fun o e => ⟨o, e⟩) (ok2.ct h a c e1 e2)
            · have := (List.getElem?_eq_some_iff.mp e1).1
              omega
          · rcases app1_get (show (Z2.st ++ [Ct.lst acc])[h]? = some c from e2) with e2 | ⟨e2, z2⟩
            · have := (List.getElem?_eq_some_iff.mp e2).1
              omega
            · subst z1 z2
              exact ⟨xs, hD, ImAll.tr sy2 rx⟩
        · rcases List.mem_append.mp (show a ∈ Z2.φ ++ [D] from m) with m | m
          · exact okE.fd a m f
          · have : a = D := by simpa using m
            subst this
            obtain ⟨o, e⟩ := ok1.fo a f
            rw [nD] at e; cases e
      · show (Z2.φ ++ [D])[Z2.st.length]? = _
        rw [← hl, List.getElem?_append_right (Nat.le_refl _)]
        simp
      · show (Z2.st ++ [Ct.lst acc])[Z2.st.length]? = _
        rw [List.getElem?_append_right (Nat.le_refl _)]
        simp
theorem setLc_ok {st : Stmt} {wi : TE} {te : DE} {i : Nat} (h : PS X st (tAsg wi (gName i))) (hh : ∀ σ H Q, upE X.K E te σ H Q → wi σ H Q) : DSt X E Z0 st (wSet i te) :=
  ⟨psI h fun D σ H ⟨Z, sl, Dd, h, l0, ok, so, w, en⟩ => hh _ _ _ ⟨Z, sl, _, Dd.ex, h, ok, so, w, fun Z1 v s l1 ok1 r1 w1 => en.nx Z1 (sl.set i (some s)) _ (l0.trans l1) l1.stay ok1 ((so.tr l1).set i r1) w1, en.ex.le l0⟩⟩
theorem ds_setLc (i : Nat) {y : Str} {py spos : Pos} (hc : X.calm = true) (hN : X.N.Nodup) (hi : DIt X E tg iter ω) (ok : BlkOk X.N X.env.scope scope own) (hv : ∀ i ∈ is, i ∈ own.map (·.2))
    (hg : ∀ (s : Shared) (H : Hp) (C : Addr) (cl : List (Str × Addr)) (fp : List Addr), DGt (X.blk s H scope (compEnvC scope cl C X.env) fp) tg is g) (ht : ∀ (s : Shared) (H : Hp) (C : Addr) (cl : List (Str × Addr)) (fp : List Addr), DPt (X.blk s H scope (compEnvC scope cl C X.env) fp) W0 ifs tt)
    (he : ∀ (s : Shared) (H : Hp) (C : Addr) (cl : List (Str × Addr)) (fp : List Addr), DEx (X.blk s H scope (compEnvC scope cl C X.env) fp) W0 elt te) (hsw : swapsWith (.ListComp elt [⟨tg, iter, ifs, 0⟩] scope pos) (some (.Name y py)) spos.line X.env = pure true)
    (hs : ∀ x, foldedSetIterable iter X.env x = pure x := by intro _; rfl) (hy : X.N[i]? = some y := by rfl) (hyl : X.env.scope.names.lookup y = some .local := by rfl) : DSt X E Z0 (.Assign [.Name y py] (.ListComp elt [⟨tg, iter, ifs, 0⟩] scope pos) spos) (wSet i (wLc ω g tt te (own.map (·.2)))) :=
  setLc_ok (ps_setLc hc hN hy hyl hsw hi.run ok (fun s H C cl fp => (hg s H C cl fp).run) (fun s H C cl fp => (ht s H C cl fp).run) (fun s H C cl fp => (he s H C cl fp).run) hs) fun σ H Q h => lc_ok (wi := fun _ _ _ => True) hv false h
end
end Pz
set_option maxRecDepth 100000
namespace Pz
open PySem PySem.Spec PyProof.Rows L2 TL
variable [TabC]
section
variable {K : Frag} {Z : Zs} {h : Nat} {a : Addr} {c c' : Ct} {o : HO}
def Zs.put (Z : Zs) (h : Nat) (a : Addr) (o : HO) (c : Ct) : Zs := ⟨Z.φ, Z.st.set h c, upd Z.H a o, Z.F⟩
theorem Ok.one (ok : Ok K Z) {i j : Nat} (e1 : Z.φ[i]? = some a) (e2 : Z.φ[j]? = some a) : i = j := by
  have l1 := (List.getElem?_eq_some_iff.mp e1).1
  have l2 := (List.getElem?_eq_some_iff.mp e2).1
  rw [List.getElem?_eq_getElem l1] at e1
  rw [List.getElem?_eq_getElem l2] at e2
  exact (List.getElem_inj ok.nd).mp ((Option.some.inj e1).trans (Option.some.inj e2).symm)
theorem Ok.lePut (ok : Ok K Z) (e1 : Z.φ[h]? = some a) (e2 : Z.st[h]? = some c) (lv : c.live) (lv' : c'.live) : Le Z (Z.put h a o c') where
  pre := ⟨[], by simp [Zs.put], fun _ h => by cases h⟩
  len := ok.len.symm
  liv := fun j d e => by
    show ∃ d', (Z.st.set h c')[j]? = some d' ∧ _
    by_cases z : h = j
    · subst z
      rw [e2] at e
      cases e
      exact ⟨c', List.getElem?_set_self (List.getElem?_eq_some_iff.mp e2).1, ⟨fun _ => lv', fun _ => lv⟩⟩
    · exact ⟨d, by rw [List.getElem?_set_ne z]; exact e, Iff.rfl⟩
  frm := fun b u e nb _ => by
    show upd Z.H a o b = _
    rw [upd_ne (fun z => nb (by subst z; exact ⟨h, c, e1, e2, lv⟩))]
    exact e
  fgn := rfl
  dom := fun b u e => by
    show ∃ o', upd Z.H a o b = some o'
    by_cases z : b = a
    · subst z; exact ⟨_, upd_same⟩
    · exact ⟨u, by rw [upd_ne z]; exact e⟩
theorem Ok.put (ok : Ok K Z) (e1 : Z.φ[h]? = some a) (e2 : Z.st[h]? = some c) (lv : c.live) (lv' : c'.live) (new : CtOk K (Z.put h a o c') a c') (hw : c.wr := by trivial) (ho : NotTbl o := by exact fun _ z => nomatch z) : Ok K (Z.put h a o c') where
  len := by show Z.φ.length = (Z.st.set h c').length; rw [List.length_set]; exact ok.len
  nd := ok.nd
  ct := fun j b d q1 q2 => by
    have q1' : Z.φ[j]? = some b := q1
    have q2' : (Z.st.set h c')[j]? = some d := q2
    by_cases z : h = j
    · subst z
      rw [List.getElem?_set_self (List.getElem?_eq_some_iff.mp e2).1] at q2'
      cases q2'
      rw [e1] at q1'
      cases q1'
      exact new
    · rw [List.getElem?_set_ne z] at q2'
      have l := ok.lePut (o := o) e1 e2 lv lv'
      refine ctok_st l.stay (fun r => r.tr l) (fun u e _ => ?_) (fun u e => l.dom b u e) (ok.ct j b d q1' q2')
      show upd Z.H a o b = _
      rw [upd_ne (fun y => z (by subst y; exact ok.one e1 q1'))]
      exact e
  fo := fun b f => by
    obtain ⟨u, e⟩ := ok.fo b f
    exact (ok.lePut (o := o) (c' := c') e1 e2 lv lv').dom b u e
  fd := ok.fd
  tb := by
    have q := ok.ct h a c e1 e2
    refine tabs_upd ok.tb (fun ps z => ?_) (fun c0 q0 z => ?_) (ok.lePut (o := o) e1 e2 lv lv').w ho (fun xs e _ => new.notup lv' xs (by rw [← e]; exact upd_same))
    · cases c with
      | lst ds => obtain ⟨vs, z1, _⟩ := q; rw [z1] at z; cases z
      | lsS ds => obtain ⟨vs, z1, _⟩ := q; rw [z1] at z; cases z
      | dK kvs => obtain ⟨vs, z1, _⟩ := q; rw [z1] at z; cases z
      | dT kvs => obtain ⟨vs, z1, _⟩ := q; rw [z1] at z; cases z
      | dN fs => obtain ⟨us, z1, _⟩ := q; rw [z1] at z; cases z
      | ins C fs => obtain ⟨dx, us, z1, _⟩ := q; rw [z1] at z; cases z
      | exc c fs => exact hw.elim
      | dead => exact hw.elim
    · unfold LamX.CodeO at z
      cases c with
      | lst ds => obtain ⟨vs, z1, _⟩ := q; rw [z1] at z; cases z
      | lsS ds => obtain ⟨vs, z1, _⟩ := q; rw [z1] at z; cases z
      | dK kvs => obtain ⟨vs, z1, _⟩ := q; rw [z1] at z; cases z
      | dT kvs => obtain ⟨vs, z1, _⟩ := q; rw [z1] at z; cases z
      | dN fs => obtain ⟨us, z1, _⟩ := q; rw [z1] at z; exact nd_code (Option.some.inj z)
      | ins C fs => obtain ⟨dx, us, z1, _⟩ := q; rw [z1] at z; cases z
      | exc c fs => exact hw.elim
      | dead => exact hw.elim
theorem Rp.hl (ok : Ok K Z) {v : V} {h : Nat} {ds : List PyData} (r : Rp K Z v (.o h)) (e : Z.st[h]? = some (.lst ds)) : ∃ a xs, v = .ref a ∧ Z.φ[h]? = some a ∧ Z.H a = some (.lst xs) ∧ Z.ImAll K xs ds := by
  obtain ⟨a, c, ev, e1, e2, e3⟩ := r
  rw [e] at e2
  cases e2
  obtain ⟨xs, q, r⟩ := ok.ct h a _ e1 e
  exact ⟨a, xs, ev, e1, q, r⟩
end
section
variable {X : Cx} {E : WXs} {Z0 : Zs} {e ob ix : Expr} {es : List Expr} {to ti te : DE} {t : DA} {pos cpos apos tpos : Pos} {x name : Str} {K : Frag} {T id : String}
abbrev FM := Sl → List Sl → Sto → DK → Prop
def MetD (K : Frag) (r : V → List V → Hp → VK → Prop) (f : FM) : Prop := ∀ (Z : Zs) (v : V) (s : Sl) (vs : List V) (ss : List Sl) (Qd : DK) (Q : VK), Ok K Z → Rp K Z v s → RpAll K Z vs ss → f s ss Z.st Qd → KOk K Z Qd Q → r v vs Z.H Q
def tyD (T : String) (st : Sto) (s : Sl) : Prop := match vw st s with
  | some (.list _) => T = "list"
  | some (.str _) => T = "str"
  | _ => False
def wBM (T : String) (f : FM) (to : DE) (t : DA) : DE := fun Ed sl st Q => to Ed sl st fun s st => tyD T st s ∧ t Ed sl st fun ss st => f s ss st Q
def mAppend : FM := fun s ss st Q => match s, ss with
  | .o h, [.d y] => match st[h]? with
    | some (.lst ds) => ds.length < sizeLine ∧ Q (.d .none) (st.set h (.lst (ds ++ [y])))
    | _ => False
  | _, _ => False
def mExtend : FM := fun s ss st Q => match s, ss with
  | .o h, [y] => match st[h]?, vw st y with
    | some (.lst ds), some (.list zs) => ds.length + zs.length ≤ sizeLine ∧ Q (.d .none) (st.set h (.lst (ds ++ zs)))
    | _, _ => False
  | _, _ => False
def mPop : FM := fun s ss st Q => match s, ss with
  | .o h, [] => match st[h]? with
    | some (.lst ds) => match ds[ds.length - 1]? with
      | some d => Q (.d d) (st.set h (.lst ds.dropLast))
      | none => False
    | _ => False
  | _, _ => False
def mReverse : FM := fun s ss st Q => match s, ss with
  | .o h, [] => match st[h]? with
    | some (.lst ds) => Q (.d .none) (st.set h (.lst ds.reverse))
    | _ => False
  | _, _ => False
def wSetIx (te to ti : DE) : DS := fun D sl st => te D.ex sl st fun v st => to D.ex sl st fun o st => ti D.ex sl st fun i st => match o, v, i with
  | .o h, .d y, .d (.int j) => match st[h]? with
    | some (.lst ds) => match ixN ds.length j with
      | some n => D.nx sl (st.set h (.lst (ds.set n y)))
      | none => False
    | _ => False
  | _, _, _ => False
theorem ds_setIx (he : DEx X E e te) (ho : DEx X E ob to) (hi : DEx X E ix ti)
    (ha : ∀ v, assign (.Subscript ob ix tpos) X.env v = (do
      let ov ← holding [v] (eval ob X.env)
      let iv ← holding [v, ov] (eval ix X.env)
      standAt tpos
      holding [v, ov, iv] (setItem ov iv v)
      release [v, ov, iv] []) := by intro _; rfl)
    (hs : swapsWithSole [.Subscript ob ix tpos] e pos.line X.env = pure false := by rfl) (hw : swappedStores [.Subscript ob ix tpos] e X.env = pure none := by rfl)
    (h1 : (assignEach [.Subscript ob ix tpos] X.env).map (·.2) = [assign (.Subscript ob ix tpos) X.env] := by rfl) : DSt X E Z0 (.Assign [.Subscript ob ix tpos] e pos) (wSetIx te to ti) :=
  ⟨psI (ps_asg he.run (pg_sub ho.run hi.run set_list ha) hs hw h1) fun D σ H ⟨Z, sl, Dd, h, l0, ok, so, w, en⟩ =>
    ⟨Z, sl, _, Dd.ex, h, ok, so, w, fun Z1 v s l1 ok1 r1 w1 => ⟨Z1, sl, _, Dd.ex, rfl, ok1, so.tr l1, w1, fun Z2 u t l2 ok2 r2 w2 => ⟨Z2, sl, _, Dd.ex, rfl, ok2, (so.tr l1).tr l2, w2, fun Z3 i y l3 ok3 r3 w3 => by
      simp only at w3
      split at w3
      · rename_i hh d j
        split at w3
        · rename_i ds es
          split at w3
          · rename_i n en'
            obtain ⟨a, xs, rfl, e1, q, r⟩ := (r2.tr l3).hl ok3 es
            obtain rfl : i = .int j := by cases r3; rfl
            refine ⟨a, xs, j, n, rfl, rfl, q, by rw [r.length]; exact en', ?_⟩
            have l := ok3.lePut (o := .lst (xs.set n v)) (c' := .lst (ds.set n d)) e1 es trivial trivial
            have lz := ((l1.trans l2).trans l3).trans l
            have rv : Z3.Im X.K v d := (r1.tr l2).tr l3
            exact en.nx (Z3.put hh a (.lst (xs.set n v)) (.lst (ds.set n d))) sl σ (l0.trans lz) lz.stay (ok3.put e1 es trivial trivial ⟨_, upd_same, ImAll.tr l.stay (r.set rv n)⟩) (so.tr lz) w3
          · exact w3.elim
        · exact w3.elim
      · exact w3.elim, (en.ex.le l0).le (l1.trans l2)⟩, (en.ex.le l0).le l1⟩, en.ex.le l0⟩⟩
def frzS (h : Nat) (ds : List PyData) : Option Sl → Option Sl
  | some (.o j) => if j = h then some (.d (.list ds)) else some (.o j)
  | s => s
def NoRef (h : Nat) : Ct → Prop
  | .ins _ fs => ∀ p ∈ fs, p.2 ≠ .o h
  | .lsS xs => ∀ x ∈ xs, x ≠ .o h
  | .dN kvs => ∀ p ∈ kvs, p.2 ≠ .o h
  | _ => True
def wFrz (n0 i : Nat) (u : DS) : DS := fun D sl st => match nthS sl i with
  | some (.o h) => match st[h]? with
    | some (.lst ds) => n0 ≤ h ∧ (∀ c ∈ st, NoRef h c) ∧ u D (sl.map (frzS h ds)) (st.set h .dead)
    | _ => False
  | _ => u D sl st
theorem frz_ok {Z : Zs} {σ : L2.St} {sl : Sls} {h : Nat} {ds : List PyData} (ok : Ok K Z) (so : SlOk K Z σ sl) (l0 : Le Z0 Z) (hn : Z0.st.length ≤ h) (e : Z.st[h]? = some (.lst ds)) (nr : ∀ c ∈ Z.st, NoRef h c) :
    ∃ Z' : Zs, Z'.H = Z.H ∧ Z'.st = Z.st.set h .dead ∧ Le Z0 Z' ∧ Kp Z Z' ∧ Ok K Z' ∧ SlOk K Z' σ (sl.map (frzS h ds)) := by
  have hh : h < Z.st.length := (List.getElem?_eq_some_iff.mp e).1
  have hφ : h < Z.φ.length := by rw [ok.len]; exact hh
  have e1 : Z.φ[h]? = some Z.φ[h] := List.getElem?_eq_getElem hφ
  obtain ⟨xs, eH, rx⟩ := ok.ct h _ _ e1 e
  have hW : ∀ a, (Zs.mk Z.φ (Z.st.set h .dead) Z.H Z.F).W a → Z.W a := fun a w => by
    rcases w with ⟨j, c, q1, q2, q3⟩ | w
    · have q2' : (Z.st.set h .dead)[j]? = some c := q2
      by_cases z : h = j
      · subst z
        rw [List.getElem?_set_self hh] at q2'
        cases q2'
        exact q3.elim
      · rw [List.getElem?_set_ne z] at q2'
        exact .inl ⟨j, c, q1, q2', q3⟩
    · exact .inr w
  have sy : Stay Z.W (Zs.mk Z.φ (Z.st.set h .dead) Z.H Z.F).W Z.H Z.H := Stay.less hW
  have nw : ¬ (Zs.mk Z.φ (Z.st.set h .dead) Z.H Z.F).W Z.φ[h] := fun w => by
    rcases w with ⟨j, c, q1, q2, q3⟩ | w
    · have q2' : (Z.st.set h .dead)[j]? = some c := q2
      obtain rfl := ok.one e1 q1
      rw [List.getElem?_set_self hh] at q2'
      cases q2'
      exact q3
    · exact ok.fd _ (List.getElem_mem hφ) w
  have rp : ∀ {v : V} {y : Sl}, y ≠ .o h → Rp K Z v y → Rp K (Zs.mk Z.φ (Z.st.set h .dead) Z.H Z.F) v y := fun {v y} ne r => by
    cases y with
    | d x => exact Im.tr sy r
    | o j =>
      obtain ⟨a, c, q1, q2, q3, q4⟩ := r
      exact ⟨a, c, q1, q2, by show (Z.st.set h _)[j]? = _; rw [List.getElem?_set_ne (fun z => ne (by rw [z]))]; exact q3, q4⟩
    | r u => exact r
    | l _ _ _ => exact ⟨r.1, r.2.trans sy⟩
    | f ns => obtain ⟨a, q1, q2⟩ := r; exact ⟨a, q1, q2.tr sy⟩
  refine ⟨Zs.mk Z.φ (Z.st.set h .dead) Z.H Z.F, rfl, rfl, ⟨l0.pre, l0.len, fun j c ec => ?_, l0.frm, l0.fgn, l0.dom⟩, sy, ⟨?_, ok.nd, fun j a c q1 q2 => ?_, ok.fo, ok.fd, ok.tb.less hW⟩, ?_⟩
  · obtain ⟨c', p1, p2⟩ := l0.liv j c ec
    have hj : j < Z0.st.length := (List.getElem?_eq_some_iff.mp ec).1
    exact ⟨c', by show (Z.st.set h _)[j]? = _; rw [List.getElem?_set_ne (by omega)]; exact p1, p2⟩
  · show Z.φ.length = (Z.st.set h .dead).length
    rw [List.length_set]
    exact ok.len
  · have q1' : Z.φ[j]? = some a := q1
    have q2' : (Z.st.set h .dead)[j]? = some c := q2
    by_cases z : h = j
    · subst z
      rw [List.getElem?_set_self hh] at q2'
      cases q2'
      rw [e1] at q1'
      cases q1'
      show Z.H _ ≠ none
      rw [eH]
      exact fun z => by cases z
    · rw [List.getElem?_set_ne z] at q2'
      have q := ok.ct j a c q1' q2'
      have n := nr c (List.mem_of_getElem? q2')
      cases c with
      | lst ds => obtain ⟨vs, r1, r2⟩ := q; exact ⟨vs, r1, ImAll.tr sy r2⟩
      | lsS xs =>
        obtain ⟨us, r1, r3⟩ := q
        refine ⟨us, r1, ?_⟩
        have all : ∀ {vs : List V} {ss : List Sl}, (∀ s ∈ ss, s ≠ .o h) → RpAll K Z vs ss → RpAll K (Zs.mk Z.φ (Z.st.set h .dead) Z.H Z.F) vs ss := by
          intro vs ss hss r
          induction r with
          | nil => exact .nil
          | cons p r ih => exact .cons (rp (hss _ List.mem_cons_self) p) (ih fun x m => hss x (List.mem_cons_of_mem _ m))
        exact all n r3
      | dK kvs => obtain ⟨vs, r1, r2, r3⟩ := q; exact ⟨vs, r1, r2, ImAll.tr sy r3⟩
      | dT kvs => obtain ⟨vs, r1, r2, r3⟩ := q; exact ⟨vs, r1, r2, ImAll.tr sy r3⟩
      | dN fs =>
        obtain ⟨us, r1, r2, r3⟩ := q
        refine ⟨us, r1, r2, ?_⟩
        have all : ∀ {vs : List V} {ss : List Sl}, (∀ s ∈ ss, s ≠ .o h) → RpAll K Z vs ss → RpAll K (Zs.mk Z.φ (Z.st.set h .dead) Z.H Z.F) vs ss := by
          intro vs ss hss r
          induction r with
          | nil => exact .nil
          | cons p r ih => exact .cons (rp (hss _ List.mem_cons_self) p) (ih fun x m => hss x (List.mem_cons_of_mem _ m))
        refine all (fun s m => ?_) r3
        obtain ⟨p, hp, rfl⟩ := List.mem_map.mp m
        exact n p hp
      | ins C fs =>
        obtain ⟨dx, us, r1, r2, r3⟩ := q
        refine ⟨dx, us, r1, r2, ?_⟩
        have all : ∀ {vs : List V} {ss : List Sl}, (∀ s ∈ ss, s ≠ .o h) → RpAll K Z vs ss → RpAll K (Zs.mk Z.φ (Z.st.set h .dead) Z.H Z.F) vs ss := by
          intro vs ss hss r
          induction r with
          | nil => exact .nil
          | cons p r ih => exact .cons (rp (hss _ List.mem_cons_self) p) (ih fun x m => hss x (List.mem_cons_of_mem _ m))
        refine all (fun s m => ?_) r3
        obtain ⟨p, hp, rfl⟩ := List.mem_map.mp m
        exact n p hp
      | exc c fs => obtain ⟨cv, d, hc, r1, r2⟩ := q; exact ⟨cv, d, hc, r1, r2.tr sy⟩
      | dead => exact q
  · refine ⟨by rw [List.length_map]; exact so.len, fun j s ej => ?_⟩
    rw [List.getElem?_map] at ej
    cases q : sl[j]? with
    | none => rw [q] at ej; cases ej
    | some y =>
      rw [q] at ej
      simp only [Option.map_some, Option.some.injEq] at ej
      cases y with
      | none => simp [frzS] at ej
      | some y =>
        obtain ⟨v, ev, rv⟩ := so.has j y q
        refine ⟨v, ev, ?_⟩
        cases y with
        | o k =>
          simp only [frzS] at ej
          split at ej
          · rename_i ek
            subst ek
            simp only [Option.some.injEq] at ej
            subst ej
            obtain ⟨a, c, z1, z2, z3, z4⟩ := rv
            rw [e1] at z2
            cases z2
            subst z1
            exact Im.lst eH nw (ImAll.tr sy rx)
          · rename_i ek
            simp only [Option.some.injEq] at ej
            subst ej
            exact rp (fun z => ek (by cases z; rfl)) rv
        | d x => simp only [frzS, Option.some.injEq] at ej; subst ej; exact rp (fun z => nomatch z) rv
        | r u => simp only [frzS, Option.some.injEq] at ej; subst ej; exact rp (fun z => nomatch z) rv
        | l _ _ _ => simp only [frzS, Option.some.injEq] at ej; subst ej; exact rp (fun z => nomatch z) rv
        | f ns => simp only [frzS, Option.some.injEq] at ej; subst ej; exact rp (fun z => nomatch z) rv
theorem dss_frz {rest : List Stmt} {u : DS} (n0 i : Nat) (hn : Z0.st.length = n0) (h : DSs X E Z0 rest u) : DSs X E Z0 rest (wFrz n0 i u) :=
  ⟨pssI h.run fun D σ H ⟨Z, sl, Dd, hh, l0, ok, so, w, en⟩ => by
    subst hh
    unfold wFrz at w
    split at w
    · rename_i hd es
      split at w
      · rename_i ds ec
        obtain ⟨w1, w2, w3⟩ := w
        obtain ⟨Z', e1, e2, l', k', ok', so'⟩ := frz_ok ok so l0 (by rw [hn]; exact w1) ec w2
        exact ⟨Z', _, Dd, e1, l', ok', so', by rw [e2]; exact w3, en.at k'⟩
      · exact w.elim
    · exact ⟨Z, sl, Dd, rfl, l0, ok, so, w, en⟩⟩
end
end Pz
set_option maxRecDepth 100000
namespace Pz
open PySem PySem.Spec PyProof.Rows L2 TL
variable [TabC]
theorem lawG {P : Program} {w : World} {K : Frag} {mg mb : Str → Option Value} {CX : CXT} {k : Nat} {fa a : Addr} {fd : FuncData} {x : Str} {sp : Sp} {s₁ : Shared} {vs : List Value} {ns : List Int}
    (KX : K.In s₁.heap) (hns : s₁.heap.Ns mainGlobals mg) (hb : s₁.heap.Ns builtinsNs mb) (hbb : ∀ x : Str, x ≠ "__name__" → mb x = bootBuiltins x) (hlim : s₁.heap.NoLimit) (hg : s₁.gens = #[])
    (ha : s₁.heap.get? a = some { cls := .type "list", data := .seq vs.toArray }) (hi : IntsAre vs ns) (hl : ns.length ≤ sizeLine) (hr : Room k callerA)
    (F : ∀ base : Heap, K.In base → base.Ns mainGlobals mg → FnG P w K mg base CX k fa fd [x] sp) (hbind : ∀ (s : Shared) (u : Value), BindsTo s fd ⟨[u], []⟩ [(x, u)])
    (hsp : ∀ H : Hp, Only H → SqL K H a (ns.map V.int) → sp [.ref a] H (fun v _ => v = .bl true) fun _ _ _ => False)
    (hCX : ∀ H e s', CX [] H s₁ (fun _ _ _ => False) e s' → False) :
    codeAny (model P w) callerA (.call (.ref fa) ⟨[.ref a], []⟩) (fun r s' => r = .ok (.ret (.bool true)) ∧ OldK s₁.heap s'.heap ∧ s'.os = s₁.os ∧ AllBare s'.gens) s₁ := by
  have vl := hi.length
  obtain ⟨H, hO, hS, hok, one⟩ : ∃ H : Hp, Only H ∧ SqL K H a (ns.map V.int) ∧ HOk P w H s₁.heap ∧ ∀ b o, H b = some o → b = a ∧ K.lookup a = none := by
    cases q : K.lookup a with
    | some o =>
      have e := KX a o q
      rw [ha] at e
      cases e
      exact ⟨fun _ => none, fun _ => .inl rfl, .inr ⟨_, vs.toArray, _, q, rfl, rfl, rfl, by simpa [vl] using hl, by simpa using vals_ints hi⟩, (fun b u (z : (none : Option HO) = some u) => by cases z), (fun b o (z : (none : Option HO) = some o) => by cases z)⟩
    | none =>
      have at_ : ∀ b u, (if b = a then some (HO.frz { cls := .type "list", data := .seq vs.toArray } (.lst (ns.map V.int))) else none) = some u → b = a ∧ u = .frz { cls := .type "list", data := .seq vs.toArray } (.lst (ns.map V.int)) := fun b u z => by
        split at z
        · rename_i e; cases z; exact ⟨e, rfl⟩
        · cases z
      refine ⟨fun b => if b = a then some (.frz { cls := .type "list", data := .seq vs.toArray } (.lst (ns.map V.int))) else none, fun b => ?_, .inl (.inr ⟨_, if_pos rfl⟩), fun b u z => ?_, fun b u z => ⟨(at_ b u z).1, rfl⟩⟩
      · by_cases e : b = a
        · exact .inr ⟨_, _, if_pos e⟩
        · exact .inl (if_neg e)
      · obtain ⟨rfl, rfl⟩ := at_ b u z
        exact ⟨ha, by simpa using hl, vs, _, vals_ints hi, ha⟩
  have kept : ∀ {b : Addr} {o : Obj}, s₁.heap.get? b = some o → H b = none → (hidT s₁.heap H).get? b = some o := fun e n => hidT_get e n
  have dict0 : ∀ {b : Addr} {o : Obj} {es : Array DictEntry} {ep : Nat}, s₁.heap.get? b = some o → o.data = .dict es ep → H b = none := fun {b o es ep} e d => by
    cases q : H b with
    | none => rfl
    | some u =>
      obtain ⟨rfl, _⟩ := one b u q
      rw [ha] at e
      cases e
      cases d
  have names : ∀ {b : Addr} {m : Str → Option Value}, s₁.heap.Ns b m → (hidT s₁.heap H).Ns b m := fun ⟨o, es, ep, e, d, r⟩ => ⟨o, es, ep, kept e (dict0 e d), d, r⟩
  have inK : K.In (hidT s₁.heap H) := fun b o e => kept (KX b o e) (by
    cases q : H b with
    | none => rfl
    | some u =>
      obtain ⟨rfl, z⟩ := one b u q
      rw [z] at e; cases e)
  have env : Env0 P w K mg (hidT s₁.heap H) callerA [] s₁ H := by
    obtain ⟨mc, z1, z2⟩ := hlim
    exact ⟨rfl, ⟨inK, names hns, ⟨mb, names hb, hbb⟩, ⟨mc, names z1, z2⟩⟩, (fun b o e => of_hidT e), Nat.le_of_eq (hidT_size _ _), trivial, (fun b (z : b ∈ ([] : List Addr)) => by cases z), hok, AllBare.of_eq hg⟩
  refine codeAny_mono ((F _ inK (names hns)).go callerA rfl hr [] s₁ H env ⟨[.ref a], []⟩ [.ref a] (hbind s₁ (.ref a)) [.ref a] _ _ (.cons rfl .nil) (hsp H hO hS)) ?_
  rintro (er | fl) s' z
  · exact (hCX H er s' z).elim
  · rcases fl with _ | _ | _ | u
    · exact z.elim
    · exact z.elim
    · exact z.elim
    · obtain ⟨v, H', os, bare, un, hok', r', rfl⟩ := z
      obtain rfl : u = Value.bool true := r'
      refine ⟨rfl, .of_keep fun b o e => ?_, os, bare⟩
      cases q : H b with
      | none => exact un.keep b o e q (fun z => by cases z) (fun z => by cases z)
      | some c =>
        rcases hO b with z | ⟨ob, xs, z⟩
        · rw [q] at z; cases z
        · obtain ⟨e1, _⟩ := hok b _ z
          obtain ⟨e2, _⟩ := hok' b _ (un.frzs b ob _ z)
          rw [e] at e1; cases e1
          exact e2
theorem walkG {l : PySem.W.OpenLaw} {n k : Nat} {q : Program} {loose : List Str} {XP : (Str → Option Value) → Heap → Prop} {YP : World → Heap → Prop} {d : DefRec} {K : Params → Frag} {CX : World → CXT} {x : Str} {law : DSp}
    (hn : l.most = some n) (hn2 : n ≤ sizeLine) (hdf : d.params.defaults = []) (hr : Room k callerA) (hY : ∀ (w : World) (h : Heap), YP w h → (K w.params).In h)
    (F : ∀ (w : World) (mg : Str → Option Value) (fa : Addr) (h : Heap), (K w.params).In h → h.Ns mainGlobals mg → mg d.name = some (.ref fa) →
      ∃ fd : FuncData, (∀ (s : Shared) (u : Value), BindsTo s fd ⟨[u], []⟩ [(x, u)]) ∧ ∀ base : Heap, (K w.params).In base → base.Ns mainGlobals mg → FnD l.prog w (K w.params) mg base (CX w) k fa fd [x] law)
    (hsp : ∀ ns : List Int, ns.length ≤ n → (∀ z ∈ ns, Builtin.Int.intBits z ≤ 1048576) → law [.f ns] [] (fun s _ => s = .d (.bool true)) fun _ _ _ => False)
    (hCX : ∀ (w : World) (H : Hp) (s : Shared) (e : Value) (s' : Shared), CX w [] H s (fun _ _ _ => False) e s' → False) (hT0 : TabC.T = [] := by rfl) : PySem.W.WalkO q loose XP YP l.row.toRowW d [] (fun f vs => PySem.call f vs) := by
  refine Att.attach_callB hn hdf fun w s₀ s₁ mg mb fa o pm cd doc a vs ns G Y ho hd hcd hmg hobj hints hlen hbits hg => ?_
  have KX := hY w _ Y
  obtain ⟨fd, hb, hF⟩ := F w mg fa _ KX G.T.g hmg
  refine lawG KX G.T.g G.T.b G.T.builtins G.T.nolimit hg hobj hints (Nat.le_trans hlen hn2) hr hF hb (fun H hO hS => ?_) fun H e s' => hCX w H s₁ e s'
  have tb0 : TabOk (Zs.mk [] [] H fun _ => False).W H := by
    refine ⟨by rw [hT0]; exact fun p hp => (by cases hp), fun b ps e => ?_, by rw [hT0]; exact fun p hp => (by cases hp), fun b xs _ w => (by
      rcases w with ⟨i, c, e, _⟩ | w
      · simp at e
      · exact w)⟩
    rcases hO b with z | ⟨o, xs, z⟩
    · rw [z] at e; cases e
    · rw [z] at e; cases e
  refine ⟨⟨[], [], H, fun _ => False⟩, [.f ns], _, _, rfl, ⟨rfl, .nil, fun h a c e => by simp at e, fun a z => z.elim, fun a m => (by cases m), tb0⟩, .cons ⟨a, rfl, ?_⟩ .nil, rfl, hsp ns hlen hbits, ?_, ?_⟩
  · rcases hS with r | r
    · exact .inl ⟨r, fun w => by
        rcases w with ⟨i, c, e, _⟩ | w
        · simp at e
        · exact w⟩
    · exact .inr r
  · rintro Z' v s l ok r rfl
    cases r
    rfl
  · intro Z' c xn d fs l ok x hcv z
    exact z
def sp0 (f : Sto → DK → DXF → Prop) : DSp := fun ss cs Q Ed => match ss with | [] => f cs Q Ed | _ => False
def sp1 (f : Sl → Sto → DK → DXF → Prop) : DSp := fun ss cs Q Ed => match ss with | [a] => f a cs Q Ed | _ => False
def sp2 (f : Sl → Sl → Sto → DK → DXF → Prop) : DSp := fun ss cs Q Ed => match ss with | [a, b] => f a b cs Q Ed | _ => False
def sp3 (f : Sl → Sl → Sl → Sto → DK → DXF → Prop) : DSp := fun ss cs Q Ed => match ss with | [a, b, c] => f a b c cs Q Ed | _ => False
def sp4 (f : Sl → Sl → Sl → Sl → Sto → DK → DXF → Prop) : DSp := fun ss cs Q Ed => match ss with | [a, b, c, d] => f a b c d cs Q Ed | _ => False
def sp5 (f : Sl → Sl → Sl → Sl → Sl → Sto → DK → DXF → Prop) : DSp := fun ss cs Q Ed => match ss with | [a, b, c, d, e] => f a b c d e cs Q Ed | _ => False
theorem l0 {f} : ∀ ss cs Q Ed, sp0 f ss cs Q Ed → ss.length = 0 := fun ss cs Q Ed h => by
  unfold sp0 at h; split at h <;> first | rfl | exact h.elim
theorem l1 {f} : ∀ ss cs Q Ed, sp1 f ss cs Q Ed → ss.length = 1 := fun ss cs Q Ed h => by
  unfold sp1 at h; split at h <;> first | rfl | exact h.elim
theorem l2 {f} : ∀ ss cs Q Ed, sp2 f ss cs Q Ed → ss.length = 2 := fun ss cs Q Ed h => by
  unfold sp2 at h; split at h <;> first | rfl | exact h.elim
theorem l3 {f} : ∀ ss cs Q Ed, sp3 f ss cs Q Ed → ss.length = 3 := fun ss cs Q Ed h => by
  unfold sp3 at h; split at h <;> first | rfl | exact h.elim
theorem l4 {f} : ∀ ss cs Q Ed, sp4 f ss cs Q Ed → ss.length = 4 := fun ss cs Q Ed h => by
  unfold sp4 at h; split at h <;> first | rfl | exact h.elim
theorem l5 {f} : ∀ ss cs Q Ed, sp5 f ss cs Q Ed → ss.length = 5 := fun ss cs Q Ed h => by
  unfold sp5 at h; split at h <;> first | rfl | exact h.elim
theorem i1 {f} {P : List Sl → Prop} {cs Q Ed} (k : ∀ a, f a cs Q Ed → P [a]) : ∀ ss, sp1 f ss cs Q Ed → P ss := fun ss h => by
  unfold sp1 at h; split at h <;> first | exact k _ h | exact h.elim
theorem i2 {f} {P : List Sl → Prop} {cs Q Ed} (k : ∀ a b, f a b cs Q Ed → P [a, b]) : ∀ ss, sp2 f ss cs Q Ed → P ss := fun ss h => by
  unfold sp2 at h; split at h <;> first | exact k _ _ h | exact h.elim
theorem i3 {f} {P : List Sl → Prop} {cs Q Ed} (k : ∀ a b c, f a b c cs Q Ed → P [a, b, c]) : ∀ ss, sp3 f ss cs Q Ed → P ss := fun ss h => by
  unfold sp3 at h; split at h <;> first | exact k _ _ _ h | exact h.elim
theorem i4 {f} {P : List Sl → Prop} {cs Q Ed} (k : ∀ a b c d, f a b c d cs Q Ed → P [a, b, c, d]) : ∀ ss, sp4 f ss cs Q Ed → P ss := fun ss h => by
  unfold sp4 at h; split at h <;> first | exact k _ _ _ _ h | exact h.elim
theorem i5 {f} {P : List Sl → Prop} {cs Q Ed} (k : ∀ a b c d e, f a b c d e cs Q Ed → P [a, b, c, d, e]) : ∀ ss, sp5 f ss cs Q Ed → P ss := fun ss h => by
  unfold sp5 at h; split at h <;> first | exact k _ _ _ _ _ h | exact h.elim
structure FAt (K : Frag) (mg : Str → Option Value) (x : Str) (st : Stmt) (ps : List Str) (f : Addr) (fd : FuncData) : Prop where
  F : Fun K x x st f fd
  g : mg x = some (.ref f)
  b : Binds K fd ps []
abbrev endD (n0 : Nat) (Qd : DK) : DEnds := ⟨fun _ st => Ret n0 (.d .none) st Qd, fun s st => Ret n0 s st Qd, fun _ _ _ _ => False, fun _ _ => False, fun _ _ => False⟩
theorem ret_d {x : PyData} {st : Sto} {Q : DK} : Ret 0 (.d x) st Q = Q (.d x) [] := by
  unfold Ret
  simp
end Pz
set_option maxRecDepth 100000
namespace Pz
open PySem PySem.Spec PyProof.Rows L2 TL
theorem e1 {f} {G : List Sl → Sto → DK → DXF → Prop} {m : Nat} (k : ∀ a cs Qd Ed, f a cs Qd Ed → G [a] cs Qd Ed) : ∀ ss cs Qd Ed, sp1 f ss cs Qd Ed → ss.length = m → G ss cs Qd Ed := fun ss cs Qd Ed h _ => by
  unfold sp1 at h; split at h <;> first | exact k _ _ _ _ h | exact h.elim
theorem e2 {f} {G : List Sl → Sto → DK → DXF → Prop} {m : Nat} (k : ∀ a b cs Qd Ed, f a b cs Qd Ed → G [a, b] cs Qd Ed) : ∀ ss cs Qd Ed, sp2 f ss cs Qd Ed → ss.length = m → G ss cs Qd Ed := fun ss cs Qd Ed h _ => by
  unfold sp2 at h; split at h <;> first | exact k _ _ _ _ _ h | exact h.elim
theorem e3 {f} {G : List Sl → Sto → DK → DXF → Prop} {m : Nat} (k : ∀ a b c cs Qd Ed, f a b c cs Qd Ed → G [a, b, c] cs Qd Ed) : ∀ ss cs Qd Ed, sp3 f ss cs Qd Ed → ss.length = m → G ss cs Qd Ed := fun ss cs Qd Ed h _ => by
  unfold sp3 at h; split at h <;> first | exact k _ _ _ _ _ _ h | exact h.elim
theorem e4 {f} {G : List Sl → Sto → DK → DXF → Prop} {m : Nat} (k : ∀ a b c d cs Qd Ed, f a b c d cs Qd Ed → G [a, b, c, d] cs Qd Ed) : ∀ ss cs Qd Ed, sp4 f ss cs Qd Ed → ss.length = m → G ss cs Qd Ed := fun ss cs Qd Ed h _ => by
  unfold sp4 at h; split at h <;> first | exact k _ _ _ _ _ _ _ h | exact h.elim
class PenC extends TabC where
  P : Nat → Ct → Prop
  mono : ∀ {n m : Nat} {c : Ct}, P n c → n ≤ m → P m c
  cl : ∀ {n k : Nat} {c : Ct}, P n c → Cl k c
  live : ∀ {n : Nat} {c : Ct}, P n c → c.live
  nr : ∀ {n k : Nat} {c : Ct}, P n c → NoRef k c
variable [PenC]
def Pen (n : Nat) (c : Ct) : Prop := PenC.P n c
theorem Pen.mono {n m : Nat} {c : Ct} (h : Pen n c) (le : n ≤ m) : Pen m c := PenC.mono h le
theorem Pen.cl {n k : Nat} {c : Ct} (h : Pen n c) : Cl k c := PenC.cl h
theorem Pen.live {n : Nat} {c : Ct} (h : Pen n c) : c.live := PenC.live h
theorem Pen.nr {n k : Nat} {c : Ct} (h : Pen n c) : NoRef k c := PenC.nr h
def PenL (n : Nat) (c : Ct) : Prop := ∃ (ds : List Int) (i l : Int), c = .lst [.list (ds.map .int), .int i, .int l] ∧ ds.length ≤ 63 ∧ 0 ≤ i ∧ i ≤ n ∧ 0 ≤ l
@[reducible] def penL (T : List (Addr × Str)) (kw : Prop := True) : PenC where
  T := T
  kw := kw
  P := PenL
  mono := fun h le => by
    obtain ⟨ds, i, l, e, h1, h2, h3, h4⟩ := h
    exact ⟨ds, i, l, e, h1, h2, by omega, h4⟩
  cl := fun h => by
    obtain ⟨ds, i, l, rfl, _⟩ := h
    trivial
  live := fun h => by
    obtain ⟨ds, i, l, rfl, _⟩ := h
    trivial
  nr := fun h => by
    obtain ⟨ds, i, l, rfl, _⟩ := h
    trivial
def PenE (n : Nat) (c : Ct) : Prop := ∃ (ds : List Int) (i l : Int), c = .dK [(.inr "cells", .list (ds.map .int)), (.inr "at", .int i), (.inr "left", .int l)] ∧ ds.length ≤ 63 ∧ 0 ≤ i ∧ i ≤ n ∧ 0 ≤ l
@[reducible] def penE (T : List (Addr × Str)) (kw : Prop := True) : PenC where
  T := T
  kw := kw
  P := PenE
  mono := fun h le => by
    obtain ⟨ds, i, l, e, h1, h2, h3, h4⟩ := h
    exact ⟨ds, i, l, e, h1, h2, by omega, h4⟩
  cl := fun h => by
    obtain ⟨ds, i, l, rfl, _⟩ := h
    trivial
  live := fun h => by
    obtain ⟨ds, i, l, rfl, _⟩ := h
    trivial
  nr := fun h => by
    obtain ⟨ds, i, l, rfl, _⟩ := h
    trivial
def sp_pen : DSp := sp1 fun a cs Q Ed => ∃ ns, a = .f ns ∧ cs = [] ∧ ∀ c, Pen 0 c → Q (.o 0) [c]
def sp_draw : DSp := sp2 fun a b cs Q Ed => ∃ c n m, a = .o 0 ∧ b = .d (.int m) ∧ cs = [c] ∧ Pen n c ∧ n ≤ 100000000 ∧ 0 < m ∧ m < 2 ^ 64 ∧ ∀ c' r, Pen (n + 1) c' → 0 ≤ r → r < m → Q (.d (.int r)) [c']
theorem pen_call {ns : List Int} {st : Sto} {Q : DK} {Ed : DXF} (k : ∀ c, Pen 0 c → Q (.o st.length) (st ++ [c])) : locCall sp_pen [.f ns] st Q Ed := by
  simp only [locCall, hsOf, getAll, List.map, locS, sp_pen, sp1]
  refine ⟨fun _ m => (by cases m), ns, rfl, trivial, fun c p => ⟨fun z m => ?_, ?_⟩⟩
  · cases List.mem_singleton.mp m
    exact p.cl
  · simpa [gloS, putAll] using k c p
theorem cdw {i j : Int} (h0 : 0 < j) (h1 : j < 2 ^ 64) : CDivW i j := ⟨h0, by
  have : j.natAbs < 2 ^ 64 := by omega
  have := (Nat.log2_lt (by omega)).mpr this
  omega⟩
theorem small {i : Int} (h0 : 0 ≤ i) (h1 : i < 2 ^ 64) : SmallI i := ⟨by omega, h1⟩
theorem cpow {i j : Int} (h0 : 0 ≤ i) (h1 : i < 2 ^ 64) (h2 : 0 ≤ j) (h3 : j ≤ 1000000) : CPow i j := ⟨h2, h3, by omega⟩
end Pz
set_option maxRecDepth 100000
namespace Pz
open PySem PySem.Spec PyProof.Rows L2 TL
variable [PenC]
variable {α : Type} {a b c d : α} {l : List α} {n : Nat} {x : PyData} {C : Ct} {ds : List PyData} {st : Sto} {Q : DK}
theorem ixN_lt {k : Nat} {i : Int} (h0 : 0 ≤ i) (h1 : i < k) : ixN k i = some i.toNat := by
  unfold ixN
  rw [if_pos h0, if_pos h1]
theorem atI_at {xs : List α} {i : Int} (h0 : 0 ≤ i) (h1 : i < xs.length) : atI xs i = xs[i.toNat]? := by
  unfold atI
  rw [ixN_lt h0 h1]
  rfl
theorem at0 : atI (a :: l) 0 = some a := by rw [atI_at (by omega) (by rw [List.length_cons]; omega)]; rfl
theorem at1 : atI (a :: b :: l) 1 = some b := by rw [atI_at (by omega) (by rw [List.length_cons, List.length_cons]; omega)]; rfl
theorem at2 : atI (a :: b :: c :: l) 2 = some c := by rw [atI_at (by omega) (by rw [List.length_cons, List.length_cons, List.length_cons]; omega)]; rfl
theorem at3 : atI (a :: b :: c :: d :: l) 3 = some d := by rw [atI_at (by omega) (by rw [List.length_cons, List.length_cons, List.length_cons, List.length_cons]; omega)]; rfl
theorem len1 : [a].length = 1 := rfl
theorem len2 : [a, b].length = 2 := rfl
theorem len3 : [a, b, c].length = 3 := rfl
theorem ix10 : ixN 1 0 = some 0 := rfl
theorem ix20 : ixN 2 0 = some 0 := rfl
theorem ix21 : ixN 2 1 = some 1 := rfl
theorem ix30 : ixN 3 0 = some 0 := rfl
theorem ix31 : ixN 3 1 = some 1 := rfl
theorem ix32 : ixN 3 2 = some 2 := rfl
theorem sh_int {i : Int} : SeqAt.shaped (.int i) = true := rfl
theorem sh_bl {i : Bool} : SeqAt.shaped (.bool i) = true := rfl
theorem sh_non : SeqAt.shaped .none = true := rfl
theorem eqv_int {i j : Int} : PyData.eqv (.int i) (.int j) = decide (i = j) := rfl
theorem ret1_d : Ret 1 (.d x) (C :: st) Q = (Cl 1 C ∧ Q (.d x) [C]) := by simp [Ret]
theorem ret1_o0 : Ret 1 (.o 0) (C :: st) Q = (Cl 1 C ∧ Q (.o 0) [C]) := by simp [Ret]
theorem ret1_o1 : Ret 1 (.o 1) (C :: .lst ds :: st) Q = (Cl 1 C ∧ Q (.o 1) [C, .lst ds]) := by simp [Ret, Ct.live, Cl]
theorem ret0_o0 : Ret 0 (.o 0) (.lst ds :: st) Q = Q (.o 0) [.lst ds] := by simp [Ret, Ct.live, Cl]
theorem cl_lst : Cl n (.lst ds) = True := rfl
theorem sh_str {z : Str} (hz : PyData.strOk z = true) : SeqAt.shaped (.str z) = true := by
  simp [SeqAt.shaped, PyData.canLay0, hz, PyData.depth]
theorem eqv_nil {ns : List Int} : PyData.eqv (.list (ns.map .int)) (.list []) = ns.isEmpty := by
  cases ns <;> rfl
theorem canLay_ints : ∀ ns : List Int, PyData.canLayAll0 (ns.map .int) = true
  | [] => rfl
  | n :: ns => by simp [PyData.canLayAll0, PyData.canLay0, canLay_ints ns]
theorem depth_ints : ∀ ns : List Int, PyData.depthAll (ns.map .int) = 0
  | [] => rfl
  | n :: ns => by simp [PyData.depthAll, PyData.depth, depth_ints ns]
theorem sh_ints {ns : List Int} : SeqAt.shaped (.list (ns.map .int)) = true := by
  simp [SeqAt.shaped, PyData.canLay0, canLay_ints, PyData.depth, depth_ints]
theorem sh_nil : SeqAt.shaped (.list []) = true := rfl
theorem mix1 {x i : Int} (h0 : 0 ≤ i) (h1 : i ≤ 100000000) : CPow (x % 2147483549 + 50021 * i + 43) 3 := by
  have := Int.emod_nonneg x (by omega : (2147483549 : Int) ≠ 0)
  have := Int.emod_lt_of_pos x (by omega : (0 : Int) < 2147483549)
  exact cpow (by omega) (by omega) (by omega) (by omega)
theorem mix2 {y i : Int} (h0 : 0 ≤ i) (h1 : i ≤ 100000000) : CPow (y % 2147483579 * (2 * i + 7) + 80039) 3 := by
  have a := Int.emod_nonneg y (by omega : (2147483579 : Int) ≠ 0)
  have b := Int.emod_lt_of_pos y (by omega : (0 : Int) < 2147483579)
  have c : 0 ≤ y % 2147483579 * (2 * i + 7) := Int.mul_nonneg a (by omega)
  have d : y % 2147483579 * (2 * i + 7) ≤ 2147483579 * 200000007 := Int.mul_le_mul (by omega) (by omega) (by omega) (by omega)
  exact cpow (by omega) (by omega) (by omega) (by omega)
section
variable {β : Type} {args : β → List Sl} {pre : β → Prop} {post : β → PyData → Prop} {N : List Str} {m k : Nat} {τ : DS}
def spD (args : β → List Sl) (pre : β → Prop) (post : β → PyData → Prop) : DSp := fun ss cs Q Ed => ∃ b, ss = args b ∧ cs = [] ∧ pre b ∧ ∀ d, post b d → Q (.d d) []
def spP (k : Nat) (args : β → List Sl) (pre : β → Prop) (post : β → PyData → Prop) : DSp := fun ss cs Q Ed => ∃ b c n, ss = .o 0 :: args b ∧ cs = [c] ∧ Pen n c ∧ n + k ≤ 100000000 ∧ pre b ∧ ∀ c' d, Pen (n + k) c' → post b d → Q (.d d) [c']
theorem lD (h : ∀ b, (args b).length = m) : ∀ ss cs Q Ed, spD args pre post ss cs Q Ed → ss.length = m := by
  rintro ss cs Q Ed ⟨b, rfl, _⟩
  exact h b
theorem lP (h : ∀ b, (Sl.o 0 :: args b).length = m) : ∀ ss cs Q Ed, spP k args pre post ss cs Q Ed → ss.length = m := by
  rintro ss cs Q Ed ⟨b, c, n, rfl, _⟩
  exact h b
end
def Ints (P : Int → Prop) (ds : List PyData) : Prop := ∀ d ∈ ds, ∃ x, d = .int x ∧ P x
theorem Ints.map {P : Int → Prop} : ∀ {ds : List PyData}, Ints P ds → ∃ ns : List Int, ds = ns.map .int ∧ ∀ x ∈ ns, P x
  | [], _ => ⟨[], rfl, fun _ m => by cases m⟩
  | d :: ds, h => by
    obtain ⟨x, rfl, px⟩ := h d List.mem_cons_self
    obtain ⟨ns, rfl, q⟩ := Ints.map (fun z m => h z (List.mem_cons_of_mem _ m))
    exact ⟨x :: ns, rfl, fun y m => by exact (List.mem_cons.mp m).elim (fun e => e ▸ px) (q y)⟩
theorem Ints.app {P : Int → Prop} {ds es : List PyData} (h1 : Ints P ds) (h2 : Ints P es) : Ints P (ds ++ es) := fun d m => (List.mem_append.mp m).elim (h1 d) (h2 d)
theorem Ints.one {P : Int → Prop} {x : Int} (h : P x) : Ints P [.int x] := fun d m => ⟨x, List.mem_singleton.mp m, h⟩
theorem Ints.nil {P : Int → Prop} : Ints P [] := fun d m => by cases m
theorem len_rng {n : Nat} {lo : Int} : (rng lo n).length = n := by simp [rng]
theorem strOk_iff {z : Str} : PyData.strOk z = true ↔ ∀ c ∈ tl z, c < 0x110000 := by
  unfold PyData.strOk tl
  rw [Array.all_eq_true_iff_forall_mem]
  simp
theorem strOk_add {x y : Str} (h1 : PyData.strOk x = true) (h2 : PyData.strOk y = true) : PyData.strOk (x ++ y) = true := by
  rw [strOk_iff] at *
  rw [show tl (x ++ y) = tl x ++ tl y from tl_append x y]
  exact fun c m => (List.mem_append.mp m).elim (h1 c) (h2 c)
theorem len_tl {x : Str} : x.length = (tl x).length := by simp [tl, Str.length]
theorem tl_lit {s : String} : tl (Str.ofString s) = s.toList.map Char.toNat := by rw [Str.ofString_eq_toList]
theorem strOk_lit {s : String} : PyData.strOk (Str.ofString s) = true := by
  rw [strOk_iff, tl_lit]
  intro c m
  obtain ⟨x, _, rfl⟩ := List.mem_map.mp m
  have := x.valid
  rcases this with h | h
  · exact Nat.lt_trans h (by decide)
  · exact h.2
theorem sh_lit {s : String} : SeqAt.shaped (.str (Str.ofString s)) = true := sh_str strOk_lit
theorem len_lit {s : String} : (Str.ofString s).length = s.length := by rw [len_tl, tl_lit, List.length_map, String.length_toList]
theorem int_len {i : Int} (h : i.natAbs < 10 ^ 100) : (PyData.shown (.int i)).length ≤ 101 := by
  unfold PyData.shown
  show (Str.ofString (toString i)).length ≤ 101
  rw [len_lit]
  cases i with
  | ofNat n => exact Nat.le_trans ((Nat.length_repr_le_iff (n := n) (by decide : 0 < 100)).mpr (by simpa using h)) (by decide)
  | negSucc n =>
    have := (Nat.length_repr_le_iff (n := n + 1) (by decide : 0 < 100)).mpr (by simpa [Int.natAbs] using h)
    show ("-" ++ Nat.repr (n + 1)).length ≤ 101
    rw [String.length_append]
    have e : "-".length = 1 := by decide +kernel
    omega
theorem int_show {i : Int} (h : i.natAbs < 10 ^ 100) : (PyData.int i).showable = true := by
  have : i.natAbs.log2 < 1920 := by
    by_cases z : i.natAbs = 0
    · rw [z]; decide
    · exact (Nat.log2_lt z).mpr (Nat.lt_of_lt_of_le h (by decide +kernel))
  simpa [PyData.showable] using this
theorem p10_3 : (10 : Int) ^ Int.toNat 3 = 1000 := (Int.natCast_pow 10 (Int.toNat 3)).symm.trans (congrArg Int.ofNat (by decide +kernel : 10 ^ Int.toNat 3 = 1000))
theorem p10_6 : (10 : Int) ^ Int.toNat 6 = 1000000 := (Int.natCast_pow 10 (Int.toNat 6)).symm.trans (congrArg Int.ofNat (by decide +kernel : 10 ^ Int.toNat 6 = 1000000))
theorem p10_7 : (10 : Int) ^ Int.toNat 7 = 10000000 := (Int.natCast_pow 10 (Int.toNat 7)).symm.trans (congrArg Int.ofNat (by decide +kernel : 10 ^ Int.toNat 7 = 10000000))
theorem p10_9 : (10 : Int) ^ Int.toNat 9 = 1000000000 := (Int.natCast_pow 10 (Int.toNat 9)).symm.trans (congrArg Int.ofNat (by decide +kernel : 10 ^ Int.toNat 9 = 1000000000))
theorem p10_12 : (10 : Int) ^ Int.toNat 12 = 1000000000000 := (Int.natCast_pow 10 (Int.toNat 12)).symm.trans (congrArg Int.ofNat (by decide +kernel : 10 ^ Int.toNat 12 = 1000000000000))
section
variable {t u v : DS} {A : DT} {te to ti : DE} {nx bk ct : Sls → Sto → Prop} {rt : DK} {ex : DX} {sl : Sls} {σ : Sto} {i : Nat} {f : Sl → Sl → Sto → DK → Prop} {ω : DI} {g : DG}
theorem seq_mk : wSeq t u ⟨nx, rt, ex, bk, ct⟩ sl σ = t ⟨u ⟨nx, rt, ex, bk, ct⟩, rt, ex, bk, ct⟩ sl σ := rfl
theorem nx_mk : wNext ⟨nx, rt, ex, bk, ct⟩ sl σ = nx sl σ := rfl
theorem bk_mk : wBreak ⟨nx, rt, ex, bk, ct⟩ sl σ = bk sl σ := rfl
theorem ct_mk : wCont ⟨nx, rt, ex, bk, ct⟩ sl σ = ct sl σ := rfl
theorem set_mk : wSet i te ⟨nx, rt, ex, bk, ct⟩ sl σ = te ex sl σ fun s st => nx (sl.set i (some s)) st := rfl
theorem expr_mk : wExpr te ⟨nx, rt, ex, bk, ct⟩ sl σ = te ex sl σ fun _ st => nx sl st := rfl
theorem ret_mk : wRet te ⟨nx, rt, ex, bk, ct⟩ sl σ = te ex sl σ rt := rfl
theorem retN_mk : wRetN ⟨nx, rt, ex, bk, ct⟩ sl σ = rt (.d .none) σ := rfl
theorem if_mk : wIf A u v ⟨nx, rt, ex, bk, ct⟩ sl σ = A ex sl σ fun b st => if b = true then u ⟨nx, rt, ex, bk, ct⟩ sl st else v ⟨nx, rt, ex, bk, ct⟩ sl st := rfl
theorem for_mk : wFor ω g u ⟨nx, rt, ex, bk, ct⟩ sl σ = ω ex sl σ fun ds st => wForL g u ⟨nx, rt, ex, bk, ct⟩ ds sl st := rfl
end
theorem forL_ix {g : DG} {u : DS} {nx bk ct : Sls → Sto → Prop} {rt : DK} {ex : DX} (Inv : List PyData → Sls → Sto → Prop) (h0 : ∀ sl st, Inv [] sl st → nx sl st)
    (h1 : ∀ (R B : Sls → Sto → Prop) d ds sl st, (∀ sl st, Inv ds sl st → R sl st) → Inv (d :: ds) sl st → g (.d d) sl st fun sl st => u ⟨R, rt, ex, B, R⟩ sl st) :
    ∀ ds sl st, Inv ds sl st → wForL g u ⟨nx, rt, ex, bk, ct⟩ ds sl st
  | [], sl, st, h => h0 sl st h
  | d :: ds, sl, st, h => h1 _ nx d ds sl st (fun sl st w => forL_ix (nx := nx) (bk := bk) (ct := ct) Inv h0 h1 ds sl st w) h
theorem ite_all {c p q : Prop} [Decidable c] (hp : p) (hq : q) : if c then p else q := by
  split
  · exact hp
  · exact hq
theorem atI_lt {xs : List α} {i : Int} (h0 : 0 ≤ i) (h1 : i < xs.length) : ∃ y, atI xs i = some y ∧ y ∈ xs := by
  have : i.toNat < xs.length := by omega
  exact ⟨xs[i.toNat], (atI_at h0 h1).trans (List.getElem?_eq_getElem this), List.getElem_mem this⟩
end Pz
set_option maxRecDepth 100000
namespace Pz
open PySem PySem.Spec PyProof.Rows L2 TL
variable [PenC]
section
variable {X : Cx} {E : WXs} {Z0 : Zs} {a b c e : Expr} {es : List Expr} {ta tb tc te : DE} {t : DA} {pos p : Pos} {x : Str} {K : Frag}
def wDeadE : DE := fun _ _ _ _ => False
def wDeadT : DT := fun _ _ _ _ => False
abbrev FD := List Sl → (PyData → Prop) → Prop
def allD : List Sl → Bool
  | [] => true
  | .d _ :: r => allD r
  | _ :: _ => false
structure FOk (f : FD) (n : Nat) : Prop where
  dat : ∀ ss k, f ss k → ss.length = n ∧ allD ss = true
  mono : ∀ ss k k', (∀ d, k d → k' d) → f ss k → f ss k'
theorem hsOf_allD : ∀ {ss : List Sl}, allD ss = true → hsOf ss = []
  | [], _ => rfl
  | .d _ :: r, h => hsOf_allD (ss := r) h
theorem locS_allD {hs : List Nat} : ∀ {ss : List Sl}, allD ss = true → ss.map (locS hs) = ss
  | [], _ => rfl
  | .d _ :: r, h => by
    show _ :: r.map (locS hs) = _
    rw [locS_allD (ss := r) h]
    rfl
def spF (f : FD) : DSp := fun ss cs Q Ed => cs = [] ∧ f ss fun d => Q (.d d) []
def spQ (k : Nat) (f : FD) : DSp := fun ss cs Q Ed => match ss, cs with
  | .o 0 :: r, [c] => ∃ n, Pen n c ∧ n + k ≤ 1000000 ∧ f r fun d => ∀ c', Pen (n + k) c' → Q (.d d) [c']
  | _, _ => False
variable {f : FD} {n k m : Nat} {N : List Str} {τ : DS}
theorem lF (ok : FOk f n) : ∀ ss cs Q Ed, spF f ss cs Q Ed → ss.length = n := fun ss cs Q Ed h => (ok.dat _ _ h.2).1
theorem lQ (ok : FOk f n) : ∀ ss cs Q Ed, spQ k f ss cs Q Ed → ss.length = n + 1 := fun ss cs Q Ed h => by
  unfold spQ at h
  split at h
  · obtain ⟨_, _, _, h⟩ := h
    have := (ok.dat _ _ h).1
    simp [this]
  · exact h.elim
theorem locF (ok : FOk f n) {ss : List Sl} {st : Sto} {Q : DK} {Ed : DXF} (h : f ss fun d => Q (.d d) st) : locCall (spF f) ss st Q Ed := by
  have h1 := (ok.dat _ _ h).2
  simp only [locCall, hsOf_allD h1, getAll, locS_allD h1, spF]
  refine ⟨fun c m => (by cases m), trivial, ok.mono _ _ _ (fun d q => ⟨fun c m => (by cases m), ?_⟩) h⟩
  simpa [gloS, putAll] using q
theorem locQ (ok : FOk f n) {ss : List Sl} {h j : Nat} {c : Ct} {st : Sto} {Q : DK} {Ed : DXF} (e0 : st[h]? = some c) (p : Pen j c) (hn : j + k ≤ 1000000) (hf : f ss fun d => ∀ c', Pen (j + k) c' → Q (.d d) (st.set h c')) : locCall (spQ k f) (.o h :: ss) st Q Ed := by
  have h1 := (ok.dat _ _ hf).2
  have q : getAll st [h] = some [c] := by simp [getAll, e0]
  have q2 : hsOf (.o h :: ss) = [h] := by simp [hsOf, hsOf_allD h1]
  simp only [locCall, q2, q, List.map, locS_allD h1]
  refine ⟨fun z m => by cases List.mem_singleton.mp m; exact p.cl, ?_⟩
  simp only [spQ, locS, List.idxOf_cons_self]
  refine ⟨j, p, hn, ok.mono _ _ _ (fun d w c' p' => ⟨fun z m => by cases List.mem_singleton.mp m; exact p'.cl, ?_⟩) hf⟩
  simpa [gloS, putAll] using w c' p'
def wCallF (f : FD) (t : DA) : DE := fun Ed sl st Q => t Ed sl st fun ss st => f ss fun d => Q (.d d) st
def aQ (k : Nat) (f : FD) (ss : List Sl) (st : Sto) (Q : DK) : Prop := match ss with
  | .o h :: r => ∃ c, st[h]? = some c ∧ ∃ n, Pen n c ∧ n + k ≤ 1000000 ∧ f r fun d => ∀ c', Pen (n + k) c' → Q (.d d) (st.set h c')
  | _ => False
def wCallQ (k : Nat) (f : FD) (t : DA) : DE := fun Ed sl st Q => t Ed sl st fun ss st => aQ k f ss st Q
def wCallA (g : FA) (t : DA) : DE := fun Ed sl st Q => t Ed sl st fun ss st => g ss st Q
variable {dsp : DSp} {fa : Addr} {fd : FuncData} {ps ks : List Str} {kws : List Keyword} {tk : DA} {g : FA}
theorem de_callA (ok : ∀ ss st Q Ed, g ss st Q → locCall dsp ss st Q Ed) (F : FnD X.prog X.w X.K X.mg X.base CX0 k fa fd ps dsp) (hA : X.A.guards = some []) (hr : Room k X.A) (hl : ∀ ss cs Q Ed, dsp ss cs Q Ed → ss.length = ps.length) (hg : Gl X x) (hm : X.mg x = some (.ref fa)) (hk : PySem.W.keepIn X.K (.ref fa) = true) (hb : Binds X.K fd ps [])
    (ha : DAs X E (e :: es) t) (hdb : (x == ("__debug__" : Str)) = false := by decide) (he : starEach (e :: es) X.env = (false, eval e X.env) :: starEach es X.env := by rfl) (hpl : (backTo pos (starEach es X.env)).any (·.1) = false := by rfl) :
    DEx X E (.Call (.Name x p) (e :: es) [] pos) (wCallA g t) :=
  ⟨peI (pe_callG F hA hr hg hm hk hb pass0 ha.run hdb he hpl) fun σ H Q ⟨Z, sl, Qd, Ed, h, ok', so, w, kq, kx⟩ =>
    ⟨Z, sl, _, Ed, h, ok', so, w, fun Z1 vs ss l1 ok1 r1 w1 => by
      show toSp X.K ps.length dsp (vs ++ []) Z1.H Q E0
      rw [List.append_nil]
      have w2 := ok _ _ _ (fun _ _ _ => False) w1
      exact loc_sp ok1 r1 (locCall_len w2 hl) w2 (kq.le l1) (fun _ _ _ _ _ _ _ _ _ z => z), kx⟩⟩
theorem de_callF (ok : FOk f n) (F : FnD X.prog X.w X.K X.mg X.base CX0 k fa fd ps (spF f)) (hA : X.A.guards = some []) (hr : Room k X.A) (hn : n = ps.length) (hg : Gl X x) (hm : X.mg x = some (.ref fa)) (hk : PySem.W.keepIn X.K (.ref fa) = true) (hb : Binds X.K fd ps [])
    (ha : DAs X E (e :: es) t) (hdb : (x == ("__debug__" : Str)) = false := by decide) (he : starEach (e :: es) X.env = (false, eval e X.env) :: starEach es X.env := by rfl) (hpl : (backTo pos (starEach es X.env)).any (·.1) = false := by rfl) :
    DEx X E (.Call (.Name x p) (e :: es) [] pos) (wCallF f t) :=
  de_callA (fun ss st Q Ed h => locF ok h) F hA hr (fun ss cs Q Ed h => hn ▸ lF ok ss cs Q Ed h) hg hm hk hb ha hdb he hpl
theorem aQ_loc (ok : FOk f n) : ∀ ss st Q Ed, aQ m f ss st Q → locCall (spQ m f) ss st Q Ed := fun ss st Q Ed h => by
  unfold aQ at h
  split at h
  · obtain ⟨c, e0, j, p, hn, hf⟩ := h
    exact locQ ok e0 p hn hf
  · exact h.elim
theorem de_callQ (ok : FOk f n) (F : FnD X.prog X.w X.K X.mg X.base CX0 k fa fd ps (spQ m f)) (hA : X.A.guards = some []) (hr : Room k X.A) (hn : n + 1 = ps.length) (hg : Gl X x) (hm : X.mg x = some (.ref fa)) (hk : PySem.W.keepIn X.K (.ref fa) = true) (hb : Binds X.K fd ps [])
    (ha : DAs X E (e :: es) t) (hdb : (x == ("__debug__" : Str)) = false := by decide) (he : starEach (e :: es) X.env = (false, eval e X.env) :: starEach es X.env := by rfl) (hpl : (backTo pos (starEach es X.env)).any (·.1) = false := by rfl) :
    DEx X E (.Call (.Name x p) (e :: es) [] pos) (wCallQ m f t) :=
  de_callA (aQ_loc ok) F hA hr (fun ss cs Q Ed h => hn ▸ lQ ok ss cs Q Ed h) hg hm hk hb ha hdb he hpl
def wCallWF (n m : Nat) (f : FD) (g : ∀ {α : Type}, List α → List α → List α) (t tk : DA) : DE := fun Ed sl st Q => t Ed sl st fun ss st => tk Ed sl st fun zs st => ss.length = n ∧ zs.length = m ∧ f (g ss zs) fun d => Q (.d d) st
variable {gg : ∀ {α : Type}, List α → List α → List α}
abbrev end0 (Qd : DK) : DEnds := ⟨fun _ st => Ret 0 (.d .none) st Qd, fun s st => Ret 0 s st Qd, fun _ _ _ _ => False, fun _ _ => False, fun _ _ => False⟩
abbrev end1 (Qd : DK) : DEnds := ⟨fun _ st => Ret 1 (.d .none) st Qd, fun s st => Ret 1 s st Qd, fun _ _ _ _ => False, fun _ _ => False, fun _ _ => False⟩
theorem hF (h : ∀ (ss : List Sl) (Qd : DK), (f ss fun d => Qd (.d d) []) → τ (end0 Qd) (startS N ss) []) :
    ∀ (ss : List Sl) (cs : Sto) (Qd : DK) (Ed : DXF), spF f ss cs Qd Ed → ss.length = m → cs.length = 0 ∧ τ (end0 Qd) (startS N ss) cs := by
  rintro ss cs Qd Ed ⟨rfl, w⟩ _
  exact ⟨rfl, h ss Qd w⟩
theorem hQ (h : ∀ (ss : List Sl) (c : Ct) (n : Nat) (Qd : DK), Pen n c → n + k ≤ 1000000 → (f ss fun d => ∀ c', Pen (n + k) c' → Qd (.d d) [c']) → τ (end1 Qd) (startS N (.o 0 :: ss)) [c]) :
    ∀ (ss : List Sl) (cs : Sto) (Qd : DK) (Ed : DXF), spQ k f ss cs Qd Ed → ss.length = m → cs.length = 1 ∧ τ (end1 Qd) (startS N ss) cs := by
  rintro ss cs Qd Ed w _
  unfold spQ at w
  split at w
  · obtain ⟨n, p, hn, w⟩ := w
    exact ⟨rfl, h _ _ _ Qd p hn w⟩
  · exact w.elim
def oIn (neg : Bool) (x y : Sl) (st : Sto) (Q : DK) : Prop := match vw st x, vw st y with
  | some d, some (.list ds) => SeqAt.shaped d = true ∧ SeqAt.shaped (.list ds) = true ∧ Q (.d (.bool (if neg then !ds.any fun z => PyData.eqv z d else ds.any fun z => PyData.eqv z d))) st
  | _, _ => False
theorem room65 {k : Nat} {A : Around} (r : Room k A) : A.units + 65 < cLine := by have := r.un; omega
def wRev (te : DE) : DE := fun Ed sl st Q => te Ed sl st fun s st => match vw st s with
  | some (.list ds) => Q (.d (.list ds.reverse)) st
  | _ => False
def mSplit : FM := fun s ss st Q => match ss with
  | [t] => match vw st s, vw st t with
    | some (.str a), some (.str b) => b.length ≠ 0 ∧ a.length + 2 ≤ sizeLine ∧ Q (.d (.list ((Txt.split a b).map .str))) st
    | _, _ => False
  | _ => False
def asStrs : List PyData → Option (List Str)
  | [] => some []
  | .str z :: r => (asStrs r).map (z :: ·)
  | _ => none
def vwS (st : Sto) (s : Sl) : Option (List Str) := match vw st s with
  | some (.list ds) => asStrs ds
  | some (.tuple ds) => asStrs ds
  | _ => none
def mJoin : FM := fun s ss st Q => match ss with
  | [t] => match vw st s, vwS st t with
    | some (.str a), some ys => (ys.map (·.length)).sum + ys.length * a.length ≤ 16777216 ∧ Q (.d (.str (Txt.join a ys))) st
    | _, _ => False
  | _ => False
end
end Pz
set_option maxRecDepth 100000
namespace Pz
open PySem PySem.Spec PyProof.Rows L2 TL
variable [PenC]
theorem wC_ap {s : Sl} {u0 : DX} {u1 : Sls} {st : Sto} {Q : DK} : wC s u0 u1 st Q = (Q s st) := rfl
theorem wVar_ap {i : Nat} {u0 : DX} {sl : Sls} {st : Sto} {Q : DK} : wVar i u0 sl st Q = (match nthS sl i with
  | some s => Q s st
  | none => False) := rfl
theorem wOp_ap {f : Sl → Sl → Sto → DK → Prop} {ta tb : DE} {Ed : DX} {sl : Sls} {st : Sto} {Q : DK} : wOp f ta tb Ed sl st Q = (ta Ed sl st fun x st => tb Ed sl st fun y st => f x y st Q) := rfl
theorem wTest_ap {t : DE} {Ed : DX} {sl : Sls} {st : Sto} {Q : Bool → Sto → Prop} : wTest t Ed sl st Q = (t Ed sl st fun s st => match s with
  | .d (.bool b) => Q b st
  | _ => False) := rfl
theorem wNil_ap  {u0 : DX} {u1 : Sls} {st : Sto} {Q : List Sl → Sto → Prop} : wNil  u0 u1 st Q = (Q [] st) := rfl
theorem wCons_ap {te : DE} {t : DA} {Ed : DX} {sl : Sls} {st : Sto} {Q : List Sl → Sto → Prop} : wCons te t Ed sl st Q = (te Ed sl st fun x st => t Ed sl st fun xs st => Q (x :: xs) st) := rfl
theorem wCall_ap {dsp : DSp} {t : DA} {Ed : DX} {sl : Sls} {st : Sto} {Q : DK} : wCall dsp t Ed sl st Q = (t Ed sl st fun ss st => locCall dsp ss st Q fun _ _ _ => False) := rfl
theorem wCallW_ap {n m : Nat} {dsp : DSp} {g : ∀ {α : Type}, List α → List α → List α} {t tk : DA} {Ed : DX} {sl : Sls} {st : Sto} {Q : DK} : wCallW n m dsp g t tk Ed sl st Q = (t Ed sl st fun ss st => tk Ed sl st fun zs st => ss.length = n ∧ zs.length = m ∧ locCall dsp (g ss zs) st Q fun _ _ _ => False) := rfl
theorem wApp_ap {f : FA} {t : DA} {Ed : DX} {sl : Sls} {st : Sto} {Q : DK} : wApp f t Ed sl st Q = (t Ed sl st fun ss st => f ss st Q) := rfl
theorem wLst_ap {t : DA} {Ed : DX} {sl : Sls} {st : Sto} {Q : DK} : wLst t Ed sl st Q = (t Ed sl st fun ss st => match dsOf ss with
  | some ds => ds.length ≤ sizeLine ∧ Q (.d (.list ds)) st
  | none => False) := rfl
theorem wTup_ap {t : DA} {Ed : DX} {sl : Sls} {st : Sto} {Q : DK} : wTup t Ed sl st Q = (t Ed sl st fun ss st => match dsOf ss with
  | some ds => ds.length ≤ sizeLine ∧ Q (.d (.tuple ds)) st
  | none => False) := rfl
theorem wLstO_ap {t : DA} {Ed : DX} {sl : Sls} {st : Sto} {Q : DK} : wLstO t Ed sl st Q = (t Ed sl st fun ss st => match dsOf ss with
  | some ds => ds.length ≤ sizeLine ∧ Q (.o st.length) (st ++ [.lst ds])
  | none => False) := rfl
theorem wNoPart_ap  {u0 : DX} {u1 : Sls} {st : Sto} {Q : Option Int → Sto → Prop} : wNoPart  u0 u1 st Q = (Q none st) := rfl
theorem wPart_ap {te : DE} {Ed : DX} {sl : Sls} {st : Sto} {Q : Option Int → Sto → Prop} : wPart te Ed sl st Q = (te Ed sl st fun s st => match vw st s with
  | some (.int i) => Q (some i) st
  | _ => False) := rfl
theorem wSl_ap {te : DE} {tl th : DO} {Ed : DX} {sl : Sls} {st : Sto} {Q : DK} : wSl te tl th Ed sl st Q = (te Ed sl st fun s st => tl Ed sl st fun lo st => th Ed sl st fun hi st => oSl s lo hi st Q) := rfl
theorem wAnd_ap {t u : DT} {Ed : DX} {sl : Sls} {st : Sto} {Q : Bool → Sto → Prop} : wAnd t u Ed sl st Q = (t Ed sl st fun b st => if b = true then u Ed sl st Q else Q false st) := rfl
theorem wOr_ap {t u : DT} {Ed : DX} {sl : Sls} {st : Sto} {Q : Bool → Sto → Prop} : wOr t u Ed sl st Q = (t Ed sl st fun b st => if b = true then Q true st else u Ed sl st Q) := rfl
theorem wNot_ap {t : DT} {Ed : DX} {sl : Sls} {st : Sto} {Q : Bool → Sto → Prop} : wNot t Ed sl st Q = (t Ed sl st fun b st => Q (!b) st) := rfl
theorem wAndV_ap {ta tb : DE} {Ed : DX} {sl : Sls} {st : Sto} {Q : DK} : wAndV ta tb Ed sl st Q = (ta Ed sl st fun s st => match s with
  | .d (.bool b) => if b = true then tb Ed sl st Q else Q (.d (.bool false)) st
  | _ => False) := rfl
theorem wOrV_ap {ta tb : DE} {Ed : DX} {sl : Sls} {st : Sto} {Q : DK} : wOrV ta tb Ed sl st Q = (ta Ed sl st fun s st => match s with
  | .d (.bool b) => if b = true then Q (.d (.bool true)) st else tb Ed sl st Q
  | _ => False) := rfl
theorem wNotV_ap {ta : DE} {Ed : DX} {sl : Sls} {st : Sto} {Q : DK} : wNotV ta Ed sl st Q = (ta Ed sl st fun s st => match s with
  | .d (.bool b) => Q (.d (.bool (!b))) st
  | _ => False) := rfl
theorem wIfE_ap {t : DT} {ta tb : DE} {Ed : DX} {sl : Sls} {st : Sto} {Q : DK} : wIfE t ta tb Ed sl st Q = (t Ed sl st fun b st => if b = true then ta Ed sl st Q else tb Ed sl st Q) := rfl
theorem wTru_ap {te : DE} {Ed : DX} {sl : Sls} {st : Sto} {Q : Bool → Sto → Prop} : wTru te Ed sl st Q = (te Ed sl st fun s st => match truD st s with
  | some b => Q b st
  | none => False) := rfl
theorem wChain_ap {f g : Sl → Sl → Sto → DK → Prop} {ta tb tc : DE} {Ed : DX} {sl : Sls} {st : Sto} {Q : DK} : wChain f g ta tb tc Ed sl st Q = (ta Ed sl st fun x st => tb Ed sl st fun y st => f x y st fun z st => match z with
  | .d (.bool b) => if b = true then tc Ed sl st fun w st => g y w st Q else Q (.d (.bool false)) st
  | _ => False) := rfl
theorem wNeg_ap {ta : DE} {Ed : DX} {sl : Sls} {st : Sto} {Q : DK} : wNeg ta Ed sl st Q = (ta Ed sl st fun s st => match vw st s with
  | some (.int i) => Q (.d (.int (-i))) st
  | _ => False) := rfl
theorem wAug_ap {i : Nat} {f : Sl → Sl → Sto → DK → Prop} {te : DE} {nx bk ct : Sls → Sto → Prop} {rt : DK} {ex : DX} {sl : Sls} {st : Sto} : wAug i f te ⟨nx, rt, ex, bk, ct⟩ sl st = (match nthS sl i with
  | some s => te ex sl st fun t st => f s t st fun z st => nx (sl.set i (some z)) st
  | none => False) := rfl
theorem gNm_ap {i : Nat} {s : Sl} {sl : Sls} {st : Sto} {Q : Sls → Sto → Prop} : gNm i s sl st Q = (Q (sl.set i (some s)) st) := rfl
theorem gNl_ap  {ds : List PyData} {sl : Sls} {st : Sto} {Q : Sls → Sto → Prop} : gNl  ds sl st Q = (match ds with
  | [] => Q sl st
  | _ => False) := rfl
theorem gCn_ap {g : DG} {gs : DGL} {ds : List PyData} {sl : Sls} {st : Sto} {Q : Sls → Sto → Prop} : gCn g gs ds sl st Q = (match ds with
  | d :: ds => g (.d d) sl st fun sl st => gs ds sl st Q
  | [] => False) := rfl
theorem gTp_ap {n : Nat} {gs : DGL} {s : Sl} {sl : Sls} {st : Sto} {Q : Sls → Sto → Prop} : gTp n gs s sl st Q = (match vw st s with
  | some (.tuple ds) => ds.length = n ∧ gs ds sl st Q
  | _ => False) := rfl
theorem wAsg_ap {te : DE} {g : DG} {nx bk ct : Sls → Sto → Prop} {rt : DK} {ex : DX} {sl : Sls} {st : Sto} : wAsg te g ⟨nx, rt, ex, bk, ct⟩ sl st = (te ex sl st fun s st => g s sl st nx) := rfl
theorem wItE_ap {te : DE} {Ed : DX} {sl : Sls} {st : Sto} {Q : List PyData → Sto → Prop} : wItE te Ed sl st Q = (te Ed sl st fun s st => match s with
  | .d (.list ds) => Q ds st
  | .d (.tuple ds) => Q ds st
  | .d (.str z) => Q (signs z) st
  | _ => False) := rfl
theorem wRng1_ap {t : DA} {Ed : DX} {sl : Sls} {st : Sto} {Q : List PyData → Sto → Prop} : wRng1 t Ed sl st Q = (t Ed sl st fun ss st => match ss with
  | [s] => match vw st s with
    | some (.int j) => -(2 ^ 62) ≤ j ∧ j < 2 ^ 62 ∧ Q (rng 0 j.toNat) st
    | _ => False
  | _ => False) := rfl
theorem wRng2_ap {t : DA} {Ed : DX} {sl : Sls} {st : Sto} {Q : List PyData → Sto → Prop} : wRng2 t Ed sl st Q = (t Ed sl st fun ss st => match ss with
  | [s, s'] => match vw st s, vw st s' with
    | some (.int i), some (.int j) => (-(2 ^ 62) ≤ i ∧ i < 2 ^ 62 ∧ -(2 ^ 62) ≤ j ∧ j < 2 ^ 62) ∧ Q (rng i (j - i).toNat) st
    | _, _ => False
  | _ => False) := rfl
theorem wYes_ap  {u0 : DX} {u1 : Sls} {st : Sto} {Q : Bool → Sto → Prop} : wYes  u0 u1 st Q = (Q true st) := rfl
theorem wLc_ap {ω : DI} {g : DG} {tt : DT} {te : DE} {vs : List Nat} {Ed : DX} {sl : Sls} {st : Sto} {Q : DK} : wLc ω g tt te vs Ed sl st Q = (ω Ed sl st fun ds st => wLcL g tt te (wipeS sl vs) ds [] st fun acc st => Q (.d (.list acc)) st) := rfl
theorem wLcO_ap {ω : DI} {g : DG} {tt : DT} {te : DE} {vs : List Nat} {Ed : DX} {sl : Sls} {st : Sto} {Q : DK} : wLcO ω g tt te vs Ed sl st Q = (ω Ed sl st fun ds st => wLcL g tt te (wipeS sl vs) ds [] st fun acc st => Q (.o st.length) (st ++ [.lst acc])) := rfl
theorem wBM_ap {T : String} {f : FM} {to : DE} {t : DA} {Ed : DX} {sl : Sls} {st : Sto} {Q : DK} : wBM T f to t Ed sl st Q = (to Ed sl st fun s st => tyD T st s ∧ t Ed sl st fun ss st => f s ss st Q) := rfl
theorem wSetIx_ap {te to ti : DE} {nx bk ct : Sls → Sto → Prop} {rt : DK} {ex : DX} {sl : Sls} {st : Sto} : wSetIx te to ti ⟨nx, rt, ex, bk, ct⟩ sl st = (te ex sl st fun v st => to ex sl st fun o st => ti ex sl st fun i st => match o, v, i with
  | .o h, .d y, .d (.int j) => match st[h]? with
    | some (.lst ds) => match ixN ds.length j with
      | some n => nx sl (st.set h (.lst (ds.set n y)))
      | none => False
    | _ => False
  | _, _, _ => False) := rfl
theorem wFrz_ap {n0 i : Nat} {u : DS} {nx bk ct : Sls → Sto → Prop} {rt : DK} {ex : DX} {sl : Sls} {st : Sto} : wFrz n0 i u ⟨nx, rt, ex, bk, ct⟩ sl st = (match nthS sl i with
  | some (.o h) => match st[h]? with
    | some (.lst ds) => n0 ≤ h ∧ (∀ c ∈ st, NoRef h c) ∧ u ⟨nx, rt, ex, bk, ct⟩ (sl.map (frzS h ds)) (st.set h .dead)
    | _ => False
  | _ => u ⟨nx, rt, ex, bk, ct⟩ sl st) := rfl
theorem wCallF_ap {f : FD} {t : DA} {Ed : DX} {sl : Sls} {st : Sto} {Q : DK} : wCallF f t Ed sl st Q = (t Ed sl st fun ss st => f ss fun d => Q (.d d) st) := rfl
theorem wCallQ_ap {k : Nat} {f : FD} {t : DA} {Ed : DX} {sl : Sls} {st : Sto} {Q : DK} : wCallQ k f t Ed sl st Q = (t Ed sl st fun ss st => aQ k f ss st Q) := rfl
theorem wCallWF_ap {n m : Nat} {f : FD} {g : ∀ {α : Type}, List α → List α → List α} {t tk : DA} {Ed : DX} {sl : Sls} {st : Sto} {Q : DK} : wCallWF n m f g t tk Ed sl st Q = (t Ed sl st fun ss st => tk Ed sl st fun zs st => ss.length = n ∧ zs.length = m ∧ f (g ss zs) fun d => Q (.d d) st) := rfl
theorem wRev_ap {te : DE} {Ed : DX} {sl : Sls} {st : Sto} {Q : DK} : wRev te Ed sl st Q = (te Ed sl st fun s st => match vw st s with
  | some (.list ds) => Q (.d (.list ds.reverse)) st
  | _ => False) := rfl
end Pz
set_option maxRecDepth 100000
namespace Pz
open PySem PySem.Spec PyProof.Rows L2 TL
variable [PenC]
mutual
def okR : PyData → Bool
  | .none => true
  | .bool _ => true
  | .int i => decide (i.natAbs < 10 ^ 100)
  | .str z => PyData.strOk z
  | .list xs => okRAll xs
  | .tuple xs => okRAll xs
  | .dict _ => false
def okRAll : List PyData → Bool
  | [] => true
  | x :: xs => okR x && okRAll xs
end
theorem chr_ok (q c : Nat) (hq : q < 0x110000) (hc : c < 0x110000) : ∀ x ∈ PySem.Builtin.Str.reprChar q c, x < 0x110000 := by
  have hx : ∀ w : Nat, ∀ x ∈ (List.replicate (w - ((Nat.toDigits 16 c).map Char.toNat).length) 48 ++ (Nat.toDigits 16 c).map Char.toNat), x < 0x110000 := by
    intro w x m
    rcases List.mem_append.mp m with m | m
    · rw [(List.mem_replicate.mp m).2]; decide
    · obtain ⟨y, _, rfl⟩ := List.mem_map.mp m
      have := y.valid
      rcases this with h | h
      · exact Nat.lt_trans h (by decide)
      · exact h.2
  intro x m
  unfold PySem.Builtin.Str.reprChar at m
  dsimp only at m
  repeat' split at m
  all_goals simp only [List.mem_append, List.mem_cons, List.not_mem_nil, or_false] at m
  all_goals first | omega | (rcases m with (m | m) | m <;> first | omega | exact hx _ x (by first | exact List.mem_append.mpr m | simpa using m))
theorem fold_ok (q : Nat) (hq : q < 0x110000) : ∀ (l : List Nat) (acc : Array Nat), (∀ c ∈ l, c < 0x110000) → (∀ c ∈ acc.toList, c < 0x110000) → ∀ c ∈ (l.foldl (fun out c => out ++ (PySem.Builtin.Str.reprChar q c).toArray) acc).toList, c < 0x110000
  | [], acc, _, h2 => h2
  | d :: r, acc, h1, h2 => by
    rw [List.foldl_cons]
    refine fold_ok q hq r _ (fun c m => h1 c (List.mem_cons_of_mem _ m)) fun c m => ?_
    rw [Array.toList_append] at m
    rcases List.mem_append.mp m with m | m
    · exact h2 c m
    · exact chr_ok q d hq (h1 d List.mem_cons_self) c (by simpa using m)
theorem strOk_repr {z : Str} (h : PyData.strOk z = true) : PyData.strOk (reprText z) = true := by
  rw [strOk_iff] at *
  have hq : reprQuote z < 0x110000 := by unfold reprQuote; split <;> decide
  intro c m
  unfold reprText at m
  rw [show tl (⟨(z.cps.foldl (fun out c => out ++ (PySem.Builtin.Str.reprChar (reprQuote z) c).toArray) #[reprQuote z]).push (reprQuote z)⟩ : Str) = ((z.cps.foldl (fun out c => out ++ (PySem.Builtin.Str.reprChar (reprQuote z) c).toArray) #[reprQuote z]).push (reprQuote z)).toList from rfl] at m
  rw [Array.toList_push, ← Array.foldl_toList] at m
  rcases List.mem_append.mp m with m | m
  · exact fold_ok _ hq z.cps.toList #[reprQuote z] h (fun c m => by simp at m; omega) c m
  · simp at m; omega
theorem strOk_from : ∀ (ts : List Str) (k : Nat) (acc : Str), PyData.strOk acc = true → (∀ t ∈ ts, PyData.strOk t = true) → PyData.strOk (textFrom k acc ts) = true
  | [], k, acc, h, _ => h
  | t :: r, k, acc, h, h2 => strOk_from r (k + 1) _ (strOk_add (strOk_add h (by split <;> exact strOk_lit)) (h2 t List.mem_cons_self)) fun x m => h2 x (List.mem_cons_of_mem _ m)
theorem strOk_listText {ts : List Str} (h : ∀ t ∈ ts, PyData.strOk t = true) : PyData.strOk (listText ts) = true := strOk_add (strOk_from ts 0 _ strOk_lit h) strOk_lit
theorem strOk_joinL {a : List Nat} (ha : ∀ c ∈ a, c < 0x110000) : ∀ {ys : List (List Nat)}, (∀ y ∈ ys, ∀ c ∈ y, c < 0x110000) → ∀ c ∈ TL.joinL a ys, c < 0x110000
  | [], _, c, m => by simp [TL.joinL] at m
  | [y], h, c, m => h y (by simp) c (by simpa [TL.joinL] using m)
  | y :: z :: r, h, c, m => by
    simp only [TL.joinL, List.mem_append] at m
    have ih := strOk_joinL ha (ys := z :: r) (fun y m => h y (List.mem_cons_of_mem _ m)) c
    rcases m with m | m
    · first | exact h y (by simp) c m | (rcases m with m | m <;> first | exact h y (by simp) c m | exact ha c m)
    · first | exact ih m | (rcases m with m | m <;> first | exact ha c m | exact ih m)
theorem strOk_strJoin {a : Str} {ts : List Str} (ha : PyData.strOk a = true) (h : ∀ t ∈ ts, PyData.strOk t = true) : PyData.strOk (Str.join a ts) = true := by
  rw [strOk_iff] at *
  rw [TL.tl_join]
  refine strOk_joinL ha fun y m => ?_
  obtain ⟨t, mt, rfl⟩ := List.mem_map.mp m
  exact strOk_iff.mp (h t mt)
theorem strOk_tupleText {ts : List Str} (h : ∀ t ∈ ts, PyData.strOk t = true) : PyData.strOk (tupleText ts) = true := by
  unfold tupleText
  exact strOk_add (strOk_add strOk_lit (strOk_strJoin strOk_lit h)) (by split <;> exact strOk_lit)
mutual
theorem strOk_shown : ∀ {d : PyData}, okR d = true → PyData.strOk d.shown = true
  | .none, _ => by rw [PyData.shown]; exact strOk_lit
  | .bool b, _ => by rw [PyData.shown]; split <;> exact strOk_lit
  | .int i, _ => by rw [PyData.shown]; exact strOk_lit
  | .str z, h => by rw [PyData.shown]; exact strOk_repr (by simpa [okR] using h)
  | .list xs, h => by rw [PyData.shown]; exact strOk_listText (strOk_shownAll (by simpa [okR] using h))
  | .tuple xs, h => by rw [PyData.shown]; exact strOk_tupleText (strOk_shownAll (by simpa [okR] using h))
  | .dict _, h => by simp [okR] at h
theorem strOk_shownAll : ∀ {ds : List PyData}, okRAll ds = true → ∀ t ∈ PyData.shownAll ds, PyData.strOk t = true
  | [], _ => by simp [PyData.shownAll]
  | x :: xs, h => by
    have h' : okR x = true ∧ okRAll xs = true := by simpa [okRAll] using h
    intro t m
    rw [PyData.shownAll] at m
    rcases List.mem_cons.mp m with rfl | m
    · exact strOk_shown h'.1
    · exact strOk_shownAll h'.2 t m
end
mutual
theorem okR_show : ∀ {d : PyData}, okR d = true → d.showable = true
  | .none, _ => by rw [PyData.showable]
  | .bool b, _ => by rw [PyData.showable]
  | .int i, h => int_show (by simpa [okR] using h)
  | .str z, h => by rw [PyData.showable]
  | .list xs, h => by rw [PyData.showable]; exact okR_showAll (by simpa [okR] using h)
  | .tuple xs, h => by rw [PyData.showable]; exact okR_showAll (by simpa [okR] using h)
  | .dict _, h => by simp [okR] at h
theorem okR_showAll : ∀ {ds : List PyData}, okRAll ds = true → PyData.showableAll ds = true
  | [], _ => by rw [PyData.showableAll]
  | x :: xs, h => by
    have h' : okR x = true ∧ okRAll xs = true := by simpa [okRAll] using h
    rw [PyData.showableAll, okR_show h'.1, okR_showAll h'.2]; rfl
end
mutual
theorem okR_dict : ∀ {d : PyData}, okR d = true → d.hasDict = false
  | .none, _ => by rw [PyData.hasDict]
  | .bool b, _ => by rw [PyData.hasDict]
  | .int i, h => by rw [PyData.hasDict]
  | .str z, h => by rw [PyData.hasDict]
  | .list xs, h => by rw [PyData.hasDict]; exact okR_dictAll (by simpa [okR] using h)
  | .tuple xs, h => by rw [PyData.hasDict]; exact okR_dictAll (by simpa [okR] using h)
  | .dict _, h => by simp [okR] at h
theorem okR_dictAll : ∀ {ds : List PyData}, okRAll ds = true → PyData.hasDictAll ds = false
  | [], _ => by rw [PyData.hasDictAll]
  | x :: xs, h => by
    have h' : okR x = true ∧ okRAll xs = true := by simpa [okRAll] using h
    rw [PyData.hasDictAll, okR_dict h'.1, okR_dictAll h'.2]; rfl
end
mutual
theorem okR_short : ∀ {d : PyData}, okR d = true → d.leavesShort 101 = true
  | .none, _ => by rw [PyData.leavesShort]
  | .bool b, _ => by rw [PyData.leavesShort]
  | .int i, h => by rw [PyData.leavesShort]; exact decide_eq_true (int_len (by simpa [okR] using h))
  | .str z, h => by
    rw [PyData.leavesShort, List.all_eq_true]
    intro c m
    have := strOk_iff.mp (by simpa [okR] using h) c m
    exact decide_eq_true (Nat.lt_trans this (by decide))
  | .list xs, h => by rw [PyData.leavesShort]; exact okR_shortAll (by simpa [okR] using h)
  | .tuple xs, h => by rw [PyData.leavesShort]; exact okR_shortAll (by simpa [okR] using h)
  | .dict _, h => by simp [okR] at h
theorem okR_shortAll : ∀ {ds : List PyData}, okRAll ds = true → PyData.leavesShortAll 101 ds = true
  | [], _ => by rw [PyData.leavesShortAll]
  | x :: xs, h => by
    have h' : okR x = true ∧ okRAll xs = true := by simpa [okRAll] using h
    rw [PyData.leavesShortAll, okR_short h'.1, okR_shortAll h'.2]; rfl
end
mutual
def wtR : PyData → Nat
  | .none => 4
  | .bool _ => 5
  | .int _ => 101
  | .str z => 10 * z.length + 2
  | .list xs => wtRAll xs + 3
  | .tuple xs => wtRAll xs + 3
  | .dict _ => 0
def wtRAll : List PyData → Nat
  | [] => 0
  | x :: xs => wtR x + 2 + wtRAll xs
end
mutual
theorem shown_wt : ∀ {d : PyData}, okR d = true → d.shown.length ≤ wtR d
  | .none, _ => by rw [PyData.shown, wtR]; decide
  | .bool b, _ => by rw [PyData.shown, wtR]; cases b <;> decide
  | .int i, h => by rw [wtR]; exact int_len (by simpa [okR] using h)
  | .str z, h => by
    rw [PyData.shown, wtR]
    exact PySem.StrLaws.reprText_len z fun c m => Nat.lt_trans (strOk_iff.mp (by simpa [okR] using h) c m) (by decide)
  | .list xs, h => by
    rw [PyData.shown, wtR]
    have h1 := shown_wtAll (ds := xs) (by simpa [okR] using h)
    have h2 := listText_len_le (PyData.shownAll xs)
    have h3 := PyData.shownAll_length xs
    omega
  | .tuple xs, h => by
    rw [PyData.shown, wtR]
    have h1 := shown_wtAll (ds := xs) (by simpa [okR] using h)
    have h2 := tupleText_len_le (PyData.shownAll xs)
    have h3 := PyData.shownAll_length xs
    omega
  | .dict _, h => by simp [okR] at h
theorem shown_wtAll : ∀ {ds : List PyData}, okRAll ds = true → ((PyData.shownAll ds).map (·.length)).sum + 2 * ds.length ≤ wtRAll ds
  | [], _ => by simp [PyData.shownAll, wtRAll]
  | x :: xs, h => by
    have h' : okR x = true ∧ okRAll xs = true := by simpa [okRAll] using h
    have h1 := shown_wt h'.1
    have h2 := shown_wtAll h'.2
    simp only [PyData.shownAll, wtRAll, List.map_cons, List.sum_cons, List.length_cons]
    omega
end
structure RepOk (d : PyData) : Prop where
  ok : okR d = true ∨ d = .dict []
  wt : wtR d ≤ 16000000
  dp : d.depth ≤ 60
theorem shown_dn : PyData.shown (.dict []) = "{}" := by decide +kernel
theorem RepOk.len {d : PyData} (h : RepOk d) : d.shown.length ≤ sizeLine := by
  rcases h.ok with ho | rfl
  · have := shown_wt ho
    have := h.wt
    simp only [sizeLine]
    omega
  · rw [shown_dn, len_lit]; decide +kernel
theorem RepOk.sh {d : PyData} (h : RepOk d) : SeqAt.shaped (.str d.shown) = true := by
  rcases h.ok with ho | rfl
  · exact sh_str (strOk_shown ho)
  · rw [shown_dn]; exact sh_lit
def fRep : FA := fun ss st Q => match ss with
  | [s] => match vw st s with
    | some d => RepOk d ∧ Q (.d (.str d.shown)) st
    | none => False
  | _ => False
def rShow (K : Frag) : List V → Hp → VK → Prop := fun xs H Q => (∃ x d, xs = [x] ∧ Dp K H x d ∧ d.showable = true ∧ d.hasDict = false ∧ d.depth ≤ 60 ∧ d.shown.length ≤ sizeLine ∧ Q (.str d.shown) H) ∨ ∃ a, xs = [.ref a] ∧ H a = some (.dK []) ∧ Q (.str (PyData.shown (.dict []))) H
structure RepP (w k : Nat) (d : PyData) : Prop where
  ok : okR d = true
  wt : wtR d ≤ w
  dp : d.depth ≤ k
structure RepL (w k : Nat) (ds : List PyData) : Prop where
  ok : okRAll ds = true
  wt : wtRAll ds ≤ w
  dp : PyData.depthAll ds ≤ k
theorem RepP.r {d : PyData} {w k : Nat} (h : RepP w k d) (hw : w ≤ 16000000) (hk : k ≤ 60) : RepOk d := ⟨.inl h.ok, Nat.le_trans h.wt hw, Nat.le_trans h.dp hk⟩
theorem RepP.mono {d : PyData} {w k w2 k2 : Nat} (h : RepP w k d) (hw : w ≤ w2) (hk : k ≤ k2) : RepP w2 k2 d := ⟨h.ok, Nat.le_trans h.wt hw, Nat.le_trans h.dp hk⟩
theorem RepL.nil : RepL 0 0 [] := ⟨rfl, Nat.le_refl _, by simp [PyData.depthAll]⟩
theorem RepL.cons {d : PyData} {ds : List PyData} {w k w2 k2 : Nat} (h : RepP w k d) (h2 : RepL w2 k2 ds) : RepL (w + 2 + w2) (max k k2) (d :: ds) :=
  ⟨by rw [okRAll, h.ok, h2.ok]; rfl, by have := h.wt; have := h2.wt; rw [wtRAll]; omega, by have := h.dp; have := h2.dp; rw [PyData.depthAll]; omega⟩
theorem RepL.lst {ds : List PyData} {w k : Nat} (h : RepL w k ds) : RepP (w + 3) (k + 1) (.list ds) := ⟨by rw [okR]; exact h.ok, by rw [wtR]; have := h.wt; omega, by rw [PyData.depth]; have := h.dp; omega⟩
theorem RepL.tup {ds : List PyData} {w k : Nat} (h : RepL w k ds) : RepP (w + 3) (k + 1) (.tuple ds) := ⟨by rw [okR]; exact h.ok, by rw [wtR]; have := h.wt; omega, by rw [PyData.depth]; have := h.dp; omega⟩
theorem RepL.mono {ds : List PyData} {w k w2 k2 : Nat} (h : RepL w k ds) (hw : w ≤ w2) (hk : k ≤ k2) : RepL w2 k2 ds := ⟨h.ok, Nat.le_trans h.wt hw, Nat.le_trans h.dp hk⟩
theorem RepL.all {w k : Nat} : ∀ {ds : List PyData}, (∀ d ∈ ds, RepP w k d) → RepL ((w + 2) * ds.length) k ds
  | [], _ => RepL.nil.mono (Nat.zero_le _) (Nat.zero_le _)
  | d :: ds, h => by
    have := RepL.cons (h d List.mem_cons_self) (RepL.all fun x m => h x (List.mem_cons_of_mem _ m))
    refine this.mono ?_ (by omega)
    rw [List.length_cons, Nat.mul_add]; omega
end Pz
set_option maxRecDepth 100000
namespace Pz
open PySem PySem.Spec PyProof.Rows L2 TL
variable [PenC]
theorem szL : sizeLine = 16777216 := rfl
section
variable {g : DG} {tt : DT} {te : DE} {sl : Sls} {st : Sto} {Q : List PyData → Sto → Prop} {ds : List PyData}
theorem lcL_ind (Inv : List PyData → List PyData → Sto → Prop) (h0 : ∀ acc st, Inv [] acc st → Q acc st)
    (h1 : ∀ (R : List PyData → Sto → Prop) d ds acc st, (∀ acc st, Inv ds acc st → R acc st) → Inv (d :: ds) acc st → g (.d d) sl st fun sl2 st => tt (fun _ _ _ _ => False) sl2 st fun b st => if b = true then te (fun _ _ _ _ => False) sl2 st fun s st => match s with
      | .d y => acc.length < sizeLine ∧ R (acc ++ [y]) st
      | _ => False
    else R acc st) : ∀ ds acc st, Inv ds acc st → wLcL g tt te sl ds acc st Q
  | [], acc, st, h => h0 acc st h
  | d :: ds, acc, st, h => h1 (fun acc st => wLcL g tt te sl ds acc st Q) d ds acc st (fun acc st h => lcL_ind Inv h0 h1 ds acc st h) h
theorem lc_map (f : PyData → PyData) (hl : ds.length ≤ 16777216) (h : ∀ d ∈ ds, ∀ R : DK, R (.d (f d)) st → g (.d d) sl st fun sl2 st => te (fun _ _ _ _ => False) sl2 st R) (q : Q (ds.map f) st) : wLcL g wYes te sl ds [] st Q := by
  have main : ∀ (es acc : List PyData), acc.length + es.length ≤ 16777216 → (∀ d ∈ es, d ∈ ds) → Q (acc ++ es.map f) st → wLcL g wYes te sl es acc st Q := by
    intro es
    induction es with
    | nil => intro acc _ _ q; simpa [wLcL] using q
    | cons d es ih =>
      intro acc hl hm q
      have hl' : acc.length < sizeLine := by rw [List.length_cons] at hl; rw [szL]; omega
      exact h d (hm d List.mem_cons_self) (fun s st => match s with
        | .d y => acc.length < sizeLine ∧ wLcL g wYes te sl es (acc ++ [y]) st Q
        | _ => False) ⟨hl', ih _ (by rw [List.length_append, List.length_cons, List.length_nil]; rw [List.length_cons] at hl; omega) (fun x m => hm x (List.mem_cons_of_mem _ m)) (by simpa using q)⟩
  exact main ds [] (by simpa using hl) (fun _ m => m) (by simpa using q)
end
def toN : PyData → Nat
  | .int i => i.toNat
  | _ => 0
def toI : PyData → Int
  | .int i => i
  | _ => 0
end Pz
set_option maxRecDepth 100000
namespace Pz
open PySem PySem.Spec PyProof.Rows L2 TL
variable [PenC]
section
variable {X : Cx} {E : WXs} {Z0 : Zs} {a b c e : Expr} {es : List Expr} {ta tb tc te : DE} {t : DA} {pos p : Pos} {x : Str} {K : Frag}
def oIxE (s t : Sl) (st : Sto) (Q : DK) : Prop := match vw st s, vw st t with
  | some (.list ds), some (.int i) => ∃ d, atI ds i = some d ∧ Q (.d d) st
  | some (.tuple ds), some (.int i) => ∃ d, atI ds i = some d ∧ Q (.d d) st
  | some (.str z), some (.int i) => z.length ≤ sizeLine ∧ ∃ c, atI (tl z) i = some c ∧ Q (.d (.str ⟨#[c]⟩)) st
  | _, _ => False
theorem oIxE_ok {s t : Sl} {st : Sto} {Q : DK} (h : oIxE s t st Q) : oIx s t st Q := by
  unfold oIxE at h
  unfold oIx
  split at h
  · obtain ⟨d, e, q⟩ := h
    rename_i e1 e2
    first | (rw [e1, e2]; dsimp only; rw [e]; exact q) | (rw [e]; exact q)
  · obtain ⟨d, e, q⟩ := h
    rename_i e1 e2
    first | (rw [e1, e2]; dsimp only; rw [e]; exact q) | (rw [e]; exact q)
  · obtain ⟨hz, d, e, q⟩ := h
    rename_i e1 e2
    first | (rw [e1, e2]; dsimp only; rw [e]; exact ⟨hz, q⟩) | (rw [e]; exact ⟨hz, q⟩)
  · exact h.elim
theorem d2_ixE : D2 K (rIx K) oIxE := fun Z v u s t Qd Q ok r1 r2 w k => d2_ix Z v u s t Qd Q ok r1 r2 (oIxE_ok w) k
theorem de_ixE (ha : DEx X E a ta) (hb : DEx X E b tb) (hs : PlainIx b := by intro _ _; rfl) : DEx X E (.Subscript a b pos) (wOp oIxE ta tb) := ⟨peI (pe_ix ix_seq ha.run hb.run hs) (wOp_ok d2_ixE)⟩
end
theorem pickM {P : PyData → Prop} {ds : List PyData} {i : Int} {R : PyData → Prop} (h : ∀ d ∈ ds, P d) (h0 : 0 ≤ i) (h1 : i < ds.length) (k : ∀ d, P d → R d) : ∃ y, atI ds i = some y ∧ R y := by
  obtain ⟨y, e, m⟩ := atI_lt h0 h1
  exact ⟨_, e, k y (h y m)⟩
theorem Ints.cons {P : Int → Prop} {x : Int} {ds : List PyData} (h : P x) (h2 : Ints P ds) : Ints P (.int x :: ds) := fun d m => by
  rcases List.mem_cons.mp m with rfl | m
  · exact ⟨x, rfl, h⟩
  · exact h2 d m
theorem Ints.imp {P R : Int → Prop} {ds : List PyData} (h : Ints P ds) (k : ∀ x, P x → R x) : Ints R ds := fun d m => by
  obtain ⟨x, rfl, hx⟩ := h d m
  exact ⟨x, rfl, k x hx⟩
theorem Ints.tail {P : Int → Prop} {d : PyData} {ds : List PyData} (h : Ints P (d :: ds)) : Ints P ds := fun z m => h z (List.mem_cons_of_mem _ m)
theorem Ints.head {P : Int → Prop} {d : PyData} {ds : List PyData} (h : Ints P (d :: ds)) : ∃ x, d = .int x ∧ P x := h d List.mem_cons_self
theorem Ints.asInts {P : Int → Prop} : ∀ {ds : List PyData}, Ints P ds → Pz.asInts ds = some (ds.map toI)
  | [], _ => rfl
  | d :: ds, h => by
    obtain ⟨x, rfl, hx⟩ := h.head
    simp [Pz.asInts, Ints.asInts h.tail, toI]
theorem Ints.eq {P : Int → Prop} {ds : List PyData} (h : Ints P ds) : ds = (ds.map toI).map .int := asInts_eq h.asInts
theorem Ints.toI {P : Int → Prop} {ds : List PyData} (h : Ints P ds) : ∀ x ∈ ds.map Pz.toI, P x := fun x m => by
  obtain ⟨d, md, rfl⟩ := List.mem_map.mp m
  obtain ⟨y, rfl, hy⟩ := h d md
  exact hy
theorem Ints.of {P : Int → Prop} {ns : List Int} (h : ∀ x ∈ ns, P x) : Ints P (ns.map .int) := fun d m => by
  obtain ⟨x, mx, rfl⟩ := List.mem_map.mp m
  exact ⟨x, rfl, h x mx⟩
theorem Ints.rng {lo : Int} {n : Nat} : Ints (fun x => lo ≤ x ∧ x < lo + n) (rng lo n) := fun d m => by
  unfold Pz.rng at m
  obtain ⟨i, mi, rfl⟩ := List.mem_map.mp m
  exact ⟨_, rfl, by omega, by have := List.mem_range.mp mi; omega⟩
section
variable {K : Frag}
def mPopAt : FM := fun s ss st Q => match s, ss with
  | .o h, [t] => match st[h]?, vw st t with
    | some (.lst ds), some (.int i) => -(2 ^ 63) ≤ i ∧ i < 2 ^ 63 ∧ ∃ d, atI ds i = some d ∧ ∃ k, ixN ds.length i = some k ∧ Q (.d d) (st.set h (.lst (ds.eraseIdx k)))
    | _, _ => False
  | _, _ => False
end
section
variable {X : Cx} {E : WXs} {Z0 : Zs} {a b : Expr} {ta tb : DE} {pos p p2 pos2 : Pos}
structure DRg (X : Cx) (E : WXs) (e : Expr) (τ : DX → Sls → Sto → (Int → Int → Sto → Prop) → Prop) : Prop where
  run : PRg X e fun σ H Q => ∃ (Z : Zs) (sl : Sls) (Qd : Int → Int → Sto → Prop) (Ed : DX), Z.H = H ∧ Ok X.K Z ∧ SlOk X.K Z σ sl ∧ τ Ed sl Z.st Qd ∧ (∀ (Z' : Zs) (i j : Int), Le Z Z' → Ok X.K Z' → Qd i j Z'.st → Q i j Z'.H) ∧ KXOk X.K Z Ed E
def wRg1 (ta : DE) : DX → Sls → Sto → (Int → Int → Sto → Prop) → Prop := fun Ed sl st Q => ta Ed sl st fun s st => match vw st s with
  | some (.int j) => Q 0 j st
  | _ => False
def wRg2 (ta tb : DE) : DX → Sls → Sto → (Int → Int → Sto → Prop) → Prop := fun Ed sl st Q => ta Ed sl st fun s st => tb Ed sl st fun t st => match vw st s, vw st t with
  | some (.int i), some (.int j) => Q i j st
  | _, _ => False
def wListRg (tr : DX → Sls → Sto → (Int → Int → Sto → Prop) → Prop) : DE := fun Ed sl st Q => tr Ed sl st fun i j st => RgOk i j ∧ Q (.d (.list (rng i (j - i).toNat))) st
end
theorem wRg1_ap {ta : DE} {Ed : DX} {sl : Sls} {st : Sto} {Q : Int → Int → Sto → Prop} : wRg1 ta Ed sl st Q = (ta Ed sl st fun s st => match vw st s with
  | some (.int j) => Q 0 j st
  | _ => False) := rfl
theorem wRg2_ap {ta tb : DE} {Ed : DX} {sl : Sls} {st : Sto} {Q : Int → Int → Sto → Prop} : wRg2 ta tb Ed sl st Q = (ta Ed sl st fun s st => tb Ed sl st fun t st => match vw st s, vw st t with
  | some (.int i), some (.int j) => Q i j st
  | _, _ => False) := rfl
theorem wListRg_ap {tr : DX → Sls → Sto → (Int → Int → Sto → Prop) → Prop} {Ed : DX} {sl : Sls} {st : Sto} {Q : DK} : wListRg tr Ed sl st Q = (tr Ed sl st fun i j st => RgOk i j ∧ Q (.d (.list (rng i (j - i).toNat))) st) := rfl
theorem glI {mg : Str → Option Value} {x : Str} {i : Int} (h : ∃ t, mg x = some (.int i t)) : ∃ u, mg x = some u ∧ RelV (.int i) u := by
  obtain ⟨t, e⟩ := h; exact ⟨_, e, t, rfl⟩
end Pz
set_option maxRecDepth 100000
namespace Pz
open PySem PySem.Spec PyProof.Rows L2 TL SrtO
variable [PenC]
section
variable {prog : Program} {w : World} {A : Around} {E : Value → Shared → Prop} {s : Shared} {l : Addr} {its : List Value} {ns : List Int} {Q : Value → Shared → Prop}
end
section
variable {X : Cx} {K : Frag}
def rSumT (K : Frag) : List V → Hp → VK → Prop := fun vs H Q => ∃ (a : Addr) (ns : List Int), vs = [V.ref a] ∧ SqT K H a (ns.map V.int) ∧ Q (.int ns.sum) H
def rMaxT (K : Frag) : List V → Hp → VK → Prop := fun vs H Q => ∃ (a : Addr) (ns : List Int), vs = [V.ref a] ∧ SqT K H a (ns.map V.int) ∧ 0 < ns.length ∧ ∀ m, m ∈ ns → (∀ y, y ∈ ns → y ≤ m) → Q (.int m) H
def rMinT (K : Frag) : List V → Hp → VK → Prop := fun vs H Q => ∃ (a : Addr) (ns : List Int), vs = [V.ref a] ∧ SqT K H a (ns.map V.int) ∧ 0 < ns.length ∧ ∀ m, m ∈ ns → (∀ y, y ∈ ns → m ≤ y) → Q (.int m) H
def rSortedIT (K : Frag) : List V → Hp → VK → Prop := fun vs H Q => ∃ (a : Addr) (ns : List Int), vs = [V.ref a] ∧ SqT K H a (ns.map V.int) ∧ ∀ (ns' : List Int) (p : Addr), ns'.Perm ns → ns'.Pairwise (· ≤ ·) → H p = none → Q (.ref p) (upd H p (.lst (ns'.map V.int)))
def vwJ (st : Sto) (s : Sl) : Option (List Int) := match vw st s with
  | some (.list ds) => asInts ds
  | some (.tuple ds) => asInts ds
  | _ => none
def fSumE : FA := fun ss st Q => match ss with
  | [s] => ∃ ns, vwJ st s = some ns ∧ Q (.d (.int ns.sum)) st
  | _ => False
def fSortedE : FA := fun ss st Q => match ss with
  | [s] => ∃ ns, vwJ st s = some ns ∧ Q (.d (.list ((isort ns).map .int))) st
  | _ => False
def fMaxE : FA := fun ss st Q => match ss with
  | [s] => ∃ ns, vwJ st s = some ns ∧ 0 < ns.length ∧ Q (.d (.int (lmax ns))) st
  | [s, t] => match vw st s, vw st t with
    | some (.int i), some (.int j) => Q (.d (.int (max i j))) st
    | _, _ => False
  | _ => False
def fMinE : FA := fun ss st Q => match ss with
  | [s] => ∃ ns, vwJ st s = some ns ∧ 0 < ns.length ∧ Q (.d (.int (lmin ns))) st
  | [s, t] => match vw st s, vw st t with
    | some (.int i), some (.int j) => Q (.d (.int (min i j))) st
    | _, _ => False
  | _ => False
theorem vwJ_l {st : Sto} {ds : List PyData} : vwJ st (.d (.list ds)) = asInts ds := rfl
theorem vwJ_t {st : Sto} {ds : List PyData} : vwJ st (.d (.tuple ds)) = asInts ds := rfl
def mJoinE : FM := fun s ss st Q => match ss with
  | [t] => match vw st s with
    | some (.str a) => ∃ ys, vwS st t = some ys ∧ (ys.map (·.length)).sum + ys.length * a.length ≤ 16777216 ∧ Q (.d (.str (Txt.join a ys))) st
    | _ => False
  | _ => False
theorem vwS_l {st : Sto} {ds : List PyData} : vwS st (.d (.list ds)) = asStrs ds := rfl
theorem vwS_t {st : Sto} {ds : List PyData} : vwS st (.d (.tuple ds)) = asStrs ds := rfl
end
theorem eqv_nn : PyData.eqv (.list []) (.list []) = true := rfl
def intsB (ds : List PyData) : Bool := ds.all fun d => match d with
  | .int x => decide (0 ≤ x)
  | _ => false
end Pz
set_option maxRecDepth 100000
namespace Pz
open PySem PySem.Spec PyProof.Rows L2 TL RZ
variable [PenC]
section
variable {X : Cx} {E : WXs} {Z0 : Zs} {a b c e : Expr} {es : List Expr} {ta tb tc te : DE} {t : DA} {pos p tpos : Pos} {x : Str} {K : Frag} {elts : List Expr} {kk : Nat}
def oAddO (x y : Sl) (st : Sto) (Q : DK) : Prop := match vw st x, vw st y with
  | some (.list ds), some (.list es) => ds.length + es.length ≤ sizeLine ∧ Q (.o st.length) (st ++ [.lst (ds ++ es)])
  | _, _ => False
def oMulO (x y : Sl) (st : Sto) (Q : DK) : Prop := match vw st x, vw st y with
  | some (.list ds), some (.int n) => -(2 ^ 63) ≤ n ∧ n < 2 ^ 63 ∧ ds.length * n.toNat ≤ sizeLine ∧ Q (.o st.length) (st ++ [.lst (List.replicate n.toNat ds).flatten])
  | _, _ => False
def rngc (lo c : Int) (n : Nat) : List PyData := (List.range n).map fun i => .int (lo + (i : Nat) * c)
def wRng3 (t : DA) : DI := fun Ed sl st Q => t Ed sl st fun ss st => match ss with
  | [s, s', s''] => match vw st s, vw st s', vw st s'' with
    | some (.int i), some (.int j), some (.int c) => ∃ n, RgC i j c n ∧ Q (rngc i c n) st
    | _, _, _ => False
  | _ => False
def enumD : Nat → List PyData → List PyData
  | _, [] => []
  | k, d :: ds => .tuple [.int (k : Nat), d] :: enumD (k + 1) ds
theorem enum_get : ∀ {ds : List PyData} {k i : Nat} {d : PyData}, (enumD k ds)[i]? = some d → ∃ y, ds[i]? = some y ∧ d = .tuple [.int ((k + i : Nat) : Int), y]
  | [], k, i, d, h => by simp [enumD] at h
  | y :: ds, k, 0, d, h => by simp [enumD] at h; exact ⟨y, rfl, by rw [← h]; simp⟩
  | y :: ds, k, i + 1, d, h => by
    rw [enumD, List.getElem?_cons_succ] at h
    obtain ⟨z, e, rfl⟩ := enum_get h
    exact ⟨z, by simpa using e, by rw [show k + 1 + i = k + (i + 1) by omega]⟩
theorem enum_len : ∀ {ds : List PyData} {k : Nat}, (enumD k ds).length = ds.length
  | [], _ => rfl
  | d :: ds, k => by rw [enumD, List.length_cons, enum_len, List.length_cons]
theorem itd_enum {Z1 : Zs} {a : Addr} {xs : List V} {ds : List PyData} (h : Z1.H a = some (.lst xs)) (n : ¬ Z1.W a) (r : Z1.ImAll K xs ds) : ItD K (Ite K a) Z1 (enumD 0 ds) where
  go := fun Z k ok i hi => by
    rw [enum_len] at hi
    exact ⟨xs, xs[i]'(by rw [r.length]; exact hi), .of (k.f _ _ h n), List.getElem?_eq_getElem _⟩
  stop := fun Z k ok => ⟨xs, .of (k.f _ _ h n), by rw [r.length, enum_len]; exact Nat.le_refl _⟩
  yld := fun Z k ok i v H' d e y => by
    obtain ⟨T, x, rfl, nT, rfl, y⟩ := y
    obtain ⟨z, e', rfl⟩ := enum_get e
    obtain ⟨v', e2, r'⟩ := r.get' e'
    obtain rfl : v' = x := by injection e2.symm.trans (y xs (.of (k.f _ _ h n)))
    have rr : Z.ImAll K [.int ((i : Nat) : Int), v'] [.int ((0 + i : Nat) : Int), z] := by
      rw [Nat.zero_add]
      exact .cons (.int _) (.cons (Im.tr k r') .nil)
    exact ⟨Z.new T (.tup [.int (i : Nat), v']), ok.leNew nT, ok.new nT, rfl, rfl, ok.rpT nT rr⟩
def wEnum (te : DA) : DI := fun Ed sl st Q => te Ed sl st fun ss st => match ss with
  | [.d (.list ds)] => Q (enumD 0 ds) st
  | _ => False
def zipD (ds es : List PyData) : List PyData := List.zipWith (fun a b => .tuple [a, b]) ds es
def wZip (te : DA) : DI := fun Ed sl st Q => te Ed sl st fun ss st => match ss with
  | [.d (.list ds), .d (.list es)] => Q (zipD ds es) st
  | [.d (.tuple ds), .d (.tuple es)] => Q (zipD ds es) st
  | _ => False
theorem wRng3_ap {t : DA} {Ed : DX} {sl : Sls} {st : Sto} {Q : List PyData → Sto → Prop} : wRng3 t Ed sl st Q = (t Ed sl st fun ss st => match ss with
  | [s, s', s''] => match vw st s, vw st s', vw st s'' with
    | some (.int i), some (.int j), some (.int c) => ∃ n, RgC i j c n ∧ Q (rngc i c n) st
    | _, _, _ => False
  | _ => False) := rfl
theorem wEnum_ap {te : DA} {Ed : DX} {sl : Sls} {st : Sto} {Q : List PyData → Sto → Prop} : wEnum te Ed sl st Q = (te Ed sl st fun ss st => match ss with
  | [.d (.list ds)] => Q (enumD 0 ds) st
  | _ => False) := rfl
theorem wZip_ap {te : DA} {Ed : DX} {sl : Sls} {st : Sto} {Q : List PyData → Sto → Prop} : wZip te Ed sl st Q = (te Ed sl st fun ss st => match ss with
  | [.d (.list ds), .d (.list es)] => Q (zipD ds es) st
  | [.d (.tuple ds), .d (.tuple es)] => Q (zipD ds es) st
  | _ => False) := rfl
def spQO (k : Nat) (f : FD) : DSp := fun ss cs Q Ed => match ss, cs with
  | .o 0 :: r, [c] => ∃ n, Pen n c ∧ n + k ≤ 1000000 ∧ f r fun d => match d with
    | .list ds => ∀ c', Pen (n + k) c' → Q (.o 1) [c', .lst ds]
    | _ => False
  | _, _ => False
variable {f : FD} {n k m : Nat} {N : List Str} {τ : DS}
def aQO (k : Nat) (f : FD) (ss : List Sl) (st : Sto) (Q : DK) : Prop := match ss with
  | .o h :: r => ∃ c, st[h]? = some c ∧ ∃ n, Pen n c ∧ n + k ≤ 1000000 ∧ f r fun d => match d with
    | .list ds => ∀ c', Pen (n + k) c' → Q (.o st.length) (st.set h c' ++ [.lst ds])
    | _ => False
  | _ => False
def wCallQO (k : Nat) (f : FD) (t : DA) : DE := fun Ed sl st Q => t Ed sl st fun ss st => aQO k f ss st Q
theorem wCallQO_ap {f : FD} {t : DA} {Ed : DX} {sl : Sls} {st : Sto} {Q : DK} : wCallQO k f t Ed sl st Q = (t Ed sl st fun ss st => aQO k f ss st Q) := rfl
variable {fa : Addr} {fd : FuncData} {ps : List Str}
end
theorem ret1_o2 {C D : Ct} {ds : List PyData} {st : Sto} {Q : DK} : Ret 1 (.o 2) (C :: D :: .lst ds :: st) Q = (Cl 1 C ∧ Q (.o 1) [C, .lst ds]) := by simp [Ret, Ct.live, Cl]
theorem Ints.get {P : Int → Prop} {ds : List PyData} {i : Int} (h : Ints P ds) (h0 : 0 ≤ i) (h1 : i < ds.length) : ∃ x, ds[i.toNat]? = some (.int x) ∧ atI ds i = some (.int x) ∧ ixN ds.length i = some i.toNat ∧ P x := by
  obtain ⟨y, e, m⟩ := atI_lt h0 h1
  obtain ⟨x, rfl, hx⟩ := h y m
  exact ⟨x, by rw [← atI_at h0 h1]; exact e, e, ixN_lt h0 h1, hx⟩
theorem eqv_nilL {ds : List PyData} : PyData.eqv (.list ds) (.list []) = ds.isEmpty := by cases ds <;> rfl
end Pz
set_option maxRecDepth 100000
namespace Pz
open PySem PySem.Spec PyProof.Rows L2 TL RZ
variable [PenC]
section
variable {X : Cx} {K : Frag}
def idxD (ds : List PyData) (d : PyData) : Option Nat := ds.findIdx? fun z => PyData.eqv z d
def mIndex : FM := fun s ss st Q => match ss with
  | [t] => match vw st s, vw st t with
    | some (.list ds), some d => SeqAt.shaped (.list ds) = true ∧ SeqAt.shaped d = true ∧ ∃ j, idxD ds d = some j ∧ Q (.d (.int (j : Nat))) st
    | _, _ => False
  | _ => False
def trimS (n : Nat) : Option Sl → Option Sl
  | some (.o h) => if h < n then some (.o h) else none
  | s => s
def wTrim (n0 : Nat) (u : DS) : DS := fun D sl st => ∃ n, n0 ≤ n ∧ (∀ c ∈ st.take n, Cl n c) ∧ u D (sl.map (trimS n)) (st.take n)
theorem wTrim_mk {n0 : Nat} {u : DS} {nx bk ct : Sls → Sto → Prop} {rt : DK} {ex : DX} {sl : Sls} {st : Sto} : wTrim n0 u ⟨nx, rt, ex, bk, ct⟩ sl st = ∃ n, n0 ≤ n ∧ (∀ c ∈ st.take n, Cl n c) ∧ u ⟨nx, rt, ex, bk, ct⟩ (sl.map (trimS n)) (st.take n) := rfl
end
end Pz
set_option maxRecDepth 100000
namespace Pz
open PySem PySem.Spec PyProof.Rows L2 TL
variable [PenC]
def oIadd (x y : Sl) (st : Sto) (Q : DK) : Prop := match vw st x, vw st y with
  | some (.int i), some (.int j) => Q (.d (.int (i + j))) st
  | some (.str a), some (.str b) => a.length + b.length ≤ sizeLine ∧ Q (.d (.str (a ++ b))) st
  | _, _ => False
def rIadd : R2 := fun x y H Q => rI0 (fun i j => .int (i + j)) x y H Q ∨ (∃ i j, x = .str i ∧ y = .str j ∧ i.length + j.length ≤ sizeLine ∧ Q (.str (i ++ j)) H)
end Pz
set_option maxRecDepth 100000
namespace Pz
open PySem PySem.Spec PyProof.Rows L2 TL
variable [PenC]
section
variable {X : Cx} {E : WXs} {Z0 : Zs} {a b c e : Expr} {es : List Expr} {ta tb tc te ti to : DE} {t : DA} {pos p : Pos} {x : Str} {K : Frag}
def tyName : PyData → String
  | .none => "NoneType"
  | .bool _ => "bool"
  | .int _ => "int"
  | .str _ => "str"
  | .list _ => "list"
  | .tuple _ => "tuple"
  | .dict _ => "dict"
def isTyB (T n : String) : Bool := n == T || (T == "int" && n == "bool")
theorem kit_is {K : Frag} : ∀ T ∈ (["int", "bool", "str", "tuple", "list", "dict"] : List String), ∀ n ∈ (["NoneType", "bool", "int", "str", "list", "tuple", "dict"] : List String), PySem.W.kitOne K (.type n) (.type T) = some (isTyB T n) := by
  intro T hT n hn
  simp only [List.mem_cons, List.not_mem_nil, or_false] at hT hn
  rcases hT with rfl | rfl | rfl | rfl | rfl | rfl <;> rcases hn with rfl | rfl | rfl | rfl | rfl | rfl | rfl <;> with_unfolding_all rfl
inductive TyY (K : Frag) (H : Hp) : V → Value → Prop where
  | x {v : V} {t : Value} (h : TyX K H v t) : TyY K H v t
  | fExc {a C : Addr} {d : Option Addr} {W : Addr → Prop} {us : List (Str × V)} (e : H a = some (ExH (.ref C) d a)) (f : XcF K C) (x : XuOk W H us d) : TyY K H (.ref a) (.ref C)
  | fDN {a : Addr} {o : Obj} {kvs : List (Option Int × V)} (e : H a = some (.frz o (NdO kvs a))) : TyY K H (.ref a) (.type "dict")
  | fDT {a : Addr} {o : Obj} {kvs : List (List Key × V)} (e : H a = some (.frz o (.dT kvs))) : TyY K H (.ref a) (.type "dict")
def rIsi2 (K : Frag) : List V → Hp → VK → Prop := fun xs H Q => ∃ (x c : V) (t u : Value) (b : Bool), xs = [x, c] ∧ L2.ClsV c u ∧ TyY K H x t ∧ PySem.W.kitOne K t u = some b ∧ Q (.bl b) H
def okTy (T : String) : Bool := (["int", "bool", "str", "tuple", "list"] : List String).contains T
def fIsi : FA := fun ss st Q => match ss with
  | [s, .r (.ty T)] => match vw st s with
    | some d => okTy T = true ∧ Q (.d (.bool (isTyB T (tyName d)))) st
    | none => False
  | _ => False
abbrev KD := List (Key × PyData)
def valD (kvs : KD) (k : Key) : Option PyData := (kvs.find? fun kv => decide (kv.1 = k)).map (·.2)
def putD (kvs : KD) (k : Key) (d : PyData) : KD := if (kvs.any fun kv => decide (kv.1 = k)) = true then kvs.map fun kv => if kv.1 = k then (kv.1, d) else kv else kvs ++ [(k, d)]
def mergeD (kvs more : KD) : KD := more.foldl (fun acc kv => putD acc kv.1 kv.2) kvs
def keyOf : PyData → Option Key
  | .int i => some (.inl i)
  | .str z => some (.inr z)
  | _ => none
def ImKD (K : Frag) (W : Addr → Prop) (H : Hp) (us : List (Key × V)) (kvs : KD) : Prop := us.map (·.1) = kvs.map (·.1) ∧ ImAll K W H (us.map (·.2)) (kvs.map (·.2))
section
variable {W : Addr → Prop} {H : Hp}
theorem ImKD.nil : ImKD K W H [] [] := ⟨rfl, .nil⟩
theorem ImKD.inv {us : List (Key × V)} {kvs : KD} (h : ImKD K W H us kvs) : (us = [] ∧ kvs = []) ∨ ∃ k v d us' kvs', us = (k, v) :: us' ∧ kvs = (k, d) :: kvs' ∧ Im K W H v d ∧ ImKD K W H us' kvs' := by
  obtain ⟨h1, h2⟩ := h
  cases us with
  | nil => cases kvs with
    | nil => exact .inl ⟨rfl, rfl⟩
    | cons _ _ => cases h1
  | cons u us => cases kvs with
    | nil => cases h1
    | cons kv kvs =>
      obtain ⟨k, v⟩ := u
      obtain ⟨k', d⟩ := kv
      simp only [List.map_cons, List.cons.injEq] at h1
      obtain ⟨rfl, h1⟩ := h1
      cases h2 with
      | cons q r => exact .inr ⟨k, v, d, us, kvs, rfl, rfl, q, h1, r⟩
theorem ImKD.cons {k : Key} {v : V} {d : PyData} {us : List (Key × V)} {kvs : KD} (q : Im K W H v d) (h : ImKD K W H us kvs) : ImKD K W H ((k, v) :: us) ((k, d) :: kvs) := ⟨by rw [List.map_cons, List.map_cons, h.1], .cons q h.2⟩
theorem ImKD.app : ∀ {us us' : List (Key × V)} {kvs kvs' : KD}, ImKD K W H us kvs → ImKD K W H us' kvs' → ImKD K W H (us ++ us') (kvs ++ kvs') := fun h h' => ⟨by rw [List.map_append, List.map_append, h.1, h'.1], by rw [List.map_append, List.map_append]; exact h.2.append h'.2⟩
theorem ImKD.any {k : Key} : ∀ {us : List (Key × V)} {kvs : KD}, ImKD K W H us kvs → (us.any fun kv => decide (kv.1 = k)) = (kvs.any fun kv => decide (kv.1 = k))
  | [], _, h => by rcases h.inv with ⟨_, rfl⟩ | ⟨_, _, _, _, _, e, _⟩; rfl; cases e
  | u :: us, _, h => by
    rcases h.inv with ⟨e, _⟩ | ⟨k', v, d, us', kvs', e, rfl, q, h'⟩
    · cases e
    · cases e
      rw [List.any_cons, List.any_cons, ImKD.any h']
theorem ImKD.val {k : Key} {d : PyData} : ∀ {us : List (Key × V)} {kvs : KD}, ImKD K W H us kvs → valD kvs k = some d → ∃ v, valV us k = some v ∧ Im K W H v d
  | [], _, h, e => by rcases h.inv with ⟨_, rfl⟩ | ⟨_, _, _, _, _, e', _⟩; cases e; cases e'
  | u :: us, _, h, e => by
    rcases h.inv with ⟨e', _⟩ | ⟨k', v, d', us', kvs', e', rfl, q, h'⟩
    · cases e'
    · cases e'
      by_cases hk : k' = k
      · subst hk
        simp [valD] at e
        subst e
        exact ⟨v, by simp [valV], q⟩
      · have e2 : valD kvs' k = some d := by simpa [valD, hk] using e
        obtain ⟨v', h1, h2⟩ := ImKD.val h' e2
        exact ⟨v', by simpa [valV, hk] using h1, h2⟩
theorem ImKD.noval {k : Key} : ∀ {us : List (Key × V)} {kvs : KD}, ImKD K W H us kvs → valD kvs k = none → valV us k = none
  | [], _, h, e => rfl
  | u :: us, _, h, e => by
    rcases h.inv with ⟨e', _⟩ | ⟨k', v, d', us', kvs', e', rfl, q, h'⟩
    · cases e'
    · cases e'
      by_cases hk : k' = k
      · subst hk
        simp [valD] at e
      · have e2 : valD kvs' k = none := by simpa [valD, hk] using e
        simpa [valV, hk] using ImKD.noval h' e2
theorem ImKD.mapK {k : Key} {v : V} {d : PyData} (q : Im K W H v d) : ∀ {us : List (Key × V)} {kvs : KD}, ImKD K W H us kvs → ImKD K W H (us.map fun kv => if kv.1 = k then (kv.1, v) else kv) (kvs.map fun kv => if kv.1 = k then (kv.1, d) else kv)
  | [], _, h => by rcases h.inv with ⟨_, rfl⟩ | ⟨_, _, _, _, _, e', _⟩; exact .nil; cases e'
  | u :: us, _, h => by
    rcases h.inv with ⟨e', _⟩ | ⟨k', v', d', us', kvs', e', rfl, q', h'⟩
    · cases e'
    · cases e'
      have ih := ImKD.mapK (k := k) q h'
      rw [List.map_cons, List.map_cons]
      dsimp only
      split
      · exact .cons q ih
      · exact .cons q' ih
theorem ImKD.put {k : Key} {v : V} {d : PyData} (q : Im K W H v d) {us : List (Key × V)} {kvs : KD} (h : ImKD K W H us kvs) : ImKD K W H (putK us k v) (putD kvs k d) := by
  unfold putK putD
  rw [h.any]
  split
  · exact h.mapK q
  · exact h.app (.cons q .nil)
theorem ImKD.len {us : List (Key × V)} {kvs : KD} (h : ImKD K W H us kvs) : us.length = kvs.length := by
  have := congrArg List.length h.1
  simpa using this
theorem ImKD.tr {W' : Addr → Prop} {H' : Hp} (s : Stay W W' H H') {us : List (Key × V)} {kvs : KD} (h : ImKD K W H us kvs) : ImKD K W' H' us kvs := ⟨h.1, ImAll.tr s h.2⟩
end
theorem Rp.hd {Z : Zs} (ok : Ok K Z) {v : V} {h : Nat} {kvs : KD} (r : Rp K Z v (.o h)) (e : Z.st[h]? = some (.dK kvs)) : ∃ a us, v = .ref a ∧ Z.φ[h]? = some a ∧ Z.H a = some (.dK us) ∧ ImKD K Z.W Z.H us kvs := by
  obtain ⟨a, c, ev, e1, e2, e3⟩ := r
  rw [e] at e2
  cases e2
  obtain ⟨us, q, q1, q2⟩ := ok.ct h a _ e1 e
  exact ⟨a, us, ev, e1, q, q1, q2⟩
def dkAt (st : Sto) : Sl → Option KD
  | .o h => match st[h]? with
    | some (.dK kvs) => some kvs
    | _ => none
  | _ => none
def keyS (st : Sto) (s : Sl) : Option Key := (vw st s).bind keyOf
def oDGet (s t : Sl) (st : Sto) (Q : DK) : Prop := match dkAt st s, keyS st t with
  | some kvs, some k => ∃ d, valD kvs k = some d ∧ Q (.d d) st
  | _, _ => False
def wDPut (te to ti : DE) : DS := fun D sl st => te D.ex sl st fun v st => to D.ex sl st fun o st => ti D.ex sl st fun i st => match o, v, keyS st i with
  | .o h, .d y, some k => match st[h]? with
    | some (.dK kvs) => kvs.length < sizeLine ∧ D.nx sl (st.set h (.dK (putD kvs k y)))
    | _ => False
  | _, _, _ => False
abbrev DP := DX → Sls → Sto → (KD → Sto → Prop) → Prop
def wPNil : DP := fun _ _ st Q => Q [] st
def wPCons (tk tv : DE) (r : DP) : DP := fun Ed sl st Q => tk Ed sl st fun k st => tv Ed sl st fun v st => match k, v with
  | .d kd, .d d => match keyOf kd with
    | some key => r Ed sl st fun kvs st => Q ((key, d) :: kvs) st
    | none => False
  | _, _ => False
def upP (K : Frag) (E : WXs) (τ : DP) : L2.St → Hp → (List (V × V) → Hp → Prop) → Prop := fun σ H Q => ∃ (Z : Zs) (sl : Sls) (Qd : KD → Sto → Prop) (Ed : DX), Z.H = H ∧ Ok K Z ∧ SlOk K Z σ sl ∧ τ Ed sl Z.st Qd ∧ (∀ (Z' : Zs) (us : List (Key × V)) (kvs : KD), Le Z Z' → Ok K Z' → ImKD K Z'.W Z'.H us kvs → Qd kvs Z'.st → Q (us.map fun kv => (kV kv.1, kv.2)) Z'.H) ∧ KXOk K Z Ed E
structure DPs (X : Cx) (E : WXs) (pos : Pos) (keys : List (Option Expr)) (values : List Expr) (τ : DP) : Prop where
  run : ∃ trs, PPs X pos keys values trs ∧ ∀ σ H Q, upP X.K E τ σ H Q → tPairs trs σ H Q
def wDisp (r : DP) : DE := fun Ed sl st Q => r Ed sl (st ++ [.dK []]) fun kvs st2 => st2[st.length]? = some (.dK []) ∧ kvs.length ≤ 15 ∧ Q (.o st.length) (st2.set st.length (.dK (mergeD [] kvs)))
def wDNew : DE := fun Ed sl st Q => Q (.o st.length) (st ++ [.dK []])
def wDNil : DE := fun Ed sl st Q => Q (.d (.dict [])) st
end
end Pz
set_option maxRecDepth 100000
namespace Pz
open PySem PySem.Spec PyProof.Rows L2 TL
variable [PenC]
theorem wDPut_ap {te to ti : DE} {nx bk ct : Sls → Sto → Prop} {rt : DK} {ex : DX} {sl : Sls} {st : Sto} : wDPut te to ti ⟨nx, rt, ex, bk, ct⟩ sl st = (te ex sl st fun v st => to ex sl st fun o st => ti ex sl st fun i st => match o, v, keyS st i with
  | .o h, .d y, some k => match st[h]? with
    | some (.dK kvs) => kvs.length < sizeLine ∧ nx sl (st.set h (.dK (putD kvs k y)))
    | _ => False
  | _, _, _ => False) := rfl
theorem wPNil_ap {Ed : DX} {sl : Sls} {st : Sto} {Q : KD → Sto → Prop} : wPNil Ed sl st Q = Q [] st := rfl
theorem wPCons_ap {tk tv : DE} {r : DP} {Ed : DX} {sl : Sls} {st : Sto} {Q : KD → Sto → Prop} : wPCons tk tv r Ed sl st Q = (tk Ed sl st fun k st => tv Ed sl st fun v st => match k, v with
  | .d kd, .d d => match keyOf kd with
    | some key => r Ed sl st fun kvs st => Q ((key, d) :: kvs) st
    | none => False
  | _, _ => False) := rfl
theorem wDisp_ap {r : DP} {Ed : DX} {sl : Sls} {st : Sto} {Q : DK} : wDisp r Ed sl st Q = (r Ed sl (st ++ [.dK []]) fun kvs st2 => st2[st.length]? = some (.dK []) ∧ kvs.length ≤ 15 ∧ Q (.o st.length) (st2.set st.length (.dK (mergeD [] kvs)))) := rfl
theorem wDNew_ap {Ed : DX} {sl : Sls} {st : Sto} {Q : DK} : wDNew Ed sl st Q = Q (.o st.length) (st ++ [.dK []]) := rfl
theorem wDNil_ap {Ed : DX} {sl : Sls} {st : Sto} {Q : DK} : wDNil Ed sl st Q = Q (.d (.dict [])) st := rfl
theorem keyOf_str {z : Str} : keyOf (.str z) = some (.inr z) := rfl
theorem keyOf_int {i : Int} : keyOf (.int i) = some (.inl i) := rfl
theorem keyS_str {st : Sto} {z : Str} : keyS st (.d (.str z)) = some (.inr z) := rfl
theorem keyS_int {st : Sto} {i : Int} : keyS st (.d (.int i)) = some (.inl i) := rfl
theorem dkAt_o {st : Sto} {h : Nat} : dkAt st (.o h) = match st[h]? with
    | some (.dK kvs) => some kvs
    | _ => none := rfl
section
variable {a b c d : PyData}
theorem valE_cells : valD [(.inr "cells", a), (.inr "at", b), (.inr "left", c)] (.inr "cells") = some a := by with_unfolding_all rfl
theorem valE_at : valD [(.inr "cells", a), (.inr "at", b), (.inr "left", c)] (.inr "at") = some b := by with_unfolding_all rfl
theorem valE_left : valD [(.inr "cells", a), (.inr "at", b), (.inr "left", c)] (.inr "left") = some c := by with_unfolding_all rfl
theorem putE_at : putD [(.inr "cells", a), (.inr "at", b), (.inr "left", c)] (.inr "at") d = [(.inr "cells", a), (.inr "at", d), (.inr "left", c)] := by with_unfolding_all rfl
theorem putE_left : putD [(.inr "cells", a), (.inr "at", b), (.inr "left", c)] (.inr "left") d = [(.inr "cells", a), (.inr "at", b), (.inr "left", d)] := by with_unfolding_all rfl
theorem mergeE : mergeD [] [(.inr "cells", a), (.inr "at", b), (.inr "left", c)] = [(.inr "cells", a), (.inr "at", b), (.inr "left", c)] := by with_unfolding_all rfl
end
theorem ret1_dE {C : KD} {st : Sto} {Q : DK} : Ret 0 (.o 0) (.dK C :: st) Q = Q (.o 0) [.dK C] := by simp [Ret, Ct.live, Cl]
theorem cl_dk {n : Nat} {kvs : KD} : Cl n (.dK kvs) = True := rfl
theorem u1 {k : Nat} {A : Around} (hr : Room k A) : A.units + 1 < cLine := by have := hr.units; omega
theorem okT_int : okTy "int" = true := by decide +kernel
theorem is_int_none : isTyB "int" (tyName (.none)) = false := by with_unfolding_all rfl
theorem is_int_bool {b : Bool} : isTyB "int" (tyName (.bool b)) = true := by with_unfolding_all rfl
theorem is_int_int {i : Int} : isTyB "int" (tyName (.int i)) = true := by with_unfolding_all rfl
theorem is_int_str {z : Str} : isTyB "int" (tyName (.str z)) = false := by with_unfolding_all rfl
theorem is_int_list {ds : List PyData} : isTyB "int" (tyName (.list ds)) = false := by with_unfolding_all rfl
theorem is_int_tuple {ds : List PyData} : isTyB "int" (tyName (.tuple ds)) = false := by with_unfolding_all rfl
theorem is_int_dict {kvs : List (PyData × PyData)} : isTyB "int" (tyName (.dict kvs)) = false := by with_unfolding_all rfl
theorem okT_bool : okTy "bool" = true := by decide +kernel
theorem is_bool_none : isTyB "bool" (tyName (.none)) = false := by with_unfolding_all rfl
theorem is_bool_bool {b : Bool} : isTyB "bool" (tyName (.bool b)) = true := by with_unfolding_all rfl
theorem is_bool_int {i : Int} : isTyB "bool" (tyName (.int i)) = false := by with_unfolding_all rfl
theorem is_bool_str {z : Str} : isTyB "bool" (tyName (.str z)) = false := by with_unfolding_all rfl
theorem is_bool_list {ds : List PyData} : isTyB "bool" (tyName (.list ds)) = false := by with_unfolding_all rfl
theorem is_bool_tuple {ds : List PyData} : isTyB "bool" (tyName (.tuple ds)) = false := by with_unfolding_all rfl
theorem is_bool_dict {kvs : List (PyData × PyData)} : isTyB "bool" (tyName (.dict kvs)) = false := by with_unfolding_all rfl
theorem okT_str : okTy "str" = true := by decide +kernel
theorem is_str_none : isTyB "str" (tyName (.none)) = false := by with_unfolding_all rfl
theorem is_str_bool {b : Bool} : isTyB "str" (tyName (.bool b)) = false := by with_unfolding_all rfl
theorem is_str_int {i : Int} : isTyB "str" (tyName (.int i)) = false := by with_unfolding_all rfl
theorem is_str_str {z : Str} : isTyB "str" (tyName (.str z)) = true := by with_unfolding_all rfl
theorem is_str_list {ds : List PyData} : isTyB "str" (tyName (.list ds)) = false := by with_unfolding_all rfl
theorem is_str_tuple {ds : List PyData} : isTyB "str" (tyName (.tuple ds)) = false := by with_unfolding_all rfl
theorem is_str_dict {kvs : List (PyData × PyData)} : isTyB "str" (tyName (.dict kvs)) = false := by with_unfolding_all rfl
theorem okT_tuple : okTy "tuple" = true := by decide +kernel
theorem is_tuple_none : isTyB "tuple" (tyName (.none)) = false := by with_unfolding_all rfl
theorem is_tuple_bool {b : Bool} : isTyB "tuple" (tyName (.bool b)) = false := by with_unfolding_all rfl
theorem is_tuple_int {i : Int} : isTyB "tuple" (tyName (.int i)) = false := by with_unfolding_all rfl
theorem is_tuple_str {z : Str} : isTyB "tuple" (tyName (.str z)) = false := by with_unfolding_all rfl
theorem is_tuple_list {ds : List PyData} : isTyB "tuple" (tyName (.list ds)) = false := by with_unfolding_all rfl
theorem is_tuple_tuple {ds : List PyData} : isTyB "tuple" (tyName (.tuple ds)) = true := by with_unfolding_all rfl
theorem is_tuple_dict {kvs : List (PyData × PyData)} : isTyB "tuple" (tyName (.dict kvs)) = false := by with_unfolding_all rfl
theorem okT_list : okTy "list" = true := by decide +kernel
theorem is_list_none : isTyB "list" (tyName (.none)) = false := by with_unfolding_all rfl
theorem is_list_bool {b : Bool} : isTyB "list" (tyName (.bool b)) = false := by with_unfolding_all rfl
theorem is_list_int {i : Int} : isTyB "list" (tyName (.int i)) = false := by with_unfolding_all rfl
theorem is_list_str {z : Str} : isTyB "list" (tyName (.str z)) = false := by with_unfolding_all rfl
theorem is_list_list {ds : List PyData} : isTyB "list" (tyName (.list ds)) = true := by with_unfolding_all rfl
theorem is_list_tuple {ds : List PyData} : isTyB "list" (tyName (.tuple ds)) = false := by with_unfolding_all rfl
theorem is_list_dict {kvs : List (PyData × PyData)} : isTyB "list" (tyName (.dict kvs)) = false := by with_unfolding_all rfl
theorem is_dict_none : isTyB "dict" (tyName (.none)) = false := by with_unfolding_all rfl
theorem is_dict_bool {b : Bool} : isTyB "dict" (tyName (.bool b)) = false := by with_unfolding_all rfl
theorem is_dict_int {i : Int} : isTyB "dict" (tyName (.int i)) = false := by with_unfolding_all rfl
theorem is_dict_str {z : Str} : isTyB "dict" (tyName (.str z)) = false := by with_unfolding_all rfl
theorem is_dict_list {ds : List PyData} : isTyB "dict" (tyName (.list ds)) = false := by with_unfolding_all rfl
theorem is_dict_tuple {ds : List PyData} : isTyB "dict" (tyName (.tuple ds)) = false := by with_unfolding_all rfl
theorem is_dict_dict {kvs : List (PyData × PyData)} : isTyB "dict" (tyName (.dict kvs)) = true := by with_unfolding_all rfl
end Pz
set_option maxRecDepth 100000
namespace Pz
open PySem PySem.Spec PyProof.Rows L2 TL
variable [PenC]
section
variable {K : Frag}
def flatD : PyData → Bool
  | .none => true
  | .bool _ => true
  | .int _ => true
  | .str _ => true
  | _ => false
theorem im_flat {W : Addr → Prop} {H : Hp} {v : V} {d : PyData} (q : Im K W H v d) (h : flatD d = true) : flatV v = true := by
  cases q <;> first | rfl | cases h
theorem im_eq {W : Addr → Prop} {H : Hp} {v u : V} {d e : PyData} (q : Im K W H v d) (r : Im K W H u e) (h1 : flatD d = true) (h2 : flatD e = true) : eqV v u = PyData.eqv d e := by
  cases q <;> first | (cases h1; done) | (cases r <;> first | (cases h2; done) | simp [eqV, PyData.eqv])
theorem im_flats {W : Addr → Prop} {H : Hp} : ∀ {vs : List V} {ds : List PyData}, ImAll K W H vs ds → ds.all flatD = true → vs.all flatV = true
  | _, _, .nil, _ => rfl
  | _, _, .cons q r, h => by
    rw [List.all_cons, Bool.and_eq_true] at h
    rw [List.all_cons, im_flat q h.1, im_flats r h.2]; rfl
theorem im_in {W : Addr → Prop} {H : Hp} {v : V} {d : PyData} (q : Im K W H v d) (h1 : flatD d = true) : ∀ {vs : List V} {ds : List PyData}, ImAll K W H vs ds → ds.all flatD = true → inV v vs = ds.any fun z => PyData.eqv z d
  | _, _, .nil, _ => rfl
  | _, _, .cons q' r, h => by
    rw [List.all_cons, Bool.and_eq_true] at h
    have := im_in q h1 r h.2
    unfold inV at *
    rw [List.any_cons, List.any_cons, this, im_eq q' q h.1 h1]
def oInX (neg : Bool) (x y : Sl) (st : Sto) (Q : DK) : Prop := match vw st x, vw st y with
  | some d, some (.list ds) => SeqAt.shaped d = true ∧ SeqAt.shaped (.list ds) = true ∧ Q (.d (.bool (if neg then !ds.any fun z => PyData.eqv z d else ds.any fun z => PyData.eqv z d))) st
  | some d, some (.tuple ds) => flatD d = true ∧ ds.all flatD = true ∧ Q (.d (.bool (if neg then !ds.any fun z => PyData.eqv z d else ds.any fun z => PyData.eqv z d))) st
  | some (.str z), some (.str y) => ∃ c, z = ⟨#[c]⟩ ∧ Q (.d (.bool (if neg then !decide (c ∈ tl y) else decide (c ∈ tl y)))) st
  | _, _ => False
def rInX (K : Frag) : R2 := fun x y H Q => rInD K x y H Q ∨ rIn K false x y H Q ∨ ∃ (c : Nat) (z : Str), x = .str ⟨#[c]⟩ ∧ y = .str z ∧ Q (.bl (decide (c ∈ z.cps.toList))) H
def rNinX (K : Frag) : R2 := fun x y H Q => rNotInD K x y H Q ∨ rIn K true x y H Q ∨ ∃ (c : Nat) (z : Str), x = .str ⟨#[c]⟩ ∧ y = .str z ∧ Q (.bl (!decide (c ∈ z.cps.toList))) H
theorem op_inX {X : Cx} (hu : X.A.units + 65 < cLine) : OpR X (compareOp .In) (rInX X.K) := (op_inD hu).or (op_in_seq.or op_in_sign)
theorem d2_inX : D2 K (rInX K) (oInX false) := by
  intro Z v u s t Qd Q ok r1 r2 w k
  unfold oInX at w
  split at w
  · rename_i a b e1 e2
    exact .inl ⟨a, b, r1.dp ok e1 (shaped_dict w.1), r2.dp ok e2 (shaped_dict w.2.1), w.1, w.2.1, k.now ok (.bl _) w.2.2⟩
  · rename_i d ds e1 e2
    obtain ⟨p, xs, rfl, h1, q1⟩ := r2.tuple e2
    have q0 := r1.data e1 fun ds h => by rw [h] at w; exact absurd w.1 (by simp [flatD])
    refine .inr (.inl ⟨p, xs, rfl, .inr h1.sq, im_flat q0 w.1, im_flats q1 w.2.1, ?_⟩)
    rw [im_in q0 w.1 q1 w.2.1]
    exact k.now ok (.bl _) w.2.2
  · rename_i z y e1 e2
    obtain ⟨c, rfl, q⟩ := w
    exact .inr (.inr ⟨c, y, r1.str e1, r2.str e2, k.now ok (.bl _) q⟩)
  · exact w.elim
def oIsB (x y : Sl) (st : Sto) (Q : DK) : Prop := match vw st x, vw st y with
  | some (.bool a), some (.bool b) => Q (.d (.bool (decide (a = b)))) st
  | _, _ => False
def oNotB (x y : Sl) (st : Sto) (Q : DK) : Prop := match vw st x, vw st y with
  | some (.bool a), some (.bool b) => Q (.d (.bool (!decide (a = b)))) st
  | _, _ => False
def intFrom (d : PyData) (m : Int) : Bool := match d with
  | .int i => decide (m ≤ i)
  | _ => false
def intBetw (d : PyData) (m g : Int) : Bool := match d with
  | .int i => decide (m ≤ i) && decide (i ≤ g)
  | _ => false
def isWord (d : PyData) : Bool := match d with
  | .str z => decide (Str.ofString "expand" = z) || decide (Str.ofString "collapse" = z)
  | _ => false
def isOp (d : PyData) : Bool := match d with
  | .tuple [w, s] => isWord w && intBetw s 1 1000000000
  | _ => false
end
end Pz
set_option maxRecDepth 100000
namespace Pz
open PySem PySem.Spec PyProof.Rows L2 TL
variable [PenC]
section
variable {prog : Program} {w : World} {A : Around} {E : Value → Shared → Prop} {s : Shared}
set_option maxHeartbeats 1000000 in
theorem meets_enum1 {v : Value} {o : Obj} {G : Heap → Prop} (B : Begins v o G) : Meets (Builtin.«enumerate.__new__» ⟨[.type "enumerate", v], []⟩) (fun _ R s => G s.heap ∧ R (.ok (.ret (.ref (s.heap.push o).objs.size))) { s with heap := (s.heap.push o).push { cls := .type "enumerate", data := .fields #[.none, .bool false, .ref s.heap.objs.size, rawInt 0, .none, .none] } }) := .of_wp fun prog w A R s hs => by
    obtain ⟨hp, gg, dd, kk, oo⟩ := s
    obtain ⟨st, hs⟩ := hs
    have sb := sub_enumerate
    have qi : ∀ {A' : Around} {E Q : Value → Shared → Prop}, Q (.ref hp.objs.size) ⟨hp.push o, gg, dd, kk, oo⟩ → wpAny (model prog w) A' (pyIter v) Q E ⟨hp, gg, dd, kk, oo⟩ := fun q => B.iter prog w _ _ ⟨hp, gg, dd, kk, oo⟩ _ st q
    wp_walk using qi
    refine wpAny_stack_any fun st2 => wpAny_pure ?_
    split
    · rename_i c _ _ _ _ _
      cases (c == Value.type "enumerate") <;> (wp_walk using qi; exact ⟨_, rfl, hs⟩)
    · wp_walk using qi; exact ⟨_, rfl, hs⟩
theorem enum1_begins {v : Value} {o : Obj} {G : Heap → Prop} {Q : Value → Shared → Prop} (B : Begins v o G) (st : G s.heap)
    (q : ∀ h', IsEnum h' (s.heap.objs.size + 1) s.heap.objs.size 0 .none → h'.get? s.heap.objs.size = some o → (∀ b ob, s.heap.get? b = some ob → h'.get? b = some ob) → Q (.ref (s.heap.objs.size + 1)) { s with heap := h' }) : wpAny (model prog w) A (call (.type "enumerate") [v]) Q E s := by
  refine callType_new F.called_enumerate (by decide) (F.typeCall_enumerate_1 _) (F.newCall_enumerate_1 _) (fun obj => F.args_object_init_2 obj _) F.entry_enumerate_new (meets_enum1 B) ⟨st, ?_⟩
  have z : (s.heap.push o).objs.size = s.heap.objs.size + 1 := Heap.size_push ..
  show _ ∧ _
  rw [z]
  have g := Heap.get?_push_size (s.heap.push o) (o := { cls := .type "enumerate", data := .fields #[.none, .bool false, .ref s.heap.objs.size, rawInt 0, .none, .none] }) rfl
  rw [z] at g
  exact ⟨⟨_, g, rfl⟩, q _ g (Heap.get?_push_of_some _ (Heap.get?_push_size _ B.free)) fun b ob e => Heap.get?_push_of_some _ (Heap.get?_push_of_some _ e)⟩
theorem wpAny_pyNext_enum_endT {e it a : Addr} {i : Nat} {items : Array Value} {old : Value} {Q : Option Value → Shared → Prop} (hh : A.handled = none) (he : IsEnum s.heap e it i old) (hit : s.heap.IsTupleIter it a i) (ht : s.heap.IsTuple a items) (hx : items[i]? = none)
    (q : ∀ h', Heap.ExtBut it s.heap h' → Q none { s with heap := h' }) : wpAny (model prog w) A (pyNext (.ref e)) Q E s := by
  have ty : s.TypeIs (.ref e) "enumerate" := ⟨_, he, rfl⟩
  unfold pyNext
  refine wpAny_bind (wpAny_attempt (wpAny_callSpecial?_slot (name := Str.ofString "__next__") ty F.slot_enumerate_next (wpAny_call_entry F.slot_enumerate_next ty F.entry_enumerate_next ?_ (F.args_enumerate_next_1 _))))
  change wpAny _ _ (field (.ref e) 2 >>= _) _ _ _
  refine wpAny_bind (wpAny_field he rfl (x := .ref it) rfl ?_)
  refine wpAny_bind (wpAny_nextOf_tuple_end hh hit ht hx fun h' x kp ex => ?_)
  obtain ⟨o, e1, e2⟩ := ex
  exact wpAny_bind (wpAny_isInstance (T := "StopIteration") (b := true) ⟨o, e1, e2⟩ isSubtype_stop (wpAny_pure (q _ kp)))
end
def IteT (K : Frag) (a : Addr) : It :=
  ⟨fun i H => ∃ (xs : List V) (x : V), SqT K H a xs ∧ xs[i]? = some x,
   fun i H v H' => ∃ T x, v = .ref T ∧ H T = none ∧ H' = upd H T (.tup [.int (i : Nat), x]) ∧ ∀ xs, SqT K H a xs → xs[i]? = some x,
   fun i H => ∃ xs : List V, SqT K H a xs ∧ xs.length ≤ i⟩
theorem turn_enumT {P : Program} {w : World} {K : Frag} {elts : List Expr} {kk : Nat} {tpos : Pos} (a e it : Addr) :
    Turn P w K (.Tuple elts kk tpos) (IteT K a) [e, it] e (fun i h => (∃ old, IsEnum h e it ((i : Nat) : Int) old) ∧ h.IsTupleIter it a i ∧ e ≠ it ∧ e ≠ a ∧ a ≠ it) where
  mem := by simp
  obj := fun i h st b hb => by
    obtain ⟨⟨old, he⟩, ⟨o, ho, _, hd⟩, _⟩ := st
    simp only [List.mem_cons, List.not_mem_nil, or_false] at hb
    rcases hb with rfl | rfl
    · exact ⟨_, he, fun v q => nomatch q⟩
    · exact ⟨o, ho, fun v q => by rw [hd] at q; cases q⟩
  keep := fun i h h' st k => by
    obtain ⟨⟨old, he⟩, hi, hne⟩ := st
    exact ⟨⟨old, k e (by simp) _ he⟩, hi.at fun o q => k it (by simp) o q, hne⟩
  item := by
    intro X hP hw hK hc i pins s σ H E I hf st hg
    subst hP hw hK
    obtain ⟨⟨old, he⟩, hit, hne, hea, hai⟩ := st
    obtain ⟨xs, x, hq, hx⟩ := hg
    obtain ⟨its, rv, p, hz⟩ := I.tuple hq
    obtain ⟨u, hu, ru⟩ := rv.get hx
    have hel := Heap.lt_size he
    have hil : it < s.heap.objs.size := by obtain ⟨_, q, _⟩ := hit; exact Heap.lt_size q
    have hlen : i < its.toArray.size := by have := (List.getElem?_eq_some_iff.mp hu).1; simpa using this
    have D := Draws.tuple (prog := X.prog) (w := X.w) (A := X.A.in1) (I.ok.hd hc) it a hai its.toArray
    refine wpAny_pyNext_enum_itemD D he ⟨hit, p⟩ hlen hne (by simp [hne, hea]) fun y h' tk hy ho hit' hT hsz hk => ?_
    obtain rfl : y = u := by
      have : its.toArray[i]? = some u := by simpa using hu
      exact Option.some.inj (hy.symm.trans this)
    refine ⟨_, rfl, wpAny_letOwnedTupleGo_enum (s := { s with heap := h', toks := tk + 1 }) ho fun h2 he' sb => ?_⟩
    have hT2 : h2.get? s.heap.objs.size = some { cls := .type "tuple", data := .seq #[.int i tk, y] } := (sb.2 _ (Nat.ne_of_gt hel)).trans hT
    have ok2 : ObjOk X.prog X.w (upd H s.heap.objs.size (.tup [.int (i : Nat), x])) h2 s.heap.objs.size (.tup [.int (i : Nat), x]) := ⟨by show 2 ≤ sizeLine; decide, [.int i tk, y], .cons ⟨_, rfl⟩ (.cons ru .nil), ⟨_, hT2, rfl, _, rfl⟩⟩
    have kp : ∀ b ob, b ∉ [e, it] → s.heap.get? b = some ob → h2.get? b = some ob := fun b ob hb q => by
      simp only [List.mem_cons, List.not_mem_nil, or_false, not_or] at hb
      exact (sb.2 b hb.1).trans (hk b ob hb.1 hb.2 q)
    have I1 : Inv X pins σ (upd H s.heap.objs.size (.tup [.int (i : Nat), x])) { s with heap := h2, toks := tk + 1 } := I.turnedNew (ch := [e, it]) kp hf (Nat.le_refl _) ok2
    have e1 : ((i + 1 : Nat) : Int) = (i : Int) + 1 := by omega
    refine ⟨.ref s.heap.objs.size, _, I1, rfl, ⟨_, x, rfl, I.hok.fresh (Nat.le_refl _), rfl, fun ys hy => by rw [I.tuple_inj hy hq]; exact hx⟩, ⟨⟨y, by rw [e1]; exact he'⟩, hit'.1.at fun o q => (sb.2 it (Ne.symm hne)).trans q, hne, hea, hai⟩, fun b hb => ?_⟩
    have hb' : b < s.heap.objs.size := by
      simp only [List.mem_cons, List.not_mem_nil, or_false] at hb
      rcases hb with rfl | rfl
      · exact hel
      · exact hil
    rw [upd_ne (Nat.ne_of_lt hb')]
    exact (hf b hb).1
  done := by
    intro X hP hw hK hc i pins s σ H E I hf st hg
    subst hP hw hK
    obtain ⟨⟨old, he⟩, hit, hne, hea, hai⟩ := st
    obtain ⟨xs, hq, hx⟩ := hg
    obtain ⟨its, rv, p, hz⟩ := I.tuple hq
    obtain ⟨f0, f1, f2, f3, f4, f5⟩ := hf it (by simp)
    have hl := rv.length
    exact wpAny_pyNext_enum_endT (I.ok.hd hc) he hit p (by simp; omega) fun h' eb => ⟨rfl, I.turned (t' := s.toks) (fun b o hb q => eb b o hb q) f0 f1 f3 f4 f5⟩
  self := fun A i s Q E st h => by obtain ⟨⟨_, he⟩, _⟩ := st; exact wpAny_pyIter_enum he h
def iEnumA (K : Frag) (ta : TA) : TI := fun σ H R => ta σ H fun vs H1 => ∃ a xs, vs = [.ref a] ∧ ((SqL K H1 a xs ∧ R (Ite K a) H1) ∨ (SqT K H1 a xs ∧ R (IteT K a) H1))
theorem itd_enumT {K : Frag} {Z1 : Zs} {a : Addr} {xs : List V} {ds : List PyData} (h : ImT K Z1.W Z1.H a xs) (r : Z1.ImAll K xs ds) : ItD K (IteT K a) Z1 (enumD 0 ds) where
  go := fun Z k ok i hi => by
    rw [enum_len] at hi
    exact ⟨xs, xs[i]'(by rw [r.length]; exact hi), (h.tr k).sq, List.getElem?_eq_getElem _⟩
  stop := fun Z k ok => ⟨xs, (h.tr k).sq, by rw [r.length, enum_len]; exact Nat.le_refl _⟩
  yld := fun Z k ok i v H' d e y => by
    obtain ⟨T, x, rfl, nT, rfl, y⟩ := y
    obtain ⟨z, e', rfl⟩ := enum_get e
    obtain ⟨v', e2, r'⟩ := r.get' e'
    obtain rfl : v' = x := by injection e2.symm.trans (y xs (h.tr k).sq)
    have rr : Z.ImAll K [.int ((i : Nat) : Int), v'] [.int ((0 + i : Nat) : Int), z] := by
      rw [Nat.zero_add]
      exact .cons (.int _) (.cons (Im.tr k r') .nil)
    exact ⟨Z.new T (.tup [.int (i : Nat), v']), ok.leNew nT, ok.new nT, rfl, rfl, ok.rpT nT rr⟩
def wEnumX (te : DA) : DI := fun Ed sl st Q => te Ed sl st fun ss st => match ss with
  | [.d (.tuple ds)] => Q (enumD 0 ds) st
  | [.d (.list ds)] => Q (enumD 0 ds) st
  | _ => False
section
variable {X : Cx} {E : WXs} {Z0 : Zs} {e : Expr} {t : DA} {elts : List Expr} {kk : Nat} {pos p tpos : Pos}
theorem wEnumX_ap {te : DA} {Ed : DX} {sl : Sls} {st : Sto} {Q : List PyData → Sto → Prop} : wEnumX te Ed sl st Q = (te Ed sl st fun ss st => match ss with
  | [.d (.tuple ds)] => Q (enumD 0 ds) st
  | [.d (.list ds)] => Q (enumD 0 ds) st
  | _ => False) := rfl
end
def wRevX (te : DE) : DE := fun Ed sl st Q => te Ed sl st fun s st => match vw st s with
  | some (.list ds) => Q (.d (.list ds.reverse)) st
  | some (.tuple ds) => Q (.d (.tuple ds.reverse)) st
  | _ => False
end Pz
set_option maxRecDepth 100000
namespace Pz
open PySem PySem.Spec PyProof.Rows L2 TL
variable [PenC]
structure FAtK (K : Frag) (mg : Str → Option Value) (x : Str) (st : Stmt) (kws : List (Str × V)) (f : Addr) (fd : FuncData) : Prop where
  F : Fun K x x st f fd
  g : mg x = some (.ref f)
  D : FunD K x x (defArgs st) (defBody st) (defScope st) [] kws f fd
structure KwE (K : Frag) (fd : FuncData) (ps : List Str) (n : Nat) (ks : List Str) (gS : List Sl → List Sl → List Sl) : Prop where
  ex : ∃ (g : List Value → List Value → List Value) (gV : List V → List V → List V),
    (∀ (s : Shared) (us ws : List Value), K.In s.heap → us.length = n → ws.length = ks.length → BindsTo s fd ⟨us, ks.zip ws⟩ (ps.zip (g us ws))) ∧
    (∀ {vs : List V} {us : List Value} {zs : List V} {ws : List Value}, vs.length = n → zs.length = ks.length → Vals vs us → Vals zs ws → Vals (gV vs zs) (g us ws)) ∧
    (∀ {Z : Zs} {vs zs : List V} {ss us : List Sl}, ss.length = n → us.length = ks.length → RpAll K Z vs ss → RpAll K Z zs us → RpAll K Z (gV vs zs) (gS ss us))
section
variable {K : Frag} {x : Str} {st : Stmt} {kws : List (Str × V)} {f : Addr} {fd : FuncData} {ps : List Str} {mg : Str → Option Value}
end
section
variable {X : Cx} {E : WXs} {k n m : Nat} {fa : Addr} {fd : FuncData} {ps ks : List Str} {f : FD} {x : Str} {p pos : Pos} {e : Expr} {es : List Expr} {t tk : DA} {kws : List Keyword} {gS : List Sl → List Sl → List Sl}
def wCallE (n m : Nat) (f : FD) (g : List Sl → List Sl → List Sl) (t tk : DA) : DE := fun Ed sl st Q => t Ed sl st fun ss st => tk Ed sl st fun zs st => ss.length = n ∧ zs.length = m ∧ f (g ss zs) fun d => Q (.d d) st
theorem wCallE_ap {g : List Sl → List Sl → List Sl} {Ed : DX} {sl : Sls} {st : Sto} {Q : DK} : wCallE n m f g t tk Ed sl st Q = (t Ed sl st fun ss st => tk Ed sl st fun zs st => ss.length = n ∧ zs.length = m ∧ f (g ss zs) fun d => Q (.d d) st) := rfl
end
end Pz
set_option maxRecDepth 100000
namespace Pz
open PySem PySem.Spec PyProof.Rows L2 TL
variable [PenC]
section
variable {X : Cx} {E : WXs} {Z0 : Zs} {a b c e : Expr} {es rest : List Expr} {ta tb tc te : DE} {t : DA} {pos p p2 : Pos} {x : Str} {K : Frag} {lo hi : Option Expr} {tlo thi : DO}
def wOrX (ta tb : DE) : DE := fun Ed sl st Q => ta Ed sl st fun s st => match truD st s with
  | some b => if b = true then Q s st else tb Ed sl st Q
  | none => False
def wAndX (ta tb : DE) : DE := fun Ed sl st Q => ta Ed sl st fun s st => match truD st s with
  | some b => if b = true then tb Ed sl st Q else Q s st
  | none => False
def oSlO (s : Sl) (lo hi : Option Int) (st : Sto) (Q : DK) : Prop := match vw st s with
    | some (.list ds) => Q (.o st.length) (st ++ [.lst (cutD ds lo hi)])
    | _ => False
def wSlO (te : DE) (tl th : DO) : DE := fun Ed sl st Q => te Ed sl st fun s st => tl Ed sl st fun lo st => th Ed sl st fun hi st => oSlO s lo hi st Q
theorem wSlO_ap {tl th : DO} {Ed : DX} {sl : Sls} {st : Sto} {Q : DK} : wSlO te tl th Ed sl st Q = (te Ed sl st fun s st => tl Ed sl st fun lo st => th Ed sl st fun hi st => oSlO s lo hi st Q) := rfl
theorem cut_mem {α : Type} {xs : List α} {lo hi : Option Int} {d : α} (h : d ∈ cutD xs lo hi) : d ∈ xs := List.mem_of_mem_drop (List.mem_of_mem_take h)
theorem Ints.cut {P : Int → Prop} {ds : List PyData} {lo hi : Option Int} (h : Ints P ds) : Ints P (cutD ds lo hi) := fun d m => h d (cut_mem m)
end
end Pz
set_option maxRecDepth 100000
namespace Pz
open PySem PySem.Spec PyProof.Rows L2 TL
variable [PenC]
def IteS (x : Str) : It :=
  ⟨fun i _ => i < x.cps.size,
   fun i H v H' => ∃ T c, v = .ref T ∧ H T = none ∧ H' = upd H T (.tup [.int (i : Nat), .str ⟨#[c]⟩]) ∧ x.cps[i]? = some c,
   fun i _ => x.cps.size ≤ i⟩
theorem turn_enumS {P : Program} {w : World} {K : Frag} {elts : List Expr} {kk : Nat} {tpos : Pos} (x : Str) (t : Tok) (e it : Addr) :
    Turn P w K (.Tuple elts kk tpos) (IteS x) [e, it] e (fun i h => (∃ old, IsEnum h e it ((i : Nat) : Int) old) ∧ h.IsStrIter it (strIterType x) x t i ∧ e ≠ it ∧ i ≤ x.cps.size) where
  mem := by simp
  obj := fun i h st b hb => by
    obtain ⟨⟨old, he⟩, ⟨o, ho, _, hd⟩, _⟩ := st
    simp only [List.mem_cons, List.not_mem_nil, or_false] at hb
    rcases hb with rfl | rfl
    · exact ⟨_, he, fun v q => nomatch q⟩
    · exact ⟨o, ho, fun v q => by rw [hd] at q; cases q⟩
  keep := fun i h h' st k => by
    obtain ⟨⟨old, he⟩, ⟨o, ho, r⟩, hne⟩ := st
    exact ⟨⟨old, k e (by simp) _ he⟩, ⟨o, k it (by simp) o ho, r⟩, hne⟩
  item := by
    intro X hP hw hK hc i pins s σ H E I hf st hg
    subst hP hw hK
    obtain ⟨⟨old, he⟩, hit, hne, hi⟩ := st
    have hel := Heap.lt_size he
    have hil : it < s.heap.objs.size := by obtain ⟨_, q, _⟩ := hit; exact Heap.lt_size q
    have D := Draws.text (prog := X.prog) (w := X.w) (A := X.A.in1) (I.ok.hd hc) it x t
    refine wpAny_pyNext_enum_itemD D he hit hg hne (by simp [hne]) fun y h' tk hy ho hit' hT hsz hk => ?_
    obtain ⟨c, u, hcx, rfl⟩ := hy
    refine ⟨_, rfl, wpAny_letOwnedTupleGo_enum (s := { s with heap := h', toks := tk + 1 }) ho fun h2 he' sb => ?_⟩
    have hT2 : h2.get? s.heap.objs.size = some { cls := .type "tuple", data := .seq #[.int i tk, .str ⟨#[c]⟩ u] } := (sb.2 _ (Nat.ne_of_gt hel)).trans hT
    have ok2 : ObjOk X.prog X.w (upd H s.heap.objs.size (.tup [.int (i : Nat), .str ⟨#[c]⟩])) h2 s.heap.objs.size (.tup [.int (i : Nat), .str ⟨#[c]⟩]) := ⟨by show 2 ≤ sizeLine; decide, [.int i tk, .str ⟨#[c]⟩ u], .cons ⟨_, rfl⟩ (.cons ⟨_, rfl⟩ .nil), ⟨_, hT2, rfl, _, rfl⟩⟩
    have kp : ∀ b ob, b ∉ [e, it] → s.heap.get? b = some ob → h2.get? b = some ob := fun b ob hb q => by
      simp only [List.mem_cons, List.not_mem_nil, or_false, not_or] at hb
      exact (sb.2 b hb.1).trans (hk b ob hb.1 hb.2 q)
    have I1 : Inv X pins σ (upd H s.heap.objs.size (.tup [.int (i : Nat), .str ⟨#[c]⟩])) { s with heap := h2, toks := tk + 1 } := I.turnedNew (ch := [e, it]) kp hf (Nat.le_refl _) ok2
    have e1 : ((i + 1 : Nat) : Int) = (i : Int) + 1 := by omega
    have hit2 : h2.IsStrIter it (strIterType x) x t (i + 1) := by
      obtain ⟨o, q, r⟩ := hit'
      exact ⟨o, (sb.2 it (Ne.symm hne)).trans q, r⟩
    refine ⟨.ref s.heap.objs.size, _, I1, rfl, ⟨_, c, rfl, I.hok.fresh (Nat.le_refl _), rfl, hcx⟩, ⟨⟨_, by rw [e1]; exact he'⟩, hit2, hne, hg⟩, fun b hb => ?_⟩
    have hb' : b < s.heap.objs.size := by
      simp only [List.mem_cons, List.not_mem_nil, or_false] at hb
      rcases hb with rfl | rfl
      · exact hel
      · exact hil
    rw [upd_ne (Nat.ne_of_lt hb')]
    exact (hf b hb).1
  done := by
    intro X hP hw hK hc i pins s σ H E I hf st hg
    subst hP hw hK
    obtain ⟨⟨old, he⟩, hit, hne, hi⟩ := st
    obtain ⟨f0, f1, f2, f3, f4, f5⟩ := hf it (by simp)
    obtain rfl : i = x.cps.size := Nat.le_antisymm hi hg
    have D := Draws.text (prog := X.prog) (w := X.w) (A := X.A.in1) (I.ok.hd hc) it x t
    exact wpAny_pyNext_enum_endD D he hit fun h' eb => ⟨rfl, I.turned (t' := s.toks) (fun b o hb q => eb b o hb q) f0 f1 f3 f4 f5⟩
  self := fun A i s Q E st h => by obtain ⟨⟨_, he⟩, _⟩ := st; exact wpAny_pyIter_enum he h
def iEnumB (K : Frag) (ta : TA) : TI := fun σ H R => ta σ H fun vs H1 => (∃ a xs, vs = [.ref a] ∧ ((SqL K H1 a xs ∧ R (Ite K a) H1) ∨ (SqT K H1 a xs ∧ R (IteT K a) H1))) ∨ ∃ x, vs = [.str x] ∧ R (IteS x) H1
theorem pi_enumB {X : Cx} {e : Expr} {ta : TA} {p pos tpos : Pos} {elts : List Expr} {kk : Nat} (hg : Gl X "enumerate") (hm : X.mg "enumerate" = none) (ha : PA X [e] ta) (hs : starEach [e] X.env = [(false, eval e X.env)]) : PI X (.Tuple elts kk tpos) (.Call (.Name "enumerate" p) [e] [] pos) (iEnumB X.K ta) := by
  refine ⟨fun pins s σ H R I h => ?_⟩
  refine Call_ (ld_blt I hg hm boot_enumerate (PyProof.Rows.callWith_type1 (thn (ha.run pos pins s σ H _ I h) fun us s1 q1 => ?_) hs rfl))
  obtain ⟨vs, H1, I1, r1, q1⟩ := q1
  have fp : ∀ b ∈ [s1.heap.objs.size + 1, s1.heap.objs.size], FpOk X pins H1 b := fun b hb => by
    have hle : s1.heap.objs.size ≤ b := by
      simp only [List.mem_cons, List.not_mem_nil, or_false] at hb
      rcases hb with rfl | rfl
      · exact Nat.le_add_right _ _
      · exact Nat.le_refl _
    exact I1.fpOk hle (I1.hok.fresh hle)
  rcases q1 with ⟨a, xs, rfl, ⟨hq, q⟩ | ⟨hq, q⟩⟩ | ⟨x, rfl, q⟩
  · obtain ⟨u, rfl, ru⟩ := vals1 r1
    obtain rfl := ru
    obtain ⟨its, rv, p', hz⟩ := I1.list hq
    refine enum1_begins (begins_list a its.toArray) p'.isList fun h' he hit hk => wpAny_pyIter_enum he ?_
    have I2 : Inv X pins σ H1 { s1 with heap := h' } := I1.kept (t' := s1.toks) hk
    exact ⟨s1.heap.objs.size + 1, _, _, _, H1, rfl, I2, turn_enum a (s1.heap.objs.size + 1) s1.heap.objs.size, ⟨⟨.none, he⟩, ⟨_, hit, rfl, rfl⟩, Nat.succ_ne_self _⟩, fp, q⟩
  · obtain ⟨u, rfl, ru⟩ := vals1 r1
    obtain rfl := ru
    obtain ⟨its, rv, p', hz⟩ := I1.tuple hq
    have la : a < s1.heap.objs.size := by obtain ⟨o, e, _⟩ := id p'; exact Heap.lt_size e
    refine enum1_begins (begins_tuple a its.toArray) p' fun h' he hit hk => wpAny_pyIter_enum he ?_
    have I2 : Inv X pins σ H1 { s1 with heap := h' } := I1.kept (t' := s1.toks) hk
    exact ⟨s1.heap.objs.size + 1, _, _, _, H1, rfl, I2, turn_enumT a (s1.heap.objs.size + 1) s1.heap.objs.size, ⟨⟨.none, he⟩, ⟨_, hit, rfl, rfl⟩, Nat.succ_ne_self _, Nat.ne_of_gt (Nat.lt_succ_of_lt la), Nat.ne_of_lt la⟩, fp, q⟩
  · obtain ⟨u, rfl, t, rfl⟩ := vals1 r1
    refine enum1_begins (begins_text x t) trivial fun h' he hit hk => wpAny_pyIter_enum he ?_
    have I2 : Inv X pins σ H1 { s1 with heap := h' } := I1.kept (t' := s1.toks) hk
    exact ⟨s1.heap.objs.size + 1, _, _, _, H1, rfl, I2, turn_enumS x t (s1.heap.objs.size + 1) s1.heap.objs.size, ⟨⟨.none, he⟩, ⟨_, hit, rfl, rfl⟩, Nat.succ_ne_self _, Nat.zero_le _⟩, fp, q⟩
theorem itd_enumS {K : Frag} {Z1 : Zs} (z : Str) : ItD K (IteS z) Z1 (enumD 0 (Pz.signs z)) where
  go := fun Z k ok i hi => by
    rw [enum_len] at hi
    have : (Pz.signs z).length = z.cps.size := by simp [Pz.signs, tl]
    show i < z.cps.size
    omega
  stop := fun Z k ok => by
    rw [enum_len]
    show z.cps.size ≤ _
    simp [Pz.signs, tl]
  yld := fun Z k ok i v H' d e y => by
    obtain ⟨T, c, rfl, nT, rfl, hc⟩ := y
    obtain ⟨y, e', rfl⟩ := enum_get e
    have e2 : y = .str ⟨#[c]⟩ := by
      unfold Pz.signs at e'
      rw [List.getElem?_map] at e'
      have : (tl z)[i]? = some c := by simpa [tl] using hc
      rw [this] at e'
      exact (Option.some.inj e').symm
    subst e2
    have rr : Z.ImAll K [.int ((i : Nat) : Int), .str ⟨#[c]⟩] [.int ((0 + i : Nat) : Int), .str ⟨#[c]⟩] := by
      rw [Nat.zero_add]
      exact .cons (.int _) (.cons (.str _) .nil)
    exact ⟨Z.new T (.tup [.int (i : Nat), .str ⟨#[c]⟩]), ok.leNew nT, ok.new nT, rfl, rfl, ok.rpT nT rr⟩
def wEnumY (te : DA) : DI := fun Ed sl st Q => te Ed sl st fun ss st => match ss with
  | [.d (.tuple ds)] => Q (enumD 0 ds) st
  | [.d (.list ds)] => Q (enumD 0 ds) st
  | [.d (.str z)] => Q (enumD 0 (Pz.signs z)) st
  | _ => False
section
variable {X : Cx} {E : WXs} {Z0 : Zs} {e : Expr} {t : DA} {elts : List Expr} {kk : Nat} {pos p tpos : Pos} {K : Frag}
theorem di_enumY (hg : Gl X "enumerate") (hm : X.mg "enumerate" = none) (ha : DAs X E [e] t) (hs : starEach [e] X.env = [(false, eval e X.env)] := by rfl) : DIt X E (.Tuple elts kk tpos) (.Call (.Name "enumerate" p) [e] [] pos) (wEnumY t) :=
  ⟨piI (pi_enumB hg hm ha.run hs) fun σ H R ⟨Z, sl, Rd, Ed, h, ok, so, w, k, kx⟩ => ⟨Z, sl, _, Ed, h, ok, so, w, fun Z1 vs ss l1 ok1 r1 w1 => by
    simp only at w1
    split at w1
    · obtain ⟨v, rfl, rv⟩ := rp1 r1
      cases rv with
      | tup hh rr => exact .inl ⟨_, _, rfl, .inr ⟨hh.sq, k Z1 _ _ l1 ok1 (itd_enumT hh rr) w1⟩⟩
    · obtain ⟨v, rfl, rv⟩ := rp1 r1
      cases rv with
      | lst hh nn rr => exact .inl ⟨_, _, rfl, .inl ⟨.of hh, k Z1 _ _ l1 ok1 (itd_enum hh nn rr) w1⟩⟩
    · obtain ⟨v, rfl, rv⟩ := rp1 r1
      cases rv with
      | str z => exact .inr ⟨_, rfl, k Z1 _ _ l1 ok1 (itd_enumS _) w1⟩
    · exact w1.elim, kx⟩⟩
theorem wEnumY_ap {te : DA} {Ed : DX} {sl : Sls} {st : Sto} {Q : List PyData → Sto → Prop} : wEnumY te Ed sl st Q = (te Ed sl st fun ss st => match ss with
  | [.d (.tuple ds)] => Q (enumD 0 ds) st
  | [.d (.list ds)] => Q (enumD 0 ds) st
  | [.d (.str z)] => Q (enumD 0 (Pz.signs z)) st
  | _ => False) := rfl
def fDivmod : FA := fun ss st Q => match ss with
  | [s, t] => match vw st s, vw st t with
    | some (.int i), some (.int j) => CDivP i j ∧ Q (.d (.tuple [.int (i / j), .int (i % j)])) st
    | _, _ => False
  | _ => False
def fStr : FA := fun ss st Q => match ss with
  | [s] => match vw st s with
    | some (.int i) => i.natAbs < 10 ^ 100 ∧ Q (.d (.str (PyData.shown (.int i)))) st
    | _ => False
  | _ => False
def rStr : List V → Hp → VK → Prop := fun xs H Q => ∃ i, xs = [.int i] ∧ i.natAbs.log2 < 1920 ∧ Q (.str (toString i)) H
end
end Pz
set_option maxRecDepth 100000
namespace Pz
open PySem PySem.Spec PyProof.Rows L2 TL
variable [PenC]
section
variable {X : Cx} {E : WXs} {o e f : Expr} {td ty tx : DE} {apos cpos : Pos} {K : Frag}
def wDGet2 (td ty tx : DE) : DE := fun Ed sl st Q => td Ed sl st fun s st => (dkAt st s).isSome = true ∧ ty Ed sl st fun t st => tx Ed sl st fun u st => match dkAt st s, keyS st t with
  | some kvs, some k => match valD kvs k with
    | some d => Q (.d d) st
    | none => Q u st
  | _, _ => False
theorem wDGet2_ap {Ed : DX} {sl : Sls} {st : Sto} {Q : DK} : wDGet2 td ty tx Ed sl st Q = (td Ed sl st fun s st => (dkAt st s).isSome = true ∧ ty Ed sl st fun t st => tx Ed sl st fun u st => match dkAt st s, keyS st t with
  | some kvs, some k => match valD kvs k with
    | some d => Q (.d d) st
    | none => Q u st
  | _, _ => False) := rfl
end
end Pz
set_option maxRecDepth 100000
namespace Pz
open PySem PySem.Spec PyProof.Rows L2 TL
variable [PenC]
def rMaxDf (K : Frag) : List V → List V → Hp → VK → Prop := fun vs zs H Q => ∃ (a : Addr) (ns : List Int) (d : V), vs = [V.ref a] ∧ zs = [d] ∧ (SqL K H a (ns.map V.int) ∨ SqT K H a (ns.map V.int)) ∧ if ns = [] then Q d H else Q (.int (lmax ns)) H
section
variable {X : Cx} {E : WXs} {e f : Expr} {te tx : DE} {x : Str} {p pos kp : Pos} {K : Frag}
def wMaxDf (te tx : DE) : DE := fun Ed sl st Q => te Ed sl st fun s st => tx Ed sl st fun u st => ∃ ns, vwJ st s = some ns ∧ if ns = [] then Q u st else Q (.d (.int (lmax ns))) st
theorem wMaxDf_ap {Ed : DX} {sl : Sls} {st : Sto} {Q : DK} : wMaxDf te tx Ed sl st Q = (te Ed sl st fun s st => tx Ed sl st fun u st => ∃ ns, vwJ st s = some ns ∧ if ns = [] then Q u st else Q (.d (.int (lmax ns))) st) := rfl
end
end Pz
set_option maxRecDepth 100000
namespace Pz
open PySem PySem.Spec PyProof.Rows L2 TL
variable [PenC]
section
variable {X : Cx} {E : WXs} {Z0 : Zs} {e : Expr} {es : List Expr} {t : DA} {pos p : Pos} {x : Str} {f : FD} {n k m : Nat} {N : List Str} {τ : DS}
def spFO (f : FD) : DSp := fun ss cs Q Ed => cs = [] ∧ f ss fun d => match d with
  | .list ds => Q (.o 0) [.lst ds]
  | _ => False
def aFO (f : FD) (ss : List Sl) (st : Sto) (Q : DK) : Prop := f ss fun d => match d with
  | .list ds => Q (.o st.length) (st ++ [.lst ds])
  | _ => False
def wCallFO (f : FD) (t : DA) : DE := fun Ed sl st Q => t Ed sl st fun ss st => aFO f ss st Q
theorem wCallFO_ap {f : FD} {t : DA} {Ed : DX} {sl : Sls} {st : Sto} {Q : DK} : wCallFO f t Ed sl st Q = (t Ed sl st fun ss st => aFO f ss st Q) := rfl
variable {fa : Addr} {fd : FuncData} {ps : List Str}
end
mutual
theorem okR_lay : ∀ {d : PyData}, okR d = true → d.canLay0 = true
  | .none, _ => by rw [PyData.canLay0]
  | .bool _, _ => by rw [PyData.canLay0]
  | .int _, _ => by rw [PyData.canLay0]
  | .str _, h => by rw [PyData.canLay0]; simpa [okR] using h
  | .list _, h => by rw [PyData.canLay0]; exact okR_layAll (by simpa [okR] using h)
  | .tuple _, h => by rw [PyData.canLay0]; exact okR_layAll (by simpa [okR] using h)
  | .dict _, h => by simp [okR] at h
theorem okR_layAll : ∀ {ds : List PyData}, okRAll ds = true → PyData.canLayAll0 ds = true
  | [], _ => by rw [PyData.canLayAll0]
  | d :: ds, h => by
    simp only [okRAll, Bool.and_eq_true] at h
    rw [PyData.canLayAll0, okR_lay h.1, okR_layAll h.2]
    rfl
end
mutual
def plainD : PyData → Bool
  | .none => true
  | .bool _ => false
  | .int _ => true
  | .str _ => true
  | .list xs => plainAll xs
  | .tuple xs => plainAll xs
  | .dict _ => false
def plainAll : List PyData → Bool
  | [] => true
  | d :: ds => plainD d && plainAll ds
end
mutual
theorem eqv_iff : ∀ {d e : PyData}, plainD d = true → plainD e = true → (PyData.eqv d e = true ↔ d = e)
  | .none, e, _, h => by cases e <;> simp_all [PyData.eqv, plainD]
  | .bool _, e, h, _ => by simp [plainD] at h
  | .int _, e, _, h => by cases e <;> simp_all [PyData.eqv, plainD]
  | .str _, e, _, h => by cases e <;> simp_all [PyData.eqv, plainD]
  | .list xs, e, h1, h2 => by
    cases e with
    | list ys => rw [PyData.eqv, PyData.list.injEq]; exact eqv_iffAll (by simpa [plainD] using h1) (by simpa [plainD] using h2)
    | _ => simp [PyData.eqv]
  | .tuple xs, e, h1, h2 => by
    cases e with
    | tuple ys => rw [PyData.eqv, PyData.tuple.injEq]; exact eqv_iffAll (by simpa [plainD] using h1) (by simpa [plainD] using h2)
    | _ => simp [PyData.eqv]
  | .dict _, e, h, _ => by simp [plainD] at h
theorem eqv_iffAll : ∀ {ds es : List PyData}, plainAll ds = true → plainAll es = true → (PyData.eqvAll ds es = true ↔ ds = es)
  | [], [], _, _ => by simp [PyData.eqvAll]
  | [], e :: es, _, _ => by simp [PyData.eqvAll]
  | d :: ds, [], _, _ => by simp [PyData.eqvAll]
  | d :: ds, e :: es, h1, h2 => by
    simp only [plainAll, Bool.and_eq_true] at h1 h2
    rw [PyData.eqvAll, Bool.and_eq_true, eqv_iff h1.1 h2.1, eqv_iffAll h1.2 h2.2, List.cons.injEq]
end
end Pz
set_option maxRecDepth 100000
namespace HT
open PySem PySem.Spec PyProof.Rows L2
section
variable {prog : Program} {w : World} {A : Around} {E : Value → Shared → Prop} {s : Shared}
end
end HT
namespace L2
open PySem PySem.Spec PyProof.Rows
section
variable {X : Cx}
def tRevY (K : PySem.W.Frag) (te : TE) : TE := fun σ H Q => te σ H fun x H1 => (∃ a xs, x = .ref a ∧ SqL K H1 a xs ∧ ∀ p, H1 p = none → Q (.ref p) (upd H1 p (.lst xs.reverse))) ∨ (∃ a xs, x = .ref a ∧ SqT K H1 a xs ∧ ∀ p, H1 p = none → Q (.ref p) (upd H1 p (.tup xs.reverse)))
def rSortedSA (K : PySem.W.Frag) : List V → Hp → VK → Prop := fun vs H Q => ∃ (a : Addr) (xs : List Str), vs = [V.ref a] ∧ SqL K H a (xs.map V.str) ∧
  ∀ (ys : List Str) (p : Addr), ys.Perm xs → sortedS ys = true → H p = none → Q (.ref p) (upd H p (.lst (ys.map V.str)))
end
end L2
namespace Pz
open PySem PySem.Spec PyProof.Rows L2 TL
variable [PenC]
section
variable {X : Cx} {E : WXs} {Z0 : Zs} {e : Expr} {te : DE} {pos p : Pos} {x : Str} {K : Frag}
def wRevY (te : DE) : DE := fun Ed sl st Q => te Ed sl st fun s st => match vw st s with
  | some (.list ds) => Q (.d (.list ds.reverse)) st
  | some (.tuple ds) => Q (.d (.tuple ds.reverse)) st
  | _ => False
theorem wRevY_ap {te : DE} {Ed : DX} {sl : Sls} {st : Sto} {Q : DK} : wRevY te Ed sl st Q = (te Ed sl st fun s st => match vw st s with
  | some (.list ds) => Q (.d (.list ds.reverse)) st
  | some (.tuple ds) => Q (.d (.tuple ds.reverse)) st
  | _ => False) := rfl
def fSortedS : FA := fun ss st Q => match ss with
  | [s] => match vw st s with
    | some (.list ds) => ∃ zs, asStrs ds = some zs ∧ ∀ ys : List Str, ys.Perm zs → sortedS ys = true → Q (.d (.list (ys.map .str))) st
    | _ => False
  | _ => False
end
end Pz
set_option maxRecDepth 100000
namespace Pz
open PySem PySem.Spec PyProof.Rows L2 TL
variable [PenC]
section
variable {K : Frag}
def mStr2 (g : Str → Str → Str) : FM := fun s ss st Q => match ss with
  | [t] => match vw st s, vw st t with
    | some (.str a), some (.str b) => a.length ≤ 16777216 ∧ Q (.d (.str (g a b))) st
    | _, _ => False
  | _ => False
def mStrip : FM := fun s ss st Q => mStr2 Txt.stripChars s ss st Q
def mLstrip : FM := fun s ss st Q => mStr2 Txt.lstripChars s ss st Q
def mRstrip : FM := fun s ss st Q => mStr2 Txt.rstripChars s ss st Q
def mPart : FM := fun s ss st Q => match ss with
  | [t] => match vw st s, vw st t with
    | some (.str a), some (.str b) => b.length ≠ 0 ∧ a.length ≤ 16777216 ∧ Q (.d (.tuple [.str (Txt.partition a b).1, .str (Txt.partition a b).2.1, .str (Txt.partition a b).2.2])) st
    | _, _ => False
  | _ => False
end
def subS (z y : Str) : Bool := !(Builtin.Str.occurrences y z 0 y.length 1).isEmpty
def oInT (x y : Sl) (st : Sto) (Q : DK) : Prop := match vw st x, vw st y with
  | some (.str z), some (.str y) => Q (.d (.bool (subS z y))) st
  | _, _ => False
end Pz
set_option maxRecDepth 100000
namespace Pz
open PySem PySem.Spec PyProof.Rows L2 TL
variable [PenC]
def itOk (d : PyData) : Prop := okR d = true ∨ d = .dict []
section
variable {X : Cx} {pins : List (Addr × Obj)} {σ : L2.St} {H : Hp} {s : Shared} {W : Addr → Prop}
end
def rShowX (K : Frag) : List V → Hp → VK → Prop := fun xs H Q => rShow K xs H Q ∨ ∃ (a : Addr) (ds : List PyData) (W : Addr → Prop), xs = [.ref a] ∧ Im K W H (.ref a) (.tuple ds) ∧ (∀ d ∈ ds, itOk d) ∧ (PyData.tuple ds).depth ≤ 60 ∧ (PyData.tuple ds).shown.length ≤ sizeLine ∧ Q (.str (PyData.tuple ds).shown) H
structure RepX (ds : List PyData) : Prop where
  ok : ∀ d ∈ ds, itOk d
  st : PyData.strOk (PyData.tuple ds).shown = true
  ln : (PyData.tuple ds).shown.length ≤ sizeLine
  dp : (PyData.tuple ds).depth ≤ 60
theorem RepX.sh {ds : List PyData} (h : RepX ds) : SeqAt.shaped (.str (PyData.tuple ds).shown) = true := sh_str h.st
def fRepX : FA := fun ss st Q => match ss with
  | [.d (.tuple ds)] => RepX ds ∧ Q (.d (.str (PyData.tuple ds).shown)) st
  | _ => False
end Pz
set_option maxRecDepth 100000
namespace Pz
open PySem PySem.Spec PyProof.Rows L2 TL
variable [PenC]
section
variable {X : Cx} {E : WXs} {Z0 : Zs} {K : Frag} {e : Expr} {te : DE} {pos : Pos}
def kdD (kvs : KD) : List (PyData × PyData) := kvs.map fun p => (keyD p.1, p.2)
def frzX (h : Nat) (x : PyData) : Option Sl → Option Sl
  | some (.o j) => if j = h then some (.d x) else some (.o j)
  | s => s
def wFrzX (n0 i : Nat) (u : DS) : DS := fun D sl st => match nthS sl i with
  | some (.o h) => match st[h]? with
    | some (.dK kvs) => n0 ≤ h ∧ (∀ c ∈ st, NoRef h c) ∧ u D (sl.map (frzX h (.dict (kdD kvs)))) (st.set h .dead)
    | _ => False
  | _ => u D sl st
theorem wFrzX_ap {n0 i : Nat} {u : DS} {nx bk ct : Sls → Sto → Prop} {rt : DK} {ex : DX} {sl : Sls} {st : Sto} : wFrzX n0 i u ⟨nx, rt, ex, bk, ct⟩ sl st = (match nthS sl i with
  | some (.o h) => match st[h]? with
    | some (.dK kvs) => n0 ≤ h ∧ (∀ c ∈ st, NoRef h c) ∧ u ⟨nx, rt, ex, bk, ct⟩ (sl.map (frzX h (.dict (kdD kvs)))) (st.set h .dead)
    | _ => False
  | _ => u ⟨nx, rt, ex, bk, ct⟩ sl st) := rfl
def unKE : List (PyData × PyData) → Option KD
  | [] => some []
  | (k, d) :: r => match keyOf k, unKE r with
    | some k, some r => some ((k, d) :: r)
    | _, _ => none
def unKD : List (PyData × PyData) → Option KD
  | (.none, .bool false) :: r => unKE r
  | l => unKE l
theorem keyOf_keyD (k : Key) : keyOf (keyD k) = some k := by cases k <;> rfl
theorem unKE_kdD : ∀ kvs : KD, unKE (kdD kvs) = some kvs
  | [] => rfl
  | (k, d) :: r => by
    show unKE ((keyD k, d) :: kdD r) = _
    rw [unKE, keyOf_keyD, unKE_kdD r]
theorem unKD_kdD : ∀ kvs : KD, unKD (kdD kvs) = some kvs
  | [] => rfl
  | (.inl i, d) :: r => by
    show unKE ((PyData.int i, d) :: kdD r) = _
    exact unKE_kdD ((.inl i, d) :: r)
  | (.inr i, d) :: r => by
    show unKE ((PyData.str i, d) :: kdD r) = _
    exact unKE_kdD ((.inr i, d) :: r)
theorem unKD_loc (kvs : KD) : unKD (mkK :: kdD kvs) = some kvs := unKE_kdD kvs
def oDGetX (s t : Sl) (st : Sto) (Q : DK) : Prop := match s, keyS st t with
  | .d (.dict l), some k => match unKD l with
    | some kvs => ∃ d, valD kvs k = some d ∧ Q (.d d) st
    | none => False
  | _, _ => False
def wSwp (te to ti to2 ti2 : DE) : DS := fun D sl st => te D.ex sl st fun v st => match v with
  | .d (.tuple [y, z]) => to D.ex sl st fun o st => ti D.ex sl st fun i st => match o, i with
    | .o h, .d (.int j) => match st[h]? with
      | some (.lst ds) => match ixN ds.length j with
        | some n => to2 D.ex sl (st.set h (.lst (ds.set n y))) fun o2 st => ti2 D.ex sl st fun i2 st => match o2, i2 with
          | .o h2, .d (.int j2) => match st[h2]? with
            | some (.lst ds2) => match ixN ds2.length j2 with
              | some n2 => D.nx sl (st.set h2 (.lst (ds2.set n2 z)))
              | none => False
            | _ => False
          | _, _ => False
        | none => False
      | _ => False
    | _, _ => False
  | _ => False
theorem wSwp_ap {te to ti to2 ti2 : DE} {nx bk ct : Sls → Sto → Prop} {rt : DK} {ex : DX} {sl : Sls} {st : Sto} : wSwp te to ti to2 ti2 ⟨nx, rt, ex, bk, ct⟩ sl st = (te ex sl st fun v st => match v with
  | .d (.tuple [y, z]) => to ex sl st fun o st => ti ex sl st fun i st => match o, i with
    | .o h, .d (.int j) => match st[h]? with
      | some (.lst ds) => match ixN ds.length j with
        | some n => to2 ex sl (st.set h (.lst (ds.set n y))) fun o2 st => ti2 ex sl st fun i2 st => match o2, i2 with
          | .o h2, .d (.int j2) => match st[h2]? with
            | some (.lst ds2) => match ixN ds2.length j2 with
              | some n2 => nx sl (st.set h2 (.lst (ds2.set n2 z)))
              | none => False
            | _ => False
          | _, _ => False
        | none => False
      | _ => False
    | _, _ => False
  | _ => False) := rfl
end
end Pz
set_option maxRecDepth 100000
set_option maxHeartbeats 2000000
namespace PySem
namespace Xc
open PySem.W PySem.Calls PyProof.Rows PySem.HandSPX
def refsT (bmB : List Value) : List Value → Bool
  | .ref _ :: r => refsT bmB r
  | l => l == bmB
theorem refsT_cases {bmB : List Value} (l : List Value) (e : refsT bmB l = true) : (∃ c r, l = .ref c :: r ∧ refsT bmB r = true) ∨ l = bmB := by
  unfold refsT at e
  split at e
  · rename_i c r
    exact .inl ⟨c, r, rfl, e⟩
  · exact .inr (beq_iff_eq.mp e)
theorem refsT_pass {B sa ow : String} {bmB : List Value} (F : StoreFacts B bmB sa ow) (self : Value) : ∀ l : List Value, refsT bmB l = true → refuseLoop self "__setattr__" l = pure () := by
  intro l
  induction l with
  | nil =>
    intro e
    rcases refsT_cases _ e with ⟨c, r, q, _⟩ | q
    · cases q
    · rw [q]; exact F.passes self
  | cons a r ih =>
    intro e
    rcases refsT_cases (a :: r) e with ⟨c, r', q, h⟩ | q
    · obtain ⟨rfl, rfl⟩ := List.cons.inj q
      rw [refuseLoop_ref]; exact ih h
    · rw [q]; exact F.passes self
theorem refsT_contains {bmB : List Value} (X : String) : ∀ l : List Value, refsT bmB l = true → l.contains (.type X) = bmB.contains (.type X) := by
  intro l
  induction l with
  | nil =>
    intro e
    rcases refsT_cases _ e with ⟨c, r, q, _⟩ | q
    · cases q
    · rw [q]
  | cons a r ih =>
    intro e
    rcases refsT_cases (a :: r) e with ⟨c, r', q, h⟩ | q
    · obtain ⟨rfl, rfl⟩ := List.cons.inj q
      rw [List.contains_cons, ih h]; rfl
    · rw [q]
def iA (f : Str) (p1 p2 : Pos) : Arguments := { posonlyargs := [], args := [{ arg := "self", annotation := none, pos := p1 }, { arg := f, annotation := none, pos := p2 }], vararg := none, kwonlyargs := [], kw_defaults := [], kwarg := none, defaults := [] }
def iB (f : Str) (q1 q2 q3 q4 : Pos) : List Stmt := [.Assign [.Attribute (.Name "self" q1) f q2] (.Name f q3) q4]
def iS (f : Str) : Scope := { kind := .function, names := [(PySem.Str.ofString "self", .local), (f, .local)], isGenerator := false, isCoroutine := false, more := [] }
structure Txt (B newId initId : String) (bmB : List Value) (f qn : Str) (K : Frag) (C fI : Addr) : Prop where
  cls : ∃ nm q N bs bm sn sub ab col dd k0 k1 k2 k3 k5, K.lookup C = some (excClassObj nm q C N bs bm true sn sub ab col dd k0 k1 k2 k3 k5 newId) ∧ refsT bmB bm = true
  sa : findIn K (.ref C) "__setattr__" = some (some (.builtin "object.__setattr__"))
  noN : findIn K (.ref C) f = some none
  iC : findIn K (.ref C) "__init__" = some (some (.ref fI))
  tC : typeIn K (.ref fI) = some (.type "function")
  kC : keepIn K (.ref C) = true
  exC : subIn K (.ref C) (.type "BaseException") = some true
  tyC : typeIn K (.ref C) = some (.type "type")
  fn : ∃ (oc : Value) (od : Option Addr) (doc pm : Value) (an : Option Addr) (cdv ct : Value) (osl : Array (Option Value)) (p1 p2 q1 q2 q3 q4 : Pos),
    K.lookup fI = some ⟨oc, od, .func (fnOf "__init__" qn (iA f p1 p2) (iB f q1 q2 q3 q4) (iS f) .none .none doc pm an cdv ct), osl⟩ ∧ codeIn K cdv qn = true
section
variable {prog : Program} {w : World} {A : Around} {E : Value → Shared → Prop} {R : Result → Shared → Prop} {hp : Heap} {g : Array GenState} {d : Drawn} {t : Nat} {os : OsState} {B newId initId ow : String} {bmB : List Value}
theorem osa {K : W.Frag} {name : Str} {tk : Tok} {v : Value} {x C : Addr} {fv : Array Value} {cd : ClassData} (SF : StoreFacts B bmB "object.__setattr__" ow) (hobj : bmB.contains (.type "object") = true)
    (X : K.In hp) (hx : hp.get? x = some { cls := .ref C, data := .fields fv }) (hcd : W.clsIn K C = some cd) (hm : refsT bmB cd.mro = true) (hne : cd.mro.isEmpty = false) (hh : cd.hasDict = true) (ha : W.findIn K (.ref C) name = some none)
    (hq : ∀ h' tk' dx, (∀ b o, b ≠ x → hp.get? b = some o → h'.get? b = some o) → hp.objs.size ≤ dx → dx ≠ x → h'.get? x = some { cls := .ref C, dict := some dx, data := .fields fv } →
      h'.Ns1 dx (fun y => if y = name then some v else none) → R (.ok (.ret .none)) ⟨h', g, d, tk', os⟩) :
    codeAny (model prog w) A (.call (.builtin "object.__setattr__") ⟨[.ref x, .str name tk, v], []⟩) R ⟨hp, g, d, t, os⟩ := by
  have I : W.InstAt hp x { cls := .ref C, data := .fields fv } C none := ⟨hx, rfl, rfl, trivial⟩
  have S0 := F.store_object
  have hob : cd.mro.contains (.type "object") = true := (refsT_contains "object" _ hm).trans hobj
  have hxs : x ≠ hp.objs.size := Nat.ne_of_lt (Heap.lt_size hx)
  have sub : W.Looks (model prog w) hp (isInstance (.ref x) (.type "object")) true := I.type.andThen (W.looks_mroIn X (by unfold W.mroIn; rw [hcd, Option.bind_some, if_neg (by rw [hne]; decide), hob]))
  refine codeAny_call_builtin S0.slot.plain S0.entry (@W.check_slot (model prog w) _ _ ⟨hp, g, d, t, os⟩ "object.__setattr__" "object" "__setattr__" (.ref x) [.str name tk, v] [] _ S0.kind S0.split sub (S0.args (.ref x) (.str name tk) v) ?_)
  have hmr : W.Looks (model prog w) hp (mroOf (.ref C)) cd.mro := (W.looks_clsIn X hcd).andThen .now
  have L3 : W.Looks (model prog w) hp (Builtin.ObjectAttr.storeTaker? none) none := .now
  have hcls : W.Looks (model prog w) hp (classData C) cd := W.looks_clsIn X hcd
  rw [W.osa_eq, refuse_eq]
  refine wpAny_bind (wpAny_bind (I.type.at (wpAny_bind (hmr.at ?_))))
  rw [refsT_pass SF _ _ hm]
  refine wpAny_pure (wpAny_bind (I.type.at (wpAny_bind ((W.looks_findIn X ha).at (wpAny_bind (L3.at ?_))))))
  show wpAny _ _ (Builtin.ObjectAttr.storeInOwnDict (.ref x) (.ref C) (.str name tk) name v false) _ _ _
  obtain ⟨nm, bs, mro, ns, qn, hd, sn, sb, ab, col, del⟩ := cd
  dsimp only at hh
  subst hh
  unfold Builtin.ObjectAttr.storeInOwnDict Builtin.ObjectAttr.ownDictForStores
  repeat (first | with_reducible refine store_in_new ?_ ?_ | with_reducible refine wpAny_loadPart_at hx ?_ | with_reducible refine hcls.at ?_ | wp_step)
  · exact ⟨_, #[], _, (Heap.get?_update_ne _ _ _ _ hxs.symm).trans (Heap.get?_push_at rfl rfl), rfl, fun e he => absurd he (by simp), fun _ => rfl⟩
  · intro h' tk' hn' hs
    have hx₁ : (hp.push { cls := .type "dict", data := .dict #[] }).get? x = some { cls := .ref C, data := .fields fv } := Heap.get?_push_of_some _ hx
    refine hq h' tk' hp.objs.size (fun b o hb ho => ?_) (Nat.le_refl _) hxs.symm ?_ hn'
    · exact (hs.2 b (Nat.ne_of_lt (Heap.lt_size ho))).trans ((Heap.get?_update_ne _ _ _ _ hb).trans (Heap.get?_push_of_some _ ho))
    · exact (hs.2 x hxs).trans (Heap.get?_update_self _ hx₁ rfl)
end
theorem one_size (v : Value) : [v].length ≤ sizeLine := by
  rw [sizeLine_eq]
  exact (by decide : 1 ≤ 16777216)
theorem ldC {M : Model} {s : Shared} {name : Str} {scope : Scope} {L a : Addr} {cd : Value} {m : Str → Option Value} {x : Str} {pos : Pos} {v : Value} {Q : Value → Shared → Prop} {A : Around} {E : Value → Shared → Prop} (hn : s.heap.Ns L m) (hv : m x = some v) (h : Q v s)
    (hk : scope.kind = .function := by rfl) (hl : (envOfC name scope L a cd).kindOf x = some .local := by rfl) (hd : (x == ("__debug__" : Str)) = false := by decide) :
    wpAny M A (eval (.Name x pos) (envOfC name scope L a cd)) Q E s := wpAny_Name (wpAny_loadName_local hk hl hn hv h) hd
structure InitEnd (h h' : Heap) (x C dx t1 : Addr) (f : Str) (v : Value) : Prop where
  keep : ∀ b o, b ≠ x → h.get? b = some o → h'.get? b = some o
  obj : h'.get? x = some { cls := .ref C, dict := some dx, data := .fields #[.ref t1, .none, .none, .none, .bool false, .none] }
  dbig : h.objs.size ≤ dx
  dne : dx ≠ x
  ns : h'.Ns1 dx (fun y => if y = f then some v else none)
structure OwnMade (h h' : Heap) (e C d : Addr) (f : Str) (v : Value) : Prop where
  keep : ∀ b o, h.get? b = some o → h'.get? b = some o
  new : h.objs.size ≤ e
  obj : ∃ oe vs, h'.get? e = some oe ∧ oe.cls = .ref C ∧ oe.dict = some d ∧ oe.data = .fields vs ∧ vs[1]? = some .none
  dbig : h.objs.size ≤ d
  dne : d ≠ e
  ns : h'.Ns1 d (fun y => if y = f then some v else none)
def InitRun (B newId initId : String) (bmB : List Value) (f qn : Str) (K : Frag) (C fI : Addr) : Prop := ∀ (prog : Program) (w : World) (A : Around) (R : Result → Shared → Prop) (s : Shared) (x t0 : Addr) (v : Value), Txt B newId initId bmB f qn K C fI → K.In s.heap → s.heap.NoLimit → s.heap.get? x = some (excO C t0) → A.depth < recursionLimit →
    (∀ h' tk dx, InitEnd s.heap h' x C dx t0 f v → R (.ok (.ret .none)) { s with heap := h', toks := tk }) → codeAny (model prog w) A (.call (.ref fI) ⟨[.ref x, v], []⟩) R s
section
variable {K : Frag} {C fI : Addr} {B newId initId ow : String} {bmB : List Value} {qn : Str}
theorem init_length (SF : StoreFacts B bmB "object.__setattr__" ow) (hobj : bmB.contains (.type "object") = true) : InitRun B newId initId bmB "length" qn K C fI := by
  intro prog w A R s x t0 v T X hlim hx hroom hq
  obtain ⟨oc, od, doc, pm, an, cdv, ct, osl, p1, p2, q1, q2, q3, q4, ho, hcd⟩ := T.fn
  obtain ⟨nm, q, N, bs, bm, sn, sub, ab, col, dd, k0, k1, k2, k3, k5, hC, hbm⟩ := T.cls
  have hcl : clsIn K C = some { name := nm, bases := bs, mro := .ref C :: bm, ns := N, qualname := q, hasDict := true, slotNames := sn, subclasses := sub, abstract := ab, collection := col, hasDel := false } := by unfold clsIn; rw [hC] <;> rfl
  refine Att.call_fn (binds := [("self", .ref x), ("length", v)]) X hlim ho hcd hroom (BindsTo.of_eq (by first | rfl | with_unfolding_all rfl)) (by first | rfl | decide | with_unfolding_all rfl) (fun s₁ IC => ?_) rfl rfl rfl
  obtain ⟨h₁, tk₁, rfl⟩ := IC.toInCall.same
  have k : ∀ b o, s.heap.get? b = some o → h₁.get? b = some o := IC.toInCall.keep
  have hn := IC.toInCall.ns
  have hxL : s.heap.objs.size ≠ x := Nat.ne_of_gt (Heap.lt_size hx)
  have X₁ : K.In h₁ := X.keeps k
  have hx₁ := k _ _ hx
  show wpAny _ _ (execs _ _) _ _ _
  refine wpAny_execs_cons (plainObj_wpAny_Assign_Attribute ?_)
  refine ldC (v := v) hn (by first | rfl | with_unfolding_all rfl | kernel_rfl) (ldC (v := .ref x) hn (by first | rfl | with_unfolding_all rfl | kernel_rfl) ?_)
  refine set_plain X₁ (ox := excO C t0) (od := none) ⟨hx₁, rfl, rfl, trivial⟩ T.sa ?_
  refine osa SF hobj X₁ hx₁ hcl (show refsT bmB (.ref C :: bm) = true from hbm) rfl rfl T.noN (fun h₃ tk₃ dx k₃ dn dne hx₃ hn₃ => ?_)
  show wpAny _ _ (execs _ _) _ _ _
  have z : s.heap.objs.size < h₁.objs.size := hn.lt
  exact wpAny_execs_nil (hq h₃ tk₃ dx ⟨fun b o hb e => k₃ b o hb (k b o e), hx₃, Nat.le_of_lt (Nat.lt_of_lt_of_le z dn), dne, hn₃⟩)
theorem init_count (SF : StoreFacts B bmB "object.__setattr__" ow) (hobj : bmB.contains (.type "object") = true) : InitRun B newId initId bmB "count" qn K C fI := by
  intro prog w A R s x t0 v T X hlim hx hroom hq
  obtain ⟨oc, od, doc, pm, an, cdv, ct, osl, p1, p2, q1, q2, q3, q4, ho, hcd⟩ := T.fn
  obtain ⟨nm, q, N, bs, bm, sn, sub, ab, col, dd, k0, k1, k2, k3, k5, hC, hbm⟩ := T.cls
  have hcl : clsIn K C = some { name := nm, bases := bs, mro := .ref C :: bm, ns := N, qualname := q, hasDict := true, slotNames := sn, subclasses := sub, abstract := ab, collection := col, hasDel := false } := by unfold clsIn; rw [hC] <;> rfl
  refine Att.call_fn (binds := [("self", .ref x), ("count", v)]) X hlim ho hcd hroom (BindsTo.of_eq (by first | rfl | with_unfolding_all rfl)) (by first | rfl | decide | with_unfolding_all rfl) (fun s₁ IC => ?_) rfl rfl rfl
  obtain ⟨h₁, tk₁, rfl⟩ := IC.toInCall.same
  have k : ∀ b o, s.heap.get? b = some o → h₁.get? b = some o := IC.toInCall.keep
  have hn := IC.toInCall.ns
  have hxL : s.heap.objs.size ≠ x := Nat.ne_of_gt (Heap.lt_size hx)
  have X₁ : K.In h₁ := X.keeps k
  have hx₁ := k _ _ hx
  show wpAny _ _ (execs _ _) _ _ _
  refine wpAny_execs_cons (plainObj_wpAny_Assign_Attribute ?_)
  refine ldC (v := v) hn (by first | rfl | with_unfolding_all rfl | kernel_rfl) (ldC (v := .ref x) hn (by first | rfl | with_unfolding_all rfl | kernel_rfl) ?_)
  refine set_plain X₁ (ox := excO C t0) (od := none) ⟨hx₁, rfl, rfl, trivial⟩ T.sa ?_
  refine osa SF hobj X₁ hx₁ hcl (show refsT bmB (.ref C :: bm) = true from hbm) rfl rfl T.noN (fun h₃ tk₃ dx k₃ dn dne hx₃ hn₃ => ?_)
  show wpAny _ _ (execs _ _) _ _ _
  have z : s.heap.objs.size < h₁.objs.size := hn.lt
  exact wpAny_execs_nil (hq h₃ tk₃ dx ⟨fun b o hb e => k₃ b o hb (k b o e), hx₃, Nat.le_of_lt (Nat.lt_of_lt_of_le z dn), dne, hn₃⟩)
theorem init_index (SF : StoreFacts B bmB "object.__setattr__" ow) (hobj : bmB.contains (.type "object") = true) : InitRun B newId initId bmB "index" qn K C fI := by
  intro prog w A R s x t0 v T X hlim hx hroom hq
  obtain ⟨oc, od, doc, pm, an, cdv, ct, osl, p1, p2, q1, q2, q3, q4, ho, hcd⟩ := T.fn
  obtain ⟨nm, q, N, bs, bm, sn, sub, ab, col, dd, k0, k1, k2, k3, k5, hC, hbm⟩ := T.cls
  have hcl : clsIn K C = some { name := nm, bases := bs, mro := .ref C :: bm, ns := N, qualname := q, hasDict := true, slotNames := sn, subclasses := sub, abstract := ab, collection := col, hasDel := false } := by unfold clsIn; rw [hC] <;> rfl
  refine Att.call_fn (binds := [("self", .ref x), ("index", v)]) X hlim ho hcd hroom (BindsTo.of_eq (by first | rfl | with_unfolding_all rfl)) (by first | rfl | decide | with_unfolding_all rfl) (fun s₁ IC => ?_) rfl rfl rfl
  obtain ⟨h₁, tk₁, rfl⟩ := IC.toInCall.same
  have k : ∀ b o, s.heap.get? b = some o → h₁.get? b = some o := IC.toInCall.keep
  have hn := IC.toInCall.ns
  have hxL : s.heap.objs.size ≠ x := Nat.ne_of_gt (Heap.lt_size hx)
  have X₁ : K.In h₁ := X.keeps k
  have hx₁ := k _ _ hx
  show wpAny _ _ (execs _ _) _ _ _
  refine wpAny_execs_cons (plainObj_wpAny_Assign_Attribute ?_)
  refine ldC (v := v) hn (by first | rfl | with_unfolding_all rfl | kernel_rfl) (ldC (v := .ref x) hn (by first | rfl | with_unfolding_all rfl | kernel_rfl) ?_)
  refine set_plain X₁ (ox := excO C t0) (od := none) ⟨hx₁, rfl, rfl, trivial⟩ T.sa ?_
  refine osa SF hobj X₁ hx₁ hcl (show refsT bmB (.ref C :: bm) = true from hbm) rfl rfl T.noN (fun h₃ tk₃ dx k₃ dn dne hx₃ hn₃ => ?_)
  show wpAny _ _ (execs _ _) _ _ _
  have z : s.heap.objs.size < h₁.objs.size := hn.lt
  exact wpAny_execs_nil (hq h₃ tk₃ dx ⟨fun b o hb e => k₃ b o hb (k b o e), hx₃, Nat.le_of_lt (Nat.lt_of_lt_of_le z dn), dne, hn₃⟩)
theorem init_number (SF : StoreFacts B bmB "object.__setattr__" ow) (hobj : bmB.contains (.type "object") = true) : InitRun B newId initId bmB "number" qn K C fI := by
  intro prog w A R s x t0 v T X hlim hx hroom hq
  obtain ⟨oc, od, doc, pm, an, cdv, ct, osl, p1, p2, q1, q2, q3, q4, ho, hcd⟩ := T.fn
  obtain ⟨nm, q, N, bs, bm, sn, sub, ab, col, dd, k0, k1, k2, k3, k5, hC, hbm⟩ := T.cls
  have hcl : clsIn K C = some { name := nm, bases := bs, mro := .ref C :: bm, ns := N, qualname := q, hasDict := true, slotNames := sn, subclasses := sub, abstract := ab, collection := col, hasDel := false } := by unfold clsIn; rw [hC] <;> rfl
  refine Att.call_fn (binds := [("self", .ref x), ("number", v)]) X hlim ho hcd hroom (BindsTo.of_eq (by first | rfl | with_unfolding_all rfl)) (by first | rfl | decide | with_unfolding_all rfl) (fun s₁ IC => ?_) rfl rfl rfl
  obtain ⟨h₁, tk₁, rfl⟩ := IC.toInCall.same
  have k : ∀ b o, s.heap.get? b = some o → h₁.get? b = some o := IC.toInCall.keep
  have hn := IC.toInCall.ns
  have hxL : s.heap.objs.size ≠ x := Nat.ne_of_gt (Heap.lt_size hx)
  have X₁ : K.In h₁ := X.keeps k
  have hx₁ := k _ _ hx
  show wpAny _ _ (execs _ _) _ _ _
  refine wpAny_execs_cons (plainObj_wpAny_Assign_Attribute ?_)
  refine ldC (v := v) hn (by first | rfl | with_unfolding_all rfl | kernel_rfl) (ldC (v := .ref x) hn (by first | rfl | with_unfolding_all rfl | kernel_rfl) ?_)
  refine set_plain X₁ (ox := excO C t0) (od := none) ⟨hx₁, rfl, rfl, trivial⟩ T.sa ?_
  refine osa SF hobj X₁ hx₁ hcl (show refsT bmB (.ref C :: bm) = true from hbm) rfl rfl T.noN (fun h₃ tk₃ dx k₃ dn dne hx₃ hn₃ => ?_)
  show wpAny _ _ (execs _ _) _ _ _
  have z : s.heap.objs.size < h₁.objs.size := hn.lt
  exact wpAny_execs_nil (hq h₃ tk₃ dx ⟨fun b o hb e => k₃ b o hb (k b o e), hx₃, Nat.le_of_lt (Nat.lt_of_lt_of_le z dn), dne, hn₃⟩)
theorem init_at (SF : StoreFacts B bmB "object.__setattr__" ow) (hobj : bmB.contains (.type "object") = true) : InitRun B newId initId bmB "at" qn K C fI := by
  intro prog w A R s x t0 v T X hlim hx hroom hq
  obtain ⟨oc, od, doc, pm, an, cdv, ct, osl, p1, p2, q1, q2, q3, q4, ho, hcd⟩ := T.fn
  obtain ⟨nm, q, N, bs, bm, sn, sub, ab, col, dd, k0, k1, k2, k3, k5, hC, hbm⟩ := T.cls
  have hcl : clsIn K C = some { name := nm, bases := bs, mro := .ref C :: bm, ns := N, qualname := q, hasDict := true, slotNames := sn, subclasses := sub, abstract := ab, collection := col, hasDel := false } := by unfold clsIn; rw [hC] <;> rfl
  refine Att.call_fn (binds := [("self", .ref x), ("at", v)]) X hlim ho hcd hroom (BindsTo.of_eq (by first | rfl | with_unfolding_all rfl)) (by first | rfl | decide | with_unfolding_all rfl) (fun s₁ IC => ?_) rfl rfl rfl
  obtain ⟨h₁, tk₁, rfl⟩ := IC.toInCall.same
  have k : ∀ b o, s.heap.get? b = some o → h₁.get? b = some o := IC.toInCall.keep
  have hn := IC.toInCall.ns
  have hxL : s.heap.objs.size ≠ x := Nat.ne_of_gt (Heap.lt_size hx)
  have X₁ : K.In h₁ := X.keeps k
  have hx₁ := k _ _ hx
  show wpAny _ _ (execs _ _) _ _ _
  refine wpAny_execs_cons (plainObj_wpAny_Assign_Attribute ?_)
  refine ldC (v := v) hn (by first | rfl | with_unfolding_all rfl | kernel_rfl) (ldC (v := .ref x) hn (by first | rfl | with_unfolding_all rfl | kernel_rfl) ?_)
  refine set_plain X₁ (ox := excO C t0) (od := none) ⟨hx₁, rfl, rfl, trivial⟩ T.sa ?_
  refine osa SF hobj X₁ hx₁ hcl (show refsT bmB (.ref C :: bm) = true from hbm) rfl rfl T.noN (fun h₃ tk₃ dx k₃ dn dne hx₃ hn₃ => ?_)
  show wpAny _ _ (execs _ _) _ _ _
  have z : s.heap.objs.size < h₁.objs.size := hn.lt
  exact wpAny_execs_nil (hq h₃ tk₃ dx ⟨fun b o hb e => k₃ b o hb (k b o e), hx₃, Nat.le_of_lt (Nat.lt_of_lt_of_le z dn), dne, hn₃⟩)
theorem init_reason (SF : StoreFacts B bmB "object.__setattr__" ow) (hobj : bmB.contains (.type "object") = true) : InitRun B newId initId bmB "reason" qn K C fI := by
  intro prog w A R s x t0 v T X hlim hx hroom hq
  obtain ⟨oc, od, doc, pm, an, cdv, ct, osl, p1, p2, q1, q2, q3, q4, ho, hcd⟩ := T.fn
  obtain ⟨nm, q, N, bs, bm, sn, sub, ab, col, dd, k0, k1, k2, k3, k5, hC, hbm⟩ := T.cls
  have hcl : clsIn K C = some { name := nm, bases := bs, mro := .ref C :: bm, ns := N, qualname := q, hasDict := true, slotNames := sn, subclasses := sub, abstract := ab, collection := col, hasDel := false } := by unfold clsIn; rw [hC] <;> rfl
  refine Att.call_fn (binds := [("self", .ref x), ("reason", v)]) X hlim ho hcd hroom (BindsTo.of_eq (by first | rfl | with_unfolding_all rfl)) (by first | rfl | decide | with_unfolding_all rfl) (fun s₁ IC => ?_) rfl rfl rfl
  obtain ⟨h₁, tk₁, rfl⟩ := IC.toInCall.same
  have k : ∀ b o, s.heap.get? b = some o → h₁.get? b = some o := IC.toInCall.keep
  have hn := IC.toInCall.ns
  have hxL : s.heap.objs.size ≠ x := Nat.ne_of_gt (Heap.lt_size hx)
  have X₁ : K.In h₁ := X.keeps k
  have hx₁ := k _ _ hx
  show wpAny _ _ (execs _ _) _ _ _
  refine wpAny_execs_cons (plainObj_wpAny_Assign_Attribute ?_)
  refine ldC (v := v) hn (by first | rfl | with_unfolding_all rfl | kernel_rfl) (ldC (v := .ref x) hn (by first | rfl | with_unfolding_all rfl | kernel_rfl) ?_)
  refine set_plain X₁ (ox := excO C t0) (od := none) ⟨hx₁, rfl, rfl, trivial⟩ T.sa ?_
  refine osa SF hobj X₁ hx₁ hcl (show refsT bmB (.ref C :: bm) = true from hbm) rfl rfl T.noN (fun h₃ tk₃ dx k₃ dn dne hx₃ hn₃ => ?_)
  show wpAny _ _ (execs _ _) _ _ _
  have z : s.heap.objs.size < h₁.objs.size := hn.lt
  exact wpAny_execs_nil (hq h₃ tk₃ dx ⟨fun b o hb e => k₃ b o hb (k b o e), hx₃, Nat.le_of_lt (Nat.lt_of_lt_of_le z dn), dne, hn₃⟩)
theorem init_paper (SF : StoreFacts B bmB "object.__setattr__" ow) (hobj : bmB.contains (.type "object") = true) : InitRun B newId initId bmB "paper" qn K C fI := by
  intro prog w A R s x t0 v T X hlim hx hroom hq
  obtain ⟨oc, od, doc, pm, an, cdv, ct, osl, p1, p2, q1, q2, q3, q4, ho, hcd⟩ := T.fn
  obtain ⟨nm, q, N, bs, bm, sn, sub, ab, col, dd, k0, k1, k2, k3, k5, hC, hbm⟩ := T.cls
  have hcl : clsIn K C = some { name := nm, bases := bs, mro := .ref C :: bm, ns := N, qualname := q, hasDict := true, slotNames := sn, subclasses := sub, abstract := ab, collection := col, hasDel := false } := by unfold clsIn; rw [hC] <;> rfl
  refine Att.call_fn (binds := [("self", .ref x), ("paper", v)]) X hlim ho hcd hroom (BindsTo.of_eq (by first | rfl | with_unfolding_all rfl)) (by first | rfl | decide | with_unfolding_all rfl) (fun s₁ IC => ?_) rfl rfl rfl
  obtain ⟨h₁, tk₁, rfl⟩ := IC.toInCall.same
  have k : ∀ b o, s.heap.get? b = some o → h₁.get? b = some o := IC.toInCall.keep
  have hn := IC.toInCall.ns
  have hxL : s.heap.objs.size ≠ x := Nat.ne_of_gt (Heap.lt_size hx)
  have X₁ : K.In h₁ := X.keeps k
  have hx₁ := k _ _ hx
  show wpAny _ _ (execs _ _) _ _ _
  refine wpAny_execs_cons (plainObj_wpAny_Assign_Attribute ?_)
  refine ldC (v := v) hn (by first | rfl | with_unfolding_all rfl | kernel_rfl) (ldC (v := .ref x) hn (by first | rfl | with_unfolding_all rfl | kernel_rfl) ?_)
  refine set_plain X₁ (ox := excO C t0) (od := none) ⟨hx₁, rfl, rfl, trivial⟩ T.sa ?_
  refine osa SF hobj X₁ hx₁ hcl (show refsT bmB (.ref C :: bm) = true from hbm) rfl rfl T.noN (fun h₃ tk₃ dx k₃ dn dne hx₃ hn₃ => ?_)
  show wpAny _ _ (execs _ _) _ _ _
  have z : s.heap.objs.size < h₁.objs.size := hn.lt
  exact wpAny_execs_nil (hq h₃ tk₃ dx ⟨fun b o hb e => k₃ b o hb (k b o e), hx₃, Nat.le_of_lt (Nat.lt_of_lt_of_le z dn), dne, hn₃⟩)
end
section
variable {prog : Program} {w : World} {A : Around} {E : Value → Shared → Prop} {R : Result → Shared → Prop} {s : Shared} {K : Frag} {C fI : Addr} {B newId initId : String} {bmB : List Value} {f qn : Str}
theorem made (F : ExcBaseFacts B newId initId bmB) (IR : InitRun B newId initId bmB f qn K C fI) (T : Txt B newId initId bmB f qn K C fI) {v : Value} (X : K.In s.heap) (hlim : s.heap.NoLimit) (hroom : A.depth + 1 < recursionLimit)
    (hq : ∀ h' tk e d, OwnMade s.heap h' e C d f v → R (.ok (.ret (.ref e))) { s with heap := h', toks := tk }) :
    codeAny (model prog w) A (.call (.ref C) ⟨[v], []⟩) R s := by
  obtain ⟨nm, q, N, bs, bm, sn, sub, ab, col, dd, k0, k1, k2, k3, k5, hC, hbm⟩ := T.cls
  obtain ⟨hp, g, dr, tk, os⟩ := s
  have k : ∀ b o, hp.get? b = some o → ((hp.push (kdv_tup [v])).push (excO C hp.objs.size)).get? b = some o := fun b o e => Heap.get?_push_of_some _ (Heap.get?_push_of_some _ e)
  have hget : ((hp.push (kdv_tup [v])).push (excO C hp.objs.size)).get? (hp.objs.size + 1) = some (excO C hp.objs.size) := by heap_get
  refine call_own F (fun X => refsT_contains X bm hbm) (X _ _ hC) (looks_findIn X T.iC) (fun self => bind_fn X self T.tC) (one_size v) ?_
  refine IR _ _ _ _ ⟨(hp.push (kdv_tup [v])).push (excO C hp.objs.size), g, dr, tk, os⟩ _ _ _ T (X.keeps k) (hlim.keeps k) hget ?_ fun h' tk' dx ⟨k', hx, dn, dne, hns⟩ => ?_
  · show A.depth + 1 < recursionLimit
    exact hroom
  · have old : ∀ b o, hp.get? b = some o → h'.get? b = some o := fun b o e => k' b o (Nat.ne_of_lt (Nat.lt_succ_of_lt (Heap.lt_size e))) (k b o e)
    have z : hp.objs.size + 1 + 1 ≤ dx := by
      first
        | (simpa only [Heap.size_push] using dn)
        | exact dn
        | (have q := dn; rw [Heap.size_push, Heap.size_push] at q; exact q)
    exact ⟨rfl, hq h' tk' (hp.objs.size + 1) dx ⟨old, Nat.le_succ _, ⟨_, _, hx, rfl, rfl, rfl, rfl⟩, Nat.le_trans (Nat.le_trans (Nat.le_succ _) (Nat.le_succ _)) z, dne, hns⟩⟩
end
end Xc
end PySem
namespace L2
open PySem PySem.Spec PyProof.Rows
theorem relO_one {f : Str} {v : V} {v' : Value} (r : RelV v v') (g : Str) : RelO (List.lookup g [(f, v)]) (if g = f then some v' else none) := by
  by_cases hw : g = f
  · subst hw
    rw [if_pos rfl]
    have q : List.lookup g [(g, v)] = some v := by simp [List.lookup]
    rw [q]
    exact r
  · rw [if_neg hw]
    have qw : (g == f) = false := by simpa using hw
    have q2 : List.lookup g [(f, v)] = none := by simp [List.lookup, qw]
    rw [q2]
    trivial
section
variable {X : Cx} {C fI : Addr} {B newId initId : String} {bmB : List Value} {f qn x : Str}
def tMk1 (f : Str) (C : Addr) (ta : TA) : St → Hp → XK → Prop := fun σ H Q => ta σ H fun vs H1 => ∃ v, vs = [v] ∧ ∀ d, H1 d = none → Q (.ref C) (some d) (upd H1 d (.xd [(f, v)]))
theorem pmk1 {a : Expr} {ta : TA} {p pos : Pos} {k : Nat} (F : ExcBaseFacts B newId initId bmB) (IR : PySem.Xc.InitRun B newId initId bmB f qn X.K C fI) (T : PySem.Xc.Txt B newId initId bmB f qn X.K C fI) (gC : X.mg x = some (.ref C)) (hr : Room k X.A) (ha : PA X [a] ta) (hg : Gl X x)
    (hdb : (x == ("__debug__" : Str)) = false := by decide) (he : starEach (a :: []) X.env = (false, eval a X.env) :: starEach [] X.env := by rfl) (hpl : (backTo pos (starEach [] X.env)).any (·.1) = false := by rfl) :
    PMk X (.Call (.Name x p) [a] [] pos) (tMk1 f C ta) := by
  intro pins s σ H Q I h
  refine wpAny_Call_Name_kw (ld_glob I hg gC ?_ hdb)
  refine PySem.W.callWith_K (h₀ := X.base) I.ok.mod.kin T.kC (thn (ha.run pos pins s σ H _ I h) fun us s1 hh => ?_) he hpl
  obtain ⟨vs, H1, I1, r1, v, ev, q1⟩ := hh
  subst ev
  refine ⟨I1.kIn, ?_⟩
  cases r1 with
  | cons rv rn =>
    rename_i v' us'
    cases rn
    show wpAny _ _ (call (.ref C) [v']) _ _ _
    have hlim := I1.nolimit
    obtain ⟨hp, g, dr, tk, os⟩ := s1
    refine wpAny_call (PySem.Xc.made F IR T I1.kIn hlim (by have := hr.dp; omega) fun h' tk' e d M => ?_)
    show MkP X pins σ Q (.ref e) ⟨h', g, dr, tk', os⟩
    obtain ⟨oe, fv, hoe, hc, hd, hdat, h1⟩ := M.obj
    have hns := M.ns
    obtain ⟨G', g1, g2⟩ := restrict h' fun b => decide (b ≠ e)
    have gk : ∀ b, b ≠ e → G'.get? b = h'.get? b := fun b hb => g1 b (decide_eq_true hb)
    have ge : G'.get? e = none := g2 e (by simp)
    have old : ∀ b o, hp.get? b = some o → G'.get? b = some o := fun b o q => (gk b (Nat.ne_of_lt (Nat.lt_of_lt_of_le (Heap.lt_size q) M.new))).trans (M.keep b o q)
    have ob : ObjOk X.prog X.w (upd H1 d (.xd [(f, v)])) G' d (.xd [(f, v)]) :=
      ⟨_, hns.at (fun o q => (gk d M.dne).trans q), fun g => relO_one rv g⟩
    have J : Inv X pins σ (upd H1 d (.xd [(f, v)])) ⟨G', g, dr, tk', os⟩ := I1.laid (t' := tk') old M.dbig ob
    refine ⟨e, oe, fv, ⟨G', g, dr, tk', os⟩, _, .ref C, some d, rfl, J, fun b o q => ?_, ge, hoe, ⟨hc, hd⟩, hdat, h1, ?_, rfl, I1.bare, raises_own T.exC T.tyC, q1 d (I1.hok.fresh M.dbig)⟩
    · by_cases hb : b = e
      · have q' : G'.get? b = some o := q
        rw [hb, ge] at q'; cases q'
      · exact (gk b hb).symm.trans q
    · rw [upd_ne (Ne.symm M.dne)]
      exact I1.hok.fresh M.new
theorem pmk0 {p pos : Pos} (F : ExcBaseFacts B newId initId bmB) (q : PySem.W.excIn X.K C bmB newId = true) (gC : X.mg x = some (.ref C)) (kC : PySem.W.keepIn X.K (.ref C) = true) (r : Raises X (.ref C)) (hg : Gl X x)
    (hdb : (x == ("__debug__" : Str)) = false := by decide) : PMk X (.Call (.Name x p) [] [] pos) (fun _ H Q => Q (.ref C) none H) := by
  intro pins s σ H Q I h
  refine wpAny_Call_Name_kw (ld_glob I hg gC ?_ hdb)
  refine PySem.W.callWith_K0 I.kIn kC ?_
  show wpAny _ _ (call (.ref C) []) _ _ _
  obtain ⟨bm, N, nm, qn, bs, hdct, sn, sub, ab, col, dd, k0, k1, k2, k3, k5, mN, hC, hN, hni, T⟩ := exc_obj I.kIn q
  refine wpAny_call_exc_subT F T hC hN hni (fun h' e hm => ?_) (by show 0 ≤ sizeLine; rw [sizeLine_eq]; omega)
  exact mk_of I hm r h (I.hok.gone hm.new)
end
end L2
set_option maxRecDepth 100000
namespace PySem.W
open PySem PySem.Spec PySem.Calls PyProof.Rows
variable {M : Model} {K : Frag}
end PySem.W
namespace L2
open PySem PySem.Spec PyProof.Rows
abbrev ExO (c : Value) (d : Option Addr) (a : Addr) : HO := Pz.ExH c d a
section
variable {X : Cx} {pins : List (Addr × Obj)} {σ : St} {H : Hp} {s : Shared}
theorem Inv.adopt {a : Addr} {oe : Obj} {cls : Value} {d : Option Addr} (I : Inv X pins σ H s) (he : s.heap.get? a = some oe) (hz : Zc cls d oe) (hd : ∃ vs, oe.data = .fields vs) (na : H a = none) (n0 : X.s_0.heap.get? a = none) (nL : a ≠ X.env.locals) (np : ∀ p ∈ X.pn ++ pins, p.1 ≠ a) :
    Inv X pins σ (upd H a (ExO cls d a)) s := by
  have up : ∀ b u, H b = some u → upd H a (ExO cls d a) b = some u := fun b u e => by
    rw [upd_ne (fun z => by rw [z, na] at e; cases e)]; exact e
  refine ⟨I.ok, I.os, I.bare, ⟨I.base.keep, I.base.slot, fun b o e n hx => ?_, I.base.there, fun b xs e => up _ _ (I.base.tups b xs e), fun b o xs e => up _ _ (I.base.frzs b o xs e), fun b ps e => ?_⟩, I.loc, I.cell, ?_, fun x c e => ?_, fun p hp => ?_, fun b u e => ?_, I.len⟩
  · rw [upd_ne (fun z => by rw [z, n0] at e; cases e)]
    exact I.base.free b o e n hx
  · obtain ⟨m, z⟩ := I.base.tbls b ps e
    exact ⟨m, up _ _ z⟩
  · rw [upd_ne (Ne.symm nL)]
    exact I.free
  · rw [upd_ne (fun z => ?_)]
    · exact I.freeC x c e
    · subst z
      obtain ⟨v, o, ho, hdd⟩ := I.cell x c e
      obtain ⟨vs, hd⟩ := hd
      rw [he] at ho; cases ho
      rw [hd] at hdd; cases hdd
  · obtain ⟨e, n, ne, nf, dd⟩ := I.pin p hp
    exact ⟨e, by rw [upd_ne (np p hp)]; exact n, ne, nf, dd⟩
  · by_cases hb : b = a
    · subst hb
      rw [upd_same] at e
      cases e
      obtain ⟨vs, hd⟩ := hd
      exact ⟨⟨oe, vs, he, hz, hd⟩, ⟨oe, he⟩, fun h1 h2 ⟨o1, vs1, e1, z1, d1⟩ k => ⟨o1, vs1, k _ e1, z1, d1⟩⟩
    · rw [upd_ne hb] at e
      exact (I.hok b u e).stay (fun c w _ q => q) (fun c q => up _ _ q) fun c xs q => up _ _ q
inductive NmL (X : Cx) : List Expr → List Value → Prop
  | nil : NmL X [] []
  | cons {x : Str} {c : Value} {p : Pos} {es : List Expr} {cs : List Value} (hc : Names X x c) (r : NmL X es cs) (hs : starEach (.Name x p :: es) X.env = (false, eval (.Name x p) X.env) :: starEach es X.env := by rfl) : NmL X (.Name x p :: es) (c :: cs)
def ClTest (X : Cx) (te : Expr) (cs : List Value) : Prop := ∀ {a : Addr} {oe : Obj} {pn pins : List (Addr × Obj)} {σ : St} {H : Hp} {s : Shared}, Inv (X.suite a ((a, oe) :: pn)) pins σ H s → ∀ {Q : Value → Shared → Prop} {E : Value → Shared → Prop},
    (∀ (cv : Value) (s' : Shared), (∀ b o, s.heap.get? b = some o → s'.heap.get? b = some o) → s'.os = s.os → AllBare s'.gens → (∀ (M : Model) (cls : Value), PySem.W.Looks M s'.heap (typeOf (.ref a)) cls → ∀ b, PySem.W.exmAny X.K cls cs = some b → PySem.W.Looks M s'.heap (excMatches (.ref a) cv) b) → Q cv s') →
    wpAny (model X.prog X.w) (X.A.mark (some (.ref a))) (eval te X.env) Q E s
end
def wKeep (K : PySem.W.Frag) (cs : List Value) (i j : Nat) (Wout : WX) (D : Ends) : WX := fun cls d σ H =>
  ∃ b, PySem.W.exmAny K cls cs = some b ∧ (b = true → ∀ a, H a = none → D.nx (((σ.set i (some (.ref a))).set j (some (.ref a))).set i none) (upd H a (ExO cls d a))) ∧ (b = false → Wout cls d σ H)
section
variable {X : Cx} {n : Str} {te : Expr} {cs : List Value} {i j : Nat} {body : List Stmt} {b₀ : Stmt} {pos pos' : Pos} {tb : WX → TS} {Wout : WX}
end
end L2
set_option maxRecDepth 100000
namespace L2
open PySem PySem.Spec PyProof.Rows
section
variable {X : Cx} {CX : CXT} {k : Nat} {f : Addr} {fd : FuncData} {ps : List Str} {sp : Sp} {E : St → XK} {x : Str} {p pos : Pos} {e : Expr} {es : List Expr} {t : TA}
variable {kws : List Keyword} {tk : TA} {n : Nat} {ks : List Str} {g : ∀ {α : Type}, List α → List α → List α}
def tCallWS (n m : Nat) (sp : Sp) (g : ∀ {α : Type}, List α → List α → List α) (E : St → XK) (t tk : TA) : TE := fun σ H Q => t σ H fun vs H1 => tk σ H1 fun zs H2 => vs.length = n ∧ zs.length = m ∧ sp (g vs zs) H2 Q (E σ)
end
def ExAt (H : Hp) (a C : Addr) (d : Option Addr) : Prop := H a = some (ExO (.ref C) d a) ∧ ∀ dx, d = some dx → ∃ fs, H dx = some (.xd fs)
theorem ExAt.inst {X : Cx} {pins : List (Addr × Obj)} {σ : St} {H : Hp} {s : Shared} {a C : Addr} {d : Option Addr} (I : Inv X pins σ H s) (h : ExAt H a C d) : ∃ ox od, PySem.W.InstAt s.heap a ox C od ∧ (∀ dx, d = some dx → ∃ ob, od = some ob ∧ s.heap.get? dx = some ob) := by
  obtain ⟨⟨oe, vs, he, hz, hd⟩, _⟩ := (show ObjOk X.prog X.w H s.heap a (ExO (.ref C) d a) from I.hok a _ h.1)
  have hn : PySem.W.notCls oe = true := by unfold PySem.W.notCls; rw [hd] <;> rfl
  cases d with
  | none => exact ⟨oe, none, ⟨he, hz.1, hn, by rw [hz.2]; trivial⟩, fun dx e => by cases e⟩
  | some dx =>
    obtain ⟨fs, hf⟩ := h.2 dx rfl
    obtain ⟨ob, ho⟩ := objOk_get (I.hok dx _ hf)
    exact ⟨oe, some ob, ⟨he, hz.1, hn, by rw [hz.2]; exact ho⟩, fun dx' e => by cases e; exact ⟨ob, rfl, ho⟩⟩
def rIsE (K : PySem.W.Frag) : List V → Hp → VK → Prop := fun xs H Q => ∃ (a C : Addr) (d : Option Addr) (c : V) (b : Bool), xs = [.ref a, c] ∧ ExAt H a C d ∧ XcF K C ∧
  ((∃ u, L2.ClsV c u ∧ PySem.W.kitOne K (.ref C) u = some b) ∨ ∃ (tp : Addr) (cs : List V) (us : List Value), c = .ref tp ∧ H tp = some (.tup cs) ∧ Paired L2.ClsV cs us ∧ PySem.W.kitAny K (.ref C) us = some b) ∧ Q (.bl b) H
theorem call_isE {X : Cx} : CallR X (.builtin "isinstance") (rIsE X.K) := by
  intro pins s σ H xs us Q I r h
  obtain ⟨a, C, d, c, b, rfl, ha, hc, hk, q⟩ := h
  obtain ⟨u1, u2, rfl, r1, r2⟩ := vals2 r
  obtain rfl : u1 = Value.ref a := r1
  obtain ⟨ox, od, hI, _⟩ := ha.inst I
  have Z := PySem.W.kitx_exc (x := a) (ox := ox) (od := od) hc.cl hc.ga hc.gg hc.exC hc.cc hc.gt hc.tk hc.ob
  rcases hk with ⟨u, k, e⟩ | ⟨tp, cs, ws, rfl, hT, k, e⟩
  · obtain rfl := k.eq r2
    exact PySem.W.kia_one Z I.kIn hI e (fun z => by cases z) fun tk => ⟨.bl b, H, I.tok tk, rfl, q⟩
  · cases (show u2 = Value.ref tp from r2)
    obtain ⟨_, its, rv, o, h1, h2, n, h3⟩ := (show ObjOk X.prog X.w H s.heap tp (.tup cs) from I.hok tp _ hT)
    have e3 := L2.ClsV.all k rv
    subst e3
    obtain ⟨c1, d1, dt, sl⟩ := o
    dsimp only at h2 h3
    subst h2 h3
    exact PySem.W.kia_tup Z I.kIn hI h1 e (fun z => by cases z) fun tk => ⟨.bl b, H, I.tok tk, rfl, q⟩
def tXfH (K : PySem.W.Frag) (f : Str) (te : TE) : TE := fun σ H Q => te σ H fun x H1 => ∃ (a C dx : Addr) (fs : List (Str × V)) (v : V), x = .ref a ∧ ExAt H1 a C (some dx) ∧ H1 dx = some (.xd fs) ∧ XcF K C ∧ PySem.W.findIn K (.ref C) f = some none ∧ fs.lookup f = some v ∧ Q v H1
theorem pe_xfH {X : Cx} {e : Expr} {te : TE} {pos : Pos} {n : Str} (he : PE X e te) (hb : attributeBase e n X.env (eval e X.env) = eval e X.env := by rfl) : PE X (.Attribute e n pos) (tXfH X.K n te) := by
  refine ⟨fun pins s σ H Q I h => ?_⟩
  refine attr_of hb (thn (he.run pins s σ H _ I h) fun u s1 hh => ?_)
  obtain ⟨x, H1, I1, rx, a, C, dx, fs, v, ex, ha, ea, T, hno, l, q⟩ := hh
  subst ex
  obtain rfl : u = Value.ref a := rx
  obtain ⟨ox, od, hI, hod⟩ := ha.inst I1
  obtain ⟨ob, rfl, hob⟩ := hod dx rfl
  obtain ⟨mA, hns, hr⟩ := (show ObjOk X.prog X.w H1 s1.heap dx (.xd fs) from I1.hok dx _ ea)
  obtain ⟨od', ho, hl⟩ := lookIn_ns hns
  rw [hob] at ho; cases ho
  obtain ⟨u, hu, ru⟩ := RelO.some_of (v := v) (o := mA n) (by rw [← l]; exact hr n)
  exact HandSPX.exc_get I1.kIn hI T.ga T.gg T.exC (PySem.W.findObj_own T.hd hno rfl (by rw [hl, hu])) (handed_of ru) ⟨v, H1, I1.tok _, ru, q⟩
end L2
set_option maxRecDepth 100000
namespace Pz
open PySem PySem.Spec PyProof.Rows L2 TL
variable [PenC]
abbrev FDX := List Sl → (PyData → Prop) → (Str → List (Str × PyData) → Prop) → Prop
structure FOkX (f : FDX) (n : Nat) : Prop where
  dat : ∀ ss k e, f ss k e → ss.length = n ∧ allD ss = true
  mono : ∀ ss k k' e e', (∀ d, k d → k' d) → (∀ c fs, e c fs → e' c fs) → f ss k e → f ss k' e'
def spX (f : FDX) : DSp := fun ss cs Q Ed => cs = [] ∧ f ss (fun d => Q (.d d) []) fun c fs => Ed c fs []
section
variable {f : FDX} {n m : Nat} {N : List Str} {τ : DS}
abbrev endX (Qd : DK) (Ed : DXF) : DEnds := ⟨fun _ st => Ret 0 (.d .none) st Qd, fun s st => Ret 0 s st Qd, fun c fs _ _ => Ed c fs [], fun _ _ => False, fun _ _ => False⟩
end
section
variable {P : Program} {w : World} {K : Frag} {mg : Str → Option Value} {base : Heap} {k : Nat} {f : Addr} {fd : FuncData} {ps N : List Str} {dsp : DSp} {x qual : Str} {st : Stmt}
end
section
variable {X : Cx} {E : WXs} {Z0 : Zs} {k n m : Nat} {fa : Addr} {fd : FuncData} {ps ks : List Str} {f : FDX} {x : Str} {p pos : Pos} {e : Expr} {es : List Expr} {t tkw : DA} {kws : List Keyword}
def wCallX (f : FDX) (t : DA) : DE := fun Ed sl st Q => t Ed sl st fun ss st => f ss (fun d => Q (.d d) st) fun c fs => Ed c fs sl st
theorem wCallX_ap {Ed : DX} {sl : Sls} {st : Sto} {Q : DK} : wCallX f t Ed sl st Q = (t Ed sl st fun ss st => f ss (fun d => Q (.d d) st) fun c fs => Ed c fs sl st) := rfl
def wCallWX (n m : Nat) (f : FDX) (g : ∀ {α : Type}, List α → List α → List α) (t tk : DA) : DE := fun Ed sl st Q => t Ed sl st fun ss st => tk Ed sl st fun zs st => ss.length = n ∧ zs.length = m ∧ f (g ss zs) (fun d => Q (.d d) st) fun c fs => Ed c fs sl st
theorem wCallWX_ap {g : ∀ {α : Type}, List α → List α → List α} {Ed : DX} {sl : Sls} {st : Sto} {Q : DK} : wCallWX n m f g t tkw Ed sl st Q = (t Ed sl st fun ss st => tkw Ed sl st fun zs st => ss.length = n ∧ zs.length = m ∧ f (g ss zs) (fun d => Q (.d d) st) fun c fs => Ed c fs sl st) := rfl
variable {gg : ∀ {α : Type}, List α → List α → List α}
end
end Pz
set_option maxRecDepth 100000
namespace Pz
open PySem PySem.Spec PyProof.Rows L2 TL
variable [PenC]
def clsUp : List (Str × Str) := [("PrismError", "ValueError"), ("InvalidText", "PrismError"), ("UnbalancedBracket", "PrismError"), ("IndentedStart", "PrismError"), ("BadDedent", "PrismError"), ("InconsistentTabs", "PrismError"), ("NoIndent", "PrismError"), ("Unreachable", "PrismError"), ("InvalidReading", "PrismError"), ("RootConflict", "PrismError"), ("InvalidTokens", "PrismError"), ("InvalidOperation", "PrismError"), ("InvalidNotation", "PrismError"), ("UnknownCommand", "PrismError"),
  ("TooLong", "OverflowError"), ("TooMany", "OverflowError"), ("NoVariant", "IndexError"), ("NoLine", "IndexError"), ("Busy", "RuntimeError"), ("NothingToUndo", "RuntimeError"), ("NothingToRedo", "RuntimeError"), ("OverflowError", "ArithmeticError"), ("IndexError", "LookupError"), ("KeyError", "LookupError")]
def subN : Nat → Str → Str → Bool
  | 0, c, y => c == y
  | n + 1, c, y => c == y || match clsUp.lookup c with
    | some d => subN n d y
    | none => false
def subB (c y : Str) : Bool := subN 3 c y
def NmV (K : Frag) (y : Str) (u : Value) : Prop := ClsV K y u ∨ ∃ n : String, y = Str.ofString n ∧ PySem.W.nsIn K mainGlobals y = some none ∧ u = .type n
def NmF (K : Frag) (mg : Str → Option Value) (y : Str) : Prop := (∃ C, mg y = some (.ref C) ∧ ClsV K y (.ref C)) ∨ ∃ n : String, y = Str.ofString n ∧ mg y = none ∧ bootBuiltins y = some (.type n) ∧ PySem.W.nsIn K mainGlobals y = some none
structure XRel (K : Frag) (mg : Str → Option Value) (L M F : List Str) : Prop where
  own : ∀ c ∈ L, ∀ cv, ClsV K c cv → ∃ C, cv = .ref C ∧ XcF K C
  rel : ∀ c ∈ L, ∀ cv, ClsV K c cv → ∀ y ∈ M, ∀ u, NmV K y u → PySem.W.kitOne K cv u = some (subB c y) ∧ PySem.W.exmOne K cv u = some (subB c y)
  nms : ∀ y ∈ M, NmF K mg y
  fld : ∀ c ∈ L, ∀ cv, ClsV K c cv → ∀ f ∈ F, PySem.W.findIn K cv f = some none
section
variable {K : Frag} {mg : Str → Option Value} {L M F : List Str}
end
section
variable {X : Cx} {E : WXs} {Z0 : Zs} {L M F : List Str} {x f : Str} {p pos pos' : Pos} {a e : Expr} {t : DA} {te : DE} {k : Nat}
def wRaise1 (x f : Str) (t : DA) : DS := fun D sl st => t D.ex sl st fun ss st => match ss with
  | [.d y] => D.ex x [(f, y)] sl st
  | _ => False
theorem wRaise1_ap {nx bk ct : Sls → Sto → Prop} {rt : DK} {ex : DX} {sl : Sls} {st : Sto} : wRaise1 x f t ⟨nx, rt, ex, bk, ct⟩ sl st = (t ex sl st fun ss st => match ss with
  | [.d y] => ex x [(f, y)] sl st
  | _ => False) := rfl
def Mk1 (K : Frag) (mg : Str → Option Value) (x f : Str) : Prop := ∃ (C fI : Addr) (B newId initId : String) (bmB : List Value) (qn : Str), mg x = some (.ref C) ∧ ClsV K x (.ref C) ∧ ExcBaseFacts B newId initId bmB ∧ PySem.Xc.InitRun B newId initId bmB f qn K C fI ∧ PySem.Xc.Txt B newId initId bmB f qn K C fI
def Mk0 (K : Frag) (mg : Str → Option Value) (x : Str) : Prop := ∃ (C : Addr) (B newId initId : String) (bmB : List Value), mg x = some (.ref C) ∧ ClsV K x (.ref C) ∧ ExcBaseFacts B newId initId bmB ∧ PySem.W.excIn K C bmB newId = true ∧ PySem.W.keepIn K (.ref C) = true ∧ PySem.W.subIn K (.ref C) (.type "BaseException") = some true ∧ PySem.W.typeIn K (.ref C) = some (.type "type")
def wRaise0 (x : Str) : DS := fun D sl st => D.ex x [] sl st
theorem wRaise0_ap {nx bk ct : Sls → Sto → Prop} {rt : DK} {ex : DX} {sl : Sls} {st : Sto} : wRaise0 x ⟨nx, rt, ex, bk, ct⟩ sl st = ex x [] sl st := rfl
theorem nm_val {y : Str} (h : NmF X.K X.mg y) (hg : Gl X y) (hn : y ≠ "__name__") (hd : (y == ("__debug__" : Str)) = false) : ∃ u c, NmV X.K y u ∧ L2.ClsV c u ∧ Names X y u ∧ PE X (.Name y p) (tC c) := by
  rcases h with ⟨C, h1, h2⟩ | ⟨n, rfl, h1, h2, h3⟩
  · exact ⟨.ref C, .ref C, .inl h2, .own C, ⟨hg, hd, .inl h1⟩, pe_glob hg h1 rfl hd⟩
  · exact ⟨.type n, .ty n, .inr ⟨n, rfl, h3, rfl⟩, .ty n, ⟨hg, hd, .inr ⟨h1, h2, hn⟩⟩, pe_bltn hg h1 h2 rfl hn hd⟩
inductive NmsL (X : Cx) (M : List Str) : List Expr → List Str → Prop
  | nil : NmsL X M [] []
  | cons {y : Str} {p : Pos} {es : List Expr} {ys : List Str} (hm : y ∈ M) (r : NmsL X M es ys) (hg : Gl X y := by rfl) (hn : y ≠ "__name__" := by decide) (hd : (y == ("__debug__" : Str)) = false := by decide) (hs : starEach (.Name y p :: es) X.env = (false, eval (.Name y p) X.env) :: starEach es X.env := by rfl) : NmsL X M (.Name y p :: es) (y :: ys)
theorem NmsL.mem {es : List Expr} {ys : List Str} (h : NmsL X M es ys) : ∀ y ∈ ys, y ∈ M := by
  induction h with
  | nil => intro y m; cases m
  | cons hm r _ _ _ _ ih => exact fun y m => (List.mem_cons.mp m).elim (fun e => e ▸ hm) (ih y)
theorem NmsL.val (R : XRel X.K X.mg L M F) {es : List Expr} {ys : List Str} (h : NmsL X M es ys) : ∃ us cs, Paired (NmV X.K) ys us ∧ Paired L2.ClsV cs us ∧ NmL X es us ∧ ∃ ta : TA, PA X es ta ∧ ∀ σ H (Q : List V → Hp → Prop), Q cs H → ta σ H Q := by
  induction h with
  | nil => exact ⟨[], [], .nil, .nil, .nil, _, pa_nil, fun σ H Q q => q⟩
  | @cons y p es ys hm r hg hn hd hs ih =>
    obtain ⟨us, cs, h1, h2, h3, ta, h4, h5⟩ := ih
    obtain ⟨u, c, q1, q2, q3, q4⟩ := nm_val (p := p) (R.nms y hm) hg hn hd
    exact ⟨u :: us, c :: cs, .cons q1 h1, .cons q2 h2, .cons q3 h3 hs, _, pa_cons q4 h4 hs, fun σ H Q q => h5 σ H _ q⟩
def NmsT (X : Cx) (te : Expr) (M ys : List Str) : Prop := (∀ y ∈ ys, y ∈ M) ∧ ∀ {L F : List Str}, XRel X.K X.mg L M F → ∃ us, Paired (NmV X.K) ys us ∧ ClTest X te us
def wTry (L ys : List Str) (i j : Nat) (u : DS) : DS := fun D sl st => u ⟨D.nx, D.rt, fun c fs sl' st' => c ∈ L ∧ if ys.any (subB c) = true then D.nx (((sl'.set i (some (.o st'.length))).set j (some (.o st'.length))).set i none) (st' ++ [.exc c fs]) else D.ex c fs sl' st', D.bk, D.ct⟩ sl st
theorem wTry_ap {ys : List Str} {i j : Nat} {u : DS} {nx bk ct : Sls → Sto → Prop} {rt : DK} {ex : DX} {sl : Sls} {st : Sto} : wTry L ys i j u ⟨nx, rt, ex, bk, ct⟩ sl st = u ⟨nx, rt, fun c fs sl' st' => c ∈ L ∧ if ys.any (subB c) = true then nx (((sl'.set i (some (.o st'.length))).set j (some (.o st'.length))).set i none) (st' ++ [.exc c fs]) else ex c fs sl' st', bk, ct⟩ sl st := rfl
theorem SlOk.setN {K : Frag} {Z : Zs} {σ : L2.St} {sl : Sls} (h : SlOk K Z σ sl) (i : Nat) : SlOk K Z (σ.set i none) (sl.set i none) := by
  refine ⟨by simpa using h.len, fun j t e => ?_⟩
  by_cases hj : i = j
  · subst hj
    rcases Nat.lt_or_ge i sl.length with q | q
    · rw [List.getElem?_set_self q] at e; cases e
    · rw [List.getElem?_eq_none (by simpa using q)] at e; cases e
  · rw [List.getElem?_set_ne hj] at e
    obtain ⟨u, q, r'⟩ := h.has j t e
    exact ⟨u, by rw [List.getElem?_set_ne hj]; exact q, r'⟩
def excF : List (PyData × PyData) → Option (List (Str × PyData))
  | [] => some []
  | (.str f, x) :: r => (excF r).map fun l => (f, x) :: l
  | _ => none
theorem excF_map : ∀ fs : List (Str × PyData), excF (fs.map fun p => (.str p.1, p.2)) = some fs
  | [] => rfl
  | (f, x) :: r => by simp [excF, excF_map r]
theorem excF_zip {us : List (Str × V)} : ∀ {ds : List PyData} {fs : List (Str × PyData)}, us.length = ds.length → excF ((us.map fun p => PyData.str p.1).zip ds) = some fs → us.map (·.1) = fs.map (·.1) ∧ ds = fs.map (·.2) := by
  induction us with
  | nil =>
    intro ds fs l h
    cases ds with
    | nil => cases h; exact ⟨rfl, rfl⟩
    | cons _ _ => cases l
  | cons u us ih =>
    intro ds fs l h
    cases ds with
    | nil => cases l
    | cons d ds =>
      rw [List.map_cons, List.zip_cons_cons, excF] at h
      obtain ⟨fs', h1, rfl⟩ := Option.map_eq_some_iff.mp h
      obtain ⟨q1, q2⟩ := ih (by simpa using l) h1
      exact ⟨by rw [List.map_cons, List.map_cons, q1], by rw [List.map_cons, q2]⟩
def excOf (st : Sto) : Sl → Option (Str × List (Str × PyData))
  | .o h => match st[h]? with
    | some (.exc c fs) => some (c, fs)
    | _ => none
  | .d (.dict ((.none, .str c) :: r)) => (excF r).map fun fs => (c, fs)
  | _ => none
theorem excOf_d {st : Sto} {c : Str} {fs : List (Str × PyData)} : excOf st (.d (excD c fs)) = some (c, fs) := by
  unfold excD excOf
  dsimp only
  rw [excF_map]
  rfl
theorem excOf_o {st : Sto} {h : Nat} : excOf st (.o h) = match st[h]? with
    | some (.exc c fs) => some (c, fs)
    | _ => none := rfl
theorem excOf_ok {Z : Zs} (ok : Ok X.K Z) {v : V} {s : Sl} {c : Str} {fs : List (Str × PyData)} (r : Rp X.K Z v s) (e : excOf Z.st s = some (c, fs)) : ∃ a cv d, v = .ref a ∧ ClsV X.K c cv ∧ Z.H a = some (ExO cv d a) ∧ XcOk X.K Z fs d := by
  cases s with
  | o h =>
    rw [excOf_o] at e
    obtain ⟨a, ct, ev, e1, e2, e3⟩ := r
    rw [e2] at e
    cases ct with
    | exc c' fs' =>
      cases e
      obtain ⟨cv, d, h1, h2, h3⟩ := ok.ct h a _ e1 e2
      exact ⟨a, cv, d, ev, h1, h2, h3⟩
    | _ => cases e
  | d x =>
    unfold excOf at e
    split at e
    · rename_i h; cases h
    · rename_i c2 l hq
      obtain ⟨fs2, e1, e2⟩ := Option.map_eq_some_iff.mp e
      cases e2
      cases hq
      have i : Im X.K Z.W Z.H v (.dict ((.none, .str c) :: l)) := r
      generalize hx : PyData.dict ((.none, .str c) :: l) = x at i
      cases i with
      | dct h1 h2 h3 =>
        rename_i a us ds
        exfalso
        cases us with
        | nil => cases hx
        | cons w us =>
          cases ds with
          | nil => cases hx
          | cons d ds => obtain ⟨⟨k | k⟩, w⟩ := w <;> cases hx
      | exc h1 h2 h3 h4 h5 h6 =>
        rename_i a cv d c2 us ds
        cases hx
        obtain ⟨q1, q2⟩ := excF_zip (by rw [← h6.length, List.length_map]) e1
        subst q2
        refine ⟨a, cv, d, rfl, h1, h3, ?_⟩
        cases d with
        | none =>
          have h5' : us = [] := h5
          subst h5'
          exact List.map_eq_nil_iff.mp q1.symm
        | some dx => exact ⟨h5.1, us, h5.2, q1, h6⟩
      | _ => cases hx
    · cases e
  | _ => cases e
theorem exAt_of {Z : Zs} {a C : Addr} {d : Option Addr} {fs : List (Str × PyData)} (h : Z.H a = some (ExO (.ref C) d a)) (x : XcOk X.K Z fs d) : ExAt Z.H a C d := ⟨h, fun dx e => by
  subst e
  obtain ⟨_, us, q, _⟩ := x
  exact ⟨us, q⟩⟩
def wIsE (L ys : List Str) (te : DE) : DE := fun Ed sl st Q => te Ed sl st fun s st => match excOf st s with
  | some (c, _) => c ∈ L ∧ Q (.d (.bool (ys.any (subB c)))) st
  | none => False
theorem wIsE_ap {ys : List Str} {Ed : DX} {sl : Sls} {st : Sto} {Q : DK} : wIsE L ys te Ed sl st Q = (te Ed sl st fun s st => match excOf st s with
  | some (c, _) => c ∈ L ∧ Q (.d (.bool (ys.any (subB c)))) st
  | none => False) := rfl
theorem de_isE1 {y : Str} {p2 : Pos} (R : XRel X.K X.mg L M F) (he : DEx X E e te) (hy : y ∈ M) (hg : Gl X "isinstance") (hm : X.mg "isinstance" = none) (hv : bootBuiltins "isinstance" = some (.builtin "isinstance")) (hgy : Gl X y := by rfl) (hn : y ≠ "__name__" := by decide) (hd : (y == ("__debug__" : Str)) = false := by decide)
    (hs1 : starEach [e, .Name y p2] X.env = (false, eval e X.env) :: starEach [.Name y p2] X.env := by rfl) (hs2 : starEach [.Name y p2] X.env = (false, eval (.Name y p2) X.env) :: starEach [] X.env := by rfl) (hpl : (backTo pos (starEach [.Name y p2] X.env)).any (·.1) = false := by rfl) :
    DEx X E (.Call (.Name "isinstance" p) [e, .Name y p2] [] pos) (wIsE L [y] te) := by
  obtain ⟨u, c, q1, q2, q3, q4⟩ := nm_val (p := p2) (R.nms y hy) hgy hn hd
  refine ⟨peI (pe_callB call_isE hg hm hv (pa_cons he.run (pa_cons q4 pa_nil hs2) hs1) (by decide) (by decide) hs1 hpl) fun σ H Q ⟨Z, sl, Qd, Ed, h, ok, so, w, kq, kx⟩ => ?_⟩
  refine ⟨Z, sl, _, Ed, h, ok, so, w, fun Z1 v s l1 ok1 r1 w1 => ?_, kx⟩
  dsimp only at w1
  split at w1
  · rename_i c' fs ec
    obtain ⟨hL, w1⟩ := w1
    obtain ⟨a, cv, d, rfl, h1, h2, h3⟩ := excOf_ok ok1 r1 ec
    obtain ⟨C, rfl, xf⟩ := R.own c' hL cv h1
    refine ⟨a, C, d, c, _, rfl, exAt_of h2 h3, xf, .inl ⟨u, q2, ?_⟩, (kq.le l1).now ok1 (.bl _) w1⟩
    rw [(R.rel c' hL _ h1 y hy u q1).1, List.any_cons, List.any_nil, Bool.or_false]
  · exact w1.elim
def wXf (L : List Str) (f : Str) (te : DE) : DE := fun Ed sl st Q => te Ed sl st fun s st => match excOf st s with
  | some (c, fs) => c ∈ L ∧ ∃ d, fs.lookup f = some d ∧ Q (.d d) st
  | none => False
theorem wXf_ap {Ed : DX} {sl : Sls} {st : Sto} {Q : DK} : wXf L f te Ed sl st Q = (te Ed sl st fun s st => match excOf st s with
  | some (c, fs) => c ∈ L ∧ ∃ d, fs.lookup f = some d ∧ Q (.d d) st
  | none => False) := rfl
theorem lookup_im {K : Frag} {W : Addr → Prop} {H : Hp} {f : Str} {d : PyData} : ∀ {us : List (Str × V)} {fs : List (Str × PyData)}, us.map (·.1) = fs.map (·.1) → ImAll K W H (us.map (·.2)) (fs.map (·.2)) → fs.lookup f = some d → ∃ v, us.lookup f = some v ∧ Im K W H v d
  | [], [], _, _, e => by cases e
  | [], _ :: _, e, _, _ => by cases e
  | _ :: _, [], e, _, _ => by cases e
  | (g, v) :: us, (g', d') :: fs, e, q, h => by
    simp only [List.map_cons, List.cons.injEq] at e
    obtain ⟨rfl, e⟩ := e
    rcases q with _ | ⟨q1, q2⟩
    rw [List.lookup_cons] at h ⊢
    cases hb : f == g with
    | true =>
      rw [hb] at h
      cases h
      exact ⟨v, rfl, q1⟩
    | false =>
      rw [hb] at h
      exact lookup_im e q2 h
theorem de_xf (f : Str) (R : XRel X.K X.mg L M F) (hf : f ∈ F) (he : DEx X E e te) (hb : attributeBase e f X.env (eval e X.env) = eval e X.env := by rfl) : DEx X E (.Attribute e f pos) (wXf L f te) := by
  refine ⟨peI (pe_xfH he.run hb) fun σ H Q ⟨Z, sl, Qd, Ed, h, ok, so, w, kq, kx⟩ => ?_⟩
  refine ⟨Z, sl, _, Ed, h, ok, so, w, fun Z1 v s l1 ok1 r1 w1 => ?_, kx⟩
  dsimp only at w1
  split at w1
  · rename_i c' fs ec
    obtain ⟨hL, d, hd, w1⟩ := w1
    obtain ⟨a, cv, dd, rfl, g1, g2, g3⟩ := excOf_ok ok1 r1 ec
    obtain ⟨C, rfl, xf⟩ := R.own c' hL cv g1
    cases dd with
    | none =>
      obtain rfl : fs = [] := g3
      cases hd
    | some dx =>
      have hE := exAt_of g2 g3
      obtain ⟨_, us, q1, q2, q3⟩ := g3
      obtain ⟨v', hv, iv⟩ := lookup_im q2 q3 hd
      exact ⟨a, C, dx, us, v', rfl, hE, q1, xf, R.fld c' hL _ g1 f hf, hv, (kq.le l1).now ok1 iv w1⟩
  · exact w1.elim
end
theorem is_some {α : Type} {o : Option α} {x : α} (h : o = some x) : o.isSome = true := by rw [h]; rfl
theorem ac {α : Type} {P : α → Prop} {a : α} {l : List α} (h : P a) (r : ∀ c ∈ l, P c) : ∀ c ∈ a :: l, P c := fun c m => (List.mem_cons.mp m).elim (fun e => e ▸ h) (r c)
theorem an {α : Type} {P : α → Prop} : ∀ c ∈ ([] : List α), P c := fun c m => by cases m
def NmK (K : Frag) (y : Str) : Prop := (∃ C, PySem.W.nsIn K mainGlobals y = some (some (.ref C))) ∨ ∃ n : String, y = Str.ofString n ∧ bootBuiltins y = some (.type n) ∧ PySem.W.nsIn K mainGlobals y = some none
structure XRelK (K : Frag) (L M F : List Str) : Prop where
  own : ∀ c ∈ L, ∀ cv, ClsV K c cv → ∃ C, cv = .ref C ∧ XcF K C
  rel : ∀ c ∈ L, ∀ cv, ClsV K c cv → ∀ y ∈ M, ∀ u, NmV K y u → PySem.W.kitOne K cv u = some (subB c y) ∧ PySem.W.exmOne K cv u = some (subB c y)
  nms : ∀ y ∈ M, NmK K y
  fld : ∀ c ∈ L, ∀ cv, ClsV K c cv → ∀ f ∈ F, PySem.W.findIn K cv f = some none
theorem XRelK.to {K : Frag} {h : Heap} {mg : Str → Option Value} {L M F : List Str} (R : XRelK K L M F) (X : K.In h) (G : h.Ns mainGlobals mg) : XRel K mg L M F :=
  ⟨R.own, R.rel, fun y m => by
    rcases R.nms y m with ⟨C, e⟩ | ⟨n, e1, e2, e3⟩
    · exact .inl ⟨C, PySem.W.mg_of X G e, e⟩
    · exact .inr ⟨n, e1, PySem.W.mg_none_of X G e3, e2, e3⟩, R.fld⟩
section
variable {K : Frag} {c y f : Str} {C D : Addr} {cv u : Value} {b : Bool}
theorem own_of (e : PySem.W.nsIn K mainGlobals c = some (some (.ref C))) (h : XcF K C) : ∀ cv, ClsV K c cv → ∃ C, cv = .ref C ∧ XcF K C := fun cv q => ⟨C, q.eq e, h⟩
theorem rel_own (e : PySem.W.nsIn K mainGlobals y = some (some (.ref D))) (h1 : PySem.W.kitOne K cv (.ref D) = some b) (h2 : PySem.W.exmOne K cv (.ref D) = some b) (hb : b = subB c y) : ∀ u, NmV K y u → PySem.W.kitOne K cv u = some (subB c y) ∧ PySem.W.exmOne K cv u = some (subB c y) := fun u q => by
  subst hb
  rcases q with q | ⟨n, _, q, _⟩
  · obtain rfl := ClsV.eq q e
    exact ⟨h1, h2⟩
  · rw [e] at q; cases q
theorem ofString_inj {a b : String} (h : Str.ofString a = Str.ofString b) : a = b := by
  have h2 := congrArg tl h
  rw [tl_lit, tl_lit] at h2
  have h3 : a.toList = b.toList := by
    have inj : ∀ {l1 l2 : List Char}, l1.map Char.toNat = l2.map Char.toNat → l1 = l2 := by
      intro l1
      induction l1 with
      | nil => intro l2 h; cases l2 with
        | nil => rfl
        | cons _ _ => cases h
      | cons x l1 ih => intro l2 h; cases l2 with
        | nil => cases h
        | cons y l2 =>
          simp only [List.map_cons, List.cons.injEq] at h
          rw [ih h.2, Char.toNat_inj.mp h.1]
    exact inj h2
  exact String.toList_inj.mp h3
theorem rel_bi {n : String} (e : PySem.W.nsIn K mainGlobals (Str.ofString n) = some none) (h1 : PySem.W.kitOne K cv (.type n) = some b) (h2 : PySem.W.exmOne K cv (.type n) = some b) (hb : b = subB c (Str.ofString n)) : ∀ u, NmV K (Str.ofString n) u → PySem.W.kitOne K cv u = some (subB c (Str.ofString n)) ∧ PySem.W.exmOne K cv u = some (subB c (Str.ofString n)) := fun u q => by
  subst hb
  rcases q with q | ⟨m, hm, q, rfl⟩
  · unfold ClsV at q
    rw [e] at q; cases q
  · obtain rfl := ofString_inj hm
    exact ⟨h1, h2⟩
theorem rel_of {M : List Str} (e : PySem.W.nsIn K mainGlobals c = some (some (.ref C))) (h : ∀ y ∈ M, ∀ u, NmV K y u → PySem.W.kitOne K (.ref C) u = some (subB c y) ∧ PySem.W.exmOne K (.ref C) u = some (subB c y)) :
    ∀ cv, ClsV K c cv → ∀ y ∈ M, ∀ u, NmV K y u → PySem.W.kitOne K cv u = some (subB c y) ∧ PySem.W.exmOne K cv u = some (subB c y) := fun cv q => by
  obtain rfl := ClsV.eq q e
  exact h
theorem fld_of {F : List Str} (e : PySem.W.nsIn K mainGlobals c = some (some (.ref C))) (h : ∀ f ∈ F, PySem.W.findIn K (.ref C) f = some none) : ∀ cv, ClsV K c cv → ∀ f ∈ F, PySem.W.findIn K cv f = some none := fun cv q => by
  obtain rfl := ClsV.eq q e
  exact h
theorem nm_own (e : PySem.W.nsIn K mainGlobals y = some (some (.ref D))) : NmK K y := .inl ⟨D, e⟩
theorem nm_bi {n : String} (h : bootBuiltins (Str.ofString n) = some (.type n)) (e : PySem.W.nsIn K mainGlobals (Str.ofString n) = some none) : NmK K (Str.ofString n) := .inr ⟨n, rfl, h, e⟩
end
def Mk1K (K : Frag) (x f : Str) : Prop := ∃ (C fI : Addr) (B newId initId : String) (bmB : List Value) (qn : Str), PySem.W.nsIn K mainGlobals x = some (some (.ref C)) ∧ ExcBaseFacts B newId initId bmB ∧ PySem.Xc.InitRun B newId initId bmB f qn K C fI ∧ PySem.Xc.Txt B newId initId bmB f qn K C fI
theorem Mk1K.to {K : Frag} {h : Heap} {mg : Str → Option Value} {x f : Str} (R : Mk1K K x f) (X : K.In h) (G : h.Ns mainGlobals mg) : Mk1 K mg x f := by
  obtain ⟨C, fI, B, a, b, bm, qn, e, h1, h2, h3⟩ := R
  exact ⟨C, fI, B, a, b, bm, qn, PySem.W.mg_of X G e, e, h1, h2, h3⟩
def Mk0K (K : Frag) (x : Str) : Prop := ∃ (C : Addr) (B newId initId : String) (bmB : List Value), PySem.W.nsIn K mainGlobals x = some (some (.ref C)) ∧ ExcBaseFacts B newId initId bmB ∧ PySem.W.excIn K C bmB newId = true ∧ PySem.W.keepIn K (.ref C) = true ∧ PySem.W.subIn K (.ref C) (.type "BaseException") = some true ∧ PySem.W.typeIn K (.ref C) = some (.type "type")
theorem Mk0K.to {K : Frag} {h : Heap} {mg : Str → Option Value} {x : Str} (R : Mk0K K x) (X : K.In h) (G : h.Ns mainGlobals mg) : Mk0 K mg x := by
  obtain ⟨C, B, a, b, bm, e, h1, h2⟩ := R
  exact ⟨C, B, a, b, bm, PySem.W.mg_of X G e, e, h1, h2⟩
end Pz
set_option maxRecDepth 100000
namespace Pz
open PySem PySem.Spec PyProof.Rows L2 TL
variable [PenC]
section
variable {X : Cx} {E : WXs} {Z0 : Zs} {e : Expr} {es : List Expr} {t : DA} {pos p : Pos} {x : Str} {f : FDX} {n k m : Nat} {N : List Str} {τ : DS}
def spXO (f : FDX) : DSp := fun ss cs Q Ed => cs = [] ∧ f ss (fun d => match d with
  | .list ds => Q (.o 0) [.lst ds]
  | _ => False) fun c fs => Ed c fs []
def aXO (f : FDX) (ss : List Sl) (st : Sto) (Q : DK) (Ed : DXF) : Prop := f ss (fun d => match d with
  | .list ds => Q (.o st.length) (st ++ [.lst ds])
  | _ => False) fun c fs => Ed c fs st
def wCallXO (f : FDX) (t : DA) : DE := fun Ed sl st Q => t Ed sl st fun ss st => aXO f ss st Q fun c fs st => Ed c fs sl st
theorem wCallXO_ap {Ed : DX} {sl : Sls} {st : Sto} {Q : DK} : wCallXO f t Ed sl st Q = (t Ed sl st fun ss st => aXO f ss st Q fun c fs st => Ed c fs sl st) := rfl
variable {fa : Addr} {fd : FuncData} {ps : List Str}
end
end Pz
set_option maxRecDepth 100000
namespace Pz
open PySem PySem.Spec PyProof.Rows L2 TL
variable [PenC]
def isKy : PyData → Bool
  | .none => false
  | _ => true
mutual
def noLst : PyData → Bool
  | .none | .bool _ | .int _ | .str _ => true
  | .list _ => false
  | .tuple ds => noLstAll ds
  | .dict kvs => noLstKv kvs
def noLstAll : List PyData → Bool
  | [] => true
  | x :: xs => noLst x && noLstAll xs
def noLstKv : List (PyData × PyData) → Bool
  | [] => true
  | (k, v) :: r => isKy k && (noLst v && noLstKv r)
end
theorem noLstKv_zip : ∀ {ks ds : List PyData}, ks.length = ds.length → noLstKv (ks.zip ds) = true → noLstAll ds = true
  | [], [], _, _ => rfl
  | [], _ :: _, h, _ => by simp at h
  | _ :: _, [], h, _ => by simp at h
  | k :: ks, d :: ds, h, e => by
    rw [List.zip_cons_cons, noLstKv, Bool.and_eq_true, Bool.and_eq_true] at e
    rw [noLstAll, e.2.1, noLstKv_zip (by simpa using h) e.2.2]
    rfl
section
variable {X : Cx} {pins : List (Addr × Obj)} {σ : L2.St} {H : Hp} {s : Shared} {W : Addr → Prop}
theorem keys_reads {P : Program} {w : World} {kvs : List (Key × V)} {xs : List (Key × Value)} (r : KV kvs xs) : ∀ {es : List DictEntry}, PySem.Pairs (mixKind P w) es xs → ReadsAll s.heap (es.map (·.key)) (kvs.map fun p => keyD p.1) [] ∧ Vals (kvs.map (·.2)) (es.map (·.val)) := by
  induction r with
  | nil =>
    intro es p
    cases p
    exact ⟨.nil, .nil⟩
  | cons h _ ih =>
    intro es p
    cases p with
    | cons p1 p2 p3 =>
      obtain ⟨i1, i2⟩ := ih p3
      rename_i a b l1 l2 r0 e es'
      obtain ⟨ha, hb⟩ := h
      refine ⟨?_, ?_⟩
      · have : Reads s.heap e.key (keyD a.1) [] := by
          rw [ha]
          have p1' : keyIs b.1 e.key = true := p1
          rcases keyIs_shape p1' with ⟨i, t, e1, e2⟩ | ⟨x, t, e1, e2⟩
          · rw [e1, e2]; exact .int i t
          · rw [e1, e2]; exact .str x t
        exact ReadsAll.cons (as := []) (bs := []) this i1
      · exact .cons (show RelV a.snd e.val by rw [p2]; exact hb) i2
mutual
theorem Im.reads (I : Inv X pins σ H s) : ∀ {v : V} {d : PyData}, Im X.K W H v d → noLst d = true → ∀ {u : Value}, RelV v u → ∃ as, Reads s.heap u d as ∧ sysModules ∉ as
  | _, _, .non, _, _, r => by cases r; exact ⟨_, .none, by simp⟩
  | _, _, .bl b, _, _, r => by cases r; exact ⟨_, .bool b, by simp⟩
  | _, _, .int i, _, _, r => by obtain ⟨t, rfl⟩ := r; exact ⟨_, .int i t, by simp⟩
  | _, _, .str x, _, _, r => by obtain ⟨t, rfl⟩ := r; exact ⟨_, .str x t, by simp⟩
  | _, _, .lst _ _ _, e, _, _ => by simp [noLst] at e
  | _, _, .tup (a := a) q r, e, _, rv => by
    obtain rfl := rv
    obtain ⟨its, rv, ⟨o, ho, hc, n, hd⟩, _⟩ := I.tuple q.sq
    obtain ⟨as, h1, h2⟩ := ImAll.reads I r (by simpa [noLst] using e) rv
    exact ⟨as, .tuple ho hc hd h1, h2⟩
  | _, _, .dct (a := a) (kvs := kvs) (ds := ds) q n r, e, _, rv => by
    obtain rfl := rv
    have hh := I.hok a _ q
    unfold L2.ObjOk at hh
    obtain ⟨_, q1, vs, kv, o, es, ep, g1, g2, g3, g4, g5, g6⟩ := hh
    obtain ⟨k1, k2⟩ := keys_reads (s := s) kv g5
    have hl := r.length
    rw [List.length_map] at hl
    have e2 : noLstKv ((kvs.map fun p => keyD p.1).zip ds) = true := by simpa [noLst] using e
    have e3 : noLstAll ds = true := noLstKv_zip (by rw [List.length_map]; exact hl) e2
    obtain ⟨as, h1, h2⟩ := ImAll.reads I r e3 k2
    have m1 : ((kvs.map fun p => keyD p.1).zip ds).map (·.1) = kvs.map fun p => keyD p.1 := List.map_fst_zip (by rw [List.length_map]; omega)
    have m2 : ((kvs.map fun p => keyD p.1).zip ds).map (·.2) = ds := List.map_snd_zip (by rw [List.length_map]; omega)
    refine ⟨a :: [] ++ as, .dict g1 g2.1 g3 (by rw [m1]; exact k1) (by rw [m2]; exact h1), ?_⟩
    intro m
    rcases List.mem_cons.mp m with m | m
    · rw [← m] at q1
      simp at q1
    · exact h2 m
  | _, _, .dcl _ _ _, e, _, _ => by simp [noLst, noLstKv, isKy, mkK] at e
  | _, _, .dcT _ _ _, e, _, _ => by simp [noLst, noLstKv, isKy, mkT] at e
  | _, _, .dcN _ _ _, e, _, _ => by simp [noLst, noLstKv, isKy, mkN] at e
  | _, _, .exc _ _ _ _ _ _, e, _, _ => by simp [noLst, noLstKv, isKy] at e
theorem ImAll.reads (I : Inv X pins σ H s) : ∀ {vs : List V} {ds : List PyData}, ImAll X.K W H vs ds → noLstAll ds = true → ∀ {us : List Value}, Vals vs us → ∃ as, ReadsAll s.heap us ds as ∧ sysModules ∉ as
  | _, _, .nil, _, _, r => by cases r; exact ⟨_, .nil, by simp⟩
  | _, _, .cons q t, e, _, r => by
    simp only [noLstAll, Bool.and_eq_true] at e
    cases r with
    | cons r1 r2 =>
      obtain ⟨as, h1, h2⟩ := Im.reads I q e.1 r1
      obtain ⟨bs, h3, h4⟩ := ImAll.reads I t e.2 r2
      exact ⟨_, .cons h1 h3, by simp [h2, h4]⟩
end
end
structure RepZ (d : PyData) : Prop where
  no : noLst d = true
  sw : d.showable = true
  st : PyData.strOk d.shown = true
  ln : d.shown.length ≤ sizeLine
  dp : d.depth ≤ 60
theorem RepZ.sh {d : PyData} (h : RepZ d) : SeqAt.shaped (.str d.shown) = true := sh_str h.st
def rShowZ (K : Frag) : List V → Hp → VK → Prop := fun xs H Q => rShow K xs H Q ∨ ∃ (a : Addr) (d : PyData) (W : Addr → Prop), xs = [.ref a] ∧ Im K W H (.ref a) d ∧ RepZ d ∧ Q (.str d.shown) H
def fRepZ : FA := fun ss st Q => match ss with
  | [s] => match vw st s with
    | some d => (RepOk d ∨ (RepZ d ∧ s = .d d)) ∧ Q (.d (.str d.shown)) st
    | none => False
  | _ => False
end Pz
set_option maxRecDepth 100000
namespace Pz
open PySem PySem.Spec PyProof.Rows L2 TL PySem.W
variable [PenC]
section
variable {prog : Program} {w : World} {A : Around} {E : Value → Shared → Prop} {s : Shared} {z : Str} {t : Tok}
theorem kds_hint {Q : Bool → Shared → Prop} (h : Q false s) : wpAny (model prog w) A (Builtin.List.listLengthHint (.str z t)) Q E s := by
  have hT : s.TypeIs (.str z t) "str" := typeIs_str s z t
  unfold Builtin.List.listLengthHint
  refine wpAny_bind (wpAny_specialOf hT PySem.F.slot_str_len.lookup ?_)
  generalize hid : ("str.__len__" : String) = id0
  wp_delta
  rw [show splitId id0 = some ("str", "__len__") from by subst hid; decide +kernel]
  subst hid
  refine wpAny_bind (wpAny_isInstance (T := "str") (b := true) hT (by rw [isSubtype_type]; kernel_rfl) ?_)
  refine wpAny_ite_split (fun hab => absurd hab (by decide)) (fun _ => ?_)
  refine wpAny_ite_split (fun _ => ?_) (fun hab => absurd (by decide +kernel) hab)
  refine wpAny_bind (wpAny_typeOf hT ?_)
  exact wpAny_pure h
theorem kds_extend {R : Result → Shared → Prop} (hh : A.handled = none) (S : Addr) (res : Value) (c₀ : Nat) (hS : s.heap.get? S = some { cls := .type "list", data := .seq #[] c₀ })
    (hR : ∀ h' tk acc' c', (∀ b o, b ≠ S → s.heap.get? b = some o → h'.get? b = some o) → h'.get? S = some { cls := .type "list", dict := none, data := .seq acc' c', slots := #[] } → ItemsOf (SignAt z) acc' z.cps.size → R (.ok (.ret res)) { s with heap := h', toks := tk }) (hn : z.cps.size ≤ sizeLine) :
    wpAny (model prog w) A.in1 (Builtin.List.listExtendWith (.ref S) (.str z t) res)
      (fun fin s' => match fin with | .done f => R (.ok f) s' | .again c' => c'.quiet = true ∧ codeAny (model prog w) A c' R s') (fun e s' => R (.error e) s') s := by
  have hSI : S ≠ s.heap.objs.size := Nat.ne_of_lt (Heap.lt_size hS)
  have hSf : S ∉ [s.heap.objs.size] := by simp only [List.mem_cons, List.not_mem_nil, or_false]; exact hSI
  unfold Builtin.List.listExtendWith
  refine wpAny_bind (wpAny_typeOf (T := "str") (typeIs_str s z t) ?_)
  have h1 : Builtin.List.listSameRef (.ref S) (.str z t) = false := rfl
  have h2 : (Value.type "str" == Value.type "list") = false := by decide
  have h3 : (Value.type "str" == Value.type "tuple") = false := by decide
  simp only [h1, h2, h3, Bool.or_false, Bool.false_eq_true, if_false]
  refine wpAny_bind (wpAny_pyIter_str fun oI St W st => ?_)
  have hS₁ := Heap.get?_push_of_some oI hS
  refine wpAny_bind (wpAny_holding (kds_hint ?_))
  refine wpAny_ite_split (fun hab => absurd hab (by decide)) (fun _ => wpAny_pure ⟨plainId_quiet PySem.F.plain_extend_loop _, ?_⟩)
  refine codeAny_extend_loopS (W A.in1 hh).toS hn S hSf res z.cps.size 0 _ #[] c₀ rfl (Nat.zero_le _) st hS₁ (ItemsOf.nil _) fun s' acc' c' hm hS' hacc => ?_
  rw [Moved.eq_with hm]
  refine hR s'.heap s'.toks acc' c' (fun b o hb e => hm.heap b o (fun hmem => ?_) (Heap.get?_push_of_some _ e)) hS' hacc
  rcases List.mem_cons.mp hmem with e' | hmem
  · exact hb e'
  · exact absurd (Heap.lt_size e) (by rw [List.mem_singleton.mp hmem]; exact Nat.lt_irrefl _)
theorem kds_init {R : Result → Shared → Prop} (hh : A.handled = none) (S : Addr) (hS : s.heap.get? S = some { cls := .type "list", data := .seq #[] })
    (hR : ∀ h' tk acc' c', (∀ b o, b ≠ S → s.heap.get? b = some o → h'.get? b = some o) → h'.get? S = some { cls := .type "list", dict := none, data := .seq acc' c', slots := #[] } → ItemsOf (SignAt z) acc' z.cps.size → R (.ok (.ret .none)) { s with heap := h', toks := tk }) (hn : z.cps.size ≤ sizeLine) :
    wpAny (model prog w) A.in1 (Builtin.«list.__init__» ⟨[.ref S, .str z t], []⟩)
      (fun fin s' => match fin with | .done f => R (.ok f) s' | .again c' => c'.quiet = true ∧ codeAny (model prog w) A c' R s') (fun e s' => R (.error e) s') s := by
  show wpAny _ _ (do let old ← Builtin.List.listItems (.ref S); Builtin.List.listUpdate (.ref S) (fun _ => #[]); letGo old.toList.reverse; Builtin.List.listExtendWith (.ref S) (.str z t) .none) _ _ s
  refine wpAny_bind ?_
  unfold Builtin.List.listItems
  refine wpAny_bind (wpAny_seqItems hS rfl (wpAny_pure ?_))
  show wpAny _ _ (updateSeq S (fun _ => #[]) >>= fun _ => letGo (#[] : Array Value).toList.reverse >>= fun _ => Builtin.List.listExtendWith (.ref S) (.str z t) .none) _ _ s
  refine wpAny_bind (wpAny_updateSeq hS rfl ?_)
  have hS₂ := Heap.get?_update_self (Obj.mapSeq (fun _ => (#[] : Array Value))) hS rfl
  have oth : ∀ b o, b ≠ S → s.heap.get? b = some o → (s.heap.update S (Obj.mapSeq (fun _ => (#[] : Array Value)))).get? b = some o :=
    fun b o hb e => (Heap.get?_update_other _ _ (Ne.symm hb)).trans e
  refine wpAny_bind (wpAny_letGo ?_)
  refine kds_extend hh S .none _ hS₂ (fun h' tk acc' c' hk hS' hacc => ?_) hn
  exact hR h' tk acc' c' (fun b o hb e => hk b o hb (oth b o hb e)) hS' hacc
theorem kds_call {Q : Value → Shared → Prop} (hh : A.handled = none) (hn : z.cps.size ≤ sizeLine)
    (hQ : ∀ h' tk acc' c', (∀ b o, s.heap.get? b = some o → h'.get? b = some o) → h'.get? s.heap.objs.size = some { cls := .type "list", dict := none, data := .seq acc' c', slots := #[] } → ItemsOf (SignAt z) acc' z.cps.size → Q (.ref s.heap.objs.size) { s with heap := h', toks := tk }) :
    wpAny (model prog w) A (call (.type "list") [.str z t]) Q E s := by
  refine callType_codes (Q₁ := fun obj s₁ => obj = .ref s.heap.objs.size ∧ s₁ = { s with heap := s.heap.push { cls := .type "list", data := .seq #[] } }) PySem.F.called_list (PySem.F.typeCall_list_1 _) PySem.F.entry_list_init
    (code_list_new _ ⟨rfl, rfl⟩) fun obj s₁ h₁ => ?_
  obtain ⟨rfl, rfl⟩ := h₁
  have hS : (s.heap.push { cls := .type "list", data := .seq #[] }).get? s.heap.objs.size = some { cls := .type "list", data := .seq #[] } := Heap.get?_push_size _ rfl
  refine ⟨⟨_, hS, rfl⟩, PySem.F.args_list_init_2 _ _, kds_init (A := A.in1) hh _ hS (fun h' tk acc' c' hk hS' hacc => ?_) hn⟩
  exact ⟨rfl, hQ h' tk acc' c' (fun b o e => hk b o (Nat.ne_of_lt (Heap.lt_size e)) (Heap.get?_push_of_some _ e)) hS' hacc⟩
end
section
variable {X : Cx} {K : Frag}
def sgV (z : Str) : List V := (tl z).map fun c => .str ⟨#[c]⟩
def rListS : List V → Hp → VK → Prop := fun xs H Q => ∃ z, xs = [V.str z] ∧ z.length ≤ sizeLine ∧ ∀ l, H l = none → Q (.ref l) (upd H l (.lst (sgV z)))
theorem call_list_str (hc : X.calm = true) : CallR X (.type "list") rListS := by
  intro pins s σ H xs us Q I r h
  obtain ⟨z, rfl, hz, q⟩ := h
  obtain ⟨u, rfl, rx⟩ := vals1 r
  obtain ⟨t, rfl⟩ := rx
  have hz2 : z.cps.size ≤ sizeLine := hz
  refine kds_call (I.ok.hd hc) hz2 fun h' tk acc c' hk hD hacc => ?_
  have hl : (sgV z).length = z.cps.size := by simp [sgV, tl]
  have hv : Vals (sgV z) acc.toList := by
    have go : ∀ (vs : List V) (us : List Value), us.length = vs.length → (∀ (j : Nat) (u : Value), us[j]? = some u → ∃ v, vs[j]? = some v ∧ RelV v u) → Vals vs us := by
      intro vs
      induction vs with
      | nil => intro us hl _; cases us with | nil => exact .nil | cons _ _ => simp at hl
      | cons v vs ih =>
        intro us hl hj
        cases us with
        | nil => simp at hl
        | cons u us =>
          obtain ⟨v', e, r⟩ := hj 0 u rfl
          simp at e
          subst e
          exact .cons r (ih us (by simpa using hl) fun j u e => hj (j + 1) u (by simpa using e))
    refine go _ _ (by rw [hl, Array.length_toList]; exact hacc.1) fun j u e => ?_
    obtain ⟨c, t', e1, rfl⟩ := hacc.2 j u (by rw [← Array.getElem?_toList]; exact e)
    refine ⟨.str ⟨#[c]⟩, ?_, ⟨t', rfl⟩⟩
    rw [sgV, List.getElem?_map]
    have : (tl z)[j]? = some c := by rw [← e1]; simp [tl]
    rw [this]; rfl
  refine ⟨.ref s.heap.objs.size, upd H s.heap.objs.size (.lst (sgV z)), I.laid (t' := tk) hk (Nat.le_refl _)
    (show ObjOk X.prog X.w _ _ _ (.lst (sgV z)) from ⟨by rw [hl]; exact hz2, acc.toList, c', hv, by rw [Array.toArray_toList]; exact hD⟩), rfl, q _ (I.hok.fresh (Nat.le_refl _))⟩
end
section
variable {K : Frag}
def rListE (K : Frag) : List V → Hp → VK → Prop := fun xs H Q => (∃ p ys, xs = [.ref p] ∧ (SqL K H p ys ∨ SqT K H p ys) ∧ ∀ l, H l = none → Q (.ref l) (upd H l (.lst ys))) ∨ rListS xs H Q
theorem call_listE {X : Cx} (hc : X.calm = true) : CallR X (.type "list") (rListE X.K) := call_list_of.or (call_list_str hc)
def fListE : FA := fun ss st Q => match ss with
  | [s] => match vw st s with
    | some (.list ds) => Q (.d (.list ds)) st
    | some (.tuple ds) => Q (.d (.list ds)) st
    | some (.str z) => z.length ≤ 16777216 ∧ Q (.d (.list (signs z))) st
    | _ => False
  | _ => False
def fListEO : FA := fun ss st Q => match ss with
  | [s] => match vw st s with
    | some (.list ds) => Q (.o st.length) (st ++ [.lst ds])
    | some (.tuple ds) => Q (.o st.length) (st ++ [.lst ds])
    | some (.str z) => z.length ≤ 16777216 ∧ Q (.o st.length) (st ++ [.lst (signs z)])
    | _ => False
  | _ => False
theorem signs_im {W : Addr → Prop} {H : Hp} (z : Str) : ImAll K W H (sgV z) (signs z) := by
  unfold sgV signs
  induction tl z with
  | nil => exact .nil
  | cons c l ih => exact .cons (.str _) ih
theorem rp_strV {Z : Zs} {v : V} {s : Sl} {z : Str} (r : Rp K Z v s) (e : vw Z.st s = some (.str z)) : v = .str z := by
  have i := r.data e fun ds h => by cases h
  cases i
  rfl
theorem cd_listE : CallD K (rListE K) fListE := by
  intro Z vs ss Qd Q ok ra w k
  unfold fListE at w
  split at w
  · obtain ⟨v, rfl, r⟩ := rp1 ra
    split at w
    · rename_i ds e
      obtain ⟨a, xs, rfl, h, q⟩ := r.list ok e
      exact .inl ⟨a, xs, rfl, .inl (.of h), k.newL ok q w⟩
    · rename_i ds e
      obtain ⟨a, xs, rfl, h, q⟩ := r.tuple e
      exact .inl ⟨a, xs, rfl, .inr h.sq, k.newL ok q w⟩
    · rename_i z e
      obtain rfl := rp_strV r e
      exact .inr ⟨z, rfl, w.1, fun l n => k.newL ok (signs_im z) w.2 l n⟩
    · exact w.elim
  · exact w.elim
end
end Pz
set_option maxRecDepth 100000
namespace Pz
open PySem PySem.Spec PyProof.Rows L2 TL
variable [PenC]
section
variable {X : Cx} {E : WXs} {pos : Pos} {K : Frag}
abbrev Zs.cut (Z : Zs) (n : Nat) : Zs := Zs.mk (Z.φ.take n) (Z.st.take n) Z.H Z.F
def kvD (kvs : KD) : List (PyData × PyData) := kvs.map fun kv => (keyD kv.1, kv.2)
def wDispD (r : DP) : DE := fun Ed sl st Q => r Ed sl (st ++ [.dK []]) fun kvs st2 => st2[st.length]? = some (.dK []) ∧ kvs.length ≤ 15 ∧ (∀ c ∈ st2.take st.length, Cl st.length c) ∧ Q (.d (.dict (kvD (mergeD [] kvs)))) (st2.take st.length)
theorem wDispD_ap {r : DP} {Ed : DX} {sl : Sls} {st : Sto} {Q : DK} : wDispD r Ed sl st Q = (r Ed sl (st ++ [.dK []]) fun kvs st2 => st2[st.length]? = some (.dK []) ∧ kvs.length ≤ 15 ∧ (∀ c ∈ st2.take st.length, Cl st.length c) ∧ Q (.d (.dict (kvD (mergeD [] kvs)))) (st2.take st.length)) := rfl
theorem mergeD1 {k : Key} {d : PyData} : mergeD [] [(k, d)] = [(k, d)] := rfl
theorem kvD1 {k : Key} {d : PyData} : kvD [(k, d)] = [(keyD k, d)] := rfl
theorem keyD_s {x : Str} : keyD (.inr x) = .str x := rfl
theorem keyD_i {x : Int} : keyD (.inl x) = .int x := rfl
end
end Pz
set_option maxRecDepth 100000
namespace Pz
open PySem PySem.Spec PyProof.Rows L2 TL PySem.W
variable [PenC]
mutual
theorem nodict_alike : ∀ {d : PyData}, alike d d = true → d.hasDict = false
  | .none, _ => rfl
  | .bool _, _ => rfl
  | .int _, _ => rfl
  | .str _, _ => rfl
  | .list xs, h => by rw [PyData.hasDict]; exact nodict_alikeAll (by simpa [alike] using h)
  | .tuple xs, h => by rw [PyData.hasDict]; exact nodict_alikeAll (by simpa [alike] using h)
  | .dict _, h => by simp [alike] at h
theorem nodict_alikeAll : ∀ {ds : List PyData}, alikeAll ds ds = true → PyData.hasDictAll ds = false
  | [], _ => rfl
  | x :: xs, h => by
    rw [alikeAll, Bool.and_eq_true] at h
    rw [PyData.hasDictAll, nodict_alike h.1, nodict_alikeAll h.2]
    rfl
end
abbrev dsort (ds : List PyData) : List PyData := ds.mergeSort (dataLe false id)
section
variable {X : Cx} {K : Frag}
def rSortedG (K : Frag) : List V → Hp → VK → Prop := fun xs H Q => ∃ (a : Addr) (vs : List V) (ds : List PyData) (W : Addr → Prop), xs = [.ref a] ∧ SqL K H a vs ∧ ImAll K W H vs ds ∧ AllAlike ds ∧ Sortable ds ∧ (∀ d ∈ ds, d.depth ≤ 50) ∧
  ∀ (ws : List V) (p : Addr), ImAll K W H ws (dsort ds) → H p = none → Q (.ref p) (upd H p (.lst ws))
end
def fSortedG : FA := fun ss st Q => match ss with
  | [s] => match vw st s with
    | some (.list ds) => AllAlike ds ∧ Sortable ds ∧ (∀ d ∈ ds, d.depth ≤ 50) ∧ Q (.d (.list (dsort ds))) st
    | _ => False
  | _ => False
end Pz
set_option maxRecDepth 100000
namespace Pz
open PySem PySem.Spec PyProof.Rows L2 TL PySem.W
variable [PenC]
abbrev lsort (zs : List Str) : List Str := zs.mergeSort fun a b => decide ((a.length : Int) ≤ (b.length : Int))
def rSortLen (K : Frag) : List V → Hp → VK → Prop := fun vs H Q => ∃ (a : Addr) (zs : List Str), vs = [V.ref a] ∧ SqL K H a (zs.map V.str) ∧ (∀ z ∈ zs, z.length ≤ sizeLine) ∧ ∀ p, H p = none → Q (.ref p) (upd H p (.lst ((lsort zs).map V.str)))
section
variable {X : Cx} {E : WXs} {e : Expr} {te : DE} {x : Str} {p p2 pos kp : Pos} {K : Frag} {t : TA}
def wSortLen (te : DE) : DE := fun Ed sl st Q => te Ed sl st fun s st => match vw st s with
  | some (.list ds) => ∃ zs, asStrs ds = some zs ∧ (∀ z ∈ zs, z.length ≤ 16777216) ∧ Q (.d (.list ((lsort zs).map .str))) st
  | _ => False
theorem wSortLen_ap {Ed : DX} {sl : Sls} {st : Sto} {Q : DK} : wSortLen te Ed sl st Q = (te Ed sl st fun s st => match vw st s with
  | some (.list ds) => ∃ zs, asStrs ds = some zs ∧ (∀ z ∈ zs, z.length ≤ 16777216) ∧ Q (.d (.list ((lsort zs).map .str))) st
  | _ => False) := rfl
end
end Pz
set_option maxRecDepth 100000
namespace Pz
open PySem PySem.Spec PyProof.Rows L2 TL
variable [PenC]
def KwDs (K : Frag) (w : World) (a : Addr) (kvs : List (Str × V)) : Prop := ∃ es n, K.lookup a = some ⟨.type "dict", none, .dict es n, #[]⟩ ∧ PySem.W.KeysLit w.params es.toList ∧ (a == sysModules) = false ∧
  Paired (fun (p : Str × V) (e : DictEntry) => (∃ t, e.key = .str p.1 t) ∧ RelV p.2 e.val) kvs es.toList
section
variable {X : Cx} {E : WXs} {x : Str} {p apos cpos : Pos} {e f : Expr} {ty tx : TE} {a : Addr} {kvs : List (Str × V)}
end
section
variable {X : Cx} {E : WXs} {x : Str} {p apos cpos : Pos} {e f : Expr} {ty tx : DE} {a : Addr} {kvs : List (Str × V)} {K : Frag}
def dV : V → PyData
  | .int i => .int i
  | .str z => .str z
  | .bl b => .bool b
  | _ => .none
def flV : V → Bool
  | .int _ | .str _ | .bl _ | .non => true
  | _ => false
def wGGet (kvs : List (Str × V)) (ty tx : DE) : DE := fun Ed sl st Q => ty Ed sl st fun t st => tx Ed sl st fun u st => match vw st t with
  | some (.str z) => match kvs.lookup z with
    | some v => Q (.d (dV v)) st
    | none => Q u st
  | _ => False
theorem wGGet_ap {Ed : DX} {sl : Sls} {st : Sto} {Q : DK} : wGGet kvs ty tx Ed sl st Q = (ty Ed sl st fun t st => tx Ed sl st fun u st => match vw st t with
  | some (.str z) => match kvs.lookup z with
    | some v => Q (.d (dV v)) st
    | none => Q u st
  | _ => False) := rfl
end
end Pz
set_option maxRecDepth 100000
namespace Pz
open PySem PySem.Spec PyProof.Rows L2 TL
variable [PenC]
def rMinDf (K : Frag) : List V → List V → Hp → VK → Prop := fun vs zs H Q => ∃ (a : Addr) (ns : List Int) (d : V), vs = [V.ref a] ∧ zs = [d] ∧ (SqL K H a (ns.map V.int) ∨ SqT K H a (ns.map V.int)) ∧ if ns = [] then Q d H else Q (.int (lmin ns)) H
section
variable {X : Cx} {E : WXs} {e f : Expr} {te tx : DE} {x : Str} {p pos kp : Pos} {K : Frag}
def wMinDf (te tx : DE) : DE := fun Ed sl st Q => te Ed sl st fun s st => tx Ed sl st fun u st => ∃ ns, vwJ st s = some ns ∧ if ns = [] then Q u st else Q (.d (.int (lmin ns))) st
theorem wMinDf_ap {Ed : DX} {sl : Sls} {st : Sto} {Q : DK} : wMinDf te tx Ed sl st Q = (te Ed sl st fun s st => tx Ed sl st fun u st => ∃ ns, vwJ st s = some ns ∧ if ns = [] then Q u st else Q (.d (.int (lmin ns))) st) := rfl
end
end Pz
set_option maxRecDepth 100000
namespace Pz
open PySem PySem.Spec PyProof.Rows L2 TL
variable [PenC]
section
variable {X : Cx} {E : WXs} {Z0 : Zs} {a b : Expr} {t : DA} {pos px py pt pt2 : Pos} {x y : Str} {kt k2 : Nat}
def wPar (i j : Nat) (t : DA) : DS := fun D sl st => t D.ex sl st fun ss st => match ss with
  | [a, b] => D.nx ((sl.set i (some a)).set j (some b)) st
  | _ => False
theorem wPar_ap {i j : Nat} {nx bk ct : Sls → Sto → Prop} {rt : DK} {ex : DX} {sl : Sls} {st : Sto} : wPar i j t ⟨nx, rt, ex, bk, ct⟩ sl st = t ex sl st fun ss st => match ss with
  | [a, b] => nx ((sl.set i (some a)).set j (some b)) st
  | _ => False := rfl
end
end Pz
set_option maxRecDepth 100000
namespace Pz
open PySem PySem.Spec PyProof.Rows L2 TL
variable [PenC]
def rShowW (K : Frag) : List V → Hp → VK → Prop := fun xs H Q => rShow K xs H Q ∨ ∃ (a : Addr) (ds : List PyData) (W : Addr → Prop), xs = [.ref a] ∧ Im K W H (.ref a) (.list ds) ∧ (∀ d ∈ ds, itOk d) ∧ (PyData.list ds).depth ≤ 60 ∧ (PyData.list ds).shown.length ≤ sizeLine ∧ Q (.str (PyData.list ds).shown) H
structure RepW (ds : List PyData) : Prop where
  ok : ∀ d ∈ ds, itOk d
  st : PyData.strOk (PyData.list ds).shown = true
  ln : (PyData.list ds).shown.length ≤ sizeLine
  dp : (PyData.list ds).depth ≤ 60
def RepA (d : PyData) : Prop := RepOk d ∨ ∃ ds, d = .list ds ∧ RepW ds
theorem RepA.sh {d : PyData} (h : RepA d) : SeqAt.shaped (.str d.shown) = true := by
  rcases h with h | ⟨ds, rfl, h⟩
  · exact h.sh
  · exact sh_str h.st
def fRepW : FA := fun ss st Q => match ss with
  | [.d d] => RepA d ∧ Q (.d (.str d.shown)) st
  | _ => False
section
variable {K : Frag}
def fBool : FA := fun ss st Q => match ss with
  | [s] => match vw st s with
    | some (.int i) => Q (.d (.bool (i != 0))) st
    | some (.bool b) => Q (.d (.bool b)) st
    | _ => False
  | _ => False
end
end Pz
set_option maxRecDepth 100000
namespace Pz
open PySem PySem.Spec PyProof.Rows L2 TL
variable [PenC]
def ItW (w : Nat) (d : PyData) : Prop := RepP w 10 d ∨ d = .dict []
theorem ItW.len {w : Nat} {d : PyData} (h : ItW w d) (hw : 2 ≤ w) : d.shown.length ≤ w ∧ PyData.strOk d.shown = true ∧ d.depth ≤ 10 ∧ itOk d := by
  rcases h with h | rfl
  · exact ⟨Nat.le_trans (shown_wt h.ok) h.wt, strOk_shown h.ok, h.dp, .inl h.ok⟩
  · rw [shown_dn]
    exact ⟨by rw [len_lit, show "{}".length = 2 by decide +kernel]; exact hw, strOk_lit, by decide +kernel, .inr rfl⟩
end Pz
set_option maxRecDepth 100000
namespace Pz
open PySem PySem.Spec PyProof.Rows L2 TL
variable [PenC]
section
variable {K : Frag}
def mSplitO : FM := fun s ss st Q => match ss with
  | [t] => match vw st s, vw st t with
    | some (.str a), some (.str b) => b.length ≠ 0 ∧ a.length + 2 ≤ sizeLine ∧ Q (.o st.length) (st ++ [.lst ((Txt.split a b).map .str)])
    | _, _ => False
  | _ => False
end
end Pz
set_option maxRecDepth 100000
set_option maxHeartbeats 2000000
namespace Lz
open PySem PySem.Spec PyProof.Rows L2 LamX
abbrev lamQ (X : Cx) : Str := X.env.qual ++ "<lambda>"
section
variable {X : Cx} {pins : List (Addr × Obj)} {σ : L2.St} {H : Hp} {s : Shared}
def Grown (H H1 : Hp) (P c : Addr) (q : Str) : Prop := H1 = H ∨ ∃ (ps : Array Value) (pos : Pos), H P = some (.tbl ps) ∧ TriplesOk ps.toList ∧ H c = none ∧ H1 = upd (upd H P (.tbl (ps ++ #[rawInt pos.line, rawInt pos.col, .ref c]))) c (CodeO c q)
theorem make {T : List (Addr × Str)} {c P : Addr} {params : Arguments} {body : Expr} {scope : Scope} {pos : Pos} {E Q : Value → Shared → Prop} (J : Inv X pins σ H s) (B : TabB X.base X.mg c P) (ec : X.env.code = .ref c)
    (inT : (P, lamQ X) ∈ T) (one : ∀ p ∈ T, p.1 = P → p.2 = lamQ X) (tabs : Tabs T H) (nodef : defaultsOf params X.env = ([], [])) (caps : ∀ y ∈ scope.names, y.2 = .free → ∃ z, X.env.cells.lookup y.1 = some z)
    (fin : ∀ (f d : Addr) (pm ct : Value) (H1 : Hp) (s1 : Shared), Inv X pins σ H1 s1 → Grown H H1 P d (lamQ X) → Tabs T H1 →
      s1.heap.get? f = some (PySem.W.kla_obj "<lambda>" (lamQ X) params body scope (cloFrom X.env.cells scope.names []) pm d ct) → H1 f = none → f ∉ frs X.stack → H1 d = some (CodeO d (lamQ X)) → (H d = none ∨ ∃ ps pos, H P = some (.tbl ps) ∧ codeAmong pos ps.toList = some (.ref d)) → Q (.ref f) s1) :
    wpAny (model X.prog X.w) X.A (eval (.Lambda params body scope pos) X.env) Q E s := by
  obtain ⟨ps, eP, tr, old⟩ := tabs _ inT
  dsimp only at eP old
  have bm := B.bm.keeps J.bk
  have hP : s.heap.get? P = some { cls := .none, data := .fields ps } := J.hok P _ eP
  have away : ∀ f, s.heap.objs.size ≤ f → f ∉ frs X.stack := fun f le m => by
    rcases List.mem_cons.mp (J.stkSub _ m) with e | e
    · have := J.lt
      rw [← e] at this
      exact Nat.not_lt.mpr le this
    · exact J.nofs le e
  apply PySem.W.kla_eval nodef
  cases at? : codeAmong pos ps.toList with
  | some cv =>
    obtain ⟨d, rfl, hd⟩ := old pos cv at?
    apply PySem.W.kla_makeFunctionHit (mg := X.mg) (c := c) (P := P) (ps := ps) (closure_ok caps) J.ok.glob (J.mod.glob.keeps J.bk) ec (B.code.keeps J.bk) hP tr at? bm
    intro ct h2 tk ext hsz
    refine fin h2.objs.size d ((X.mg "__name__").getD .none) ct H _ (J.kept fun b o e => Heap.get?_push_of_some _ (ext b o e)) (.inl rfl) tabs (Heap.get?_push_size _ rfl) (J.hok.fresh hsz) (away _ hsz) hd (.inr ⟨ps, pos, eP, at?⟩)
  | none =>
    apply PySem.W.kla_makeFunction (mg := X.mg) (c := c) (P := P) (ps := ps) (closure_ok caps) J.ok.glob (J.mod.glob.keeps J.bk) ec (B.code.keeps J.bk) hP tr at? B.gP bm
    rintro d ct h2 tk ext hge hlt ⟨d2, oc, vs, t, ed, q1, q2, q3⟩ htb
    cases ed
    have nd : H d = none := J.hok.fresh hge
    have big : s.heap.objs.size ≤ h2.objs.size := by omega
    have dP : P ≠ d := ne_of_none eP nd
    have J1 := inv_table (t' := tk) (more := #[rawInt pos.line, rawInt pos.col, .ref d]) (h' := h2.push (PySem.W.kla_obj "<lambda>" (lamQ X) params body scope (cloFrom X.env.cells scope.names []) ((X.mg "__name__").getD .none) d ct)) J eP
      (fun b o hb e => Heap.get?_push_of_some _ (ext b o hb e)) (Heap.get?_push_of_some _ htb) hge ⟨oc, vs, t, Heap.get?_push_of_some _ q1, q2, q3⟩
    have more : (ps ++ #[rawInt pos.line, rawInt pos.col, .ref d]).toList = ps.toList ++ [rawInt pos.line, rawInt pos.col, .ref d] := by simp
    have keep : ∀ z q, H z = some (CodeO z q) → upd (upd H P (.tbl (ps ++ #[rawInt pos.line, rawInt pos.col, .ref d]))) d (CodeO d (lamQ X)) z = some (CodeO z q) := fun z q e => by
      have zP : z ≠ P := fun y => by
        rw [y, eP] at e
        exact codeO_ne ps (Option.some.inj e).symm
      rw [upd_ne (ne_of_none e nd), upd_ne zP]
      exact e
    refine fin h2.objs.size d ((X.mg "__name__").getD .none) ct _ _ J1 (.inr ⟨ps, pos, eP, tr, nd, rfl⟩) (fun p hp => ?_) (Heap.get?_push_size _ rfl) ?_ (away _ big) upd_same (.inl nd)
    · obtain ⟨us, a1, a2, a3⟩ := tabs p hp
      by_cases hb : p.1 = P
      · rw [hb, eP] at a1
        cases a1
        rw [one p hp hb, hb]
        refine ⟨_, by rw [upd_ne dP, upd_same], by rw [more]; exact PySem.TriplesOk_snoc _ _ _ _ tr, fun p' cv hc => ?_⟩
        rw [more] at hc
        rcases among_app _ tr hc with z | z
        · obtain ⟨e0, r1, r2⟩ := old p' cv z
          exact ⟨e0, r1, keep _ _ r2⟩
        · exact ⟨d, z, upd_same⟩
      · refine ⟨us, by rw [upd_ne (ne_of_none a1 nd), upd_ne hb]; exact a1, a2, fun p' cv hc => ?_⟩
        obtain ⟨e0, r1, r2⟩ := a3 p' cv hc
        exact ⟨e0, r1, keep _ _ r2⟩
    · have m1 : h2.objs.size ≠ d := by omega
      have m2 : h2.objs.size ≠ P := Nat.ne_of_gt (Nat.lt_of_lt_of_le (Heap.lt_size hP) big)
      rw [upd_ne m1, upd_ne m2]
      exact J.hok.fresh big
end
end Lz
set_option maxRecDepth 100000
set_option maxHeartbeats 2000000
namespace Pz
open PySem PySem.Spec PyProof.Rows L2 TL Lz
variable [PenC]
abbrev LAct := (Str → List (Str × PyData) → Prop) → (PyData → Prop) → Prop
def LAct.Mono (A : LAct) : Prop := ∀ e e' k k', (∀ c fs, e c fs → e' c fs) → (∀ d, k d → k' d) → A e k → A e' k'
def wAct (i : Nat) (f : Addr) (W0 : Addr → Prop) (H0 : Hp) (A : LAct) : DE := fun Ed sl st Q => nthS sl i = some (.l f W0 H0) ∧ A (fun c fs => Ed c fs sl st) fun d => Q (.d d) st
theorem wAct_ap {i : Nat} {f : Addr} {W0 : Addr → Prop} {H0 : Hp} {A : LAct} {Ed : DX} {sl : Sls} {st : Sto} {Q : DK} : wAct i f W0 H0 A Ed sl st Q = (nthS sl i = some (.l f W0 H0) ∧ A (fun c fs => Ed c fs sl st) fun d => Q (.d d) st) := rfl
structure Acts (X : Cx) (a : Str) (f : Addr) (W0 : Addr → Prop) (H0 : Hp) (A : LAct) : Prop where
  run : ∀ (W : WXs) (pn : List (Addr × Obj)) (xe : Value → Shared → Prop) (p1 p2 : Pos), Takes (X.tr pn xe) W → DEx (X.tr pn xe) W (.Call (.Name a p1) [] [] p2) (wAct 0 f W0 H0 A)
def LamAt (base : Heap) (mg : Str → Option Value) (c : Addr) (q : Str) : Prop := ∃ P, LamX.TabB base mg c P ∧ (P, q) ∈ TabC.T ∧ ∀ p ∈ TabC.T, p.1 = P → p.2 = q
def HeardD (P : Program) (w : World) (K : Frag) (mg : Str → Option Value) (base : Heap) (k : Nat) (g : Addr) (x : Str) (st : Stmt) (N : List Str) (a : Str) (Φ : LAct → (PyData → Prop) → Prop) : Prop :=
  ∀ (cdv : Value) (A : Around) (outer : List Env) (s : Shared) (H : Hp) (E : XK) (Z0 : Zs) (f : Addr) (W0 : Addr → Prop) (H0 : Hp) (Ar : LAct), A.guards = some [] → Room k (A.deeper (envOfC x (defScope st) s.heap.objs.size g cdv)) → Z0.st.length = 0 → Ar.Mono →
    Acts (cxOf CX0 P w K mg base N x (defScope st) g cdv A outer s H E).nox a f W0 H0 Ar →
    ∃ τ : DS, DSs (cxOf CX0 P w K mg base N x (defScope st) g cdv A outer s H E).nox W0s Z0 (defBody st) τ ∧ ∀ Qd : DK, Φ Ar (fun d => Qd (.d d) []) → τ (endD 0 Qd) (startS N [.l f W0 H0]) []
where W0s : WXs := fun _ _ _ _ => False
def datO : Option Sl → Option Sl
  | some (.d x) => some (.d x)
  | some (.f ns) => some (.f ns)
  | _ => none
def datQ (k : PyData → Prop) : DK := fun s st => match s, st with
  | .d d, [] => k d
  | _, _ => False
theorem datQ_d {k : PyData → Prop} {d : PyData} : datQ k (.d d) [] = k d := rfl
def mkAct (τ : DE) (sl : Sls) : LAct := fun e k => ∃ (e0 : Str → List (Str × PyData) → Prop) (k0 : PyData → Prop), (∀ c fs, e0 c fs → e c fs) ∧ (∀ d, k0 d → k d) ∧ τ (fun c fs _ _ => e0 c fs) sl [] fun s st => Ret 0 s st (datQ k0)
def wLam (Φ : LAct → (PyData → Prop) → Prop) (τ : DE) : DE := fun Ed sl st Q => Φ (mkAct τ (sl.map datO)) fun d => Q (.d d) st
theorem wLam_ap {Φ : LAct → (PyData → Prop) → Prop} {τ : DE} {Ed : DX} {sl : Sls} {st : Sto} {Q : DK} : wLam Φ τ Ed sl st Q = Φ (mkAct τ (sl.map datO)) (fun d => Q (.d d) st) := rfl
theorem Stay.refl {W : Addr → Prop} {H : Hp} : Stay W W H H := Stay.less fun _ w => w
section
variable {K : Frag} {Z : Zs} {H1 : Hp} {P c : Addr} {q : Str}
end
section
variable {X : Cx} {E : WXs} {k : Nat} {x a : Str} {g c P : Addr} {fd : FuncData} {st : Stmt} {Ng : List Str} {Φ : LAct → (PyData → Prop) → Prop} {τ : DE} {params : Arguments} {body : Expr} {scope : Scope} {p lpos pos : Pos}
end
end Pz
set_option maxRecDepth 100000
set_option maxHeartbeats 2000000
namespace Pz
open PySem PySem.Spec PyProof.Rows L2 TL Lz
structure FunC (K : Frag) (x qual : Str) (st : Stmt) (f : Addr) (fd : FuncData) (c : Addr) : Prop where
  ex : ∃ (oc : Value) (od : Option Addr) (kV doc pm : Value) (an : Option Addr) (ct : Value) (osl : Array (Option Value)),
    fd = PySem.W.fnOf x qual (defArgs st) (defBody st) (defScope st) .none kV doc pm an (.ref c) ct ∧ K.lookup f = some ⟨oc, od, .func fd, osl⟩ ∧ PySem.W.codeIn K (.ref c) qual = true
  kp : PySem.W.keepIn K (.ref f) = true
theorem FunC.F {K : Frag} {x qual : Str} {st : Stmt} {f : Addr} {fd : FuncData} {c : Addr} (h : FunC K x qual st f fd c) : L2.Fun K x qual st f fd :=
  ⟨let ⟨oc, od, kV, doc, pm, an, ct, osl, r⟩ := h.ex; ⟨oc, od, kV, doc, pm, an, .ref c, ct, osl, r⟩, h.kp⟩
structure FAtC (K : Frag) (mg : Str → Option Value) (x : Str) (st : Stmt) (ps : List Str) (f : Addr) (fd : FuncData) (c : Addr) : Prop where
  C : FunC K x x st f fd c
  F : L2.Fun K x x st f fd
  g : mg x = some (.ref f)
  b : Binds K fd ps []
abbrev qLam (x : Str) : Str := x ++ ".<locals>." ++ "<lambda>"
section
variable [PenC]
variable {P : Program} {w : World} {K : Frag} {mg : Str → Option Value} {base : Heap} {CX : CXT} {j k : Nat} {f c : Addr} {fd : FuncData} {ps N : List Str} {sp sp' : Sp} {dsp : DSp} {x qual : Str} {st : Stmt}
end
def OnlyT (cs : List (Addr × Addr)) (H : Hp) : Prop := (∀ p ∈ cs, H p.2 = some (.tbl #[])) ∧ ∀ b, H b = none ∨ (∃ p ∈ cs, p.2 = b) ∨ ∃ o xs, H b = some (.frz o (.lst xs))
def tabIn (K : Frag) (c : Addr) : Option Addr := match K.lookup c with
  | some ⟨_, _, .fields vs, _⟩ => match (vs[11]? : Option Value) with
    | some (Value.ref P) => some P
    | _ => none
  | _ => none
def TabAtK (K : Frag) (mg : Str → Option Value) (q : Program) (p : Addr × Addr × Str) : Prop := tabIn K p.1 = some p.2.1 ∧ K.lookup p.2.1 = none ∧
  ∃ (x : Str) (f : Addr) (oc : Value) (od : Option Addr) (fd : FuncData) (osl : Array (Option Value)), (recsOf q).any (fun d => d.name == x) = true ∧ mg x = some (.ref f) ∧ K.lookup f = some ⟨oc, od, .func fd, osl⟩ ∧ fd.code = .ref p.1
theorem TabAtK.at {K : Frag} {mg mb : Str → Option Value} {q : Program} {loose : List Str} {mean : ExcName → Option Value} {h : Heap} {p : Addr × Addr × Str} (T : Top q loose mean mg mb h) (X : K.In h) (t : TabAtK K mg q p) : h.get? p.2.1 = some { cls := .none, data := .fields #[] } ∧ PySem.W.CodeHd h p.1 p.2.1 := by
  obtain ⟨h1, h2, x, f, oc, od, fd, osl, h3, h4, h5, h6⟩ := t
  obtain ⟨d, hd, hx⟩ := List.any_eq_true.mp h3
  obtain ⟨a, o, fd', c, P, e1, e2, e3, e4, e5, e6⟩ := T.tab d hd
  have hx : d.name = x := by simpa using hx
  rw [hx, h4] at e1
  cases e1
  have e7 := X _ _ h5
  rw [e2] at e7
  cases e7
  cases e3
  rw [h6] at e4
  cases e4
  have e6' := e6
  obtain ⟨⟨oo, vs, g1, g2, g3, g4⟩, g5⟩ := e6
  unfold tabIn at h1
  cases hl : K.lookup p.1 with
  | none => rw [hl] at h1; cases h1
  | some ob =>
    have e8 := X _ _ hl
    rw [g1] at e8
    cases e8
    rw [hl] at h1
    obtain ⟨oc1, od1, dt1, sl1⟩ := oo
    dsimp only at g3 h1
    subst g3
    dsimp only at h1
    rw [g4] at h1
    dsimp only at h1
    cases h1
    exact ⟨g5, PySem.W.CodeHd.of e5 e6'⟩
def LawAtT (P : Program) (w : World) (K : Frag) (CX : CXT) (k n : Nat) (x : Str) (mg : Str → Option Value) (fa : Addr) (q : Program) : Prop :=
  ∃ (cs : List (Addr × Addr × Str)) (I : PenC) (law : DSp) (fd : FuncData), I.toTabC.T = cs.map (fun p => (p.2.1, p.2.2)) ∧ (∀ p ∈ cs, TabAtK K mg q p) ∧ (∀ (s : Shared) (u : Value), BindsTo s fd ⟨[u], []⟩ [(x, u)]) ∧
    (∀ ns : List Int, ns.length ≤ n → (∀ z ∈ ns, Builtin.Int.intBits z ≤ 1048576) → law [.f ns] [] (fun s _ => s = .d (.bool true)) fun _ _ _ => False) ∧
    ∀ base : Heap, K.In base → base.Ns mainGlobals mg → (∀ p ∈ cs, LamX.TabB base mg p.1 p.2.1) → @FnD I.toTabC P w K mg base CX k fa fd [x] law
class TTC where
  tt : List (Addr × Str)
section
variable [PenC]
def rCountD (K : Frag) : V → List V → Hp → VK → Prop := fun x xs H Q => ∃ (a : Addr) (y : V) (d : PyData) (ds : List PyData), x = V.ref a ∧ xs = [y] ∧ Dp K H (V.ref a) (.list ds) ∧ Dp K H y d ∧ SeqAt.shaped (.list ds) = true ∧ SeqAt.shaped d = true ∧ Q (.int (ds.countP fun z => PyData.eqv z d : Nat)) H
def mCount : FM := fun s ss st Q => match ss with
  | [t] => match vw st s, vw st t with
    | some (.list ds), some d => SeqAt.shaped (.list ds) = true ∧ SeqAt.shaped d = true ∧ Q (.d (.int (ds.countP fun z => PyData.eqv z d : Nat))) st
    | _, _ => False
  | _ => False
def mCountS : FM := fun s ss st Q => match vw st s, ss with
  | some (.str a), [t] => match vw st t with
    | some (.str b) => Q (.d (.int (Txt.count a b))) st
    | _ => False
  | _, _ => False
end
end Pz
set_option maxRecDepth 100000
namespace Rz
open PySem PySem.Spec PyProof.Rows L2
section
variable {X : Cx} {e : Expr} {te : TE} {t : TA} {i : Nat} {x y c d : Str} {j0 j1 : Nat} {p1 p2 c0 c1 b0 apos cpos spos : Pos} {rest : List Stmt} {u : TS}
def tRepM (to te : TE) (c d : Str) : TE := fun σ H Q => to σ H fun v H1 => ∃ a, v = .str a ∧ te σ H1 fun w H2 => ∃ n : Int, w = .int n ∧ 0 ≤ n ∧ n ≤ 1000000 ∧ d.length * n.toNat ≤ sizeLine ∧ (c == Txt.mul d n) = false ∧ a.length + (a.length + 1) * (Txt.mul d n).length ≤ 16777216 ∧ Q (.str (Txt.replace a c (Txt.mul d n))) H2
end
end Rz
namespace Pz
open PySem PySem.Spec PyProof.Rows L2 TL Rz
variable [PenC]
section
variable {X : Cx} {E : WXs} {Z0 : Zs} {rest : List Stmt} {st : Stmt} {u v : DS} {e : Expr} {te to : DE} {t : DA} {i : Nat} {x c d : Str} {j0 j1 : Nat} {p1 p2 c0 c1 b0 apos cpos spos : Pos}
structure DSsT (X : Cx) (E : WXs) (Z0 : Zs) (st : List Stmt) (τ : DS) : Prop where
  run : PSsT X st (upS X.K E Z0 τ)
structure DStT (X : Cx) (E : WXs) (Z0 : Zs) (st : Stmt) (τ : DS) : Prop where
  run : PST X st (upS X.K E Z0 τ)
theorem DSs.T (h : DSs X E Z0 rest u) : DSsT X E Z0 rest u := ⟨PSsT.of h.run⟩
theorem DSt.T (h : DSt X E Z0 st u) : DStT X E Z0 st u := ⟨PST.of h.run⟩
def wRep (to te : DE) (c d : Str) : DE := fun Ed sl st Q => to Ed sl st fun s st => ∃ a, vw st s = some (.str a) ∧ te Ed sl st fun s2 st => ∃ n : Int, vw st s2 = some (.int n) ∧ 0 ≤ n ∧ n ≤ 1000000 ∧ d.length * n.toNat ≤ sizeLine ∧ (c == Txt.mul d n) = false ∧ a.length + (a.length + 1) * (Txt.mul d n).length ≤ 16777216 ∧ Q (.d (.str (Txt.replace a c (Txt.mul d n)))) st
theorem wRep_ap {Ed : DX} {sl : Sls} {st : Sto} {Q : DK} : wRep to te c d Ed sl st Q = (to Ed sl st fun s st => ∃ a, vw st s = some (.str a) ∧ te Ed sl st fun s2 st => ∃ n : Int, vw st s2 = some (.int n) ∧ 0 ≤ n ∧ n ≤ 1000000 ∧ d.length * n.toNat ≤ sizeLine ∧ (c == Txt.mul d n) = false ∧ a.length + (a.length + 1) * (Txt.mul d n).length ≤ 16777216 ∧ Q (.d (.str (Txt.replace a c (Txt.mul d n)))) st) := rfl
end
end Pz
set_option maxRecDepth 100000
set_option maxHeartbeats 1000000
namespace Zm
open PySem PySem.Spec PyProof.Rows L2
section
variable {prog : Program} {w : World} {A : Around} {E : Value → Shared → Prop} {s : Shared}
structure Src (prog : Program) (w : World) (A : Around) (it l : Addr) (S : Nat → Heap → Prop) (xs : Array Value) : Prop where
  item : ∀ {k : Nat} {x : Value} {s : Shared} {Q : Value → Shared → Prop} {E : Value → Shared → Prop}, S k s.heap → xs[k]? = some x → (∀ h', S (k + 1) h' → Heap.SameBut it s.heap h' → Q x { s with heap := h' }) → wpAny (model prog w) A (Builtin.SmallTypes.nextOf (.ref it)) Q E s
  ends : ∀ {k : Nat} {s : Shared} {Q : Value → Shared → Prop} {E : Value → Shared → Prop}, A.handled = none → S k s.heap → xs[k]? = none → (∀ h' e, Heap.ExtBut it s.heap h' → (∃ o, h'.get? e = some o ∧ o.cls = .type "StopIteration") → E (.ref e) { s with heap := h' }) → wpAny (model prog w) A (Builtin.SmallTypes.nextOf (.ref it)) Q E s
  keep : ∀ {k : Nat} {h h' : Heap}, S k h → (∀ c o, (c = it ∨ c = l) → h.get? c = some o → h'.get? c = some o) → S k h'
variable {z TI TO i1 i2 l1 l2 : Addr} {k : Nat} {xs ys : Array Value} {x y a b : Value} {S1 S2 : Nat → Heap → Prop}
abbrev mH1 (h : Heap) (l1 : Addr) : Heap := h.push { cls := .type "list_iterator", data := .fields #[.ref l1, .int 0 0] }
abbrev mH2 (h : Heap) (l1 l2 : Addr) : Heap := (mH1 h l1).push { cls := .type "tuple_iterator", data := .fields #[.ref l2, .int 0 0] }
abbrev mH3 (h : Heap) (l1 l2 : Addr) : Heap := (mH2 h l1 l2).push { cls := .type "tuple", data := .seq #[.ref h.objs.size, .ref (mH1 h l1).objs.size] }
abbrev mH4 (h : Heap) (l1 l2 : Addr) : Heap := (mH3 h l1 l2).push { cls := .type "tuple", data := .seq #[.none, .none] }
abbrev mH5 (h : Heap) (l1 l2 : Addr) : Heap := (mH4 h l1 l2).push { cls := .type "zip", data := .fields #[.none, .bool false, .bool false, .ref (mH2 h l1 l2).objs.size, .ref (mH3 h l1 l2).objs.size] }
theorem meets_new (l1 l2 : Addr) (xs ys : Array Value) :
    Meets (Builtin.«zip.__new__» ⟨[.type "zip", .ref l1, .ref l2], []⟩) (fun _ R s => s.heap.IsList l1 xs ∧ s.heap.IsTuple l2 ys ∧
      R (.ok (.ret (.ref (mH4 s.heap l1 l2).objs.size))) { s with heap := mH5 s.heap l1 l2 }) :=
  .of_wp fun prog w A R s h => by
    obtain ⟨hp, g, d, tk, os⟩ := s; obtain ⟨hl1, hl2, h⟩ := h
    have hsub := sub_zip
    have hL1 : Heap.IsList (Shared.heap ⟨hp, g, d, tk, os⟩) l1 xs := hl1
    have hL2 : Heap.IsTuple (Shared.heap ⟨hp.push { cls := .type "list_iterator", data := .fields #[.ref l1, .int 0 0] }, g, d, tk, os⟩) l2 ys := Heap.IsTuple.push hl2 _
    wp_walk using wpAny_pyIter_list hL1, wpAny_pyIter_tuple hL2
    exact ⟨_, rfl, h⟩
theorem call_new {Q : Value → Shared → Prop} (hl1 : s.heap.IsList l1 xs) (hl2 : s.heap.IsTuple l2 ys)
    (h : ∀ h', IsZip h' (s.heap.objs.size + 4) (s.heap.objs.size + 2) (s.heap.objs.size + 3) .none → IsPair h' (s.heap.objs.size + 2) (.ref s.heap.objs.size) (.ref (s.heap.objs.size + 1)) →
      IsPair h' (s.heap.objs.size + 3) .none .none → h'.IsListIter s.heap.objs.size l1 0 → h'.IsTupleIter (s.heap.objs.size + 1) l2 0 →
      (∀ c o, s.heap.get? c = some o → h'.get? c = some o) → Q (.ref (s.heap.objs.size + 4)) { s with heap := h' }) :
    wpAny (model prog w) A (call (.type "zip") [.ref l1, .ref l2]) Q E s := by
  refine callType_new F.called_zip (by decide) (F.typeCall_zip_2 _ _) (F.newCall_zip_2 _ _) (fun obj => F.args_object_init_3 obj _ _) F.entry_zip_new (meets_new l1 l2 xs ys) ⟨hl1, hl2, ?_⟩
  have n1 : (mH1 s.heap l1).objs.size = s.heap.objs.size + 1 := Heap.size_push ..
  have n2 : (mH2 s.heap l1 l2).objs.size = s.heap.objs.size + 2 := by rw [Heap.size_push, n1]
  have n3 : (mH3 s.heap l1 l2).objs.size = s.heap.objs.size + 3 := by rw [Heap.size_push, n2]
  have n4 : (mH4 s.heap l1 l2).objs.size = s.heap.objs.size + 4 := by rw [Heap.size_push, n3]
  have on : ∀ {h : Heap} {ob o : Obj} {c : Addr}, h.get? c = some o → (h.push ob).get? c = some o := fun q => Heap.get?_push_of_some _ q
  have g5 : (mH5 s.heap l1 l2).get? (mH4 s.heap l1 l2).objs.size = some _ := Heap.get?_push_size _ rfl
  have g4 : (mH5 s.heap l1 l2).get? (mH3 s.heap l1 l2).objs.size = some _ := on (Heap.get?_push_size _ rfl)
  have g3 : (mH5 s.heap l1 l2).get? (mH2 s.heap l1 l2).objs.size = some _ := on (on (Heap.get?_push_size _ rfl))
  have g2 : (mH5 s.heap l1 l2).get? (mH1 s.heap l1).objs.size = some _ := on (on (on (Heap.get?_push_size _ rfl)))
  have g1 : (mH5 s.heap l1 l2).get? s.heap.objs.size = some _ := on (on (on (on (Heap.get?_push_size _ rfl))))
  show _ ∧ _
  rw [n2, n3, n4] at g5
  rw [n1, n2] at g3
  rw [n3] at g4
  rw [n1] at g2
  rw [n4]
  exact ⟨⟨_, g5, rfl⟩, h _ g5 g3 g4 ⟨_, g1, rfl, rfl⟩ ⟨_, g2, rfl, rfl⟩ fun c o q => on (on (on (on (on q))))⟩
end
def ItM (K : PySem.W.Frag) (a b : Addr) : It :=
  ⟨fun i H => ∃ (xs ys : List V) (x y : V), SqL K H a xs ∧ SqT K H b ys ∧ xs[i]? = some x ∧ ys[i]? = some y,
    fun i H v H' => ∃ T x y, v = .ref T ∧ H T = none ∧ H' = upd H T (.tup [x, y]) ∧ (∀ xs, SqL K H a xs → xs[i]? = some x) ∧ ∀ ys, SqT K H b ys → ys[i]? = some y,
    fun i H => ∃ xs ys : List V, SqL K H a xs ∧ SqT K H b ys ∧ (xs.length ≤ i ∨ ys.length ≤ i)⟩
def iZipM (K : PySem.W.Frag) (ta : TA) : TI := fun σ H R => ta σ H fun vs H1 => ∃ a b xs ys, vs = [.ref a, .ref b] ∧ SqL K H1 a xs ∧ SqT K H1 b ys ∧ R (ItM K a b) H1
end Zm
namespace Pz
open PySem PySem.Spec PyProof.Rows L2 TL
variable [PenC]
variable {X : Cx} {E : WXs} {Z0 : Zs} {K : Frag} {t : DA} {e e2 : Expr} {p pos tpos : Pos} {elts : List Expr} {kk : Nat}
def wZipM (te : DA) : DI := fun Ed sl st Q => te Ed sl st fun ss st => match ss with
  | [.d (.list ds), .d (.tuple es)] => Q (zipD ds es) st
  | _ => False
theorem wZipM_ap {te : DA} {Ed : DX} {sl : Sls} {st : Sto} {Q : List PyData → Sto → Prop} : wZipM te Ed sl st Q = (te Ed sl st fun ss st => match ss with
  | [.d (.list ds), .d (.tuple es)] => Q (zipD ds es) st
  | _ => False) := rfl
end Pz
set_option maxRecDepth 100000
namespace Pz
open PySem PySem.Spec PyProof.Rows L2 TL PySem.W
variable [PenC]
def tLenSetT (K : Frag) (ta : TE) : TE := fun σ H Q => ta σ H fun x H1 => ∃ (l : Addr) (ks : List (Addr × List Int)), x = V.ref l ∧ SqL K H1 l (ks.map fun p => V.ref p.1) ∧ (∀ p ∈ ks, SqT K H1 p.1 (p.2.map V.int)) ∧ ks.length < 64 ∧ ∀ M : List (List Int), M.Nodup → (∀ k, k ∈ M ↔ k ∈ ks.map (·.2)) → Q (.int M.length) H1
section
variable {X : Cx} {E : WXs} {a : Expr} {ta : TE} {te : DE} {p p2 q pos : Pos} {K : Frag}
def wLenSet (te : DE) : DE := fun Ed sl st Q => te Ed sl st fun s st => match vw st s with
  | some (.list ds) => ∃ kss : List (List Int), ds = kss.map (fun k => .tuple (k.map .int)) ∧ kss.length < 64 ∧ ∀ M : List (List Int), M.Nodup → (∀ k, k ∈ M ↔ k ∈ kss) → Q (.d (.int M.length)) st
  | _ => False
theorem wLenSet_ap {Ed : DX} {sl : Sls} {st : Sto} {Q : DK} : wLenSet te Ed sl st Q = (te Ed sl st fun s st => match vw st s with
  | some (.list ds) => ∃ kss : List (List Int), ds = kss.map (fun k => .tuple (k.map .int)) ∧ kss.length < 64 ∧ ∀ M : List (List Int), M.Nodup → (∀ k, k ∈ M ↔ k ∈ kss) → Q (.d (.int M.length)) st
  | _ => False) := rfl
end
end Pz
set_option maxRecDepth 100000
namespace Pz
open PySem PySem.Spec PyProof.Rows L2 TL PySem.W
variable [PenC]
def borS : Option Sl → Option Sl
  | some (.d x) => some (.d x)
  | _ => none
def atomD : PyData → Bool
  | .int _ => true
  | .bool _ => true
  | .str _ => true
  | .none => true
  | _ => false
def wBor (i : Nat) (te : DE) : DE := fun _ sl st Q => match nthS sl i with
  | some (.o h) => match st[h]? with
    | some (.lst ds) => te (fun _ _ _ _ => False) ((sl.map borS).set i (some (.d (.list ds)))) [] fun s _ => match s with
      | .d x => atomD x = true ∧ Q (.d x) st
      | _ => False
    | _ => False
  | _ => False
theorem wBor_ap {i : Nat} {te : DE} {Ed : DX} {sl : Sls} {st : Sto} {Q : DK} : wBor i te Ed sl st Q = (match nthS sl i with
  | some (.o h) => match st[h]? with
    | some (.lst ds) => te (fun _ _ _ _ => False) ((sl.map borS).set i (some (.d (.list ds)))) [] fun s _ => match s with
      | .d x => atomD x = true ∧ Q (.d x) st
      | _ => False
    | _ => False
  | _ => False) := rfl
end Pz
set_option maxRecDepth 100000
namespace Pz
open PySem PySem.Spec PyProof.Rows L2 TL PySem.W
variable [PenC]
def gTpL (n : Nat) (gs : DGL) : DG := fun s sl st Q => match vw st s with
  | some (.list ds) => ds.length = n ∧ gs ds sl st Q
  | _ => False
theorem gTpL_ap {n : Nat} {gs : DGL} {s : Sl} {sl : Sls} {st : Sto} {Q : Sls → Sto → Prop} : gTpL n gs s sl st Q = (match vw st s with
  | some (.list ds) => ds.length = n ∧ gs ds sl st Q
  | _ => False) := rfl
end Pz
set_option maxRecDepth 100000
namespace L2
open PySem PySem.Spec PyProof.Rows
section
variable {X : Cx}
def tRevS (te : TE) : TE := fun σ H Q => te σ H fun x H1 => ∃ z, x = .str z ∧ z.length ≤ sizeLine ∧ Q (.str ⟨z.cps.toList.reverse.toArray⟩) H1
end
end L2
namespace Pz
open PySem PySem.Spec PyProof.Rows L2 TL
variable [PenC]
section
variable {X : Cx} {E : WXs} {Z0 : Zs} {a b e : Expr} {ta tb te : DE} {pos p p2 pos2 : Pos} {K : Frag}
def wTupRg (tr : DX → Sls → Sto → (Int → Int → Sto → Prop) → Prop) : DE := fun Ed sl st Q => tr Ed sl st fun i j st => RgOk i j ∧ Q (.d (.tuple (rng i (j - i).toNat))) st
theorem wTupRg_ap {tr : DX → Sls → Sto → (Int → Int → Sto → Prop) → Prop} {Ed : DX} {sl : Sls} {st : Sto} {Q : DK} : wTupRg tr Ed sl st Q = (tr Ed sl st fun i j st => RgOk i j ∧ Q (.d (.tuple (rng i (j - i).toNat))) st) := rfl
def revT (z : Str) : Str := ⟨z.cps.toList.reverse.toArray⟩
def wRevS (te : DE) : DE := fun Ed sl st Q => te Ed sl st fun s st => match vw st s with
  | some (.str z) => z.length ≤ sizeLine ∧ Q (.d (.str (revT z))) st
  | _ => False
theorem wRevS_ap {Ed : DX} {sl : Sls} {st : Sto} {Q : DK} : wRevS te Ed sl st Q = (te Ed sl st fun s st => match vw st s with
  | some (.str z) => z.length ≤ sizeLine ∧ Q (.d (.str (revT z))) st
  | _ => False) := rfl
def rInsert : V → List V → Hp → VK → Prop := fun x vs H Q => ∃ (l : Addr) (xs : List V) (i : Int) (y : V), x = .ref l ∧ vs = [.int i, y] ∧ H l = some (.lst xs) ∧ xs.length < sizeLine ∧ 0 ≤ i ∧ i < 2 ^ 63 ∧ Q .non (upd H l (.lst (xs.take i.toNat ++ [y] ++ xs.drop i.toNat)))
def mInsert : FM := fun s ss st Q => match s, ss with
  | .o h, [t, .d y] => match st[h]?, vw st t with
    | some (.lst ds), some (.int i) => ds.length < sizeLine ∧ 0 ≤ i ∧ i < 2 ^ 63 ∧ Q (.d .none) (st.set h (.lst (ds.take i.toNat ++ [y] ++ ds.drop i.toNat)))
    | _, _ => False
  | _, _ => False
def wFmt (te : DE) : DE := fun Ed sl st Q => te Ed sl st fun s st => match vw st s with
  | some (.str y) => y.length ≤ sizeLine ∧ Q (.d (.str y)) st
  | some (.int i) => i.natAbs < 10 ^ 100 ∧ Q (.d (.str (PyData.shown (.int i)))) st
  | _ => False
theorem wFmt_ap {Ed : DX} {sl : Sls} {st : Sto} {Q : DK} : wFmt te Ed sl st Q = (te Ed sl st fun s st => match vw st s with
  | some (.str y) => y.length ≤ sizeLine ∧ Q (.d (.str y)) st
  | some (.int i) => i.natAbs < 10 ^ 100 ∧ Q (.d (.str (PyData.shown (.int i)))) st
  | _ => False) := rfl
def wJs : List DE → Str → DX → Sls → Sto → (Str → Sto → Prop) → Prop
  | [], acc, _, _, st, Q => Q acc st
  | t :: ts, acc, Ed, sl, st, Q => t Ed sl st fun s st => match vw st s with
    | some (.str y) => (acc ++ y).length ≤ sizeLine ∧ wJs ts (acc ++ y) Ed sl st Q
    | _ => False
inductive DJ (X : Cx) (E : WXs) : List Expr → List DE → Prop where
  | nil : DJ X E [] []
  | cons {e : Expr} {t : DE} {es : List Expr} {ts : List DE} (h : DEx X E e t) (r : DJ X E es ts) : DJ X E (e :: es) (t :: ts)
def wJoined (ts : List DE) : DE := fun Ed sl st Q => wJs ts Str.empty Ed sl st fun y st => Q (.d (.str y)) st
theorem wJoined_ap {ts : List DE} {Ed : DX} {sl : Sls} {st : Sto} {Q : DK} : wJoined ts Ed sl st Q = wJs ts Str.empty Ed sl st fun y st => Q (.d (.str y)) st := rfl
theorem wJs_nil {acc : Str} {Ed : DX} {sl : Sls} {st : Sto} {Q : Str → Sto → Prop} : wJs [] acc Ed sl st Q = Q acc st := rfl
theorem wJs_cons {t : DE} {ts : List DE} {acc : Str} {Ed : DX} {sl : Sls} {st : Sto} {Q : Str → Sto → Prop} : wJs (t :: ts) acc Ed sl st Q = (t Ed sl st fun s st => match vw st s with
    | some (.str y) => (acc ++ y).length ≤ sizeLine ∧ wJs ts (acc ++ y) Ed sl st Q
    | _ => False) := rfl
def rIntS : List V → Hp → VK → Prop := fun xs H Q => ∃ a n, xs = [.str a] ∧ PySem.intText? a = some n ∧ a.length ≤ 640 ∧ Q (.int n) H
def fIntS : FA := fun ss st Q => match ss with
  | [s] => match vw st s with
    | some (.str z) => z.length ≤ 640 ∧ ∃ n, PySem.intText? z = some n ∧ Q (.d (.int n)) st
    | _ => False
  | _ => False
end
end Pz
set_option maxRecDepth 100000
namespace Sz
open PySem PySem.Spec PyProof.Rows L2
section
variable {prog : Program} {w : World} {A : Around} {E : Value → Shared → Prop} {s : Shared}
end
end Sz
namespace Pz
open PySem PySem.Spec PyProof.Rows L2 TL
variable [PenC]
section
variable {X : Cx} {K : Frag}
def rStrN : List V → Hp → VK → Prop := fun xs H Q => (xs = [.non] ∧ Q (.str (Str.ofString "None")) H) ∨ rStr xs H Q
def fStrN : FA := fun ss st Q => match ss with
  | [s] => match vw st s with
    | some .none => Q (.d (.str (Str.ofString "None"))) st
    | some (.int i) => i.natAbs < 10 ^ 100 ∧ Q (.d (.str (PyData.shown (.int i)))) st
    | _ => False
  | _ => False
end
def orP (o : Option Bool) (A B : Prop) : Prop := match o with
  | some b => if b = true then A else B
  | none => False
theorem orP_some {b : Bool} {A B : Prop} : orP (some b) A B = if b = true then A else B := rfl
theorem orP_none {A B : Prop} : orP none A B = False := rfl
theorem orP_str {st : Sto} {z : Str} {A B : Prop} : orP (truD st (.d (.str z))) A B = (z.length ≤ 16777216 ∧ if z.length = 0 then B else A) := by
  unfold truD
  show orP (if z.length ≤ sizeLine then some ((z.length : Int) != 0) else none) A B = _
  by_cases h : z.length ≤ sizeLine
  · rw [if_pos h, orP_some]
    have h2 : z.length ≤ 16777216 := h
    by_cases h0 : z.length = 0
    · rw [if_neg (by simp [h0]), if_pos h0]; exact propext ⟨fun q => ⟨h2, q⟩, fun q => q.2⟩
    · rw [if_pos (by simp; omega), if_neg h0]; exact propext ⟨fun q => ⟨h2, q⟩, fun q => q.2⟩
  · rw [if_neg h, orP_none]
    have h2 : ¬ z.length ≤ 16777216 := h
    exact propext ⟨fun q => q.elim, fun q => h2 q.1⟩
section
variable {ta tb : DE} {Ed : DX} {sl : Sls} {st : Sto} {Q : DK}
theorem wOrX_apS : wOrX ta tb Ed sl st Q = (ta Ed sl st fun s st => orP (truD st s) (Q s st) (tb Ed sl st Q)) := rfl
theorem wAndX_apS : wAndX ta tb Ed sl st Q = (ta Ed sl st fun s st => orP (truD st s) (tb Ed sl st Q) (Q s st)) := rfl
end
end Pz
set_option maxRecDepth 100000
namespace Pz
open PySem PySem.Spec PyProof.Rows L2 TL
variable [PenC]
section
variable {K : Frag}
def rInQ (K : Frag) (neg : Bool) : R2 := fun x y H Q => ∃ d ds, Dp K H x d ∧ Dp K H y (.tuple ds) ∧ SeqAt.shaped d = true ∧ SeqAt.shaped (.tuple ds) = true ∧ Q (.bl (if neg then !ds.any fun z => PyData.eqv z d else ds.any fun z => PyData.eqv z d)) H
def oInQ (neg : Bool) (x y : Sl) (st : Sto) (Q : DK) : Prop := match vw st x, vw st y with
  | some d, some (.tuple ds) => SeqAt.shaped d = true ∧ SeqAt.shaped (.tuple ds) = true ∧ Q (.d (.bool (if neg then !ds.any fun z => PyData.eqv z d else ds.any fun z => PyData.eqv z d))) st
  | _, _ => False
end
end Pz
namespace Pz
open PySem PySem.Spec PyProof.Rows L2 TL
variable [PenC]
def setAll : List Nat → List Sl → Sls → Sls
  | i :: is, s :: ss, sl => setAll is ss (sl.set i (some s))
  | _, _, sl => sl
structure DGn (X : Cx) (ts : List Expr) (is : List Nat) : Prop where
  run : PGs X ts fun vs σ H Q => ∃ (Z : Zs) (sl : Sls) (ss : List Sl) (Qd : Sls → Prop), Z.H = H ∧ Ok X.K Z ∧ SlOk X.K Z σ sl ∧ RpAll X.K Z vs ss ∧ ss.length = is.length ∧ Qd (setAll is ss sl) ∧ ∀ (σ' : L2.St) (sl' : Sls), SlOk X.K Z σ' sl' → Qd sl' → Q σ' Z.H
section
variable {X : Cx} {E : WXs} {Z0 : Zs} {pos : Pos} {x : Str}
def wAsgS (is : List Nat) (t : DA) : DS := fun D sl st => t D.ex sl st fun ss st => ss.length = is.length ∧ ss.length ≤ sizeLine ∧ D.nx (setAll is ss sl) st
theorem wAsgS_ap {is : List Nat} {t : DA} {nx bk ct : Sls → Sto → Prop} {rt : DK} {ex : DX} {sl : Sls} {st : Sto} : wAsgS is t ⟨nx, rt, ex, bk, ct⟩ sl st = t ex sl st fun ss st => ss.length = is.length ∧ ss.length ≤ sizeLine ∧ nx (setAll is ss sl) st := rfl
end
end Pz
set_option maxRecDepth 100000
namespace Pz
open PySem PySem.Spec PyProof.Rows L2 TL
variable [PenC]
section
variable {X : Cx} {E : WXs} {Z0 : Zs} {a b c : Expr} {t : DA} {pos px py pz pt pt2 : Pos} {x y z : Str} {kt k2 : Nat}
def wPar3 (i j l : Nat) (t : DA) : DS := fun D sl st => t D.ex sl st fun ss st => match ss with
  | [a, b, c] => D.nx (((sl.set i (some a)).set j (some b)).set l (some c)) st
  | _ => False
theorem wPar3_ap {i j l : Nat} {t : DA} {nx bk ct : Sls → Sto → Prop} {rt : DK} {ex : DX} {sl : Sls} {st : Sto} : wPar3 i j l t ⟨nx, rt, ex, bk, ct⟩ sl st = t ex sl st fun ss st => match ss with
  | [a, b, c] => nx (((sl.set i (some a)).set j (some b)).set l (some c)) st
  | _ => False := rfl
end
end Pz
set_option maxRecDepth 100000
namespace Pz
open PySem PySem.Spec PyProof.Rows L2 TL
variable [PenC]
section
variable {X : Cx} {E : WXs} {Z0 : Zs} {a b c e : Expr} {es : List Expr} {ta tb tc te : DE} {t : DA} {pos p : Pos} {x : Str} {K : Frag} {A : DT}
def wDcL (g : DG) (tt : DT) (tk te : DE) (sl : Sls) : List PyData → KD → Sto → (KD → Sto → Prop) → Prop
  | [], acc => fun st Q => Q acc st
  | d :: ds, acc => fun st Q => g (.d d) sl st fun sl2 st => tt (fun _ _ _ _ => False) sl2 st fun b st => if b = true then tk (fun _ _ _ _ => False) sl2 st fun ks st => te (fun _ _ _ _ => False) sl2 st fun s st => match keyS st ks, s with
      | some k, .d y => acc.length < sizeLine ∧ wDcL g tt tk te sl ds (putD acc k y) st Q
      | _, _ => False
    else wDcL g tt tk te sl ds acc st Q
def wDc (ω : DI) (g : DG) (tt : DT) (tk te : DE) (vs : List Nat) : DE := fun Ed sl st Q => ω Ed sl st fun ds st => wDcL g tt tk te (wipeS sl vs) ds [] st fun acc st => Q (.d (.dict (kdD acc))) st
theorem wDc_ap {ω : DI} {g : DG} {tt : DT} {tk te : DE} {vs : List Nat} {Ed : DX} {sl : Sls} {st : Sto} {Q : DK} : wDc ω g tt tk te vs Ed sl st Q = ω Ed sl st fun ds st => wDcL g tt tk te (wipeS sl vs) ds [] st fun acc st => Q (.d (.dict (kdD acc))) st := rfl
variable {elt kx tg iter : Expr} {ifs : List Expr} {scope : Scope} {own : List (Str × Nat)} {ω : DI} {is : List Nat} {g : DG} {tt : DT}
end
section
variable {X : Cx} {E : WXs} {o e f : Expr} {td ty tx : DE} {apos cpos : Pos} {K : Frag}
def dkX : Sl → Option KD
  | .d (.dict l) => unKD l
  | _ => none
def wDGet3 (td ty tx : DE) : DE := fun Ed sl st Q => td Ed sl st fun s st => (dkX s).isSome = true ∧ ty Ed sl st fun t st => tx Ed sl st fun u st => match dkX s, keyS st t with
  | some kvs, some k => match valD kvs k with
    | some d => Q (.d d) st
    | none => Q u st
  | _, _ => False
theorem wDGet3_ap {Ed : DX} {sl : Sls} {st : Sto} {Q : DK} : wDGet3 td ty tx Ed sl st Q = (td Ed sl st fun s st => (dkX s).isSome = true ∧ ty Ed sl st fun t st => tx Ed sl st fun u st => match dkX s, keyS st t with
  | some kvs, some k => match valD kvs k with
    | some d => Q (.d d) st
    | none => Q u st
  | _, _ => False) := rfl
end
end Pz
set_option maxRecDepth 100000
namespace Pz
open PySem PySem.Spec PyProof.Rows L2 TL
variable [PenC]
section
variable {X : Cx} {K : Frag}
def rIsBN : R2 := fun x y H Q => ∃ b : Bool, y = .bl b ∧ ((∃ a : Bool, x = .bl a ∧ Q (.bl (decide (a = b))) H) ∨ (x = .non ∧ Q (.bl false) H))
def oIsBN (x y : Sl) (st : Sto) (Q : DK) : Prop := match vw st x, vw st y with
  | some (.bool a), some (.bool b) => Q (.d (.bool (decide (a = b)))) st
  | some .none, some (.bool _) => Q (.d (.bool false)) st
  | _, _ => False
end
end Pz
set_option maxRecDepth 100000
namespace Pz
open PySem PySem.Spec PyProof.Rows L2 TL
variable [PenC]
section
variable {X : Cx} {E : WXs} {Z0 : Zs} {K : Frag} {e ob ix : Expr} {te to ti ta tb : DE} {pos tpos : Pos}
def oIxS (s t : Sl) (st : Sto) (Q : DK) : Prop := match s with
  | .o h => match st[h]? with
    | some (.lsS xs) => match vw st t with
      | some (.int i) => match atI xs i with
        | some x => Q x st
        | none => False
      | _ => False
    | _ => oIxE s t st Q
  | _ => oIxE s t st Q
def wSetIxO (te to ti : DE) : DS := fun D sl st => te D.ex sl st fun v st => to D.ex sl st fun o st => ti D.ex sl st fun i st => match o, i with
  | .o h, .d (.int j) => match st[h]? with
    | some (.lst ds) => match ixN ds.length j with
      | some n => D.nx sl (st.set h (.lsS ((ds.map Sl.d).set n v)))
      | none => False
    | some (.lsS xs) => match ixN xs.length j with
      | some n => D.nx sl (st.set h (.lsS (xs.set n v)))
      | none => False
    | _ => False
  | _, _ => False
def frz1 (j : Nat) (ds : List PyData) : Sl → Sl
  | .o k => if k = j then .d (.list ds) else .o k
  | s => s
def wClose (n0 i : Nat) (u : DS) : DS := fun D sl st => match nthS sl i with
  | some (.o h) => match st[h]? with
    | some (.lsS xs) => ∃ (j : Nat) (ds ys : List PyData), n0 ≤ j ∧ st[j]? = some (.lst ds) ∧ xs.map (frz1 j ds) = ys.map Sl.d ∧ (∀ c ∈ st.set h .dead, NoRef j c) ∧ u D (sl.map (frzS j ds)) ((st.set j .dead).set h (.lst ys))
    | _ => u D sl st
  | _ => u D sl st
theorem wClose_ap {n0 i : Nat} {u : DS} {nx bk ct : Sls → Sto → Prop} {rt : DK} {ex : DX} {sl : Sls} {st : Sto} : wClose n0 i u ⟨nx, rt, ex, bk, ct⟩ sl st = (match nthS sl i with
  | some (.o h) => match st[h]? with
    | some (.lsS xs) => ∃ (j : Nat) (ds ys : List PyData), n0 ≤ j ∧ st[j]? = some (.lst ds) ∧ xs.map (frz1 j ds) = ys.map Sl.d ∧ (∀ c ∈ st.set h .dead, NoRef j c) ∧ u ⟨nx, rt, ex, bk, ct⟩ (sl.map (frzS j ds)) ((st.set j .dead).set h (.lst ys))
    | _ => u ⟨nx, rt, ex, bk, ct⟩ sl st
  | _ => u ⟨nx, rt, ex, bk, ct⟩ sl st) := rfl
theorem wSetIxO_ap {te to ti : DE} {nx bk ct : Sls → Sto → Prop} {rt : DK} {ex : DX} {sl : Sls} {st : Sto} : wSetIxO te to ti ⟨nx, rt, ex, bk, ct⟩ sl st = (te ex sl st fun v st => to ex sl st fun o st => ti ex sl st fun i st => match o, i with
  | .o h, .d (.int j) => match st[h]? with
    | some (.lst ds) => match ixN ds.length j with
      | some n => nx sl (st.set h (.lsS ((ds.map Sl.d).set n v)))
      | none => False
    | some (.lsS xs) => match ixN xs.length j with
      | some n => nx sl (st.set h (.lsS (xs.set n v)))
      | none => False
    | _ => False
  | _, _ => False) := rfl
theorem oIxS_ap {s t : Sl} {st : Sto} {Q : DK} : oIxS s t st Q = (match s with
  | .o h => match st[h]? with
    | some (.lsS xs) => match vw st t with
      | some (.int i) => match atI xs i with
        | some x => Q x st
        | none => False
      | _ => False
    | _ => oIxE s t st Q
  | _ => oIxE s t st Q) := rfl
end
end Pz
set_option maxRecDepth 100000
set_option maxHeartbeats 2000000
namespace PySem
namespace Xc
open PySem.W PySem.Calls PyProof.Rows PySem.HandSPX
def iA3 (f1 f2 f3 : Str) (p1 p2 p3 p4 : Pos) : Arguments := { posonlyargs := [], args := [{ arg := "self", annotation := none, pos := p1 }, { arg := f1, annotation := none, pos := p2 }, { arg := f2, annotation := none, pos := p3 }, { arg := f3, annotation := none, pos := p4 }], vararg := none, kwonlyargs := [], kw_defaults := [], kwarg := none, defaults := [] }
def iB3 (f1 f2 f3 : Str) (q1 q2 q3 q4 r1 r2 r3 r4 s1 s2 s3 s4 : Pos) : List Stmt := [.Assign [.Attribute (.Name "self" q1) f1 q2] (.Name f1 q3) q4, .Assign [.Attribute (.Name "self" r1) f2 r2] (.Name f2 r3) r4, .Assign [.Attribute (.Name "self" s1) f3 s2] (.Name f3 s3) s4]
def iS3 (f1 f2 f3 : Str) : Scope := { kind := .function, names := [(PySem.Str.ofString "self", .local), (f1, .local), (f2, .local), (f3, .local)], isGenerator := false, isCoroutine := false, more := [] }
structure Txt3 (B newId initId : String) (bmB : List Value) (f1 f2 f3 qn : Str) (K : Frag) (C fI : Addr) : Prop where
  cls : ∃ nm q N bs bm sn sub ab col dd k0 k1 k2 k3 k5, K.lookup C = some (excClassObj nm q C N bs bm true sn sub ab col dd k0 k1 k2 k3 k5 newId) ∧ refsT bmB bm = true
  sa : findIn K (.ref C) "__setattr__" = some (some (.builtin "object.__setattr__"))
  noN1 : findIn K (.ref C) f1 = some none
  noN2 : findIn K (.ref C) f2 = some none
  noN3 : findIn K (.ref C) f3 = some none
  iC : findIn K (.ref C) "__init__" = some (some (.ref fI))
  tC : typeIn K (.ref fI) = some (.type "function")
  kC : keepIn K (.ref C) = true
  exC : subIn K (.ref C) (.type "BaseException") = some true
  tyC : typeIn K (.ref C) = some (.type "type")
  fn : ∃ (oc : Value) (od : Option Addr) (doc pm : Value) (an : Option Addr) (cdv ct : Value) (osl : Array (Option Value)) (p1 p2 p3 p4 q1 q2 q3 q4 r1 r2 r3 r4 s1 s2 s3 s4 : Pos),
    K.lookup fI = some ⟨oc, od, .func (fnOf "__init__" qn (iA3 f1 f2 f3 p1 p2 p3 p4) (iB3 f1 f2 f3 q1 q2 q3 q4 r1 r2 r3 r4 s1 s2 s3 s4) (iS3 f1 f2 f3) .none .none doc pm an cdv ct), osl⟩ ∧ codeIn K cdv qn = true
section
variable {prog : Program} {w : World} {A : Around} {E : Value → Shared → Prop} {R : Result → Shared → Prop} {hp : Heap} {g : Array GenState} {d : Drawn} {t : Nat} {os : OsState} {B newId initId ow : String} {bmB : List Value}
theorem osa2 {K : W.Frag} {name : Str} {tk : Tok} {v : Value} {x C dx : Addr} {fv : Array Value} {cd : ClassData} {m0 : Str → Option Value} {nl : List Str} (SF : StoreFacts B bmB "object.__setattr__" ow) (hobj : bmB.contains (.type "object") = true)
    (X : K.In hp) (hx : hp.get? x = some { cls := .ref C, dict := some dx, data := .fields fv }) (hns : hp.Ns1 dx m0) (hw : Within m0 nl) (hz : nl.length ≤ 1000) (hcd : W.clsIn K C = some cd) (hm : refsT bmB cd.mro = true) (hne : cd.mro.isEmpty = false) (hh : cd.hasDict = true)
    (ha : W.findIn K (.ref C) name = some none)
    (hq : ∀ h' tk', (∀ b o, b ≠ dx → hp.get? b = some o → h'.get? b = some o) → h'.Ns1 dx (fun y => if y = name then some v else m0 y) → R (.ok (.ret .none)) ⟨h', g, d, tk', os⟩) :
    codeAny (model prog w) A (.call (.builtin "object.__setattr__") ⟨[.ref x, .str name tk, v], []⟩) R ⟨hp, g, d, t, os⟩ := by
  obtain ⟨oD, esD, epD, hoD, hdD, _⟩ := hns.count hw
  have I : W.InstAt hp x { cls := .ref C, dict := some dx, data := .fields fv } C (some oD) := ⟨hx, rfl, rfl, hoD⟩
  have S0 := F.store_object
  have hob : cd.mro.contains (.type "object") = true := (refsT_contains "object" _ hm).trans hobj
  have sub : W.Looks (model prog w) hp (isInstance (.ref x) (.type "object")) true := I.type.andThen (W.looks_mroIn X (by unfold W.mroIn; rw [hcd, Option.bind_some, if_neg (by rw [hne]; decide), hob]))
  refine codeAny_call_builtin S0.slot.plain S0.entry (@W.check_slot (model prog w) _ _ ⟨hp, g, d, t, os⟩ "object.__setattr__" "object" "__setattr__" (.ref x) [.str name tk, v] [] _ S0.kind S0.split sub (S0.args (.ref x) (.str name tk) v) ?_)
  have hmr : W.Looks (model prog w) hp (mroOf (.ref C)) cd.mro := (W.looks_clsIn X hcd).andThen .now
  have L3 : W.Looks (model prog w) hp (Builtin.ObjectAttr.storeTaker? none) none := .now
  have hcls : W.Looks (model prog w) hp (classData C) cd := W.looks_clsIn X hcd
  rw [W.osa_eq, refuse_eq]
  refine wpAny_bind (wpAny_bind (I.type.at (wpAny_bind (hmr.at ?_))))
  rw [refsT_pass SF _ _ hm]
  refine wpAny_pure (wpAny_bind (I.type.at (wpAny_bind ((W.looks_findIn X ha).at (wpAny_bind (L3.at ?_))))))
  show wpAny _ _ (Builtin.ObjectAttr.storeInOwnDict (.ref x) (.ref C) (.str name tk) name v false) _ _ _
  obtain ⟨nm, bs, mro, ns, qn, hd, sn, sb, ab, col, del⟩ := cd
  dsimp only at hh
  subst hh
  unfold Builtin.ObjectAttr.storeInOwnDict Builtin.ObjectAttr.ownDictForStores
  repeat (first | with_reducible refine OEX.store_in_old hns hw hz ?_ | with_reducible refine wpAny_loadPart_at hx ?_ | with_reducible refine hcls.at ?_ | wp_step)
  intro h' tk' hn' hs
  exact hq h' tk' (fun b o hb ho => (hs.2 b hb).trans ho) hn'
end
def nsM3 (f1 f2 f3 : Str) (v1 v2 v3 : Value) : Str → Option Value := fun y => if y = f3 then some v3 else if y = f2 then some v2 else if y = f1 then some v1 else none
structure InitEnd3 (h h' : Heap) (x C dx t1 : Addr) (f1 f2 f3 : Str) (v1 v2 v3 : Value) : Prop where
  keep : ∀ b o, b ≠ x → h.get? b = some o → h'.get? b = some o
  obj : h'.get? x = some { cls := .ref C, dict := some dx, data := .fields #[.ref t1, .none, .none, .none, .bool false, .none] }
  dbig : h.objs.size ≤ dx
  dne : dx ≠ x
  ns : h'.Ns1 dx (nsM3 f1 f2 f3 v1 v2 v3)
structure OwnMade3 (h h' : Heap) (e C d : Addr) (f1 f2 f3 : Str) (v1 v2 v3 : Value) : Prop where
  keep : ∀ b o, h.get? b = some o → h'.get? b = some o
  new : h.objs.size ≤ e
  obj : ∃ oe vs, h'.get? e = some oe ∧ oe.cls = .ref C ∧ oe.dict = some d ∧ oe.data = .fields vs ∧ vs[1]? = some .none
  dbig : h.objs.size ≤ d
  dne : d ≠ e
  ns : h'.Ns1 d (nsM3 f1 f2 f3 v1 v2 v3)
def InitRun3 (B newId initId : String) (bmB : List Value) (f1 f2 f3 qn : Str) (K : Frag) (C fI : Addr) : Prop := ∀ (prog : Program) (w : World) (A : Around) (R : Result → Shared → Prop) (s : Shared) (x t0 : Addr) (v1 v2 v3 : Value), Txt3 B newId initId bmB f1 f2 f3 qn K C fI → K.In s.heap → s.heap.NoLimit → s.heap.get? x = some (excO C t0) → K.lookup x = none → A.depth < recursionLimit →
    (∀ h' tk dx, InitEnd3 s.heap h' x C dx t0 f1 f2 f3 v1 v2 v3 → R (.ok (.ret .none)) { s with heap := h', toks := tk }) → codeAny (model prog w) A (.call (.ref fI) ⟨[.ref x, v1, v2, v3], []⟩) R s
section
variable {K : Frag} {C fI : Addr} {B newId initId ow : String} {bmB : List Value} {qn : Str}
theorem init_line_width_other (SF : StoreFacts B bmB "object.__setattr__" ow) (hobj : bmB.contains (.type "object") = true) : InitRun3 B newId initId bmB "line" "width" "other" qn K C fI := by
  intro prog w A R s x t0 v1 v2 v3 T X hlim hx hxK hroom hq
  obtain ⟨oc, od, doc, pm, an, cdv, ct, osl, p1, p2, p3, p4, q1, q2, q3, q4, r1, r2, r3, r4, s1, s2, s3, s4, ho, hcd⟩ := T.fn
  obtain ⟨nm, q, N, bs, bm, sn, sub, ab, col, dd, k0, k1, k2, k3, k5, hC, hbm⟩ := T.cls
  have hcl : clsIn K C = some { name := nm, bases := bs, mro := .ref C :: bm, ns := N, qualname := q, hasDict := true, slotNames := sn, subclasses := sub, abstract := ab, collection := col, hasDel := false } := by unfold clsIn; rw [hC] <;> rfl
  refine Att.call_fn (binds := [("self", .ref x), ("line", v1), ("width", v2), ("other", v3)]) X hlim ho hcd hroom (BindsTo.of_eq (by first | rfl | with_unfolding_all rfl)) (by first | rfl | decide | with_unfolding_all rfl) (fun s₁ IC => ?_) rfl rfl rfl
  obtain ⟨h₁, tk₁, rfl⟩ := IC.toInCall.same
  have k : ∀ b o, s.heap.get? b = some o → h₁.get? b = some o := IC.toInCall.keep
  have hn := IC.toInCall.ns
  have hxL : s.heap.objs.size ≠ x := Nat.ne_of_gt (Heap.lt_size hx)
  have X₁ : K.In h₁ := X.keeps k
  have hx₁ := k _ _ hx
  have zL : s.heap.objs.size < h₁.objs.size := hn.lt
  show wpAny _ _ (execs _ _) _ _ _
  refine wpAny_execs_cons (plainObj_wpAny_Assign_Attribute ?_)
  refine ldC (v := v1) hn (by first | rfl | with_unfolding_all rfl | kernel_rfl) (ldC (v := .ref x) hn (by first | rfl | with_unfolding_all rfl | kernel_rfl) ?_)
  refine set_plain X₁ (ox := excO C t0) (od := none) ⟨hx₁, rfl, rfl, trivial⟩ T.sa ?_
  refine osa SF hobj X₁ hx₁ hcl (show refsT bmB (.ref C :: bm) = true from hbm) rfl rfl T.noN1 (fun h₃ tk₃ dx k₃ dn dne hx₃ hn₃ => ?_)
  have hxd : ∀ {a : Addr} {o : Obj}, K.lookup a = some o → a ≠ x := fun e z => by rw [z, hxK] at e; cases e
  have X₃ : K.In h₃ := fun a o e => k₃ a o (hxd e) (X₁ a o e)
  have hn₃' := hn.at fun o e => k₃ _ o hxL e
  have hw1 : Within (fun y : Str => if y = "line" then some v1 else none) ["line"] := fun y hy => by
    by_cases h : y = "line"
    · rw [h]; exact List.mem_cons_self
    · exact absurd (if_neg h) hy
  show wpAny _ _ (execs _ _) _ _ _
  refine wpAny_execs_cons (plainObj_wpAny_Assign_Attribute ?_)
  refine ldC (v := v2) hn₃' (by first | rfl | with_unfolding_all rfl | kernel_rfl) (ldC (v := .ref x) hn₃' (by first | rfl | with_unfolding_all rfl | kernel_rfl) ?_)
  obtain ⟨oD, _, _, hoD, _⟩ := hn₃.count hw1
  refine set_plain X₃ (ox := { cls := .ref C, dict := some dx, data := (excO C t0).data }) (od := some oD) ⟨hx₃, rfl, rfl, hoD⟩ T.sa ?_
  refine osa2 SF hobj X₃ hx₃ hn₃ hw1 (by decide) hcl (show refsT bmB (.ref C :: bm) = true from hbm) rfl rfl T.noN2 (fun h₄ tk₄ k₄ hn₄ => ?_)
  have hdK : ∀ {a : Addr} {o : Obj}, K.lookup a = some o → a ≠ dx := fun {a o} e z => by
    have h1 := Heap.lt_size (X₁ a o e)
    rw [z] at h1
    exact absurd dn (Nat.not_le_of_lt h1)
  have hLd : s.heap.objs.size ≠ dx := Nat.ne_of_lt (Nat.lt_of_lt_of_le zL dn)
  have X₄ : K.In h₄ := fun a o e => k₄ a o (hdK e) (X₃ a o e)
  have hx₄ := k₄ x _ (Ne.symm dne) hx₃
  have hn₄' := hn₃'.at fun o e => k₄ _ o hLd e
  have hw2 := Within.cons "width" v2 hw1
  show wpAny _ _ (execs _ _) _ _ _
  refine wpAny_execs_cons (plainObj_wpAny_Assign_Attribute ?_)
  refine ldC (v := v3) hn₄' (by first | rfl | with_unfolding_all rfl | kernel_rfl) (ldC (v := .ref x) hn₄' (by first | rfl | with_unfolding_all rfl | kernel_rfl) ?_)
  obtain ⟨oD2, _, _, hoD2, _⟩ := hn₄.count hw2
  refine set_plain X₄ (ox := { cls := .ref C, dict := some dx, data := (excO C t0).data }) (od := some oD2) ⟨hx₄, rfl, rfl, hoD2⟩ T.sa ?_
  refine osa2 SF hobj X₄ hx₄ hn₄ hw2 (by decide) hcl (show refsT bmB (.ref C :: bm) = true from hbm) rfl rfl T.noN3 (fun h₅ tk₅ k₅ hn₅ => ?_)
  show wpAny _ _ (execs _ _) _ _ _
  have hbd : ∀ {b : Addr} {o : Obj}, s.heap.get? b = some o → b ≠ dx := fun {b o} e z => by
    have h1 := Heap.lt_size (k b o e)
    rw [z] at h1
    exact absurd dn (Nat.not_le_of_lt h1)
  exact wpAny_execs_nil (hq h₅ tk₅ dx ⟨fun b o hb e => k₅ b o (hbd e) (k₄ b o (hbd e) (k₃ b o hb (k b o e))), k₅ x _ (Ne.symm dne) hx₄, Nat.le_of_lt (Nat.lt_of_lt_of_le zL dn), dne, hn₅⟩)
end
theorem three_size (a b c : Value) : [a, b, c].length ≤ sizeLine := by
  rw [sizeLine_eq]
  exact (by decide : 3 ≤ 16777216)
section
variable {prog : Program} {w : World} {A : Around} {E : Value → Shared → Prop} {R : Result → Shared → Prop} {s : Shared} {K : Frag} {C fI : Addr} {B newId initId : String} {bmB : List Value} {f1 f2 f3 qn : Str}
theorem made3 (F : ExcBaseFacts B newId initId bmB) (IR : InitRun3 B newId initId bmB f1 f2 f3 qn K C fI) (T : Txt3 B newId initId bmB f1 f2 f3 qn K C fI) {v1 v2 v3 : Value} (X : K.In s.heap) (hlim : s.heap.NoLimit) (hroom : A.depth + 1 < recursionLimit)
    (hq : ∀ h' tk e d, OwnMade3 s.heap h' e C d f1 f2 f3 v1 v2 v3 → R (.ok (.ret (.ref e))) { s with heap := h', toks := tk }) :
    codeAny (model prog w) A (.call (.ref C) ⟨[v1, v2, v3], []⟩) R s := by
  obtain ⟨nm, q, N, bs, bm, sn, sub, ab, col, dd, k0, k1, k2, k3, k5, hC, hbm⟩ := T.cls
  obtain ⟨hp, g, dr, tk, os⟩ := s
  have k : ∀ b o, hp.get? b = some o → ((hp.push (kdv_tup [v1, v2, v3])).push (excO C hp.objs.size)).get? b = some o := fun b o e => Heap.get?_push_of_some _ (Heap.get?_push_of_some _ e)
  have hget : ((hp.push (kdv_tup [v1, v2, v3])).push (excO C hp.objs.size)).get? (hp.objs.size + 1) = some (excO C hp.objs.size) := by heap_get
  refine call_own F (fun X => refsT_contains X bm hbm) (X _ _ hC) (looks_findIn X T.iC) (fun self => bind_fn X self T.tC) (three_size v1 v2 v3) ?_
  have hno : K.lookup (hp.objs.size + 1) = none := by
    cases e : K.lookup (hp.objs.size + 1) with
    | none => rfl
    | some o =>
      have := Heap.lt_size (X _ o e)
      exact absurd this (Nat.not_lt.mpr (Nat.le_succ _))
  refine IR _ _ _ _ ⟨(hp.push (kdv_tup [v1, v2, v3])).push (excO C hp.objs.size), g, dr, tk, os⟩ _ _ _ _ _ T (X.keeps k) (hlim.keeps k) hget hno ?_ fun h' tk' dx ⟨k', hx, dn, dne, hns⟩ => ?_
  · show A.depth + 1 < recursionLimit
    exact hroom
  · have old : ∀ b o, hp.get? b = some o → h'.get? b = some o := fun b o e => k' b o (Nat.ne_of_lt (Nat.lt_succ_of_lt (Heap.lt_size e))) (k b o e)
    have z : hp.objs.size + 1 + 1 ≤ dx := by
      first
        | (simpa only [Heap.size_push] using dn)
        | exact dn
        | (have q := dn; rw [Heap.size_push, Heap.size_push] at q; exact q)
    exact ⟨rfl, hq h' tk' (hp.objs.size + 1) dx ⟨old, Nat.le_succ _, ⟨_, _, hx, rfl, rfl, rfl, rfl⟩, Nat.le_trans (Nat.le_trans (Nat.le_succ _) (Nat.le_succ _)) z, dne, hns⟩⟩
end
end Xc
end PySem
namespace L2
open PySem PySem.Spec PyProof.Rows
def m3L (f1 f2 f3 : Str) (v1 v2 v3 : V) : List (Str × V) := [(f3, v3), (f2, v2), (f1, v1)]
theorem relO_three {f1 f2 f3 : Str} {v1 v2 v3 : V} {u1 u2 u3 : Value} (r1 : RelV v1 u1) (r2 : RelV v2 u2) (r3 : RelV v3 u3) (g : Str) : RelO (List.lookup g (m3L f1 f2 f3 v1 v2 v3)) (PySem.Xc.nsM3 f1 f2 f3 u1 u2 u3 g) := by
  unfold m3L PySem.Xc.nsM3
  have put : ∀ {f : Str} {y : V} {u : Value} {fs : List (Str × V)} {m : Option Value}, RelV y u → RelO (fs.lookup g) m → RelO (((f, y) :: fs).lookup g) (if g = f then some u else m) := by
    intro f y u fs m ry r
    by_cases h : g = f
    · subst h
      rw [if_pos rfl]
      simp [List.lookup]
      exact ry
    · have e : (g == f) = false := by simpa using h
      rw [if_neg h]
      simp [List.lookup, e]
      exact r
  exact put r3 (put r2 (put r1 trivial))
section
variable {X : Cx} {C fI : Addr} {B newId initId : String} {bmB : List Value} {f1 f2 f3 qn x : Str}
def tMk3 (f1 f2 f3 : Str) (C : Addr) (ta : TA) : St → Hp → XK → Prop := fun σ H Q => ta σ H fun vs H1 => ∃ v1 v2 v3, vs = [v1, v2, v3] ∧ ∀ d, H1 d = none → Q (.ref C) (some d) (upd H1 d (.xd (m3L f1 f2 f3 v1 v2 v3)))
theorem pmk3 {a b c : Expr} {ta : TA} {p pos : Pos} {k : Nat} (F : ExcBaseFacts B newId initId bmB) (IR : PySem.Xc.InitRun3 B newId initId bmB f1 f2 f3 qn X.K C fI) (T : PySem.Xc.Txt3 B newId initId bmB f1 f2 f3 qn X.K C fI) (gC : X.mg x = some (.ref C)) (hr : Room k X.A) (ha : PA X [a, b, c] ta) (hg : Gl X x)
    (hdb : (x == ("__debug__" : Str)) = false := by decide) (he : starEach [a, b, c] X.env = (false, eval a X.env) :: starEach [b, c] X.env := by rfl) (hpl : (backTo pos (starEach [b, c] X.env)).any (·.1) = false := by rfl) :
    PMk X (.Call (.Name x p) [a, b, c] [] pos) (tMk3 f1 f2 f3 C ta) := by
  intro pins s σ H Q I h
  refine wpAny_Call_Name_kw (ld_glob I hg gC ?_ hdb)
  refine PySem.W.callWith_K (h₀ := X.base) I.ok.mod.kin T.kC (thn (ha.run pos pins s σ H _ I h) fun us s1 hh => ?_) he hpl
  obtain ⟨vs, H1, I1, rr, v1, v2, v3, ev, q1⟩ := hh
  subst ev
  refine ⟨I1.kIn, ?_⟩
  rcases rr with _ | ⟨rv1, rr⟩
  rename_i u1 us
  rcases rr with _ | ⟨rv2, rr⟩
  rename_i u2 us
  rcases rr with _ | ⟨rv3, rr⟩
  rename_i u3 us
  cases rr
  show wpAny _ _ (call (.ref C) [u1, u2, u3]) _ _ _
  have hlim := I1.nolimit
  obtain ⟨hp, g, dr, tk, os⟩ := s1
  refine wpAny_call (PySem.Xc.made3 F IR T I1.kIn hlim (by have := hr.dp; omega) fun h' tk' e d M => ?_)
  show MkP X pins σ Q (.ref e) ⟨h', g, dr, tk', os⟩
  obtain ⟨oe, fv, hoe, hc, hd, hdat, h1⟩ := M.obj
  have hns := M.ns
  obtain ⟨G', g1, g2⟩ := restrict h' fun b => decide (b ≠ e)
  have gk : ∀ b, b ≠ e → G'.get? b = h'.get? b := fun b hb => g1 b (decide_eq_true hb)
  have ge : G'.get? e = none := g2 e (by simp)
  have old : ∀ b o, hp.get? b = some o → G'.get? b = some o := fun b o q => (gk b (Nat.ne_of_lt (Nat.lt_of_lt_of_le (Heap.lt_size q) M.new))).trans (M.keep b o q)
  have ob : ObjOk X.prog X.w (upd H1 d (.xd (m3L f1 f2 f3 v1 v2 v3))) G' d (.xd (m3L f1 f2 f3 v1 v2 v3)) :=
    ⟨_, hns.at (fun o q => (gk d M.dne).trans q), fun g => relO_three rv1 rv2 rv3 g⟩
  have J : Inv X pins σ (upd H1 d (.xd (m3L f1 f2 f3 v1 v2 v3))) ⟨G', g, dr, tk', os⟩ := I1.laid (t' := tk') old M.dbig ob
  refine ⟨e, oe, fv, ⟨G', g, dr, tk', os⟩, _, .ref C, some d, rfl, J, fun b o q => ?_, ge, hoe, ⟨hc, hd⟩, hdat, h1, ?_, rfl, I1.bare, raises_own T.exC T.tyC, q1 d (I1.hok.fresh M.dbig)⟩
  · by_cases hb : b = e
    · have q' : G'.get? b = some o := q
      rw [hb, ge] at q'; cases q'
    · exact (gk b hb).symm.trans q
  · rw [upd_ne (Ne.symm M.dne)]
    exact I1.hok.fresh M.new
end
end L2
set_option maxRecDepth 100000
namespace Pz
open PySem PySem.Spec PyProof.Rows L2 TL
variable [PenC]
section
variable {X : Cx} {E : WXs} {Z0 : Zs} {x f1 f2 f3 : Str} {p pos pos' : Pos} {a b c : Expr} {t : DA} {k : Nat}
def wRaise3 (x f1 f2 f3 : Str) (t : DA) : DS := fun D sl st => t D.ex sl st fun ss st => match ss with
  | [.d y1, .d y2, .d y3] => D.ex x [(f3, y3), (f2, y2), (f1, y1)] sl st
  | _ => False
theorem wRaise3_ap {nx bk ct : Sls → Sto → Prop} {rt : DK} {ex : DX} {sl : Sls} {st : Sto} : wRaise3 x f1 f2 f3 t ⟨nx, rt, ex, bk, ct⟩ sl st = (t ex sl st fun ss st => match ss with
  | [.d y1, .d y2, .d y3] => ex x [(f3, y3), (f2, y2), (f1, y1)] sl st
  | _ => False) := rfl
def Mk3 (K : Frag) (mg : Str → Option Value) (x f1 f2 f3 : Str) : Prop := ∃ (C fI : Addr) (B newId initId : String) (bmB : List Value) (qn : Str), mg x = some (.ref C) ∧ ClsV K x (.ref C) ∧ ExcBaseFacts B newId initId bmB ∧ PySem.Xc.InitRun3 B newId initId bmB f1 f2 f3 qn K C fI ∧ PySem.Xc.Txt3 B newId initId bmB f1 f2 f3 qn K C fI
end
def Mk3K (K : Frag) (x f1 f2 f3 : Str) : Prop := ∃ (C fI : Addr) (B newId initId : String) (bmB : List Value) (qn : Str), PySem.W.nsIn K mainGlobals x = some (some (.ref C)) ∧ ExcBaseFacts B newId initId bmB ∧ PySem.Xc.InitRun3 B newId initId bmB f1 f2 f3 qn K C fI ∧ PySem.Xc.Txt3 B newId initId bmB f1 f2 f3 qn K C fI
theorem Mk3K.to {K : Frag} {h : Heap} {mg : Str → Option Value} {x f1 f2 f3 : Str} (R : Mk3K K x f1 f2 f3) (X : K.In h) (G : h.Ns mainGlobals mg) : Mk3 K mg x f1 f2 f3 := by
  obtain ⟨C, fI, B, a, b, bm, qn, e, h1, h2, h3⟩ := R
  exact ⟨C, fI, B, a, b, bm, qn, PySem.W.mg_of X G e, e, h1, h2, h3⟩
end Pz
set_option maxRecDepth 100000
set_option maxHeartbeats 2000000
namespace L2
open PySem PySem.Spec PyProof.Rows
def rRepT1 (K : PySem.W.Frag) : R2 := fun x y H Q => ∃ l xs, x = .ref l ∧ y = .int 1 ∧ SqT K H l xs ∧ Q x H
def rRepT0 (K : PySem.W.Frag) : R2 := fun x y H Q => ∃ l k xs, x = .ref l ∧ y = .int k ∧ SqT K H l xs ∧ xs ≠ [] ∧ k ≤ 0 ∧ -1000 ≤ k ∧ ∀ p, H p = none → Q (.ref p) (upd H p (.tup []))
section
variable {X : Cx}
end
end L2
namespace Pz
open PySem PySem.Spec PyProof.Rows L2 TL
variable [PenC]
def oMulT (x y : Sl) (st : Sto) (Q : DK) : Prop := match vw st x, vw st y with
  | some (.tuple a), some (.int j) => a ≠ [] ∧ -1000 ≤ j ∧ j ≤ 1000 ∧ a.length ≤ 1000 ∧ Q (.d (.tuple (List.replicate j.toNat a).flatten)) st
  | _, _ => oMul x y st Q
def rMulT (K : Frag) : R2 := fun x y H Q => rRepT K x y H Q ∨ rRepT1 K x y H Q ∨ rRepT0 K x y H Q ∨ rMul x y H Q
theorem oMulT_ap {x y : Sl} {st : Sto} {Q : DK} : oMulT x y st Q = (match vw st x, vw st y with
  | some (.tuple a), some (.int j) => a ≠ [] ∧ -1000 ≤ j ∧ j ≤ 1000 ∧ a.length ≤ 1000 ∧ Q (.d (.tuple (List.replicate j.toNat a).flatten)) st
  | _, _ => oMul x y st Q) := rfl
end Pz
set_option maxRecDepth 100000
namespace Pz
open PySem PySem.Spec PyProof.Rows L2 TL PySem.W
variable [PenC]
def DLs (h : Heap) (a : Addr) (ks vs : List V) : Prop := ∃ (o : Obj) (es : Array DictEntry) (ep : Nat), h.get? a = some o ∧ o.ExactDict ∧ o.data = .dict es ep ∧ (a == sysModules) = false ∧ Vals ks (es.toList.map (·.key)) ∧ Vals vs (es.toList.map (·.val)) ∧ es.size ≤ sizeLine
section
variable {P : Program} {w : World} {H : Hp} {h : Heap} {a : Addr} {X : Cx} {pins : List (Addr × Obj)} {σ : L2.St} {s : Shared}
end
section
variable {X : Cx}
def IsDV (H : Hp) (d : Addr) (vs : List V) : Prop := (∃ kvs : List (Key × V), Rd H d (.dK kvs) ∧ vs = kvs.map (·.2)) ∨ ∃ kvs : List (List Key × V), Rd H d (.dT kvs) ∧ vs = kvs.map (·.2)
def rListV : List V → Hp → VK → Prop := fun xs H Q => ∃ (p d : Addr) (vs : List V), xs = [.ref p] ∧ H p = some (viewO "dict_values" p d) ∧ IsDV H d vs ∧ ∀ q, H q = none → Q (.ref q) (upd H q (.lst vs))
def rSumV : List V → Hp → VK → Prop := fun xs H Q => ∃ (p d : Addr) (ns : List Int), xs = [.ref p] ∧ H p = some (viewO "dict_values" p d) ∧ IsDV H d (ns.map V.int) ∧ Q (.int ns.sum) H
end
end Pz
set_option maxRecDepth 100000
namespace Pz
open PySem PySem.Spec PyProof.Rows L2 TL PySem.W
variable [PenC]
section
variable {κ : Type} [DecidableEq κ]
def valG (kvs : List (κ × PyData)) (k : κ) : Option PyData := (kvs.find? fun kv => decide (kv.1 = k)).map (·.2)
def putG (kvs : List (κ × PyData)) (k : κ) (d : PyData) : List (κ × PyData) := if (kvs.any fun kv => decide (kv.1 = k)) = true then kvs.map fun kv => if kv.1 = k then (kv.1, d) else kv else kvs ++ [(k, d)]
def ImKG (K : Frag) (W : Addr → Prop) (H : Hp) (us : List (κ × V)) (kvs : List (κ × PyData)) : Prop := us.map (·.1) = kvs.map (·.1) ∧ ImAll K W H (us.map (·.2)) (kvs.map (·.2))
variable {K : Frag} {W : Addr → Prop} {H : Hp}
theorem ImKG.nil : ImKG K W H ([] : List (κ × V)) [] := ⟨rfl, .nil⟩
theorem ImKG.inv {us : List (κ × V)} {kvs : List (κ × PyData)} (h : ImKG K W H us kvs) : (us = [] ∧ kvs = []) ∨ ∃ k v d us' kvs', us = (k, v) :: us' ∧ kvs = (k, d) :: kvs' ∧ Im K W H v d ∧ ImKG K W H us' kvs' := by
  obtain ⟨h1, h2⟩ := h
  cases us with
  | nil => cases kvs with
    | nil => exact .inl ⟨rfl, rfl⟩
    | cons _ _ => cases h1
  | cons u us => cases kvs with
    | nil => cases h1
    | cons kv kvs =>
      obtain ⟨k, v⟩ := u
      obtain ⟨k', d⟩ := kv
      simp only [List.map_cons, List.cons.injEq] at h1
      obtain ⟨rfl, h1⟩ := h1
      cases h2 with
      | cons q r => exact .inr ⟨k, v, d, us, kvs, rfl, rfl, q, h1, r⟩
theorem ImKG.cons {k : κ} {v : V} {d : PyData} {us : List (κ × V)} {kvs : List (κ × PyData)} (q : Im K W H v d) (h : ImKG K W H us kvs) : ImKG K W H ((k, v) :: us) ((k, d) :: kvs) := ⟨by rw [List.map_cons, List.map_cons, h.1], .cons q h.2⟩
theorem ImKG.app {us us' : List (κ × V)} {kvs kvs' : List (κ × PyData)} (h : ImKG K W H us kvs) (h' : ImKG K W H us' kvs') : ImKG K W H (us ++ us') (kvs ++ kvs') := ⟨by rw [List.map_append, List.map_append, h.1, h'.1], by rw [List.map_append, List.map_append]; exact h.2.append h'.2⟩
theorem ImKG.any {k : κ} : ∀ {us : List (κ × V)} {kvs : List (κ × PyData)}, ImKG K W H us kvs → (us.any fun kv => decide (kv.1 = k)) = (kvs.any fun kv => decide (kv.1 = k))
  | [], _, h => by rcases h.inv with ⟨_, rfl⟩ | ⟨_, _, _, _, _, e, _⟩; rfl; cases e
  | u :: us, _, h => by
    rcases h.inv with ⟨e, _⟩ | ⟨k', v, d, us', kvs', e, rfl, q, h'⟩
    · cases e
    · cases e
      rw [List.any_cons, List.any_cons, ImKG.any h']
theorem ImKG.val {k : κ} {d : PyData} : ∀ {us : List (κ × V)} {kvs : List (κ × PyData)}, ImKG K W H us kvs → valG kvs k = some d → ∃ v, valV us k = some v ∧ Im K W H v d
  | [], _, h, e => by rcases h.inv with ⟨_, rfl⟩ | ⟨_, _, _, _, _, e', _⟩; cases e; cases e'
  | u :: us, _, h, e => by
    rcases h.inv with ⟨e', _⟩ | ⟨k', v, d', us', kvs', e', rfl, q, h'⟩
    · cases e'
    · cases e'
      by_cases hk : k' = k
      · subst hk
        simp [valG] at e
        subst e
        exact ⟨v, by simp [valV], q⟩
      · have e2 : valG kvs' k = some d := by simpa [valG, hk] using e
        obtain ⟨v', h1, h2⟩ := ImKG.val h' e2
        exact ⟨v', by simpa [valV, hk] using h1, h2⟩
theorem ImKG.noval {k : κ} : ∀ {us : List (κ × V)} {kvs : List (κ × PyData)}, ImKG K W H us kvs → valG kvs k = none → valV us k = none
  | [], _, h, e => rfl
  | u :: us, _, h, e => by
    rcases h.inv with ⟨e', _⟩ | ⟨k', v, d', us', kvs', e', rfl, q, h'⟩
    · cases e'
    · cases e'
      by_cases hk : k' = k
      · subst hk
        simp [valG] at e
      · have e2 : valG kvs' k = none := by simpa [valG, hk] using e
        simpa [valV, hk] using ImKG.noval h' e2
theorem ImKG.mapK {k : κ} {v : V} {d : PyData} (q : Im K W H v d) : ∀ {us : List (κ × V)} {kvs : List (κ × PyData)}, ImKG K W H us kvs → ImKG K W H (us.map fun kv => if kv.1 = k then (kv.1, v) else kv) (kvs.map fun kv => if kv.1 = k then (kv.1, d) else kv)
  | [], _, h => by rcases h.inv with ⟨_, rfl⟩ | ⟨_, _, _, _, _, e', _⟩; exact .nil; cases e'
  | u :: us, _, h => by
    rcases h.inv with ⟨e', _⟩ | ⟨k', v', d', us', kvs', e', rfl, q', h'⟩
    · cases e'
    · cases e'
      have ih := ImKG.mapK (k := k) q h'
      rw [List.map_cons, List.map_cons]
      dsimp only
      split
      · exact .cons q ih
      · exact .cons q' ih
theorem ImKG.put {k : κ} {v : V} {d : PyData} (q : Im K W H v d) {us : List (κ × V)} {kvs : List (κ × PyData)} (h : ImKG K W H us kvs) : ImKG K W H (putK us k v) (putG kvs k d) := by
  unfold putK putG
  rw [h.any]
  split
  · exact h.mapK q
  · exact h.app (.cons q .nil)
theorem ImKG.len {us : List (κ × V)} {kvs : List (κ × PyData)} (h : ImKG K W H us kvs) : us.length = kvs.length := by
  have := congrArg List.length h.1
  simpa using this
theorem ImKG.tr {W' : Addr → Prop} {H' : Hp} (s : Stay W W' H H') {us : List (κ × V)} {kvs : List (κ × PyData)} (h : ImKG K W H us kvs) : ImKG K W' H' us kvs := ⟨h.1, ImAll.tr s h.2⟩
end
abbrev KTD := List (List Key × PyData)
def ktD (kvs : KTD) : List (PyData × PyData) := kvs.map fun p => (kyT p.1, p.2)
def keysL : List PyData → Option (List Key)
  | [] => some []
  | d :: r => match keyOf d, keysL r with
    | some k, some r => some (k :: r)
    | _, _ => none
def keyT : PyData → Option (List Key)
  | .tuple ds => keysL ds
  | _ => none
theorem keysL_keyD : ∀ ks : List Key, keysL (ks.map keyD) = some ks
  | [] => rfl
  | k :: r => by rw [List.map_cons, keysL, keyOf_keyD, keysL_keyD r]
theorem keyT_kyT (k : List Key) : keyT (kyT k) = some k := keysL_keyD k
def unTE : List (PyData × PyData) → Option KTD
  | [] => some []
  | (k, d) :: r => match keyT k, unTE r with
    | some k, some r => some ((k, d) :: r)
    | _, _ => none
def unKT : List (PyData × PyData) → Option KTD
  | (.none, .bool true) :: r => unTE r
  | _ => none
theorem unTE_ktD : ∀ kvs : KTD, unTE (ktD kvs) = some kvs
  | [] => rfl
  | (k, d) :: r => by
    show unTE ((kyT k, d) :: ktD r) = _
    rw [unTE, keyT_kyT, unTE_ktD r]
theorem unKT_ktD (kvs : KTD) : unKT (mkT :: ktD kvs) = some kvs := unTE_ktD kvs
section
variable {K : Frag} {W : Addr → Prop} {H : Hp} {Z : Zs}
def kyS (st : Sto) (s : Sl) : Option (List Key) := (vw st s).bind keyT
def dtAt (st : Sto) : Sl → Option KTD
  | .o h => match st[h]? with
    | some (.dT kvs) => some kvs
    | _ => none
  | .d (.dict l) => unKT l
  | _ => none
theorem dtAt_o {st : Sto} {h : Nat} : dtAt st (.o h) = (match st[h]? with
    | some (.dT kvs) => some kvs
    | _ => none) := rfl
def dkAny (st : Sto) : Sl → Option KD
  | .o h => match st[h]? with
    | some (.dK kvs) => some kvs
    | _ => none
  | .d (.dict l) => unKD l
  | _ => none
def dvAt (st : Sto) (s : Sl) : Option (List PyData) := match dkAny st s with
  | some kvs => some (kvs.map (·.2))
  | none => match dtAt st s with
    | some kvs => some (kvs.map (·.2))
    | none => none
end
theorem Rd.upd {H : Hp} {a p : Addr} {u o : HO} (h : Rd H a u) (n : H p = none) : Rd (upd H p o) a u := by
  have ne : a ≠ p := fun z => by subst z; rcases h with h | ⟨_, h⟩ <;> rw [n] at h <;> cases h
  rcases h with h | ⟨q, h⟩
  · exact .inl (by rw [upd_ne ne]; exact h)
  · exact .inr ⟨q, by rw [upd_ne ne]; exact h⟩
theorem IsDV.upd {H : Hp} {a p : Addr} {vs : List V} {o : HO} (h : IsDV H a vs) (n : H p = none) : IsDV (upd H p o) a vs := h.elim (fun ⟨k, e, q⟩ => .inl ⟨k, Rd.upd e n, q⟩) fun ⟨k, e, q⟩ => .inr ⟨k, Rd.upd e n, q⟩
section
variable {X : Cx} {E : WXs} {e : Expr} {te : DE} {td : TE} {apos cpos pos p : Pos}
def tVals (td : TE) : TE := fun σ H Q => td σ H fun x H1 => ∃ (a : Addr) (vs : List V), x = .ref a ∧ IsDV H1 a vs ∧ ∀ p, H1 p = none → Q (.ref p) (upd H1 p (viewO "dict_values" p a))
def wListV (te : DE) : DE := fun Ed sl st Q => te Ed sl st fun s st => match dvAt st s with
  | some ds => Q (.d (.list ds)) st
  | none => False
theorem wListV_ap {Ed : DX} {sl : Sls} {st : Sto} {Q : DK} : wListV te Ed sl st Q = (te Ed sl st fun s st => match dvAt st s with
  | some ds => Q (.d (.list ds)) st
  | none => False) := rfl
def wSumV (te : DE) : DE := fun Ed sl st Q => te Ed sl st fun s st => match dvAt st s with
  | some ds => ∃ ns : List Int, ds = ns.map .int ∧ Q (.d (.int ns.sum)) st
  | none => False
theorem wSumV_ap {Ed : DX} {sl : Sls} {st : Sto} {Q : DK} : wSumV te Ed sl st Q = (te Ed sl st fun s st => match dvAt st s with
  | some ds => ∃ ns : List Int, ds = ns.map .int ∧ Q (.d (.int ns.sum)) st
  | none => False) := rfl
end
end Pz
set_option maxRecDepth 100000
namespace Pz
open PySem PySem.Spec PyProof.Rows L2 TL PySem.W
variable [PenC]
section
variable {X : Cx} {E : WXs} {Z0 : Zs} {a b c e o f : Expr} {ta tb tc te ti to td ty tx : DE} {pos apos cpos : Pos} {K : Frag}
def oTGet (s t : Sl) (st : Sto) (Q : DK) : Prop := match dtAt st s, kyS st t with
  | some kvs, some k => ∃ d, valG kvs k = some d ∧ Q (.d d) st
  | _, _ => False
def dinS (st : Sto) (s t : Sl) : Option Bool := match dkAny st t with
  | some kvs => (keyS st s).map fun k => (valG kvs k).isSome
  | none => match dtAt st t with
    | some kvs => (kyS st s).map fun k => (valG kvs k).isSome
    | none => none
def wDIn (neg : Bool) (ta tb : DE) : DE := fun Ed sl st Q => ta Ed sl st fun s st => tb Ed sl st fun t st => match dinS st s t with
  | some b => Q (.d (.bool (b != neg))) st
  | none => False
theorem wDIn_ap {neg : Bool} {Ed : DX} {sl : Sls} {st : Sto} {Q : DK} : wDIn neg ta tb Ed sl st Q = (ta Ed sl st fun s st => tb Ed sl st fun t st => match dinS st s t with
  | some b => Q (.d (.bool (b != neg))) st
  | none => False) := rfl
def wTGet2 (td ty tx : DE) : DE := fun Ed sl st Q => td Ed sl st fun s st => (dtAt st s).isSome = true ∧ ty Ed sl st fun t st => tx Ed sl st fun u st => match dtAt st s, kyS st t with
  | some kvs, some k => match valG kvs k with
    | some d => Q (.d d) st
    | none => Q u st
  | _, _ => False
theorem wTGet2_ap {Ed : DX} {sl : Sls} {st : Sto} {Q : DK} : wTGet2 td ty tx Ed sl st Q = (td Ed sl st fun s st => (dtAt st s).isSome = true ∧ ty Ed sl st fun t st => tx Ed sl st fun u st => match dtAt st s, kyS st t with
  | some kvs, some k => match valG kvs k with
    | some d => Q (.d d) st
    | none => Q u st
  | _, _ => False) := rfl
def wTPut (te to ti : DE) : DS := fun D sl st => te D.ex sl st fun v st => to D.ex sl st fun o st => ti D.ex sl st fun i st => match o, v, kyS st i with
  | .o h, .d y, some k => match st[h]? with
    | some (.dT kvs) => kvs.length < sizeLine ∧ D.nx sl (st.set h (.dT (putG kvs k y)))
    | _ => False
  | _, _, _ => False
theorem wTPut_ap {nx bk ct : Sls → Sto → Prop} {rt : DK} {ex : DX} {sl : Sls} {st : Sto} : wTPut te to ti ⟨nx, rt, ex, bk, ct⟩ sl st = (te ex sl st fun v st => to ex sl st fun o st => ti ex sl st fun i st => match o, v, kyS st i with
  | .o h, .d y, some k => match st[h]? with
    | some (.dT kvs) => kvs.length < sizeLine ∧ nx sl (st.set h (.dT (putG kvs k y)))
    | _ => False
  | _, _, _ => False) := rfl
def wDAug (f : Sl → Sl → Sto → DK → Prop) (to ti te : DE) : DS := fun D sl st => to D.ex sl st fun o st => ti D.ex sl st fun i st => match o, keyS st i with
  | .o h, some k => match st[h]? with
    | some (.dK kvs) => ∃ d, valD kvs k = some d ∧ te D.ex sl st fun y st2 => st2 = st ∧ f (.d d) y st fun z st3 => match z with
      | .d z => st3 = st ∧ kvs.length < sizeLine ∧ D.nx sl (st.set h (.dK (putD kvs k z)))
      | _ => False
    | _ => False
  | _, _ => False
theorem wDAug_ap {f : Sl → Sl → Sto → DK → Prop} {nx bk ct : Sls → Sto → Prop} {rt : DK} {ex : DX} {sl : Sls} {st : Sto} : wDAug f to ti te ⟨nx, rt, ex, bk, ct⟩ sl st = (to ex sl st fun o st => ti ex sl st fun i st => match o, keyS st i with
  | .o h, some k => match st[h]? with
    | some (.dK kvs) => ∃ d, valD kvs k = some d ∧ te ex sl st fun y st2 => st2 = st ∧ f (.d d) y st fun z st3 => match z with
      | .d z => st3 = st ∧ kvs.length < sizeLine ∧ nx sl (st.set h (.dK (putD kvs k z)))
      | _ => False
    | _ => False
  | _, _ => False) := rfl
end
end Pz
set_option maxRecDepth 100000
namespace Pz
open PySem PySem.Spec PyProof.Rows L2 TL PySem.W
variable [PenC]
section
variable {X : Cx} {E : WXs} {Z0 : Zs} {K : Frag} {rest : List Stmt} {u : DS}
def wFrzL (n0 i : Nat) (u : DS) : DS := fun D sl st => match nthS sl i with
  | some (.o h) => match st[h]? with
    | some (.dK kvs) => n0 ≤ h ∧ (∀ c ∈ st, NoRef h c) ∧ u D (sl.map (frzX h (.dict (mkK :: kdD kvs)))) (st.set h .dead)
    | some (.dT kvs) => n0 ≤ h ∧ (∀ c ∈ st, NoRef h c) ∧ u D (sl.map (frzX h (.dict (mkT :: ktD kvs)))) (st.set h .dead)
    | _ => False
  | _ => u D sl st
theorem wFrzL_ap {n0 i : Nat} {u : DS} {nx bk ct : Sls → Sto → Prop} {rt : DK} {ex : DX} {sl : Sls} {st : Sto} : wFrzL n0 i u ⟨nx, rt, ex, bk, ct⟩ sl st = (match nthS sl i with
  | some (.o h) => match st[h]? with
    | some (.dK kvs) => n0 ≤ h ∧ (∀ c ∈ st, NoRef h c) ∧ u ⟨nx, rt, ex, bk, ct⟩ (sl.map (frzX h (.dict (mkK :: kdD kvs)))) (st.set h .dead)
    | some (.dT kvs) => n0 ≤ h ∧ (∀ c ∈ st, NoRef h c) ∧ u ⟨nx, rt, ex, bk, ct⟩ (sl.map (frzX h (.dict (mkT :: ktD kvs)))) (st.set h .dead)
    | _ => False
  | _ => u ⟨nx, rt, ex, bk, ct⟩ sl st) := rfl
end
end Pz
set_option maxRecDepth 100000
namespace Pz
open PySem PySem.Spec PyProof.Rows L2 TL PySem.W
variable [PenC]
def DLo (o : Obj) (ks vs : List V) : Prop := ∃ (es : Array DictEntry) (ep : Nat), o.ExactDict ∧ o.data = .dict es ep ∧ Vals ks (es.toList.map (·.key)) ∧ Vals vs (es.toList.map (·.val))
section
variable {X : Cx} {pins : List (Addr × Obj)} {σ : L2.St} {H : Hp} {s : Shared} {d : Addr} {o : Obj}
end
def ItDV (d : Addr) (o : Obj) (u : HO) (vs : List V) : It :=
  ⟨fun i H => H d = some (.frz o u) ∧ i < vs.length, fun i H x H' => H' = H ∧ vs[i]? = some x, fun i H => H d = some (.frz o u) ∧ vs.length ≤ i⟩
def ItDI (d : Addr) (o : Obj) (u : HO) (ks vs : List V) : It :=
  ⟨fun i H => H d = some (.frz o u) ∧ i < vs.length, fun i H x H' => ∃ T k v, ks[i]? = some k ∧ vs[i]? = some v ∧ x = .ref T ∧ H T = none ∧ H' = upd H T (.tup [k, v]), fun i H => H d = some (.frz o u) ∧ vs.length ≤ i⟩
section
variable {P : Program} {w : World} {K : Frag} {d : Addr} {o : Obj} {u : HO} {ks vs : List V} {es : Array DictEntry} {ep : Nat}
end
section
variable {X : Cx} {E : WXs} {tg e : Expr} {td : TE} {te : DE} {apos cpos : Pos} {K : Frag}
def LkAt (H : Hp) (x : V) (d : Addr) (o : Obj) (u : HO) (vs : List V) : Prop := x = .ref d ∧ H d = some (.frz o u) ∧ ((∃ kvs : List (Key × V), u = .dK kvs ∧ vs = kvs.map (·.2)) ∨ ∃ kvs : List (List Key × V), u = .dT kvs ∧ vs = kvs.map (·.2))
def KsOf (H : Hp) (u : HO) (ks : List V) : Prop := (∃ kvs : List (Key × V), u = .dK kvs ∧ ks = kvs.map fun p => kV p.1) ∨ ∃ (kvs : List (List Key × V)) (bs : List Addr), u = .dT kvs ∧ L2.IsKeys H kvs bs ∧ ks = bs.map V.ref
def LkAtV (H : Hp) (x : V) (d : Addr) (o : Obj) (u : HO) (vs : List V) : Prop := LkAt H x d o u vs ∨ (x = .ref d ∧ H d = some (.frz o u) ∧ ∃ kvs : List (Option Int × V), u = NdO kvs d ∧ vs = kvs.map (·.2))
theorem LkAtV.x {H : Hp} {x : V} {d : Addr} {o : Obj} {u : HO} {vs : List V} (h : LkAtV H x d o u vs) : x = .ref d ∧ H d = some (.frz o u) := h.elim (fun q => ⟨q.1, q.2.1⟩) fun q => ⟨q.1, q.2.1⟩
def iDV (td : TE) : TI := fun σ H R => td σ H fun x H1 => ∃ d o u vs, LkAtV H1 x d o u vs ∧ R (ItDV d o u vs) H1
def iDI (td : TE) : TI := fun σ H R => td σ H fun x H1 => ∃ d o u vs, LkAt H1 x d o u vs ∧ ∀ ks, KsOf H1 u ks → R (ItDI d o u ks vs) H1
def lkP : Sl → Option (List (PyData × PyData))
  | .d (.dict ((.none, .bool _) :: r)) => some r
  | _ => none
theorem lkP_K {r : List (PyData × PyData)} : lkP (.d (.dict (mkK :: r))) = some r := rfl
theorem lkP_T {r : List (PyData × PyData)} : lkP (.d (.dict (mkT :: r))) = some r := rfl
def lkV : Sl → Option (List (PyData × PyData))
  | .d (.dict ((.none, .bool _) :: r)) => some r
  | .d (.dict ((.none, .none) :: r)) => some r
  | _ => none
theorem lkV_K {r : List (PyData × PyData)} : lkV (.d (.dict (mkK :: r))) = some r := rfl
theorem lkV_T {r : List (PyData × PyData)} : lkV (.d (.dict (mkT :: r))) = some r := rfl
theorem lkV_N {r : List (PyData × PyData)} : lkV (.d (.dict (mkN :: r))) = some r := rfl
def wItV (te : DE) : DI := fun Ed sl st Q => te Ed sl st fun s st => match lkV s with
  | some ps => Q (ps.map (·.2)) st
  | none => False
theorem wItV_ap {Ed : DX} {sl : Sls} {st : Sto} {Q : List PyData → Sto → Prop} : wItV te Ed sl st Q = (te Ed sl st fun s st => match lkV s with
  | some ps => Q (ps.map (·.2)) st
  | none => False) := rfl
def wItI (te : DE) : DI := fun Ed sl st Q => te Ed sl st fun s st => match lkP s with
  | some ps => Q (ps.map fun p => .tuple [p.1, p.2]) st
  | none => False
theorem wItI_ap {Ed : DX} {sl : Sls} {st : Sto} {Q : List PyData → Sto → Prop} : wItI te Ed sl st Q = (te Ed sl st fun s st => match lkP s with
  | some ps => Q (ps.map fun p => .tuple [p.1, p.2]) st
  | none => False) := rfl
def wItK (te : DE) : DI := fun Ed sl st Q => te Ed sl st fun s st => match lkP s with
  | some ps => Q (ps.map (·.1)) st
  | none => False
theorem wItK_ap {Ed : DX} {sl : Sls} {st : Sto} {Q : List PyData → Sto → Prop} : wItK te Ed sl st Q = (te Ed sl st fun s st => match lkP s with
  | some ps => Q (ps.map (·.1)) st
  | none => False) := rfl
end
end Pz
set_option maxRecDepth 100000
namespace Pz
open PySem PySem.Spec PyProof.Rows L2 TL PySem.W
variable [PenC]
section
variable {X : Cx} {E : WXs} {ke ve : Expr} {tk tv : TE} {dk dv : DE} {pos : Pos} {K : Frag}
def tDisp1 (tk tv : TE) : TE := fun σ H Q => ∀ p, H p = none → tk σ (upd H p (.dT [])) fun x H1 => tv σ H1 fun y H2 => H2 p = some (.dT []) ∧ ∃ (k : List Key) (b : Addr), x = .ref b ∧ H2 b = some (.tup (k.map kV)) ∧ Q (.ref p) (upd H2 p (.dT [(k, y)]))
def wDisp1 (tk tv : DE) : DE := fun Ed sl st Q => tk Ed sl (st ++ [.dT []]) fun s st1 => tv Ed sl st1 fun t st2 => match kyS st2 s, t with
  | some k, .d y => st2[st.length]? = some (.dT []) ∧ Q (.o st.length) (st2.set st.length (.dT [(k, y)]))
  | _, _ => False
theorem wDisp1_ap {Ed : DX} {sl : Sls} {st : Sto} {Q : DK} : wDisp1 dk dv Ed sl st Q = (dk Ed sl (st ++ [.dT []]) fun s st1 => dv Ed sl st1 fun t st2 => match kyS st2 s, t with
  | some k, .d y => st2[st.length]? = some (.dT []) ∧ Q (.o st.length) (st2.set st.length (.dT [(k, y)]))
  | _, _ => False) := rfl
theorem key_reads2 {h : Heap} {k : Key} {u : Value} (a : L2.RelV (kV k) u) : Reads h u (keyD k) [] := by
  cases k with
  | inl i => obtain ⟨t, rfl⟩ := a; exact .int i t
  | inr x => obtain ⟨t, rfl⟩ := a; exact .str x t
theorem keys_reads2 {h : Heap} : ∀ {ks : List Key} {us : List Value}, Vals (ks.map kV) us → ReadsAll h us (ks.map keyD) []
  | [], _, r => by cases r; exact .nil
  | k :: ks, _, r => by
    cases r with
    | cons a b => exact .cons (as := []) (bs := []) (key_reads2 a) (keys_reads2 b)
theorem kyT_reads {pins : List (Addr × Obj)} {σ : L2.St} {H : Hp} {s : Shared} (I : Inv X pins σ H s) {b : Addr} {k : List Key} (e : H b = some (.tup (k.map kV))) : Reads s.heap (.ref b) (kyT k) [] := by
  obtain ⟨_, its, r, o, h1, h2, n, h3⟩ := (show L2.ObjOk X.prog X.w H s.heap b (.tup (k.map kV)) from I.hok b _ e)
  exact .tuple h1 h2 h3 (by simpa using keys_reads2 r)
def IsKy (H : Hp) (x : V) (d : PyData) : Prop := (∃ k : Key, x = kV k ∧ d = keyD k) ∨ ∃ (k : List Key) (b : Addr), x = .ref b ∧ H b = some (.tup (k.map kV)) ∧ d = kyT k
theorem IsKy.reads {pins : List (Addr × Obj)} {σ : L2.St} {H : Hp} {s : Shared} (I : Inv X pins σ H s) {x : V} {d : PyData} {u : Value} (h : IsKy H x d) (r : L2.RelV x u) : Reads s.heap u d [] := by
  rcases h with ⟨k, rfl, rfl⟩ | ⟨k, b, rfl, e, rfl⟩
  · exact key_reads2 r
  · cases r; exact kyT_reads I e
def DKy (H : Hp) (d : Addr) (kd : List PyData) : Prop := (∃ kvs : List (Key × V), Rd H d (.dK kvs) ∧ kd = kvs.map fun p => keyD p.1) ∨ ∃ kvs : List (List Key × V), Rd H d (.dT kvs) ∧ kd = kvs.map fun p => kyT p.1
def rListKy : List V → Hp → VK → Prop := fun xs H Q => ∃ (d : Addr) (kd : List PyData), xs = [.ref d] ∧ DKy H d kd ∧ ∀ q ks, H q = none → Paired (IsKy H) ks kd → Q (.ref q) (upd H q (.lst ks))
def IsV (H : Hp) (u : Value) (d : PyData) : Prop := ∃ v, L2.RelV v u ∧ IsKy H v d
def rSortKy : List V → Hp → VK → Prop := fun xs H Q => ∃ (d : Addr) (kd : List PyData), xs = [.ref d] ∧ DKy H d kd ∧ AllAlike kd ∧ (Sortable kd ∨ kd = [.tuple []]) ∧ (∀ d ∈ kd, d.depth ≤ 50) ∧ ∀ q ks, H q = none → Paired (IsKy H) ks (dsort kd) → Q (.ref q) (upd H q (.lst ks))
end
end Pz
set_option maxRecDepth 100000
namespace Pz
open PySem PySem.Spec PyProof.Rows L2 TL PySem.W
variable [PenC]
section
variable {X : Cx} {E : WXs} {e : Expr} {te : DE} {K : Frag}
def dkyS (st : Sto) (s : Sl) : Option (List PyData) := match dkAny st s with
  | some kvs => some (kvs.map fun p => keyD p.1)
  | none => match dtAt st s with
    | some kvs => some (kvs.map fun p => kyT p.1)
    | none => none
def fListKy : FA := fun ss st Q => match ss with
  | [s] => match dkyS st s with
    | some kd => Q (.d (.list kd)) st
    | none => False
  | _ => False
def fSortKy : FA := fun ss st Q => match ss with
  | [s] => match dkyS st s with
    | some kd => AllAlike kd ∧ (Sortable kd ∨ kd = [.tuple []]) ∧ (∀ d ∈ kd, d.depth ≤ 50) ∧ Q (.d (.list (dsort kd))) st
    | none => False
  | _ => False
def rLenD : List V → Hp → VK → Prop := fun xs H Q => ∃ d, xs = [.ref d] ∧ ((∃ kvs : List (Key × V), Rd H d (.dK kvs) ∧ Q (.int kvs.length) H) ∨ ∃ kvs : List (List Key × V), H d = some (.dT kvs) ∧ Q (.int kvs.length) H)
def fLenD : FA := fun ss st Q => match ss with
  | [s] => match dkAny st s with
    | some kvs => Q (.d (.int kvs.length)) st
    | none => match s with
      | .o h => match st[h]? with
        | some (.dT kvs) => Q (.d (.int kvs.length)) st
        | _ => False
      | _ => False
  | _ => False
end
section
variable {X : Cx} {E : WXs} {e : Expr} {te : DE} {K : Frag}
mutual
theorem Im.bk {W1 W2 : Addr → Prop} {H1 H2 : Hp} {a : Addr} {o : Obj} {u : HO} (hW : ∀ b, W2 b → W1 b ∨ b = a) (hH : ∀ b, b ≠ a → H2 b = H1 b) (ha : H1 a = some (.frz o u)) : ∀ {v : V} {x : PyData}, Im K W1 H1 v x → x.hasDict = false → Im K W2 H2 v x
  | _, _, .non, _ => .non
  | _, _, .bl b, _ => .bl b
  | _, _, .int i, _ => .int i
  | _, _, .str z, _ => .str z
  | _, _, .lst (a := b) q n r, h => by
    have hne : b ≠ a := fun z => by rw [z, ha] at q; cases q
    exact .lst ((hH b hne).trans q) (fun w => (hW b w).elim n hne) (ImAll.bk hW hH ha r (by simpa [PyData.hasDict] using h))
  | _, _, .tup (a := b) q r, h => by
    refine .tup ?_ (ImAll.bk hW hH ha r (by simpa [PyData.hasDict] using h))
    rcases q with ⟨q, n⟩ | q
    · have hne : b ≠ a := fun z => by rw [z, ha] at q; cases q
      exact .inl ⟨(hH b hne).trans q, fun w => (hW b w).elim n hne⟩
    · exact .inr q
  | _, _, .dct _ _ _, h => by simp [PyData.hasDict] at h
  | _, _, .dcl _ _ _, h => by simp [PyData.hasDict] at h
  | _, _, .dcT _ _ _, h => by simp [PyData.hasDict] at h
  | _, _, .dcN _ _ _, h => by simp [PyData.hasDict] at h
  | _, _, .exc _ _ _ _ _ _, h => by simp [PyData.hasDict] at h
theorem ImAll.bk {W1 W2 : Addr → Prop} {H1 H2 : Hp} {a : Addr} {o : Obj} {u : HO} (hW : ∀ b, W2 b → W1 b ∨ b = a) (hH : ∀ b, b ≠ a → H2 b = H1 b) (ha : H1 a = some (.frz o u)) : ∀ {vs : List V} {xs : List PyData}, ImAll K W1 H1 vs xs → PyData.hasDictAll xs = false → ImAll K W2 H2 vs xs
  | _, _, .nil, _ => .nil
  | _, _, .cons q r, h => by
    simp only [PyData.hasDictAll, Bool.or_eq_false_iff] at h
    exact .cons (Im.bk hW hH ha q h.1) (ImAll.bk hW hH ha r h.2)
end
def lkOf : Ct → Option PyData
  | .dK kvs => some (.dict (mkK :: kdD kvs))
  | .dT kvs => some (.dict (mkT :: ktD kvs))
  | _ => none
def wBorD (i : Nat) (te : DE) : DE := fun _ sl st Q => match nthS sl i with
  | some (.o h) => match (st[h]?).bind lkOf with
    | some x => te (fun _ _ _ _ => False) ((sl.map borS).set i (some (.d x))) [] fun s _ => match s with
      | .d x => x.hasDict = false ∧ Q (.d x) st
      | _ => False
    | _ => False
  | _ => False
theorem wBorD_ap {i : Nat} {Ed : DX} {sl : Sls} {st : Sto} {Q : DK} : wBorD i te Ed sl st Q = (match nthS sl i with
  | some (.o h) => match (st[h]?).bind lkOf with
    | some x => te (fun _ _ _ _ => False) ((sl.map borS).set i (some (.d x))) [] fun s _ => match s with
      | .d x => x.hasDict = false ∧ Q (.d x) st
      | _ => False
    | _ => False
  | _ => False) := rfl
end
end Pz
set_option maxRecDepth 100000
namespace Pz
open PySem PySem.Spec PyProof.Rows L2 TL PySem.W
variable [PenC]
section
variable {X : Cx} {E : WXs} {Z0 : Zs} {e : Expr} {es : List Expr} {t : DA} {pos p : Pos} {x : Str} {f : FD} {n k m : Nat} {N : List Str} {τ : DS}
def wDNewT : DE := fun Ed sl st Q => Q (.o st.length) (st ++ [.dT []])
theorem wDNewT_ap {Ed : DX} {sl : Sls} {st : Sto} {Q : DK} : wDNewT Ed sl st Q = Q (.o st.length) (st ++ [.dT []]) := rfl
def unD : PyData → Option Ct
  | .dict l => match unKD l with
    | some kvs => some (.dK kvs)
    | none => match unKT l with
      | some kvs => some (.dT kvs)
      | none => none
  | _ => none
theorem unD_K (kvs : KD) : unD (.dict (kdD kvs)) = some (.dK kvs) := by
  unfold unD
  dsimp only
  rw [unKD_kdD]
theorem unD_T (kvs : KTD) : unD (.dict (mkT :: ktD kvs)) = some (.dT kvs) := by
  unfold unD
  dsimp only
  rw [show unKD (mkT :: ktD kvs) = none from rfl, unKT_ktD]
def spFD (f : FD) : DSp := fun ss cs Q Ed => cs = [] ∧ f ss fun d => match unD d with
  | some c => Q (.o 0) [c]
  | none => False
def aFD (f : FD) (ss : List Sl) (st : Sto) (Q : DK) : Prop := f ss fun d => match unD d with
  | some c => Q (.o st.length) (st ++ [c])
  | none => False
def wCallFD (f : FD) (t : DA) : DE := fun Ed sl st Q => t Ed sl st fun ss st => aFD f ss st Q
theorem wCallFD_ap {f : FD} {t : DA} {Ed : DX} {sl : Sls} {st : Sto} {Q : DK} : wCallFD f t Ed sl st Q = (t Ed sl st fun ss st => aFD f ss st Q) := rfl
variable {fa : Addr} {fd : FuncData} {ps : List Str}
end
section
variable {st : Sto} {s : Sl} {h : Nat} {kvs : KD} {kts : KTD} {ds : List PyData}
theorem kyS_t : kyS st (.d (.tuple ds)) = keysL ds := rfl
theorem keysL_nil : keysL [] = some [] := rfl
theorem keysL_ci {i : Int} {r : List PyData} : keysL (.int i :: r) = (keysL r).map (Sum.inl i :: ·) := by
  rw [keysL]
  cases keysL r <;> rfl
theorem keysL_cs {z : Str} {r : List PyData} : keysL (.str z :: r) = (keysL r).map (Sum.inr z :: ·) := by
  rw [keysL]
  cases keysL r <;> rfl
theorem dtAt_L : dtAt st (.d (.dict (mkT :: ktD kts))) = some kts := unKT_ktD kts
theorem dkAny_o : dkAny st (.o h) = (match st[h]? with
  | some (.dK kvs) => some kvs
  | _ => none) := rfl
theorem dkAny_D : dkAny st (.d (.dict (kdD kvs))) = some kvs := unKD_kdD kvs
theorem dkAny_L : dkAny st (.d (.dict (mkK :: kdD kvs))) = some kvs := unKD_loc kvs
theorem dvAt_o : dvAt st (.o h) = (match st[h]? with
  | some (.dK kvs) => some (kvs.map (·.2))
  | some (.dT kvs) => some (kvs.map (·.2))
  | _ => none) := by
  unfold dvAt
  rw [dkAny_o, dtAt_o]
  cases st[h]? with
  | none => rfl
  | some c => cases c <;> rfl
theorem dvAt_D : dvAt st (.d (.dict (kdD kvs))) = some (kvs.map (·.2)) := by unfold dvAt; rw [dkAny_D]
theorem dvAt_L : dvAt st (.d (.dict (mkK :: kdD kvs))) = some (kvs.map (·.2)) := by unfold dvAt; rw [dkAny_L]
theorem dvAt_T : dvAt st (.d (.dict (mkT :: ktD kts))) = some (kts.map (·.2)) := by unfold dvAt; rw [show dkAny st (.d (.dict (mkT :: ktD kts))) = none from rfl, dtAt_L]
theorem dkyS_o : dkyS st (.o h) = (match st[h]? with
  | some (.dK kvs) => some (kvs.map fun p => keyD p.1)
  | some (.dT kvs) => some (kvs.map fun p => kyT p.1)
  | _ => none) := by
  unfold dkyS
  rw [dkAny_o, dtAt_o]
  cases st[h]? with
  | none => rfl
  | some c => cases c <;> rfl
theorem dkyS_D : dkyS st (.d (.dict (kdD kvs))) = some (kvs.map fun p => keyD p.1) := by unfold dkyS; rw [dkAny_D]
theorem dkyS_L : dkyS st (.d (.dict (mkK :: kdD kvs))) = some (kvs.map fun p => keyD p.1) := by unfold dkyS; rw [dkAny_L]
theorem dkyS_T : dkyS st (.d (.dict (mkT :: ktD kts))) = some (kts.map fun p => kyT p.1) := by unfold dkyS; rw [show dkAny st (.d (.dict (mkT :: ktD kts))) = none from rfl, dtAt_L]
theorem dinS_o : dinS st s (.o h) = (match st[h]? with
  | some (.dK kvs) => (keyS st s).map fun k => (valG kvs k).isSome
  | some (.dT kvs) => (kyS st s).map fun k => (valG kvs k).isSome
  | _ => none) := by
  unfold dinS
  rw [dkAny_o, dtAt_o]
  cases st[h]? with
  | none => rfl
  | some c => cases c <;> rfl
theorem dinS_D : dinS st s (.d (.dict (kdD kvs))) = (keyS st s).map fun k => (valG kvs k).isSome := by unfold dinS; rw [dkAny_D]
theorem dinS_L : dinS st s (.d (.dict (mkK :: kdD kvs))) = (keyS st s).map fun k => (valG kvs k).isSome := by unfold dinS; rw [dkAny_L]
theorem dinS_T : dinS st s (.d (.dict (mkT :: ktD kts))) = (kyS st s).map fun k => (valG kts k).isSome := by unfold dinS; rw [show dkAny st (.d (.dict (mkT :: ktD kts))) = none from rfl, dtAt_L]
theorem fLenD_o {Q : DK} : fLenD [.o h] st Q = (match st[h]? with
  | some (.dK kvs) => Q (.d (.int kvs.length)) st
  | some (.dT kvs) => Q (.d (.int kvs.length)) st
  | _ => False) := by
  unfold fLenD
  dsimp only
  rw [dkAny_o]
  cases st[h]? with
  | none => rfl
  | some c => cases c <;> rfl
theorem ret1_dT {C : KTD} {st : Sto} {Q : DK} : Ret 0 (.o 0) (.dT C :: st) Q = Q (.o 0) [.dT C] := by simp [Ret, Ct.live, Cl]
theorem cl_dt {n : Nat} {kvs : KTD} : Cl n (.dT kvs) = True := rfl
theorem lkOf_K : lkOf (.dK kvs) = some (.dict (mkK :: kdD kvs)) := rfl
theorem lkOf_T : lkOf (.dT kts) = some (.dict (mkT :: ktD kts)) := rfl
theorem xor_f {b : Bool} : (b != false) = b := by cases b <;> rfl
theorem xor_t {b : Bool} : (b != true) = !b := by cases b <;> rfl
theorem hasD_int {i : Int} : (PyData.int i).hasDict = false := rfl
end
end Pz
set_option maxRecDepth 100000
namespace Pz
open PySem PySem.Spec PyProof.Rows L2 TL PySem.W
variable [PenC]
def oLtS (x y : Sl) (st : Sto) (Q : DK) : Prop := match vw st x, vw st y with
  | some (.str a), some (.str b) => Q (.d (.bool (decide (tl a < tl b)))) st
  | _, _ => False
def oLtT (x y : Sl) (st : Sto) (Q : DK) : Prop := match vw st x, vw st y with
  | some (.tuple a), some (.tuple b) => match asInts a, asInts b with
    | some ns, some ms => Q (.d (.bool (HT.lexLt ns ms))) st
    | _, _ => False
  | _, _ => False
end Pz
set_option maxRecDepth 100000
namespace Pz
open PySem PySem.Spec PyProof.Rows L2 TL PySem.W
variable [PenC]
section
variable {X : Cx} {E : WXs}
def wItC (ds : List PyData) : DI := fun Ed sl st Q => Q ds st
theorem wItC_ap {ds : List PyData} {Ed : DX} {sl : Sls} {st : Sto} {Q : List PyData → Sto → Prop} : wItC ds Ed sl st Q = Q ds st := rfl
end
end Pz
set_option maxRecDepth 100000
namespace Pz
open PySem PySem.Spec PyProof.Rows L2 TL
variable [PenC]
section
variable {X : Cx} {E : WXs} {k n m : Nat} {fa : Addr} {fd : FuncData} {ps ks : List Str} {f : FDX} {x : Str} {p pos : Pos} {e : Expr} {es : List Expr} {t tk : DA} {kws : List Keyword} {gS : List Sl → List Sl → List Sl}
def wCallXE (n m : Nat) (f : FDX) (g : List Sl → List Sl → List Sl) (t tk : DA) : DE := fun Ed sl st Q => t Ed sl st fun ss st => tk Ed sl st fun zs st => ss.length = n ∧ zs.length = m ∧ f (g ss zs) (fun d => Q (.d d) st) fun c fs => Ed c fs sl st
theorem wCallXE_ap {g : List Sl → List Sl → List Sl} {Ed : DX} {sl : Sls} {st : Sto} {Q : DK} : wCallXE n m f g t tk Ed sl st Q = (t Ed sl st fun ss st => tk Ed sl st fun zs st => ss.length = n ∧ zs.length = m ∧ f (g ss zs) (fun d => Q (.d d) st) fun c fs => Ed c fs sl st) := rfl
end
end Pz
set_option maxRecDepth 100000
set_option maxHeartbeats 2000000
namespace L2
open PySem PySem.Spec PyProof PyProof.Rows PySem.W
section
variable {X : Cx} {pins : List (Addr × Obj)} {σ : St} {H : Hp} {s : Shared} {a b : Addr} {r : Value} {d : V} {k : List L2.Key} {A : Around} {E : Value → Shared → Prop}
end
def tDSetdT (td ty tx : TE) : TE := fun σ H Q => td σ H fun x H1 => ∃ a, x = .ref a ∧ IsD H1 a ∧ ty σ H1 fun y H2 => tx σ H2 fun z H3 => ∃ (kvs : List (List L2.Key × V)) (k : List L2.Key) (b : Addr), H3 a = some (.dT kvs) ∧ y = .ref b ∧ H3 b = some (.tup (k.map kV)) ∧ kvs.length < sizeLine ∧
  (∀ v, valV kvs k = some v → Q v H3) ∧ (valV kvs k = none → Q z (upd H3 a (.dT (putK kvs k z))))
section
variable {X : Cx} {o e f : Expr} {td ty tx : TE} {apos cpos : Pos}
end
end L2
set_option maxRecDepth 100000
namespace Pz
open PySem PySem.Spec PyProof.Rows L2 TL PySem.W
variable [PenC]
section
variable {X : Cx} {E : WXs} {td ty tx : DE} {o e f : Expr} {apos cpos : Pos}
def wTSetd (td ty tx : DE) : DE := fun Ed sl st Q => td Ed sl st fun s st => (dtAt st s).isSome = true ∧ ty Ed sl st fun t st => tx Ed sl st fun u st => match s, u, kyS st t with
  | .o h, .d y, some k => match st[h]? with
    | some (.dT kvs) => kvs.length < sizeLine ∧ match valG kvs k with
      | some d => Q (.d d) st
      | none => Q (.d y) (st.set h (.dT (putG kvs k y)))
    | _ => False
  | _, _, _ => False
theorem wTSetd_ap {Ed : DX} {sl : Sls} {st : Sto} {Q : DK} : wTSetd td ty tx Ed sl st Q = (td Ed sl st fun s st => (dtAt st s).isSome = true ∧ ty Ed sl st fun t st => tx Ed sl st fun u st => match s, u, kyS st t with
  | .o h, .d y, some k => match st[h]? with
    | some (.dT kvs) => kvs.length < sizeLine ∧ match valG kvs k with
      | some d => Q (.d d) st
      | none => Q (.d y) (st.set h (.dT (putG kvs k y)))
    | _ => False
  | _, _, _ => False) := rfl
end
section
variable {X : Cx} {E : WXs} {p pos : Pos}
def wListRgO (tr : DX → Sls → Sto → (Int → Int → Sto → Prop) → Prop) : DE := fun Ed sl st Q => tr Ed sl st fun i j st => RgOk i j ∧ Q (.o st.length) (st ++ [.lst (rng i (j - i).toNat)])
theorem wListRgO_ap {tr : DX → Sls → Sto → (Int → Int → Sto → Prop) → Prop} {Ed : DX} {sl : Sls} {st : Sto} {Q : DK} : wListRgO tr Ed sl st Q = (tr Ed sl st fun i j st => RgOk i j ∧ Q (.o st.length) (st ++ [.lst (rng i (j - i).toNat)])) := rfl
end
end Pz
set_option maxRecDepth 100000
namespace Pz
open PySem PySem.Spec PyProof.Rows L2 TL PySem.W
variable [PenC]
section
variable {X : Cx} {E : WXs} {Z0 : Zs} {L M F : List Str} {pos pos' np : Pos}
def wTryC (L : List Str) (y : Str) (j : Nat) (u : DS) : DS := fun D sl st => u ⟨D.nx, D.rt, fun c fs sl' st' => c ∈ L ∧ if subB c y = true then D.nx (sl'.set j (some (.d .none))) st' else D.ex c fs sl' st', D.bk, D.ct⟩ sl st
theorem wTryC_ap {y : Str} {j : Nat} {u : DS} {nx bk ct : Sls → Sto → Prop} {rt : DK} {ex : DX} {sl : Sls} {st : Sto} : wTryC L y j u ⟨nx, rt, ex, bk, ct⟩ sl st = u ⟨nx, rt, fun c fs sl' st' => c ∈ L ∧ if subB c y = true then nx (sl'.set j (some (.d .none))) st' else ex c fs sl' st', bk, ct⟩ sl st := rfl
end
end Pz
set_option maxRecDepth 100000
namespace Pz
open PySem PySem.Spec PyProof.Rows L2 TL PySem.W
variable [PenC]
def atS (zs : List Str) (i : Nat) : Str := zs.getD i (Str.ofString "")
def minL (zs : List Str) : Str := atS zs (argBest (fun i j => decide (((atS zs i).length : Int) < ((atS zs j).length : Int))) (zs.length - 1))
section
variable {prog : Program} {w : World} {A : Around} {E : Value → Shared → Prop} {s : Shared} {l : Addr}
end
def rMinLen (K : Frag) : List V → Hp → VK → Prop := fun vs H Q => ∃ (a : Addr) (zs : List Str), vs = [V.ref a] ∧ SqL K H a (zs.map V.str) ∧ (∀ z ∈ zs, z.length ≤ sizeLine) ∧ zs ≠ [] ∧ Q (.str (minL zs)) H
section
variable {X : Cx} {E : WXs} {e : Expr} {te : DE} {x : Str} {p p2 pos kp : Pos} {K : Frag} {t : TA}
def wMinLen (te : DE) : DE := fun Ed sl st Q => te Ed sl st fun s st => match vw st s with
  | some (.list ds) => ∃ zs, asStrs ds = some zs ∧ (∀ z ∈ zs, z.length ≤ 16777216) ∧ zs ≠ [] ∧ Q (.d (.str (minL zs))) st
  | _ => False
theorem wMinLen_ap {Ed : DX} {sl : Sls} {st : Sto} {Q : DK} : wMinLen te Ed sl st Q = (te Ed sl st fun s st => match vw st s with
  | some (.list ds) => ∃ zs, asStrs ds = some zs ∧ (∀ z ∈ zs, z.length ≤ 16777216) ∧ zs ≠ [] ∧ Q (.d (.str (minL zs))) st
  | _ => False) := rfl
end
end Pz
set_option maxRecDepth 100000
set_option maxHeartbeats 1000000
namespace Zt
open PySem PySem.Spec PyProof.Rows L2 Zm
section
variable {prog : Program} {w : World} {A : Around} {E : Value → Shared → Prop} {s : Shared}
abbrev mT1 (h : Heap) (l1 : Addr) : Heap := h.push { cls := .type "tuple_iterator", data := .fields #[.ref l1, .int 0 0] }
variable {z TI TO i1 i2 l1 l2 : Addr} {k : Nat} {xs ys : Array Value} {x y a b : Value} {S1 S2 : Nat → Heap → Prop}
abbrev mT2 (h : Heap) (l1 l2 : Addr) : Heap := (mT1 h l1).push { cls := .type "list_iterator", data := .fields #[.ref l2, .int 0 0] }
abbrev mT3 (h : Heap) (l1 l2 : Addr) : Heap := (mT2 h l1 l2).push { cls := .type "tuple", data := .seq #[.ref h.objs.size, .ref (mT1 h l1).objs.size] }
abbrev mT4 (h : Heap) (l1 l2 : Addr) : Heap := (mT3 h l1 l2).push { cls := .type "tuple", data := .seq #[.none, .none] }
abbrev mT5 (h : Heap) (l1 l2 : Addr) : Heap := (mT4 h l1 l2).push { cls := .type "zip", data := .fields #[.none, .bool false, .bool false, .ref (mT2 h l1 l2).objs.size, .ref (mT3 h l1 l2).objs.size] }
theorem meets_new (l1 l2 : Addr) (xs ys : Array Value) :
    Meets (Builtin.«zip.__new__» ⟨[.type "zip", .ref l1, .ref l2], []⟩) (fun _ R s => s.heap.IsTuple l1 xs ∧ s.heap.IsList l2 ys ∧
      R (.ok (.ret (.ref (mT4 s.heap l1 l2).objs.size))) { s with heap := mT5 s.heap l1 l2 }) :=
  .of_wp fun prog w A R s h => by
    obtain ⟨hp, g, d, tk, os⟩ := s; obtain ⟨hl1, hl2, h⟩ := h
    have hsub := sub_zip
    have hL1 : Heap.IsTuple (Shared.heap ⟨hp, g, d, tk, os⟩) l1 xs := hl1
    have hL2 : Heap.IsList (Shared.heap ⟨hp.push { cls := .type "tuple_iterator", data := .fields #[.ref l1, .int 0 0] }, g, d, tk, os⟩) l2 ys := Heap.IsList.push hl2 _
    wp_walk using wpAny_pyIter_tuple hL1, wpAny_pyIter_list hL2
    exact ⟨_, rfl, h⟩
theorem call_new {Q : Value → Shared → Prop} (hl1 : s.heap.IsTuple l1 xs) (hl2 : s.heap.IsList l2 ys)
    (h : ∀ h', IsZip h' (s.heap.objs.size + 4) (s.heap.objs.size + 2) (s.heap.objs.size + 3) .none → IsPair h' (s.heap.objs.size + 2) (.ref s.heap.objs.size) (.ref (s.heap.objs.size + 1)) →
      IsPair h' (s.heap.objs.size + 3) .none .none → h'.IsTupleIter s.heap.objs.size l1 0 → h'.IsListIter (s.heap.objs.size + 1) l2 0 →
      (∀ c o, s.heap.get? c = some o → h'.get? c = some o) → Q (.ref (s.heap.objs.size + 4)) { s with heap := h' }) :
    wpAny (model prog w) A (call (.type "zip") [.ref l1, .ref l2]) Q E s := by
  refine callType_new F.called_zip (by decide) (F.typeCall_zip_2 _ _) (F.newCall_zip_2 _ _) (fun obj => F.args_object_init_3 obj _ _) F.entry_zip_new (meets_new l1 l2 xs ys) ⟨hl1, hl2, ?_⟩
  have n1 : (mT1 s.heap l1).objs.size = s.heap.objs.size + 1 := Heap.size_push ..
  have n2 : (mT2 s.heap l1 l2).objs.size = s.heap.objs.size + 2 := by rw [Heap.size_push, n1]
  have n3 : (mT3 s.heap l1 l2).objs.size = s.heap.objs.size + 3 := by rw [Heap.size_push, n2]
  have n4 : (mT4 s.heap l1 l2).objs.size = s.heap.objs.size + 4 := by rw [Heap.size_push, n3]
  have on : ∀ {h : Heap} {ob o : Obj} {c : Addr}, h.get? c = some o → (h.push ob).get? c = some o := fun q => Heap.get?_push_of_some _ q
  have g5 : (mT5 s.heap l1 l2).get? (mT4 s.heap l1 l2).objs.size = some _ := Heap.get?_push_size _ rfl
  have g4 : (mT5 s.heap l1 l2).get? (mT3 s.heap l1 l2).objs.size = some _ := on (Heap.get?_push_size _ rfl)
  have g3 : (mT5 s.heap l1 l2).get? (mT2 s.heap l1 l2).objs.size = some _ := on (on (Heap.get?_push_size _ rfl))
  have g2 : (mT5 s.heap l1 l2).get? (mT1 s.heap l1).objs.size = some _ := on (on (on (Heap.get?_push_size _ rfl)))
  have g1 : (mT5 s.heap l1 l2).get? s.heap.objs.size = some _ := on (on (on (on (Heap.get?_push_size _ rfl))))
  show _ ∧ _
  rw [n2, n3, n4] at g5
  rw [n1, n2] at g3
  rw [n3] at g4
  rw [n1] at g2
  rw [n4]
  exact ⟨⟨_, g5, rfl⟩, h _ g5 g3 g4 ⟨_, g1, rfl, rfl⟩ ⟨_, g2, rfl, rfl⟩ fun c o q => on (on (on (on (on q))))⟩
end
def ItN (K : PySem.W.Frag) (a b : Addr) : It :=
  ⟨fun i H => ∃ (xs ys : List V) (x y : V), SqT K H a xs ∧ SqL K H b ys ∧ xs[i]? = some x ∧ ys[i]? = some y,
    fun i H v H' => ∃ T x y, v = .ref T ∧ H T = none ∧ H' = upd H T (.tup [x, y]) ∧ (∀ xs, SqT K H a xs → xs[i]? = some x) ∧ ∀ ys, SqL K H b ys → ys[i]? = some y,
    fun i H => ∃ xs ys : List V, SqT K H a xs ∧ SqL K H b ys ∧ (xs.length ≤ i ∨ ys.length ≤ i)⟩
def iZipN (K : PySem.W.Frag) (ta : TA) : TI := fun σ H R => ta σ H fun vs H1 => ∃ a b xs ys, vs = [.ref a, .ref b] ∧ SqT K H1 a xs ∧ SqL K H1 b ys ∧ R (ItN K a b) H1
end Zt
namespace Pz
open PySem PySem.Spec PyProof.Rows L2 TL
variable [PenC]
variable {X : Cx} {E : WXs} {Z0 : Zs} {K : Frag} {t : DA} {e e2 : Expr} {p pos tpos : Pos} {elts : List Expr} {kk : Nat}
def wZipN (te : DA) : DI := fun Ed sl st Q => te Ed sl st fun ss st => match ss with
  | [.d (.tuple ds), .d (.list es)] => Q (zipD ds es) st
  | _ => False
theorem wZipN_ap {te : DA} {Ed : DX} {sl : Sls} {st : Sto} {Q : List PyData → Sto → Prop} : wZipN te Ed sl st Q = (te Ed sl st fun ss st => match ss with
  | [.d (.tuple ds), .d (.list es)] => Q (zipD ds es) st
  | _ => False) := rfl
end Pz
set_option maxRecDepth 100000
set_option maxHeartbeats 2000000
namespace L2
open PySem PySem.Spec PyProof PyProof.Rows PySem.W
section
variable {X : Cx} {pins : List (Addr × Obj)} {σ : St} {H : Hp} {s : Shared} {a b : Addr} {r : Value} {d : V} {k : List L2.Key} {A : Around} {E : Value → Shared → Prop}
end
section
variable {X : Cx}
def tDcT (wi : TI) (g : TG) (tt : TT) (tk tv : TE) (vs : List Nat) : TE := fun σ H Q => wi σ H fun J H1 => ∀ D, H1 D = none → ∃ G : Nat → Nat → Hp → Prop, (∃ m, G 0 m (upd H1 D (.dT []))) ∧ ∀ i m H, G i m H →
  (J.stop i H ∧ Q (.ref D) H) ∨ (J.go i H ∧ ∃ Nx : Hp → Prop, (∀ H', Nx H' → ∃ m', m' < m ∧ G (i + 1) m' H') ∧ ∀ x H', J.yld i H x H' → g x (wipe σ vs) H' fun σ2 H2 => wipe σ2 vs = wipe σ vs ∧ tt σ2 H2 fun b H3 =>
    if b = true then tk σ2 H3 fun y H4 => tv σ2 H4 fun z H5 => ∃ kvs k c, y = .ref c ∧ H5 c = some (.tup (k.map kV)) ∧ H5 D = some (.dT kvs) ∧ kvs.length < sizeLine ∧ Nx (upd H5 D (.dT (putK kvs k z))) else Nx H3)
end
section
variable {X : Cx} {kx vx tg iter : Expr} {ifs : List Expr} {scope : Scope} {own : List (Str × Nat)} {pos pos' : Pos} {wi : TI} {g : TG} {tt : TT} {tk tv : TE}
structure DcP (X : Cx) (scope : Scope) (tg kx vx : Expr) (ifs : List Expr) (g : TG) (tt : TT) (tk tv : TE) : Prop where
  g : ∀ (s : Shared) (H : Hp) (C : Addr) (cl : List (Str × Addr)) (fp : List Addr), PG (X.blk s H scope (compEnvC scope cl C X.env) fp) tg g
  t : ∀ (s : Shared) (H : Hp) (C : Addr) (cl : List (Str × Addr)) (fp : List Addr), PTs (X.blk s H scope (compEnvC scope cl C X.env) fp) ifs tt
  k : ∀ (s : Shared) (H : Hp) (C : Addr) (cl : List (Str × Addr)) (fp : List Addr), PE (X.blk s H scope (compEnvC scope cl C X.env) fp) kx tk
  v : ∀ (s : Shared) (H : Hp) (C : Addr) (cl : List (Str × Addr)) (fp : List Addr), PE (X.blk s H scope (compEnvC scope cl C X.env) fp) vx tv
end
end L2
set_option maxRecDepth 100000
namespace Pz
open PySem PySem.Spec PyProof.Rows L2 TL PySem.W
variable [PenC]
section
variable {X : Cx} {E : WXs} {Z0 : Zs} {a b c e : Expr} {es : List Expr} {ta tb tc te : DE} {t : DA} {pos p : Pos} {x : Str} {K : Frag} {A : DT}
def wDcTL (g : DG) (tt : DT) (tk te : DE) (sl : Sls) (h : Nat) : List PyData → Sto → (Sto → Prop) → Prop
  | [] => fun st Q => match st[h]? with
    | some (.dT _) => Q st
    | _ => False
  | d :: ds => fun st Q => g (.d d) sl st fun sl2 st => tt (fun _ _ _ _ => False) sl2 st fun b st => if b = true then tk (fun _ _ _ _ => False) sl2 st fun ks st => te (fun _ _ _ _ => False) sl2 st fun s st => match kyS st ks, s, st[h]? with
      | some k, .d y, some (.dT acc) => acc.length < sizeLine ∧ wDcTL g tt tk te sl h ds (st.set h (.dT (putG acc k y))) Q
      | _, _, _ => False
    else wDcTL g tt tk te sl h ds st Q
def wDcT (ω : DI) (g : DG) (tt : DT) (tk te : DE) (vs : List Nat) : DE := fun Ed sl st Q => ω Ed sl st fun ds st => wDcTL g tt tk te (wipeS sl vs) st.length ds (st ++ [.dT []]) fun st' => Q (.o st.length) st'
theorem wDcT_ap {ω : DI} {g : DG} {tt : DT} {tk te : DE} {vs : List Nat} {Ed : DX} {sl : Sls} {st : Sto} {Q : DK} : wDcT ω g tt tk te vs Ed sl st Q = ω Ed sl st fun ds st => wDcTL g tt tk te (wipeS sl vs) st.length ds (st ++ [.dT []]) fun st' => Q (.o st.length) st' := rfl
variable {elt kx tg iter : Expr} {ifs : List Expr} {scope : Scope} {own : List (Str × Nat)} {ω : DI} {is : List Nat} {g : DG} {tt : DT}
end
end Pz
set_option maxRecDepth 100000
set_option maxHeartbeats 2000000
namespace PySem
open Sem (wp)
open PySem PySem.Spec PyProof.Rows
section
variable {prog : Program} {w : World} {A : Around} {R : Result → Shared → Prop} {I : Addr} {fp wr : List Addr} {G : Array GenState → Array GenState → Prop} {n : Nat} {P : Nat → Value → Prop} {St : Nat → Shared → Prop}
def preCat (z : List Value) (seg : Nat → List Value) : Nat → List Value
  | 0 => z
  | i + 1 => preCat z seg i ++ seg i
end
section
variable {prog : Program} {w : World} {A : Around} {E : Value → Shared → Prop} {s : Shared}
end
end PySem
namespace L2
open PySem PySem.Spec PyProof.Rows
section
variable {X : Cx}
inductive LstsAt (H : Hp) : List V → List (List V) → Prop
  | nil : LstsAt H [] []
  | cons {c : Addr} {ys : List V} {xs : List V} {yss : List (List V)} (e : H c = some (.lst ys)) (r : LstsAt H xs yss) : LstsAt H (.ref c :: xs) (ys :: yss)
def rSumL (K : PySem.W.Frag) : List V → Hp → VK → Prop := fun vs H Q => ∃ (a b : Addr) (xs zs : List V) (yss : List (List V)), vs = [.ref a, .ref b] ∧ SqL K H a xs ∧ H b = some (.lst zs) ∧ LstsAt H xs yss ∧
  (zs ++ yss.flatten).length ≤ sizeLine ∧ (yss = [] → Q (.ref b) H) ∧ (yss ≠ [] → ∀ p, H p = none → Q (.ref p) (upd H p (.lst (zs ++ yss.flatten))))
end
end L2
set_option maxRecDepth 100000
namespace Pz
open PySem PySem.Spec PyProof.Rows L2 TL PySem.W
variable [PenC]
section
variable {X : Cx} {E : WXs} {Z0 : Zs} {K : Frag} {rest : List Stmt} {u : DS} {td ty tx : DE} {o e f : Expr} {apos cpos pos : Pos}
def wDNewN : DE := fun Ed sl st Q => Q (.o st.length) (st ++ [.dN []])
theorem wDNewN_ap {Ed : DX} {sl : Sls} {st : Sto} {Q : DK} : wDNewN Ed sl st Q = Q (.o st.length) (st ++ [.dN []]) := rfl
def oK : PyData → Option (Option Int)
  | .none => some none
  | .int i => some (some i)
  | _ => none
theorem oK_n : oK .none = some none := rfl
theorem oK_i {i : Int} : oK (.int i) = some (some i) := rfl
abbrev KNS := List (Option Int × Sl)
def getN (kvs : KNS) (k : Option Int) : Option Sl := valV' kvs k
where valV' : KNS → Option Int → Option Sl
  | [], _ => none
  | (k', s) :: r, k => if k' = k then some s else valV' r k
def dnAt (st : Sto) : Sl → Option KNS
  | .o h => match st[h]? with
    | some (.dN kvs) => some kvs
    | _ => none
  | _ => none
theorem dnAt_o {st : Sto} {h : Nat} : dnAt st (.o h) = match st[h]? with
    | some (.dN kvs) => some kvs
    | _ => none := rfl
theorem RpAll.app {Z : Zs} : ∀ {vs us : List V} {ss ts : List Sl}, RpAll K Z vs ss → RpAll K Z us ts → RpAll K Z (vs ++ us) (ss ++ ts)
  | _, _, _, _, .nil, r => r
  | _, _, _, _, .cons q t, r => .cons q (RpAll.app t r)
def wNSetd (td ty tx : DE) : DE := fun Ed sl st Q => td Ed sl st fun s st => (dnAt st s).isSome = true ∧ ty Ed sl st fun t st => tx Ed sl st fun u st => match s, t with
  | .o h, .d y => match dnAt st (.o h), oK y with
    | some kvs, some k => kvs.length < sizeLine ∧ match getN kvs k with
      | some s' => Q s' st
      | none => Q u (st.set h (.dN (kvs ++ [(k, u)])))
    | _, _ => False
  | _, _ => False
theorem wNSetd_ap {Ed : DX} {sl : Sls} {st : Sto} {Q : DK} : wNSetd td ty tx Ed sl st Q = (td Ed sl st fun s st => (dnAt st s).isSome = true ∧ ty Ed sl st fun t st => tx Ed sl st fun u st => match s, t with
  | .o h, .d y => match dnAt st (.o h), oK y with
    | some kvs, some k => kvs.length < sizeLine ∧ match getN kvs k with
      | some s' => Q s' st
      | none => Q u (st.set h (.dN (kvs ++ [(k, u)])))
    | _, _ => False
  | _, _ => False) := rfl
abbrev GN := List (Option Int × List PyData)
inductive GnOk (st : Sto) (n0 h : Nat) : KNS → GN → Prop
  | nil : GnOk st n0 h [] []
  | cons {k : Option Int} {j : Nat} {ds : List PyData} {kvs : KNS} {G : GN} (hj : n0 ≤ j) (e : st[j]? = some (.lst ds)) (r : GnOk st n0 h kvs G) : GnOk st n0 h ((k, .o j) :: kvs) ((k, ds) :: G)
def gnD (G : GN) : PyData := .dict (mkN :: G.map fun p => (oD p.1, .list p.2))
def keepO (n0 h : Nat) (sl : Sls) : Prop := ∀ s ∈ sl, ∀ k, s = some (.o k) → k = h ∨ k < n0
def deadS (n0 : Nat) (st : Sto) : Sto := st.take n0 ++ List.replicate (st.length - n0) .dead
def wFrzN (n0 i : Nat) (u : DS) : DS := fun D sl st => match nthS sl i with
  | some (.o h) => match st[h]? with
    | some (.dN kvs) => ∃ G, GnOk st n0 h kvs G ∧ n0 ≤ h ∧ keepO n0 h sl ∧ (∀ c ∈ st.take n0, ∀ k, n0 ≤ k → NoRef k c) ∧ u D (sl.map (frzX h (gnD G))) (deadS n0 st)
    | _ => False
  | _ => u D sl st
theorem wFrzN_ap {n0 i : Nat} {u : DS} {nx bk ct : Sls → Sto → Prop} {rt : DK} {ex : DX} {sl : Sls} {st : Sto} : wFrzN n0 i u ⟨nx, rt, ex, bk, ct⟩ sl st = (match nthS sl i with
  | some (.o h) => match st[h]? with
    | some (.dN kvs) => ∃ G, GnOk st n0 h kvs G ∧ n0 ≤ h ∧ keepO n0 h sl ∧ (∀ c ∈ st.take n0, ∀ k, n0 ≤ k → NoRef k c) ∧ u ⟨nx, rt, ex, bk, ct⟩ (sl.map (frzX h (gnD G))) (deadS n0 st)
    | _ => False
  | _ => u ⟨nx, rt, ex, bk, ct⟩ sl st) := rfl
def fSumL : FA := fun ss st Q => match ss with
  | [.d (.list xs), .d (.list zs)] => ∃ yss : List (List PyData), xs = yss.map PyData.list ∧ (zs ++ yss.flatten).length ≤ sizeLine ∧ Q (.d (.list (zs ++ yss.flatten))) st
  | _ => False
def fSortedGO : FA := fun ss st Q => match ss with
  | [s] => match vw st s with
    | some (.list ds) => AllAlike ds ∧ Sortable ds ∧ (∀ d ∈ ds, d.depth ≤ 50) ∧ Q (.o st.length) (st ++ [.lst (dsort ds)])
    | _ => False
  | _ => False
end
end Pz
set_option maxRecDepth 100000
namespace L2
open PySem PySem.Spec PyProof.Rows
def DKp (i : Nat) (a : Addr) (cls : Value) (d : Option Addr) (D : Ends) : Ends :=
  { nx := fun σ H => H a = none → D.nx (σ.set i none) (upd H a (ExO cls d a)), rt := D.rt, bk := fun σ H => H a = none → D.bk (σ.set i none) (upd H a (ExO cls d a)), ct := fun σ H => H a = none → D.ct (σ.set i none) (upd H a (ExO cls d a)) }
def wKeeps (K : PySem.W.Frag) (Wout : WX) (D : Ends) : List (Value × Nat × (Addr → Value → Option Addr → TS)) → WX
  | [] => Wout
  | (c, i, ts) :: r => fun cls d σ H => ∃ b, PySem.W.exmOne K cls c = some b ∧ (b = true → i < σ.length → ∀ a, H a = none → ts a cls d (DKp i a cls d D) (σ.set i (some (.ref a))) H) ∧ (b = false → wKeeps K Wout D r cls d σ H)
inductive HdsK (X : Cx) : List ExceptHandler → List (Value × Nat × (Addr → Value → Option Addr → TS)) → Prop
  | nil : HdsK X [] []
  | cons {x n : Str} {c : Value} {i : Nat} {ts : Addr → Value → Option Addr → TS} {b₀ : Stmt} {suite : List Stmt} {np pos' : Pos} {hds : List ExceptHandler} {l : List (Value × Nat × (Addr → Value → Option Addr → TS))} (hc : Names X x c)
      (hi : X.N[i]? = some n) (hln : X.env.kindOf n = some .local)
      (hsu : ∀ (a : Addr) (oe : Obj) (cls : Value) (d : Option Addr) (pn : List (Addr × Obj)), Zc cls d oe → (∃ vs, oe.data = .fields vs) → PSs (X.suite a ((a, oe) :: pn)) (b₀ :: suite) (ts a cls d)) (r : HdsK X hds l) :
      HdsK X (.ExceptHandler (some (.Name x np)) (some n) (b₀ :: suite) pos' :: hds) ((c, i, ts) :: l)
section
variable {X : Cx} {body : List Stmt} {h₀ : ExceptHandler} {hds : List ExceptHandler} {l : List (Value × Nat × (Addr → Value → Option Addr → TS))} {pos : Pos} {tb : WX → TS} {Wout : WX}
theorem ps_try_keeps (hs : X.stack = X.env :: X.outer) (hf : X.env.frame = some X.env.locals) (hex : X.ex = []) (hN : X.N.Nodup) (tk : Takes X Wout)
    (hb : ∀ (W : WX) (pn : List (Addr × Obj)) (xe : Value → Shared → Prop), Takes (X.tr pn xe) W → PassesOwn (model X.prog X.w) X.A X.env xe → PSs (X.tr pn xe) body (tb W))
    (hh : HdsK X (h₀ :: hds) l) : PS X (.Try body (h₀ :: hds) [] [] pos) (fun D σ H => tb (wKeeps X.K Wout D l) D σ H) := by
  refine ⟨fun pins s σ H D I h => ?_⟩
  have ok := I.ok
  have hfr : X.A.frames = some (X.env :: X.outer) := by rw [ok.frames, hs]
  refine wpAny_Try_except ?_
  refine wpAny_mono ((hb (wKeeps X.K Wout D l) (X.pn ++ pins) (fun e s₁ => wpAny (model X.prog X.w) X.A (noteFrame e X.env) (fun _ s₂ => wpAny (model X.prog X.w) X.A (setFlight e none) (fun _ s₃ =>
    wpAny (model X.prog X.w) X.A (handleBy e X.env (h₀ :: hds)) (SP X pins D) X.xe s₃) X.xe s₂) X.xe s₁) (fun u s' xx => ?_) PassesOwn.looking).run [] s σ H D (I.toTry _) h) (fun f s1 hsp => ?_) (fun e s1 he => he)
  · obtain ⟨a, B, sI, pins', σ', H', cls, d, rfl, J', nb, up, sky, na, os, ag, w⟩ := xx
    have J : Inv X pins σ' H' sI := J'.ofTry ok
    have sky' : Sky B (X.env :: X.outer) a (Zc cls d) X.env.locals s'.heap := by rw [← hs]; exact sky
    show wpAny (model X.prog X.w) X.A (noteFrame (.ref a) X.env) _ _ _
    refine Sky.land Zc.steady hfr hf sky' fun h3 fl3 up3 => ?_
    have J3 : Inv X pins σ' H' { s' with heap := h3 } := J.landed nb fl3.1 (up.trans up3) os ag
    obtain ⟨oe3, vs3, he3, hz3, hd3⟩ := fl3.there
    have notFr : ∀ {h : Heap} {o : Obj} {vs : Array Value}, h.FunFrames B (X.env :: X.outer) → h.get? a = some o → o.data = .fields vs → a ∉ frs (X.env :: X.outer) := fun {h o vs} ff e dd hm => by
      obtain ⟨_, o', e', hnf⟩ := ff.mem hm
      rw [e] at e'; cases e'
      exact hnf _ dd
    have nfr := notFr fl3.2.2.1 he3 hd3
    have nL : a ≠ X.env.locals := fun z => nfr (List.mem_filterMap.mpr ⟨X.env, List.mem_cons_self, by rw [hf, z]⟩)
    have nF : a ∉ X.fs := fun hm => by
      obtain ⟨e, he, q⟩ := List.mem_filterMap.mp hm
      exact nfr (List.mem_filterMap.mpr ⟨e, List.mem_cons_of_mem _ he, q⟩)
    have nB : B.get? a = none := fl3.2.1
    have n0 : X.s_0.heap.get? a = none := by
      cases e : X.s_0.heap.get? a with
      | none => rfl
      | some o =>
        obtain ⟨o', e1⟩ := J.base.there a o e (by rw [hex]; exact fun z => by cases z)
        have := nb a o' e1 (by rw [hs]; exact nfr)
        rw [nB] at this; cases this
    have np : ∀ p ∈ X.pn ++ pins, p.1 ≠ a := fun p hp z => by
      obtain ⟨e, _, ne, nf, _⟩ := J.pin p hp
      have := nb p.1 p.2 e (fun hm => (List.mem_cons.mp (J.stkSub p.1 hm)).elim ne nf)
      rw [z, nB] at this; cases this
    have S3 := J3.suite he3 hd3 na nL nF
    have go : ∀ {hds' : List ExceptHandler} {l' : List (Value × Nat × (Addr → Value → Option Addr → TS))}, HdsK X hds' l' → wKeeps X.K Wout D l' cls d σ' H' →
        wpAny (model X.prog X.w) X.A (handleBy (.ref a) X.env hds') (SP X pins D) X.xe { s' with heap := h3 } := by
      intro hds' l' hk
      induction hk with
      | nil =>
        intro w
        refine wpAny_handleBy_nil ?_
        obtain ⟨k1, k2, k3, oe, vs, T, oT, ts', he, hz, hd, h1, hr⟩ := id fl3
        unfold PySem.passOn
        refine wpAny_bind (wpAny_field he hd h1 ?_)
        rw [if_neg (show ¬ ((Value.ref T == Value.none) = true) from by simp)]
        have fin : wpAny (model X.prog X.w) X.A (setFlight (.ref a) X.env.frame) (fun _ s4 => wpAny (model X.prog X.w) X.A (throw (.ref a) : Sem Flow) (SP X pins D) X.xe s4) X.xe { s' with heap := h3 } := by
          rw [hf]
          refine HandSPX.setFlight_upZ fl3 fun h4 hh4 up4 => wpAny_throw (tk _ _ ?_)
          exact ⟨a, B, sI, pins, σ', H', cls, d, rfl, J, nb, (up.trans up3).trans up4, .inr (.inr (by rw [hs]; exact hh4)), na, os, ag, w⟩
        first
          | exact wpAny_bind (wpAny_pure (wpAny_bind fin))
          | exact wpAny_bind fin
      | @cons x n c i ts b₀ suite np1 pos' hds2 l2 hc hi hln hsu r ih =>
        intro w
        obtain ⟨b, hb1, hyes, hno⟩ := w
        have hloc : Loc X.env.scope n := .inl hln
        refine wpAny_handleBy_cons (codeAny_handlers_test ?_) (by intro q; cases q)
        have LT : PySem.W.Looks (model X.prog X.w) h3 (typeOf (.ref a)) cls := fun A Q E s k q => wpAny_typeOf_ref (k _ _ he3) (by rw [hz3.1]; exact q)
        have LM := PySem.W.exm_one (M := model X.prog X.w) (J3.kIn) LT hb1
        have test : ∀ {Q : Value → Shared → Prop} {E : Value → Shared → Prop}, Q c { s' with heap := h3 } → wpAny (model X.prog X.w) (X.A.mark (some (.ref a))) (eval (.Name x np1) X.env) Q E { s' with heap := h3 } := fun {Q E} q => by
          obtain ⟨hg, hdbg, hm | ⟨hm, hv, hnn⟩⟩ := hc
          · exact ld_glob (X := X.suite a ((a, oe3) :: (X.pn ++ pins))) S3 hg hm q hdbg
          · exact ld_blt (X := X.suite a ((a, oe3) :: (X.pn ++ pins))) S3 hg hm hv q hnn hdbg
        refine test (LM.here ?_)
        cases b with
        | true =>
          refine codeAny_handlers_suite_as ?_
          refine HandSPX.lands_againZ fl3 fun h4 fl4 up4 => ?_
          have J4 : Inv X pins σ' H' { s' with heap := h4 } := J.landed nb fl4.1 ((up.trans up3).trans up4) os ag
          obtain ⟨oe4, vs4, he4, hz4, hd4⟩ := fl4.there
          have S4 := J4.suite he4 hd4 na nL nF
          refine store_ok (X := X.suite a ((a, oe4) :: (X.pn ++ pins))) (v := .ref a) S4 hN hi hloc rfl (fun s5 S5 => ?_) (.inr hln)
          refine wpAny_mono ((hsu a oe4 cls d (X.pn ++ pins) hz4 ⟨_, hd4⟩).run [] s5 _ H' _ S5 (hyes rfl (by rw [J.len]; exact (List.getElem?_eq_some_iff.mp hi).1) a na)) (fun f s6 hsp => ?_) (fun _ _ z => False.elim z)
          have endA : ∀ {σ6 : St} {H6 : Hp} {Q : Shared → Prop}, Inv (X.suite a ((a, oe4) :: (X.pn ++ pins))) [] σ6 H6 s6 → (H6 a = none → ∀ s7, Inv X pins (σ6.set i none) (upd H6 a (ExO cls d a)) s7 → Q s7) →
              wpAny (model X.prog X.w) X.A (do bindName X.env n .none; unbindBehindTheSuite X.env n pos') (fun _ s7 => Q s7) X.xe s6 := fun {σ6 H6 Q} S6 hq => by
            obtain ⟨he6, na6, _⟩ := S6.pin (a, oe4) (List.mem_append_left _ List.mem_cons_self)
            exact gone_ok ((S6.unsuite ok).adopt he6 hz4 ⟨_, hd4⟩ na6 n0 nL np) hN hi hln fun s7 J7 => hq na6 s7 J7
          have end_ : ∀ {σ6 : St} {H6 : Hp} {Q : Shared → Prop}, Inv (X.suite a ((a, oe4) :: (X.pn ++ pins))) [] σ6 H6 s6 → (∀ s7, Inv X pins (σ6.set i none) H6 s7 → Q s7) →
              wpAny (model X.prog X.w) X.A (do bindName X.env n .none; unbindBehindTheSuite X.env n pos') (fun _ s7 => Q s7) X.xe s6 := fun {σ6 H6 Q} S6 hq => gone_ok (S6.unsuite ok) hN hi hln hq
          cases f with
          | next =>
            obtain ⟨σ6, H6, S6, q6⟩ := hsp
            exact endA S6 fun n6 s7 J7 => ⟨_, _, J7, q6 n6⟩
          | brk =>
            obtain ⟨σ6, H6, S6, q6⟩ := hsp
            exact endA S6 fun n6 s7 J7 => ⟨_, _, J7, q6 n6⟩
          | cont =>
            obtain ⟨σ6, H6, S6, q6⟩ := hsp
            exact endA S6 fun n6 s7 J7 => ⟨_, _, J7, q6 n6⟩
          | ret u =>
            obtain ⟨v6, σ6, H6, S6, r6, q6⟩ := hsp
            exact end_ S6 fun s7 J7 => ⟨_, _, _, J7, r6, q6⟩
        | false =>
          show wpAny _ X.A (handleBy (.ref a) X.env hds2) _ _ _
          exact ih (hno rfl)
    exact go hh w
  · cases f with
    | next =>
      obtain ⟨σ', H', J', q⟩ := hsp
      exact wpAny_execs_nil ⟨σ', H', J'.ofTry ok, q⟩
    | brk =>
      obtain ⟨σ', H', J', q⟩ := hsp
      exact ⟨σ', H', J'.ofTry ok, q⟩
    | cont =>
      obtain ⟨σ', H', J', q⟩ := hsp
      exact ⟨σ', H', J'.ofTry ok, q⟩
    | ret u =>
      obtain ⟨v, σ', H', J', r, q⟩ := hsp
      exact ⟨v, σ', H', J'.ofTry ok, r, q⟩
end
end L2
set_option maxRecDepth 100000
namespace Pz
open PySem PySem.Spec PyProof.Rows L2 TL PySem.W
variable [PenC]
section
variable {X : Cx} {E : WXs} {Z0 : Zs} {L M F : List Str} {pos pos1 pos2 p1 p2 p3 p4 np1 np2 : Pos}
def wTry2 (L : List Str) (y1 f1 : Str) (i1 j : Nat) (y2 f2 : Str) (u : DS) : DS := fun D sl st => u ⟨D.nx, D.rt, fun c fs sl' st' => c ∈ L ∧ if subB c y1 = true then c = y1 ∧ ∃ d, fs.lookup f1 = some d ∧ D.nx (((sl'.set i1 none).set j (some (.d (.list [d, excD c fs])))).set i1 none) st'
  else if subB c y2 = true then c = y2 ∧ ∃ d, fs.lookup f2 = some d ∧ D.rt (.d d) st' else D.ex c fs sl' st', D.bk, D.ct⟩ sl st
theorem wTry2_ap {y1 f1 : Str} {i1 j : Nat} {y2 f2 : Str} {u : DS} {nx bk ct : Sls → Sto → Prop} {rt : DK} {ex : DX} {sl : Sls} {st : Sto} : wTry2 L y1 f1 i1 j y2 f2 u ⟨nx, rt, ex, bk, ct⟩ sl st = u ⟨nx, rt, fun c fs sl' st' => c ∈ L ∧ if subB c y1 = true then c = y1 ∧ ∃ d, fs.lookup f1 = some d ∧ nx (((sl'.set i1 none).set j (some (.d (.list [d, excD c fs])))).set i1 none) st'
  else if subB c y2 = true then c = y2 ∧ ∃ d, fs.lookup f2 = some d ∧ rt (.d d) st' else ex c fs sl' st', bk, ct⟩ sl st := rfl
theorem xcf_xf {K : Frag} {C : Addr} (h : XcF K C) : L2.XfC K C := ⟨h.ga, h.gg, h.exC, h.hd⟩
def tSuite (K : Frag) (f : Str) (a : Addr) (cls : Value) (d : Option Addr) (te : TE) (ts : TE → TS) : TS := fun D σ H => ∃ C, cls = .ref C ∧ L2.XfC K C ∧ PySem.W.findIn K (.ref C) f = some none ∧ ts (tXf a cls d C f te) D σ H
theorem exc_zip {us : List (Str × V)} {fs : List (Str × PyData)} (h : us.map (·.1) = fs.map (·.1)) : (us.map fun p => PyData.str p.1).zip (fs.map (·.2)) = fs.map fun p => (.str p.1, p.2) := by
  have e : (us.map fun p => PyData.str p.1) = fs.map fun p => PyData.str p.1 := by
    have := congrArg (List.map PyData.str) h
    rw [List.map_map, List.map_map] at this
    exact this
  rw [e, List.zip_map']
def XEk (K : Frag) (ys : List Str) : Prop := ∀ c ∈ ys, ∀ cv, ClsV K c cv → ExcK K cv
theorem ek_of {K : Frag} {c : Str} {C : Addr} (e : PySem.W.nsIn K mainGlobals c = some (some (.ref C))) (h : XcF K C) (t : ∀ T ∈ (["int", "bool", "str", "tuple", "list"] : List String), PySem.W.kitOne K (.ref C) (.type T) = some false) : ∀ cv, ClsV K c cv → ExcK K cv := fun cv q => ⟨C, q.eq e, h, t⟩
end
end Pz
set_option maxRecDepth 100000
namespace L2
open PySem PySem.Spec PyProof.Rows
def PTK (X : Cx) (e : Expr) (t : TT) : Prop := ∀ (pins : List (Addr × Obj)) (s : Shared) (σ : St) (H : Hp) (Q : Bool → Hp → Prop), Inv X pins σ H s → t σ H Q →
  wpAny (model X.prog X.w) X.A (isTrue e X.env (eval e X.env)) (fun b s' => 1 ≤ s'.toks ∧ TP X pins σ Q b s') X.xe s
section
variable {X : Cx} {a b c : Expr} {ta tb : TE} {tA : TT} {pos cp : Pos} {k : Int} {j : Nat}
end
end L2
namespace Pz
open PySem PySem.Spec PyProof.Rows L2 TL PySem.W
variable [PenC]
section
variable {X : Cx} {E : WXs} {Z0 : Zs} {a b c o : Expr} {ta tb to : DE} {tA : DT} {pos cp c0 c1 apos : Pos} {k : Int} {j j1 : Nat} {y z : Str}
def wRepl (to : DE) (y z : Str) : DE := fun Ed sl st Q => to Ed sl st fun s st => match vw st s with
  | some (.str x) => x.length + (x.length + 1) * z.length ≤ 16777216 ∧ Q (.d (.str (Txt.replace x y z))) st
  | _ => False
theorem wRepl_ap {Ed : DX} {sl : Sls} {st : Sto} {Q : DK} : wRepl to y z Ed sl st Q = (to Ed sl st fun s st => match vw st s with
  | some (.str x) => x.length + (x.length + 1) * z.length ≤ 16777216 ∧ Q (.d (.str (Txt.replace x y z))) st
  | _ => False) := rfl
end
end Pz
set_option maxRecDepth 100000
namespace Pz
open PySem PySem.Spec PyProof.Rows L2 TL PySem.W
variable [PenC]
mutual
def noD : PyData → Bool
  | .none | .bool _ | .int _ | .str _ => true
  | .tuple xs => noDAll xs
  | _ => false
def noDAll : List PyData → Bool
  | [] => true
  | x :: xs => noD x && noDAll xs
end
mutual
theorem im_noD {K : Frag} {W W' : Addr → Prop} {H : Hp} (hT : ∀ b xs, H b = some (.tup xs) → ¬ W' b) : ∀ {v : V} {d : PyData}, Im K W H v d → noD d = true → Im K W' H v d
  | _, _, .non, _ => .non
  | _, _, .bl b, _ => .bl b
  | _, _, .int b, _ => .int b
  | _, _, .str b, _ => .str b
  | _, _, .tup q r, h => .tup (q.elim (fun z => .inl ⟨z.1, hT _ _ z.1⟩) .inr) (imAll_noD hT r (by simpa [noD] using h))
  | _, _, .lst _ _ _, h => by simp [noD] at h
  | _, _, .dct _ _ _, h => by simp [noD] at h
  | _, _, .dcl _ _ _, h => by simp [noD] at h
  | _, _, .dcT _ _ _, h => by simp [noD] at h
  | _, _, .dcN _ _ _, h => by simp [noD] at h
  | _, _, .exc _ _ _ _ _ _, h => by simp [noD] at h
theorem imAll_noD {K : Frag} {W W' : Addr → Prop} {H : Hp} (hT : ∀ b xs, H b = some (.tup xs) → ¬ W' b) : ∀ {vs : List V} {ds : List PyData}, ImAll K W H vs ds → noDAll ds = true → ImAll K W' H vs ds
  | _, _, .nil, _ => .nil
  | _, _, .cons q r, h => by
    rw [noDAll, Bool.and_eq_true] at h
    exact .cons (im_noD hT q h.1) (imAll_noD hT r h.2)
end
def cleanS : Option Sl → Option Sl
  | some (.d x) => if noD x = true then some (.d x) else none
  | _ => none
def wThaw (te : DE) : DE := fun _ sl st Q => te (fun _ _ _ _ => False) (sl.map cleanS) [] fun s _ => match s with
  | .d (.list [.list ds]) => noDAll ds = true ∧ Q (.o st.length) (st ++ [.lsS [.o (st.length + 1)], .lst ds])
  | .d x => noD x = true ∧ Q (.d x) st
  | _ => False
theorem wThaw_ap {te : DE} {Ed : DX} {sl : Sls} {st : Sto} {Q : DK} : wThaw te Ed sl st Q = (te (fun _ _ _ _ => False) (sl.map cleanS) [] fun s _ => match s with
  | .d (.list [.list ds]) => noDAll ds = true ∧ Q (.o st.length) (st ++ [.lsS [.o (st.length + 1)], .lst ds])
  | .d x => noD x = true ∧ Q (.d x) st
  | _ => False) := rfl
def wBorN (i : Nat) (te : DE) : DE := fun Ed sl st Q => match nthS sl i with
  | some (.o h) => match st[h]? with
    | some (.lsS [.o j]) => match st[j]? with
      | some (.lst ds) => te (fun _ _ _ _ => False) ((sl.map borS).set i (some (.d (.list [.list ds])))) [] fun s _ => match s with
        | .d x => atomD x = true ∧ Q (.d x) st
        | _ => False
      | _ => False
    | _ => False
  | _ => te Ed sl st Q
theorem wBorN_ap {i : Nat} {te : DE} {Ed : DX} {sl : Sls} {st : Sto} {Q : DK} : wBorN i te Ed sl st Q = (match nthS sl i with
  | some (.o h) => match st[h]? with
    | some (.lsS [.o j]) => match st[j]? with
      | some (.lst ds) => te (fun _ _ _ _ => False) ((sl.map borS).set i (some (.d (.list [.list ds])))) [] fun s _ => match s with
        | .d x => atomD x = true ∧ Q (.d x) st
        | _ => False
      | _ => False
    | _ => False
  | _ => te Ed sl st Q) := rfl
end Pz
set_option maxRecDepth 100000
set_option maxHeartbeats 1000000
namespace Zt3
open PySem PySem.Spec PyProof.Rows L2
section
variable {prog : Program} {w : World} {A : Around} {E : Value → Shared → Prop} {s : Shared}
def It3 (K : PySem.W.Frag) (a b c : Addr) : It :=
  ⟨fun i H => ∃ (xs ys zs : List V) (x y z : V), SqT K H a xs ∧ SqT K H b ys ∧ SqL K H c zs ∧ xs[i]? = some x ∧ ys[i]? = some y ∧ zs[i]? = some z,
    fun i H v H' => ∃ T x y z, v = .ref T ∧ H T = none ∧ H' = upd H T (.tup [x, y, z]) ∧ (∀ xs, SqT K H a xs → xs[i]? = some x) ∧ (∀ ys, SqT K H b ys → ys[i]? = some y) ∧ ∀ zs, SqL K H c zs → zs[i]? = some z,
    fun i H => ∃ xs ys zs : List V, SqT K H a xs ∧ SqT K H b ys ∧ SqL K H c zs ∧ i = min (min xs.length ys.length) zs.length⟩
def iZip3 (K : PySem.W.Frag) (ta : TA) : TI := fun σ H R => ta σ H fun vs H1 => ∃ a b c xs ys zs, vs = [.ref a, .ref b, .ref c] ∧ SqT K H1 a xs ∧ SqT K H1 b ys ∧ SqL K H1 c zs ∧ R (It3 K a b c) H1
end
end Zt3
namespace Pz
open PySem PySem.Spec PyProof.Rows L2 TL
variable [PenC]
variable {X : Cx} {E : WXs} {Z0 : Zs} {K : Frag} {t : DA} {e e2 e3 : Expr} {p pos tpos : Pos} {elts : List Expr} {kk : Nat}
def zip3D (ds es fs : List PyData) : List PyData := (ds.zip (es.zip fs)).map fun p => .tuple [p.1, p.2.1, p.2.2]
def wZip3 (te : DA) : DI := fun Ed sl st Q => te Ed sl st fun ss st => match ss with
  | [.d (.tuple ds), .d (.tuple es), .d (.list fs)] => Q (zip3D ds es fs) st
  | _ => False
theorem wZip3_ap {te : DA} {Ed : DX} {sl : Sls} {st : Sto} {Q : List PyData → Sto → Prop} : wZip3 te Ed sl st Q = (te Ed sl st fun ss st => match ss with
  | [.d (.tuple ds), .d (.tuple es), .d (.list fs)] => Q (zip3D ds es fs) st
  | _ => False) := rfl
end Pz
set_option maxRecDepth 100000
set_option maxHeartbeats 2000000
namespace PySem
namespace HandSPX
section
variable {M : Model} {A : Around} {E : Value → Shared → Prop} {s : Shared} {Z : Obj → Prop} {base : Heap} {env : Env} {outer : List Env} {L L' e : Addr}
end
end HandSPX
end PySem
namespace L2
open PySem PySem.Spec PyProof PyProof.Rows PySem.W
section
variable {M : Model} {A : Around} {E : Value → Shared → Prop} {env : Env} {s : Shared}
def endC (M : Model) (A : Around) (E : Value → Shared → Prop) (env : Env) (use : Option (Value → Sem Unit)) (Q : Value → Shared → Prop) (acc : Value) (C : Addr) (r : Result) (t : Shared) : Prop :=
  match r with
  | .ok f => compPost M A E use Q acc C (.ok f) t
  | .error x => ∃ m, t.heap.Ns C m ∧ ∀ h', Heap.SameBut C t.heap h' → wpAny M A (PySem.passOn "comprehension.variables-let-go" x env : Sem Value) (fun _ _ => False) E { t with heap := h' }
end
section
variable {X : Cx} {pins : List (Addr × Obj)} {σ : St} {H : Hp} {s : Shared} {W : WX}
abbrev Cx.blx (X : Cx) (W : WX) (σ : St) (s : Shared) (H : Hp) (scope : Scope) (ce : Env) (fp : List Addr) : Cx := (X.blk s H scope ce fp).wish (XE (X.blk s H scope ce fp) (fun c d _ H => W c d σ H))
end
end L2
set_option maxRecDepth 100000
namespace Pz
open PySem PySem.Spec PyProof.Rows L2 TL
variable [PenC]
def wLcLX (Ed : DX) (g : DG) (tt : DT) (te : DE) (sl : Sls) : List PyData → List PyData → Sto → (List PyData → Sto → Prop) → Prop
  | [], acc => fun st Q => Q acc st
  | d :: ds, acc => fun st Q => g (.d d) sl st fun sl2 st => tt (fun _ _ _ _ => False) sl2 st fun b st => if b = true then te Ed sl2 st fun s st => match s with
      | .d y => acc.length < sizeLine ∧ wLcLX Ed g tt te sl ds (acc ++ [y]) st Q
      | _ => False
    else wLcLX Ed g tt te sl ds acc st Q
def wLcX (ω : DI) (g : DG) (tt : DT) (te : DE) (vs : List Nat) : DE := fun Ed sl st Q => ω Ed sl st fun ds st => wLcLX (fun c fs _ st => Ed c fs sl st) g tt te (wipeS sl vs) ds [] st fun acc st => Q (.d (.list acc)) st
def wLcXO (ω : DI) (g : DG) (tt : DT) (te : DE) (vs : List Nat) : DE := fun Ed sl st Q => ω Ed sl st fun ds st => wLcLX (fun c fs _ st => Ed c fs sl st) g tt te (wipeS sl vs) ds [] st fun acc st => Q (.o st.length) (st ++ [.lst acc])
section
variable {X : Cx} {E : WXs} {Z0 : Zs} {tb : DE} {te : DE} {pos : Pos} {K : Frag}
variable {elt tg iter : Expr} {ifs : List Expr} {scope : Scope} {own : List (Str × Nat)} {ω : DI} {is : List Nat} {g : DG} {tt : DT}
end
section
variable {ω : DI} {g : DG} {tt : DT} {te : DE} {vs : List Nat} {Ed : DX} {sl : Sls} {st : Sto}
theorem wLcX_ap {Q : DK} : wLcX ω g tt te vs Ed sl st Q = (ω Ed sl st fun ds st => wLcLX (fun c fs _ st => Ed c fs sl st) g tt te (wipeS sl vs) ds [] st fun acc st => Q (.d (.list acc)) st) := rfl
theorem wLcXO_ap {Q : DK} : wLcXO ω g tt te vs Ed sl st Q = (ω Ed sl st fun ds st => wLcLX (fun c fs _ st => Ed c fs sl st) g tt te (wipeS sl vs) ds [] st fun acc st => Q (.o st.length) (st ++ [.lst acc])) := rfl
def mapX (f : PyData → Except (Str × List (Str × PyData)) PyData) : List PyData → Except (Str × List (Str × PyData)) (List PyData)
  | [] => .ok []
  | d :: ds => match f d with
    | .error e => .error e
    | .ok y => match mapX f ds with
      | .error e => .error e
      | .ok ys => .ok (y :: ys)
variable {ds : List PyData} {Q : List PyData → Sto → Prop}
end
end Pz
set_option maxRecDepth 100000
namespace Pz
open PySem PySem.Spec PyProof.Rows L2 TL
variable [PenC]
def fRepV : FA := fun ss st Q => match ss with
  | [.d (.tuple ds)] => RepX ds ∧ Q (.d (.str (PyData.tuple ds).shown)) st
  | ss => fRep ss st Q
def rEqTS (K : Frag) : R2 := fun x y H Q => rEqD K x y H Q ∨ ∃ (a : Addr) (xs : List V) (z : Str), x = .ref a ∧ SqT K H a xs ∧ y = .str z ∧ Q (.bl false) H
def oEqV (x y : Sl) (st : Sto) (Q : DK) : Prop := match x, y with
  | .d (.tuple _), .d (.str _) => Q (.d (.bool false)) st
  | x, y => oEq x y st Q
end Pz
set_option maxRecDepth 100000
set_option maxHeartbeats 4000000
namespace PySem
namespace Xc
open PySem.W PySem.Calls PyProof.Rows PySem.HandSPX
section
variable {M : Model} {A : Around} {E : Value → Shared → Prop} {h : Heap} {g : Array GenState} {d : Drawn} {t : Nat} {os : OsState}
variable {nm q : Str} {C N : Addr} {bs bm bmB : List Value} {hdct : Bool} {sn : List Str} {sub : List Value} {ab : Bool} {col : Option Bool} {dd : Option Addr} {k0 k1 k2 k3 k5 : Option Value} {B newId initId : String}
theorem check_new_kw (F : ExcBaseFacts B newId initId bmB) (hT : ∀ X : String, bm.contains (.type X) = bmB.contains (.type X)) {rest : List Value} {kws : List (Str × Value)} {Q : Unit → Shared → Prop}
    (hC : h.get? C = some (excClassObj nm q C N bs bm hdct sn sub ab col dd k0 k1 k2 k3 k5 newId)) (hq : Q () ⟨h, g, d, t, os⟩) : wpAny M A (checkBuiltinCall newId ⟨.ref C :: rest, kws⟩) Q E ⟨h, g, d, t, os⟩ := by
  have hcont : (Value.ref C :: bm).contains (.type B) = true := by rw [List.contains_cons, hT, F.hasB, Bool.or_true]
  have hstar := F.noStar
  simp only [checkBuiltinCall, F.newKind, F.newSplit, F.newRow]
  repeat (first | refine wpAny_loadPart_at hC ?_ | (refine wpAny_isSubtype_exc hC ?_; rw [hcont]) | refine wpAny_staticBase_exc hC ?_ | refine wpAny_madeBy_exc hC ?_ | simp only [bne_self_eq_false, Bool.false_eq_true, if_false] | wp_step)
  exact hq
end
section
variable {prog : Program} {w : World} {A : Around} {E : Value → Shared → Prop} {R : Result → Shared → Prop} {h : Heap} {g : Array GenState} {d : Drawn} {t : Nat} {os : OsState}
variable {nm q : Str} {C N : Addr} {bs bm bmB : List Value} {hdct : Bool} {sn : List Str} {sub : List Value} {ab : Bool} {col : Option Bool} {dd : Option Addr} {k0 k1 k2 k3 k5 : Option Value} {B newId initId : String}
theorem new_kw (F : ExcBaseFacts B newId initId bmB) (hT : ∀ X : String, bm.contains (.type X) = bmB.contains (.type X)) {kws : List (Str × Value)}
    (hC : h.get? C = some (excClassObj nm q C N bs bm hdct sn sub ab col dd k0 k1 k2 k3 k5 newId))
    (hq : R (.ok (.ret (.ref (h.objs.size + 1)))) ⟨(h.push { cls := .type "tuple", data := .seq ([] : List Value).toArray }).push
      { cls := .ref C, data := .fields #[.ref h.objs.size, .none, .none, .none, .bool false, .none] }, g, d, t, os⟩) :
    codeAny (model prog w) A (.builtin newId ⟨[.ref C], kws⟩) R ⟨h, g, d, t, os⟩ := by
  have hends := F.ends
  have hrest : ([] : List Value).length ≤ sizeLine := Nat.zero_le _
  have hcB : (Value.ref C :: bm).contains (.type B) = true := by rw [List.contains_cons, hT, F.hasB, Bool.or_true]
  have hcA : (Value.ref C :: bm).contains (.type "AttributeError") = false := by rw [List.contains_cons, hT, F.noAttr]; rfl
  have hcN : (Value.ref C :: bm).contains (.type "NameError") = false := by rw [List.contains_cons, hT, F.noName]; rfl
  refine codeAny_builtinAt F.entry ?_
  unfold Builtin.«BaseException.__new__»
  refine wpAt_bind ?_
  show wpAt _ _ _ (stack >>= _) _ _ _
  refine wpAt_bind (wpAt_stack fun p below => wpAt_of_wpAny ?_)
  wp_walk
  refine wpAt_of_wpAny ?_
  rw [F.owner]
  repeat (first | with_reducible refine wpAny_madeHere_exc F.canon hC ?_ | with_reducible refine wpAny_loadPart_at hC ?_ | (with_reducible refine wpAny_isSubtype_exc hC ?_; first | rw [hcB] | rw [hcA] | rw [hcN]) | wp_step)
  show R _ _
  rw [Heap.size_push]
  exact hq
theorem type_call_kw (F : ExcBaseFacts B newId initId bmB) (hT : ∀ X : String, bm.contains (.type X) = bmB.contains (.type X)) {kws : List (Str × Value)} {fI : Addr} {Q : Fin → Shared → Prop}
    (hC : h.get? C = some (excClassObj nm q C N bs bm hdct sn sub ab col dd k0 k1 k2 k3 k5 newId))
    (hi : W.Looks (model prog w) h (typeLookup (.ref C) "__init__") (some (.ref fI))) (hb : ∀ self, W.Looks (model prog w) h (bindSpecial (.ref fI) self) (.ref fI, [self]))
    (hq : codeAny (model prog w) A (.call (.ref fI) ⟨[.ref (h.objs.size + 1)], kws⟩)
      (fun r s' => match r with | .ok (.ret v) => v = .none ∧ Q (.done (.ret (.ref (h.objs.size + 1)))) s' | .ok _ => False | .error e => E e s')
      ⟨(h.push (W.kdv_tup [])).push (excO C h.objs.size), g, d, t, os⟩) :
    wpAny (model prog w) A (Builtin.«type.__call__» ⟨[.ref C], kws⟩) Q E ⟨h, g, d, t, os⟩ := by
  repeat (first | with_reducible refine wpAny_loadPart_at hC ?_ | with_reducible refine wpAny_madeBy_exc hC ?_ | wp_step)
  refine codeAny_call_builtin_code (Code.quiet_builtin _ F.quiet) (check_new_kw F hT hC ?_)
  refine new_kw F hT hC ?_
  show wpAny _ _ _ _ _ _
  have k : ∀ b o, h.get? b = some o → ((h.push (W.kdv_tup [])).push (excO C h.objs.size)).get? b = some o := fun b o e => Heap.get?_push_of_some _ (Heap.get?_push_of_some _ e)
  have hC₁ := k _ _ hC
  have hget : ((h.push (W.kdv_tup [])).push (excO C h.objs.size)).get? (h.objs.size + 1) = some (excO C h.objs.size) := by heap_get
  have hcC : (Value.ref C :: bm).contains (.ref C) = true := by simp
  have i1 := hi.keeps k
  have b1 := (hb (.ref (h.objs.size + 1))).keeps k
  unfold isInstance
  repeat (first | with_reducible refine wpAny_loadPart_at hget ?_ | (with_reducible refine wpAny_isSubtype_exc hC₁ ?_; rw [hcC]) | wp_step)
  show wpAny _ _ (typeLookup (.ref C) _) _ _ _
  refine i1.at ?_
  refine wpAny_holding (wpAny_bind (b1.at ?_))
  refine wpAny_bind (wpAny_call (codeAny_mono hq fun r s' z => ?_))
  rcases r with e | (v | _ | _ | _) <;> first | exact z | exact z.elim | skip
  obtain ⟨rfl, z⟩ := z
  first
    | exact wpAny_pure (wpAny_pure z)
    | (wp_walk; exact z)
theorem call_kw (F : ExcBaseFacts B newId initId bmB) (hT : ∀ X : String, bm.contains (.type X) = bmB.contains (.type X)) {kws : List (Str × Value)} {fI : Addr}
    (hC : h.get? C = some (excClassObj nm q C N bs bm hdct sn sub ab col dd k0 k1 k2 k3 k5 newId))
    (hi : W.Looks (model prog w) h (typeLookup (.ref C) "__init__") (some (.ref fI))) (hb : ∀ self, W.Looks (model prog w) h (bindSpecial (.ref fI) self) (.ref fI, [self]))
    (hq : codeAny (model prog w) (A.under (.builtin "type.__call__" ⟨[.ref C], kws⟩)) (.call (.ref fI) ⟨[.ref (h.objs.size + 1)], kws⟩) (W.InitBack (h.objs.size + 1) R)
      ⟨(h.push (W.kdv_tup [])).push (excO C h.objs.size), g, d, t, os⟩) :
    codeAny (model prog w) A (.call (.ref C) ⟨[], kws⟩) R ⟨h, g, d, t, os⟩ := by
  have f1 := tc_lookup
  have f2 := tc_bind (.ref C)
  have hTy : (⟨h, g, d, t, os⟩ : Shared).TypeIs (.ref C) "type" := ⟨_, hC, rfl⟩
  refine codeAny_of_tree ?_
  show wpAny _ _ (callAny (.ref C) _) _ _ _
  repeat (any_goals (first | assumption | with_reducible refine wpAny_loadPart_at hC ?_ | wp_step))
  refine ⟨rfl, ?_⟩
  refine codeAny_call_builtin_at (Code.quiet_builtin _ (by decide +kernel)) entry_typeCall (wpAny_check_type_call_sub hC (type_call_kw F hT hC hi hb ?_))
  refine codeAny_mono hq fun r s' z => ?_
  rcases r with e | (v | _ | _ | _) <;> exact z
end
def InitRunK (B newId initId : String) (bmB : List Value) (f qn : Str) (K : Frag) (C fI : Addr) : Prop := ∀ (prog : Program) (w : World) (A : Around) (R : Result → Shared → Prop) (s : Shared) (x t0 : Addr) (v : Value), Txt B newId initId bmB f qn K C fI → K.In s.heap → s.heap.NoLimit → s.heap.get? x = some (excO C t0) → A.depth < recursionLimit →
    (∀ h' tk dx, InitEnd s.heap h' x C dx t0 f v → R (.ok (.ret .none)) { s with heap := h', toks := tk }) → codeAny (model prog w) A (.call (.ref fI) ⟨[.ref x], [(f, v)]⟩) R s
def InitRun3K (o : Value → Value → Value → List (Str × Value)) (B newId initId : String) (bmB : List Value) (f1 f2 f3 qn : Str) (K : Frag) (C fI : Addr) : Prop := ∀ (prog : Program) (w : World) (A : Around) (R : Result → Shared → Prop) (s : Shared) (x t0 : Addr) (v1 v2 v3 : Value), Txt3 B newId initId bmB f1 f2 f3 qn K C fI → K.In s.heap → s.heap.NoLimit → s.heap.get? x = some (excO C t0) → K.lookup x = none → A.depth < recursionLimit →
    (∀ h' tk dx, InitEnd3 s.heap h' x C dx t0 f1 f2 f3 v1 v2 v3 → R (.ok (.ret .none)) { s with heap := h', toks := tk }) → codeAny (model prog w) A (.call (.ref fI) ⟨[.ref x], o v1 v2 v3⟩) R s
def ordA (f1 f2 f3 : Str) (v1 v2 v3 : Value) : List (Str × Value) := [(f3, v3), (f2, v2), (f1, v1)]
def ordB (f1 f2 f3 : Str) (v1 v2 v3 : Value) : List (Str × Value) := [(f3, v3), (f1, v1), (f2, v2)]
section
variable {K : Frag} {C fI : Addr} {B newId initId ow : String} {bmB : List Value} {qn : Str}
theorem initK_number (SF : StoreFacts B bmB "object.__setattr__" ow) (hobj : bmB.contains (.type "object") = true) : InitRunK B newId initId bmB "number" qn K C fI := by
  intro prog w A R s x t0 v T X hlim hx hroom hq
  obtain ⟨oc, od, doc, pm, an, cdv, ct, osl, p1, p2, q1, q2, q3, q4, ho, hcd⟩ := T.fn
  obtain ⟨nm, q, N, bs, bm, sn, sub, ab, col, dd, k0, k1, k2, k3, k5, hC, hbm⟩ := T.cls
  have hcl : clsIn K C = some { name := nm, bases := bs, mro := .ref C :: bm, ns := N, qualname := q, hasDict := true, slotNames := sn, subclasses := sub, abstract := ab, collection := col, hasDel := false } := by unfold clsIn; rw [hC] <;> rfl
  refine Att.call_fn (binds := [("self", .ref x), ("number", v)]) X hlim ho hcd hroom (BindsTo.of_eq (by first | rfl | with_unfolding_all rfl)) (by first | rfl | decide | with_unfolding_all rfl) (fun s₁ IC => ?_) rfl rfl rfl
  obtain ⟨h₁, tk₁, rfl⟩ := IC.toInCall.same
  have k : ∀ b o, s.heap.get? b = some o → h₁.get? b = some o := IC.toInCall.keep
  have hn := IC.toInCall.ns
  have hxL : s.heap.objs.size ≠ x := Nat.ne_of_gt (Heap.lt_size hx)
  have X₁ : K.In h₁ := X.keeps k
  have hx₁ := k _ _ hx
  show wpAny _ _ (execs _ _) _ _ _
  refine wpAny_execs_cons (plainObj_wpAny_Assign_Attribute ?_)
  refine ldC (v := v) hn (by first | rfl | with_unfolding_all rfl | kernel_rfl) (ldC (v := .ref x) hn (by first | rfl | with_unfolding_all rfl | kernel_rfl) ?_)
  refine set_plain X₁ (ox := excO C t0) (od := none) ⟨hx₁, rfl, rfl, trivial⟩ T.sa ?_
  refine osa SF hobj X₁ hx₁ hcl (show refsT bmB (.ref C :: bm) = true from hbm) rfl rfl T.noN (fun h₃ tk₃ dx k₃ dn dne hx₃ hn₃ => ?_)
  show wpAny _ _ (execs _ _) _ _ _
  have z : s.heap.objs.size < h₁.objs.size := hn.lt
  exact wpAny_execs_nil (hq h₃ tk₃ dx ⟨fun b o hb e => k₃ b o hb (k b o e), hx₃, Nat.le_of_lt (Nat.lt_of_lt_of_le z dn), dne, hn₃⟩)
theorem initK_reason (SF : StoreFacts B bmB "object.__setattr__" ow) (hobj : bmB.contains (.type "object") = true) : InitRunK B newId initId bmB "reason" qn K C fI := by
  intro prog w A R s x t0 v T X hlim hx hroom hq
  obtain ⟨oc, od, doc, pm, an, cdv, ct, osl, p1, p2, q1, q2, q3, q4, ho, hcd⟩ := T.fn
  obtain ⟨nm, q, N, bs, bm, sn, sub, ab, col, dd, k0, k1, k2, k3, k5, hC, hbm⟩ := T.cls
  have hcl : clsIn K C = some { name := nm, bases := bs, mro := .ref C :: bm, ns := N, qualname := q, hasDict := true, slotNames := sn, subclasses := sub, abstract := ab, collection := col, hasDel := false } := by unfold clsIn; rw [hC] <;> rfl
  refine Att.call_fn (binds := [("self", .ref x), ("reason", v)]) X hlim ho hcd hroom (BindsTo.of_eq (by first | rfl | with_unfolding_all rfl)) (by first | rfl | decide | with_unfolding_all rfl) (fun s₁ IC => ?_) rfl rfl rfl
  obtain ⟨h₁, tk₁, rfl⟩ := IC.toInCall.same
  have k : ∀ b o, s.heap.get? b = some o → h₁.get? b = some o := IC.toInCall.keep
  have hn := IC.toInCall.ns
  have hxL : s.heap.objs.size ≠ x := Nat.ne_of_gt (Heap.lt_size hx)
  have X₁ : K.In h₁ := X.keeps k
  have hx₁ := k _ _ hx
  show wpAny _ _ (execs _ _) _ _ _
  refine wpAny_execs_cons (plainObj_wpAny_Assign_Attribute ?_)
  refine ldC (v := v) hn (by first | rfl | with_unfolding_all rfl | kernel_rfl) (ldC (v := .ref x) hn (by first | rfl | with_unfolding_all rfl | kernel_rfl) ?_)
  refine set_plain X₁ (ox := excO C t0) (od := none) ⟨hx₁, rfl, rfl, trivial⟩ T.sa ?_
  refine osa SF hobj X₁ hx₁ hcl (show refsT bmB (.ref C :: bm) = true from hbm) rfl rfl T.noN (fun h₃ tk₃ dx k₃ dn dne hx₃ hn₃ => ?_)
  show wpAny _ _ (execs _ _) _ _ _
  have z : s.heap.objs.size < h₁.objs.size := hn.lt
  exact wpAny_execs_nil (hq h₃ tk₃ dx ⟨fun b o hb e => k₃ b o hb (k b o e), hx₃, Nat.le_of_lt (Nat.lt_of_lt_of_le z dn), dne, hn₃⟩)
theorem initK_paper (SF : StoreFacts B bmB "object.__setattr__" ow) (hobj : bmB.contains (.type "object") = true) : InitRunK B newId initId bmB "paper" qn K C fI := by
  intro prog w A R s x t0 v T X hlim hx hroom hq
  obtain ⟨oc, od, doc, pm, an, cdv, ct, osl, p1, p2, q1, q2, q3, q4, ho, hcd⟩ := T.fn
  obtain ⟨nm, q, N, bs, bm, sn, sub, ab, col, dd, k0, k1, k2, k3, k5, hC, hbm⟩ := T.cls
  have hcl : clsIn K C = some { name := nm, bases := bs, mro := .ref C :: bm, ns := N, qualname := q, hasDict := true, slotNames := sn, subclasses := sub, abstract := ab, collection := col, hasDel := false } := by unfold clsIn; rw [hC] <;> rfl
  refine Att.call_fn (binds := [("self", .ref x), ("paper", v)]) X hlim ho hcd hroom (BindsTo.of_eq (by first | rfl | with_unfolding_all rfl)) (by first | rfl | decide | with_unfolding_all rfl) (fun s₁ IC => ?_) rfl rfl rfl
  obtain ⟨h₁, tk₁, rfl⟩ := IC.toInCall.same
  have k : ∀ b o, s.heap.get? b = some o → h₁.get? b = some o := IC.toInCall.keep
  have hn := IC.toInCall.ns
  have hxL : s.heap.objs.size ≠ x := Nat.ne_of_gt (Heap.lt_size hx)
  have X₁ : K.In h₁ := X.keeps k
  have hx₁ := k _ _ hx
  show wpAny _ _ (execs _ _) _ _ _
  refine wpAny_execs_cons (plainObj_wpAny_Assign_Attribute ?_)
  refine ldC (v := v) hn (by first | rfl | with_unfolding_all rfl | kernel_rfl) (ldC (v := .ref x) hn (by first | rfl | with_unfolding_all rfl | kernel_rfl) ?_)
  refine set_plain X₁ (ox := excO C t0) (od := none) ⟨hx₁, rfl, rfl, trivial⟩ T.sa ?_
  refine osa SF hobj X₁ hx₁ hcl (show refsT bmB (.ref C :: bm) = true from hbm) rfl rfl T.noN (fun h₃ tk₃ dx k₃ dn dne hx₃ hn₃ => ?_)
  show wpAny _ _ (execs _ _) _ _ _
  have z : s.heap.objs.size < h₁.objs.size := hn.lt
  exact wpAny_execs_nil (hq h₃ tk₃ dx ⟨fun b o hb e => k₃ b o hb (k b o e), hx₃, Nat.le_of_lt (Nat.lt_of_lt_of_le z dn), dne, hn₃⟩)
theorem initK_index (SF : StoreFacts B bmB "object.__setattr__" ow) (hobj : bmB.contains (.type "object") = true) : InitRunK B newId initId bmB "index" qn K C fI := by
  intro prog w A R s x t0 v T X hlim hx hroom hq
  obtain ⟨oc, od, doc, pm, an, cdv, ct, osl, p1, p2, q1, q2, q3, q4, ho, hcd⟩ := T.fn
  obtain ⟨nm, q, N, bs, bm, sn, sub, ab, col, dd, k0, k1, k2, k3, k5, hC, hbm⟩ := T.cls
  have hcl : clsIn K C = some { name := nm, bases := bs, mro := .ref C :: bm, ns := N, qualname := q, hasDict := true, slotNames := sn, subclasses := sub, abstract := ab, collection := col, hasDel := false } := by unfold clsIn; rw [hC] <;> rfl
  refine Att.call_fn (binds := [("self", .ref x), ("index", v)]) X hlim ho hcd hroom (BindsTo.of_eq (by first | rfl | with_unfolding_all rfl)) (by first | rfl | decide | with_unfolding_all rfl) (fun s₁ IC => ?_) rfl rfl rfl
  obtain ⟨h₁, tk₁, rfl⟩ := IC.toInCall.same
  have k : ∀ b o, s.heap.get? b = some o → h₁.get? b = some o := IC.toInCall.keep
  have hn := IC.toInCall.ns
  have hxL : s.heap.objs.size ≠ x := Nat.ne_of_gt (Heap.lt_size hx)
  have X₁ : K.In h₁ := X.keeps k
  have hx₁ := k _ _ hx
  show wpAny _ _ (execs _ _) _ _ _
  refine wpAny_execs_cons (plainObj_wpAny_Assign_Attribute ?_)
  refine ldC (v := v) hn (by first | rfl | with_unfolding_all rfl | kernel_rfl) (ldC (v := .ref x) hn (by first | rfl | with_unfolding_all rfl | kernel_rfl) ?_)
  refine set_plain X₁ (ox := excO C t0) (od := none) ⟨hx₁, rfl, rfl, trivial⟩ T.sa ?_
  refine osa SF hobj X₁ hx₁ hcl (show refsT bmB (.ref C :: bm) = true from hbm) rfl rfl T.noN (fun h₃ tk₃ dx k₃ dn dne hx₃ hn₃ => ?_)
  show wpAny _ _ (execs _ _) _ _ _
  have z : s.heap.objs.size < h₁.objs.size := hn.lt
  exact wpAny_execs_nil (hq h₃ tk₃ dx ⟨fun b o hb e => k₃ b o hb (k b o e), hx₃, Nat.le_of_lt (Nat.lt_of_lt_of_le z dn), dne, hn₃⟩)
theorem initK_at (SF : StoreFacts B bmB "object.__setattr__" ow) (hobj : bmB.contains (.type "object") = true) : InitRunK B newId initId bmB "at" qn K C fI := by
  intro prog w A R s x t0 v T X hlim hx hroom hq
  obtain ⟨oc, od, doc, pm, an, cdv, ct, osl, p1, p2, q1, q2, q3, q4, ho, hcd⟩ := T.fn
  obtain ⟨nm, q, N, bs, bm, sn, sub, ab, col, dd, k0, k1, k2, k3, k5, hC, hbm⟩ := T.cls
  have hcl : clsIn K C = some { name := nm, bases := bs, mro := .ref C :: bm, ns := N, qualname := q, hasDict := true, slotNames := sn, subclasses := sub, abstract := ab, collection := col, hasDel := false } := by unfold clsIn; rw [hC] <;> rfl
  refine Att.call_fn (binds := [("self", .ref x), ("at", v)]) X hlim ho hcd hroom (BindsTo.of_eq (by first | rfl | with_unfolding_all rfl)) (by first | rfl | decide | with_unfolding_all rfl) (fun s₁ IC => ?_) rfl rfl rfl
  obtain ⟨h₁, tk₁, rfl⟩ := IC.toInCall.same
  have k : ∀ b o, s.heap.get? b = some o → h₁.get? b = some o := IC.toInCall.keep
  have hn := IC.toInCall.ns
  have hxL : s.heap.objs.size ≠ x := Nat.ne_of_gt (Heap.lt_size hx)
  have X₁ : K.In h₁ := X.keeps k
  have hx₁ := k _ _ hx
  show wpAny _ _ (execs _ _) _ _ _
  refine wpAny_execs_cons (plainObj_wpAny_Assign_Attribute ?_)
  refine ldC (v := v) hn (by first | rfl | with_unfolding_all rfl | kernel_rfl) (ldC (v := .ref x) hn (by first | rfl | with_unfolding_all rfl | kernel_rfl) ?_)
  refine set_plain X₁ (ox := excO C t0) (od := none) ⟨hx₁, rfl, rfl, trivial⟩ T.sa ?_
  refine osa SF hobj X₁ hx₁ hcl (show refsT bmB (.ref C :: bm) = true from hbm) rfl rfl T.noN (fun h₃ tk₃ dx k₃ dn dne hx₃ hn₃ => ?_)
  show wpAny _ _ (execs _ _) _ _ _
  have z : s.heap.objs.size < h₁.objs.size := hn.lt
  exact wpAny_execs_nil (hq h₃ tk₃ dx ⟨fun b o hb e => k₃ b o hb (k b o e), hx₃, Nat.le_of_lt (Nat.lt_of_lt_of_le z dn), dne, hn₃⟩)
theorem initK_length (SF : StoreFacts B bmB "object.__setattr__" ow) (hobj : bmB.contains (.type "object") = true) : InitRunK B newId initId bmB "length" qn K C fI := by
  intro prog w A R s x t0 v T X hlim hx hroom hq
  obtain ⟨oc, od, doc, pm, an, cdv, ct, osl, p1, p2, q1, q2, q3, q4, ho, hcd⟩ := T.fn
  obtain ⟨nm, q, N, bs, bm, sn, sub, ab, col, dd, k0, k1, k2, k3, k5, hC, hbm⟩ := T.cls
  have hcl : clsIn K C = some { name := nm, bases := bs, mro := .ref C :: bm, ns := N, qualname := q, hasDict := true, slotNames := sn, subclasses := sub, abstract := ab, collection := col, hasDel := false } := by unfold clsIn; rw [hC] <;> rfl
  refine Att.call_fn (binds := [("self", .ref x), ("length", v)]) X hlim ho hcd hroom (BindsTo.of_eq (by first | rfl | with_unfolding_all rfl)) (by first | rfl | decide | with_unfolding_all rfl) (fun s₁ IC => ?_) rfl rfl rfl
  obtain ⟨h₁, tk₁, rfl⟩ := IC.toInCall.same
  have k : ∀ b o, s.heap.get? b = some o → h₁.get? b = some o := IC.toInCall.keep
  have hn := IC.toInCall.ns
  have hxL : s.heap.objs.size ≠ x := Nat.ne_of_gt (Heap.lt_size hx)
  have X₁ : K.In h₁ := X.keeps k
  have hx₁ := k _ _ hx
  show wpAny _ _ (execs _ _) _ _ _
  refine wpAny_execs_cons (plainObj_wpAny_Assign_Attribute ?_)
  refine ldC (v := v) hn (by first | rfl | with_unfolding_all rfl | kernel_rfl) (ldC (v := .ref x) hn (by first | rfl | with_unfolding_all rfl | kernel_rfl) ?_)
  refine set_plain X₁ (ox := excO C t0) (od := none) ⟨hx₁, rfl, rfl, trivial⟩ T.sa ?_
  refine osa SF hobj X₁ hx₁ hcl (show refsT bmB (.ref C :: bm) = true from hbm) rfl rfl T.noN (fun h₃ tk₃ dx k₃ dn dne hx₃ hn₃ => ?_)
  show wpAny _ _ (execs _ _) _ _ _
  have z : s.heap.objs.size < h₁.objs.size := hn.lt
  exact wpAny_execs_nil (hq h₃ tk₃ dx ⟨fun b o hb e => k₃ b o hb (k b o e), hx₃, Nat.le_of_lt (Nat.lt_of_lt_of_le z dn), dne, hn₃⟩)
theorem initK_count (SF : StoreFacts B bmB "object.__setattr__" ow) (hobj : bmB.contains (.type "object") = true) : InitRunK B newId initId bmB "count" qn K C fI := by
  intro prog w A R s x t0 v T X hlim hx hroom hq
  obtain ⟨oc, od, doc, pm, an, cdv, ct, osl, p1, p2, q1, q2, q3, q4, ho, hcd⟩ := T.fn
  obtain ⟨nm, q, N, bs, bm, sn, sub, ab, col, dd, k0, k1, k2, k3, k5, hC, hbm⟩ := T.cls
  have hcl : clsIn K C = some { name := nm, bases := bs, mro := .ref C :: bm, ns := N, qualname := q, hasDict := true, slotNames := sn, subclasses := sub, abstract := ab, collection := col, hasDel := false } := by unfold clsIn; rw [hC] <;> rfl
  refine Att.call_fn (binds := [("self", .ref x), ("count", v)]) X hlim ho hcd hroom (BindsTo.of_eq (by first | rfl | with_unfolding_all rfl)) (by first | rfl | decide | with_unfolding_all rfl) (fun s₁ IC => ?_) rfl rfl rfl
  obtain ⟨h₁, tk₁, rfl⟩ := IC.toInCall.same
  have k : ∀ b o, s.heap.get? b = some o → h₁.get? b = some o := IC.toInCall.keep
  have hn := IC.toInCall.ns
  have hxL : s.heap.objs.size ≠ x := Nat.ne_of_gt (Heap.lt_size hx)
  have X₁ : K.In h₁ := X.keeps k
  have hx₁ := k _ _ hx
  show wpAny _ _ (execs _ _) _ _ _
  refine wpAny_execs_cons (plainObj_wpAny_Assign_Attribute ?_)
  refine ldC (v := v) hn (by first | rfl | with_unfolding_all rfl | kernel_rfl) (ldC (v := .ref x) hn (by first | rfl | with_unfolding_all rfl | kernel_rfl) ?_)
  refine set_plain X₁ (ox := excO C t0) (od := none) ⟨hx₁, rfl, rfl, trivial⟩ T.sa ?_
  refine osa SF hobj X₁ hx₁ hcl (show refsT bmB (.ref C :: bm) = true from hbm) rfl rfl T.noN (fun h₃ tk₃ dx k₃ dn dne hx₃ hn₃ => ?_)
  show wpAny _ _ (execs _ _) _ _ _
  have z : s.heap.objs.size < h₁.objs.size := hn.lt
  exact wpAny_execs_nil (hq h₃ tk₃ dx ⟨fun b o hb e => k₃ b o hb (k b o e), hx₃, Nat.le_of_lt (Nat.lt_of_lt_of_le z dn), dne, hn₃⟩)
theorem initK3a (SF : StoreFacts B bmB "object.__setattr__" ow) (hobj : bmB.contains (.type "object") = true) : InitRun3K (ordA "line" "width" "other") B newId initId bmB "line" "width" "other" qn K C fI := by
  intro prog w A R s x t0 v1 v2 v3 T X hlim hx hxK hroom hq
  obtain ⟨oc, od, doc, pm, an, cdv, ct, osl, p1, p2, p3, p4, q1, q2, q3, q4, r1, r2, r3, r4, s1, s2, s3, s4, ho, hcd⟩ := T.fn
  obtain ⟨nm, q, N, bs, bm, sn, sub, ab, col, dd, k0, k1, k2, k3, k5, hC, hbm⟩ := T.cls
  have hcl : clsIn K C = some { name := nm, bases := bs, mro := .ref C :: bm, ns := N, qualname := q, hasDict := true, slotNames := sn, subclasses := sub, abstract := ab, collection := col, hasDel := false } := by unfold clsIn; rw [hC] <;> rfl
  refine Att.call_fn (binds := [("self", .ref x), ("line", v1), ("width", v2), ("other", v3)]) X hlim ho hcd hroom (BindsTo.of_eq (by first | rfl | with_unfolding_all rfl)) (by first | rfl | decide | with_unfolding_all rfl) (fun s₁ IC => ?_) rfl rfl rfl
  obtain ⟨h₁, tk₁, rfl⟩ := IC.toInCall.same
  have k : ∀ b o, s.heap.get? b = some o → h₁.get? b = some o := IC.toInCall.keep
  have hn := IC.toInCall.ns
  have hxL : s.heap.objs.size ≠ x := Nat.ne_of_gt (Heap.lt_size hx)
  have X₁ : K.In h₁ := X.keeps k
  have hx₁ := k _ _ hx
  have zL : s.heap.objs.size < h₁.objs.size := hn.lt
  show wpAny _ _ (execs _ _) _ _ _
  refine wpAny_execs_cons (plainObj_wpAny_Assign_Attribute ?_)
  refine ldC (v := v1) hn (by first | rfl | with_unfolding_all rfl | kernel_rfl) (ldC (v := .ref x) hn (by first | rfl | with_unfolding_all rfl | kernel_rfl) ?_)
  refine set_plain X₁ (ox := excO C t0) (od := none) ⟨hx₁, rfl, rfl, trivial⟩ T.sa ?_
  refine osa SF hobj X₁ hx₁ hcl (show refsT bmB (.ref C :: bm) = true from hbm) rfl rfl T.noN1 (fun h₃ tk₃ dx k₃ dn dne hx₃ hn₃ => ?_)
  have hxd : ∀ {a : Addr} {o : Obj}, K.lookup a = some o → a ≠ x := fun e z => by rw [z, hxK] at e; cases e
  have X₃ : K.In h₃ := fun a o e => k₃ a o (hxd e) (X₁ a o e)
  have hn₃' := hn.at fun o e => k₃ _ o hxL e
  have hw1 : Within (fun y : Str => if y = "line" then some v1 else none) ["line"] := fun y hy => by
    by_cases h : y = "line"
    · rw [h]; exact List.mem_cons_self
    · exact absurd (if_neg h) hy
  show wpAny _ _ (execs _ _) _ _ _
  refine wpAny_execs_cons (plainObj_wpAny_Assign_Attribute ?_)
  refine ldC (v := v2) hn₃' (by first | rfl | with_unfolding_all rfl | kernel_rfl) (ldC (v := .ref x) hn₃' (by first | rfl | with_unfolding_all rfl | kernel_rfl) ?_)
  obtain ⟨oD, _, _, hoD, _⟩ := hn₃.count hw1
  refine set_plain X₃ (ox := { cls := .ref C, dict := some dx, data := (excO C t0).data }) (od := some oD) ⟨hx₃, rfl, rfl, hoD⟩ T.sa ?_
  refine osa2 SF hobj X₃ hx₃ hn₃ hw1 (by decide) hcl (show refsT bmB (.ref C :: bm) = true from hbm) rfl rfl T.noN2 (fun h₄ tk₄ k₄ hn₄ => ?_)
  have hdK : ∀ {a : Addr} {o : Obj}, K.lookup a = some o → a ≠ dx := fun {a o} e z => by
    have h1 := Heap.lt_size (X₁ a o e)
    rw [z] at h1
    exact absurd dn (Nat.not_le_of_lt h1)
  have hLd : s.heap.objs.size ≠ dx := Nat.ne_of_lt (Nat.lt_of_lt_of_le zL dn)
  have X₄ : K.In h₄ := fun a o e => k₄ a o (hdK e) (X₃ a o e)
  have hx₄ := k₄ x _ (Ne.symm dne) hx₃
  have hn₄' := hn₃'.at fun o e => k₄ _ o hLd e
  have hw2 := Within.cons "width" v2 hw1
  show wpAny _ _ (execs _ _) _ _ _
  refine wpAny_execs_cons (plainObj_wpAny_Assign_Attribute ?_)
  refine ldC (v := v3) hn₄' (by first | rfl | with_unfolding_all rfl | kernel_rfl) (ldC (v := .ref x) hn₄' (by first | rfl | with_unfolding_all rfl | kernel_rfl) ?_)
  obtain ⟨oD2, _, _, hoD2, _⟩ := hn₄.count hw2
  refine set_plain X₄ (ox := { cls := .ref C, dict := some dx, data := (excO C t0).data }) (od := some oD2) ⟨hx₄, rfl, rfl, hoD2⟩ T.sa ?_
  refine osa2 SF hobj X₄ hx₄ hn₄ hw2 (by decide) hcl (show refsT bmB (.ref C :: bm) = true from hbm) rfl rfl T.noN3 (fun h₅ tk₅ k₅ hn₅ => ?_)
  show wpAny _ _ (execs _ _) _ _ _
  have hbd : ∀ {b : Addr} {o : Obj}, s.heap.get? b = some o → b ≠ dx := fun {b o} e z => by
    have h1 := Heap.lt_size (k b o e)
    rw [z] at h1
    exact absurd dn (Nat.not_le_of_lt h1)
  exact wpAny_execs_nil (hq h₅ tk₅ dx ⟨fun b o hb e => k₅ b o (hbd e) (k₄ b o (hbd e) (k₃ b o hb (k b o e))), k₅ x _ (Ne.symm dne) hx₄, Nat.le_of_lt (Nat.lt_of_lt_of_le zL dn), dne, hn₅⟩)
theorem initK3b (SF : StoreFacts B bmB "object.__setattr__" ow) (hobj : bmB.contains (.type "object") = true) : InitRun3K (ordB "line" "width" "other") B newId initId bmB "line" "width" "other" qn K C fI := by
  intro prog w A R s x t0 v1 v2 v3 T X hlim hx hxK hroom hq
  obtain ⟨oc, od, doc, pm, an, cdv, ct, osl, p1, p2, p3, p4, q1, q2, q3, q4, r1, r2, r3, r4, s1, s2, s3, s4, ho, hcd⟩ := T.fn
  obtain ⟨nm, q, N, bs, bm, sn, sub, ab, col, dd, k0, k1, k2, k3, k5, hC, hbm⟩ := T.cls
  have hcl : clsIn K C = some { name := nm, bases := bs, mro := .ref C :: bm, ns := N, qualname := q, hasDict := true, slotNames := sn, subclasses := sub, abstract := ab, collection := col, hasDel := false } := by unfold clsIn; rw [hC] <;> rfl
  refine Att.call_fn (binds := [("self", .ref x), ("line", v1), ("width", v2), ("other", v3)]) X hlim ho hcd hroom (BindsTo.of_eq (by first | rfl | with_unfolding_all rfl)) (by first | rfl | decide | with_unfolding_all rfl) (fun s₁ IC => ?_) rfl rfl rfl
  obtain ⟨h₁, tk₁, rfl⟩ := IC.toInCall.same
  have k : ∀ b o, s.heap.get? b = some o → h₁.get? b = some o := IC.toInCall.keep
  have hn := IC.toInCall.ns
  have hxL : s.heap.objs.size ≠ x := Nat.ne_of_gt (Heap.lt_size hx)
  have X₁ : K.In h₁ := X.keeps k
  have hx₁ := k _ _ hx
  have zL : s.heap.objs.size < h₁.objs.size := hn.lt
  show wpAny _ _ (execs _ _) _ _ _
  refine wpAny_execs_cons (plainObj_wpAny_Assign_Attribute ?_)
  refine ldC (v := v1) hn (by first | rfl | with_unfolding_all rfl | kernel_rfl) (ldC (v := .ref x) hn (by first | rfl | with_unfolding_all rfl | kernel_rfl) ?_)
  refine set_plain X₁ (ox := excO C t0) (od := none) ⟨hx₁, rfl, rfl, trivial⟩ T.sa ?_
  refine osa SF hobj X₁ hx₁ hcl (show refsT bmB (.ref C :: bm) = true from hbm) rfl rfl T.noN1 (fun h₃ tk₃ dx k₃ dn dne hx₃ hn₃ => ?_)
  have hxd : ∀ {a : Addr} {o : Obj}, K.lookup a = some o → a ≠ x := fun e z => by rw [z, hxK] at e; cases e
  have X₃ : K.In h₃ := fun a o e => k₃ a o (hxd e) (X₁ a o e)
  have hn₃' := hn.at fun o e => k₃ _ o hxL e
  have hw1 : Within (fun y : Str => if y = "line" then some v1 else none) ["line"] := fun y hy => by
    by_cases h : y = "line"
    · rw [h]; exact List.mem_cons_self
    · exact absurd (if_neg h) hy
  show wpAny _ _ (execs _ _) _ _ _
  refine wpAny_execs_cons (plainObj_wpAny_Assign_Attribute ?_)
  refine ldC (v := v2) hn₃' (by first | rfl | with_unfolding_all rfl | kernel_rfl) (ldC (v := .ref x) hn₃' (by first | rfl | with_unfolding_all rfl | kernel_rfl) ?_)
  obtain ⟨oD, _, _, hoD, _⟩ := hn₃.count hw1
  refine set_plain X₃ (ox := { cls := .ref C, dict := some dx, data := (excO C t0).data }) (od := some oD) ⟨hx₃, rfl, rfl, hoD⟩ T.sa ?_
  refine osa2 SF hobj X₃ hx₃ hn₃ hw1 (by decide) hcl (show refsT bmB (.ref C :: bm) = true from hbm) rfl rfl T.noN2 (fun h₄ tk₄ k₄ hn₄ => ?_)
  have hdK : ∀ {a : Addr} {o : Obj}, K.lookup a = some o → a ≠ dx := fun {a o} e z => by
    have h1 := Heap.lt_size (X₁ a o e)
    rw [z] at h1
    exact absurd dn (Nat.not_le_of_lt h1)
  have hLd : s.heap.objs.size ≠ dx := Nat.ne_of_lt (Nat.lt_of_lt_of_le zL dn)
  have X₄ : K.In h₄ := fun a o e => k₄ a o (hdK e) (X₃ a o e)
  have hx₄ := k₄ x _ (Ne.symm dne) hx₃
  have hn₄' := hn₃'.at fun o e => k₄ _ o hLd e
  have hw2 := Within.cons "width" v2 hw1
  show wpAny _ _ (execs _ _) _ _ _
  refine wpAny_execs_cons (plainObj_wpAny_Assign_Attribute ?_)
  refine ldC (v := v3) hn₄' (by first | rfl | with_unfolding_all rfl | kernel_rfl) (ldC (v := .ref x) hn₄' (by first | rfl | with_unfolding_all rfl | kernel_rfl) ?_)
  obtain ⟨oD2, _, _, hoD2, _⟩ := hn₄.count hw2
  refine set_plain X₄ (ox := { cls := .ref C, dict := some dx, data := (excO C t0).data }) (od := some oD2) ⟨hx₄, rfl, rfl, hoD2⟩ T.sa ?_
  refine osa2 SF hobj X₄ hx₄ hn₄ hw2 (by decide) hcl (show refsT bmB (.ref C :: bm) = true from hbm) rfl rfl T.noN3 (fun h₅ tk₅ k₅ hn₅ => ?_)
  show wpAny _ _ (execs _ _) _ _ _
  have hbd : ∀ {b : Addr} {o : Obj}, s.heap.get? b = some o → b ≠ dx := fun {b o} e z => by
    have h1 := Heap.lt_size (k b o e)
    rw [z] at h1
    exact absurd dn (Nat.not_le_of_lt h1)
  exact wpAny_execs_nil (hq h₅ tk₅ dx ⟨fun b o hb e => k₅ b o (hbd e) (k₄ b o (hbd e) (k₃ b o hb (k b o e))), k₅ x _ (Ne.symm dne) hx₄, Nat.le_of_lt (Nat.lt_of_lt_of_le zL dn), dne, hn₅⟩)
end
section
variable {prog : Program} {w : World} {A : Around} {E : Value → Shared → Prop} {R : Result → Shared → Prop} {s : Shared} {K : Frag} {C fI : Addr} {B newId initId : String} {bmB : List Value} {f f1 f2 f3 qn : Str}
theorem madeK (F : ExcBaseFacts B newId initId bmB) (IR : InitRunK B newId initId bmB f qn K C fI) (T : Txt B newId initId bmB f qn K C fI) {v : Value} (X : K.In s.heap) (hlim : s.heap.NoLimit) (hroom : A.depth + 1 < recursionLimit)
    (hq : ∀ h' tk e d, OwnMade s.heap h' e C d f v → R (.ok (.ret (.ref e))) { s with heap := h', toks := tk }) :
    codeAny (model prog w) A (.call (.ref C) ⟨[], [(f, v)]⟩) R s := by
  obtain ⟨nm, q, N, bs, bm, sn, sub, ab, col, dd, k0, k1, k2, k3, k5, hC, hbm⟩ := T.cls
  obtain ⟨hp, g, dr, tk, os⟩ := s
  have k : ∀ b o, hp.get? b = some o → ((hp.push (kdv_tup [])).push (excO C hp.objs.size)).get? b = some o := fun b o e => Heap.get?_push_of_some _ (Heap.get?_push_of_some _ e)
  have hget : ((hp.push (kdv_tup [])).push (excO C hp.objs.size)).get? (hp.objs.size + 1) = some (excO C hp.objs.size) := by heap_get
  refine call_kw F (fun X => refsT_contains X bm hbm) (X _ _ hC) (looks_findIn X T.iC) (fun self => bind_fn X self T.tC) ?_
  refine IR _ _ _ _ ⟨(hp.push (kdv_tup [])).push (excO C hp.objs.size), g, dr, tk, os⟩ _ _ _ T (X.keeps k) (hlim.keeps k) hget ?_ fun h' tk' dx ⟨k', hx, dn, dne, hns⟩ => ?_
  · show A.depth + 1 < recursionLimit
    exact hroom
  · have old : ∀ b o, hp.get? b = some o → h'.get? b = some o := fun b o e => k' b o (Nat.ne_of_lt (Nat.lt_succ_of_lt (Heap.lt_size e))) (k b o e)
    have z : hp.objs.size + 1 + 1 ≤ dx := by
      first
        | (simpa only [Heap.size_push] using dn)
        | exact dn
        | (have q := dn; rw [Heap.size_push, Heap.size_push] at q; exact q)
    exact ⟨rfl, hq h' tk' (hp.objs.size + 1) dx ⟨old, Nat.le_succ _, ⟨_, _, hx, rfl, rfl, rfl, rfl⟩, Nat.le_trans (Nat.le_trans (Nat.le_succ _) (Nat.le_succ _)) z, dne, hns⟩⟩
theorem made3K {o : Value → Value → Value → List (Str × Value)} (F : ExcBaseFacts B newId initId bmB) (IR : InitRun3K o B newId initId bmB f1 f2 f3 qn K C fI) (T : Txt3 B newId initId bmB f1 f2 f3 qn K C fI) {v1 v2 v3 : Value} (X : K.In s.heap) (hlim : s.heap.NoLimit) (hroom : A.depth + 1 < recursionLimit)
    (hq : ∀ h' tk e d, OwnMade3 s.heap h' e C d f1 f2 f3 v1 v2 v3 → R (.ok (.ret (.ref e))) { s with heap := h', toks := tk }) :
    codeAny (model prog w) A (.call (.ref C) ⟨[], o v1 v2 v3⟩) R s := by
  obtain ⟨nm, q, N, bs, bm, sn, sub, ab, col, dd, k0, k1, k2, k3, k5, hC, hbm⟩ := T.cls
  obtain ⟨hp, g, dr, tk, os⟩ := s
  have k : ∀ b o, hp.get? b = some o → ((hp.push (kdv_tup [])).push (excO C hp.objs.size)).get? b = some o := fun b o e => Heap.get?_push_of_some _ (Heap.get?_push_of_some _ e)
  have hget : ((hp.push (kdv_tup [])).push (excO C hp.objs.size)).get? (hp.objs.size + 1) = some (excO C hp.objs.size) := by heap_get
  refine call_kw F (fun X => refsT_contains X bm hbm) (X _ _ hC) (looks_findIn X T.iC) (fun self => bind_fn X self T.tC) ?_
  have hno : K.lookup (hp.objs.size + 1) = none := by
    cases e : K.lookup (hp.objs.size + 1) with
    | none => rfl
    | some o =>
      have := Heap.lt_size (X _ o e)
      exact absurd this (Nat.not_lt.mpr (Nat.le_succ _))
  refine IR _ _ _ _ ⟨(hp.push (kdv_tup [])).push (excO C hp.objs.size), g, dr, tk, os⟩ _ _ _ _ _ T (X.keeps k) (hlim.keeps k) hget hno ?_ fun h' tk' dx ⟨k', hx, dn, dne, hns⟩ => ?_
  · show A.depth + 1 < recursionLimit
    exact hroom
  · have old : ∀ b o, hp.get? b = some o → h'.get? b = some o := fun b o e => k' b o (Nat.ne_of_lt (Nat.lt_succ_of_lt (Heap.lt_size e))) (k b o e)
    have z : hp.objs.size + 1 + 1 ≤ dx := by
      first
        | (simpa only [Heap.size_push] using dn)
        | exact dn
        | (have q := dn; rw [Heap.size_push, Heap.size_push] at q; exact q)
    exact ⟨rfl, hq h' tk' (hp.objs.size + 1) dx ⟨old, Nat.le_succ _, ⟨_, _, hx, rfl, rfl, rfl, rfl⟩, Nat.le_trans (Nat.le_trans (Nat.le_succ _) (Nat.le_succ _)) z, dne, hns⟩⟩
end
end Xc
end PySem
set_option maxRecDepth 100000
set_option maxHeartbeats 4000000
namespace L2
open PySem PySem.Spec PyProof.Rows
section
variable {X : Cx} {C fI : Addr} {B newId initId : String} {bmB : List Value} {f f1 f2 f3 qn x : Str}
theorem mkp1 {pins : List (Addr × Obj)} {σ : St} {Q : XK} {v : V} {v' : Value} {H1 : Hp} {s1 : Shared} {h' : Heap} {tk' : Nat} {e d : Addr} (I1 : Inv X pins σ H1 s1) (rv : RelV v v') (M : PySem.Xc.OwnMade s1.heap h' e C d f v') (r : Raises X (.ref C))
    (q1 : ∀ d, H1 d = none → Q (.ref C) (some d) (upd H1 d (.xd [(f, v)]))) : MkP X pins σ Q (.ref e) { s1 with heap := h', toks := tk' } := by
  obtain ⟨hp, g, dr, tk, os⟩ := s1
  obtain ⟨oe, fv, hoe, hc, hd, hdat, h1⟩ := M.obj
  have hns := M.ns
  obtain ⟨G', g1, g2⟩ := restrict h' fun b => decide (b ≠ e)
  have gk : ∀ b, b ≠ e → G'.get? b = h'.get? b := fun b hb => g1 b (decide_eq_true hb)
  have ge : G'.get? e = none := g2 e (by simp)
  have old : ∀ b o, hp.get? b = some o → G'.get? b = some o := fun b o q => (gk b (Nat.ne_of_lt (Nat.lt_of_lt_of_le (Heap.lt_size q) M.new))).trans (M.keep b o q)
  have ob : ObjOk X.prog X.w (upd H1 d (.xd [(f, v)])) G' d (.xd [(f, v)]) := ⟨_, hns.at (fun o q => (gk d M.dne).trans q), fun g => relO_one rv g⟩
  have J : Inv X pins σ (upd H1 d (.xd [(f, v)])) ⟨G', g, dr, tk', os⟩ := I1.laid (t' := tk') old M.dbig ob
  refine ⟨e, oe, fv, ⟨G', g, dr, tk', os⟩, _, .ref C, some d, rfl, J, fun b o q => ?_, ge, hoe, ⟨hc, hd⟩, hdat, h1, ?_, rfl, I1.bare, r, q1 d (I1.hok.fresh M.dbig)⟩
  · by_cases hb : b = e
    · have q' : G'.get? b = some o := q
      rw [hb, ge] at q'; cases q'
    · exact (gk b hb).symm.trans q
  · rw [upd_ne (Ne.symm M.dne)]
    exact I1.hok.fresh M.new
theorem mkp3 {pins : List (Addr × Obj)} {σ : St} {Q : XK} {v1 v2 v3 : V} {u1 u2 u3 : Value} {H1 : Hp} {s1 : Shared} {h' : Heap} {tk' : Nat} {e d : Addr} (I1 : Inv X pins σ H1 s1) (rv1 : RelV v1 u1) (rv2 : RelV v2 u2) (rv3 : RelV v3 u3) (M : PySem.Xc.OwnMade3 s1.heap h' e C d f1 f2 f3 u1 u2 u3) (r : Raises X (.ref C))
    (q1 : ∀ d, H1 d = none → Q (.ref C) (some d) (upd H1 d (.xd (m3L f1 f2 f3 v1 v2 v3)))) : MkP X pins σ Q (.ref e) { s1 with heap := h', toks := tk' } := by
  obtain ⟨hp, g, dr, tk, os⟩ := s1
  obtain ⟨oe, fv, hoe, hc, hd, hdat, h1⟩ := M.obj
  have hns := M.ns
  obtain ⟨G', g1, g2⟩ := restrict h' fun b => decide (b ≠ e)
  have gk : ∀ b, b ≠ e → G'.get? b = h'.get? b := fun b hb => g1 b (decide_eq_true hb)
  have ge : G'.get? e = none := g2 e (by simp)
  have old : ∀ b o, hp.get? b = some o → G'.get? b = some o := fun b o q => (gk b (Nat.ne_of_lt (Nat.lt_of_lt_of_le (Heap.lt_size q) M.new))).trans (M.keep b o q)
  have ob : ObjOk X.prog X.w (upd H1 d (.xd (m3L f1 f2 f3 v1 v2 v3))) G' d (.xd (m3L f1 f2 f3 v1 v2 v3)) := ⟨_, hns.at (fun o q => (gk d M.dne).trans q), fun g => relO_three rv1 rv2 rv3 g⟩
  have J : Inv X pins σ (upd H1 d (.xd (m3L f1 f2 f3 v1 v2 v3))) ⟨G', g, dr, tk', os⟩ := I1.laid (t' := tk') old M.dbig ob
  refine ⟨e, oe, fv, ⟨G', g, dr, tk', os⟩, _, .ref C, some d, rfl, J, fun b o q => ?_, ge, hoe, ⟨hc, hd⟩, hdat, h1, ?_, rfl, I1.bare, r, q1 d (I1.hok.fresh M.dbig)⟩
  · by_cases hb : b = e
    · have q' : G'.get? b = some o := q
      rw [hb, ge] at q'; cases q'
    · exact (gk b hb).symm.trans q
  · rw [upd_ne (Ne.symm M.dne)]
    exact I1.hok.fresh M.new
theorem pmk1K {kws : List Keyword} {tk : TA} {p pos : Pos} {k : Nat} (F : ExcBaseFacts B newId initId bmB) (IR : PySem.Xc.InitRunK B newId initId bmB f qn X.K C fI) (T : PySem.Xc.Txt B newId initId bmB f qn X.K C fI) (gC : X.mg x = some (.ref C)) (hr : Room k X.A) (hkw : PK X kws tk) (hg : Gl X x)
    (hall : (backToKw pos (keywordEach kws X.env)).all (·.1.isSome) = true := by rfl) (hks : (backToKw pos (keywordEach kws X.env)).filterMap (·.1) = [f] := by rfl) (hdb : (x == ("__debug__" : Str)) = false := by decide)
    (hpl : ((backTo pos (starEach [] X.env)).any (·.1) || (backToKw pos (keywordEach kws X.env)).any (·.1.isNone)) = false := by rfl) :
    PMk X (.Call (.Name x p) [] kws pos) (tMk1 f C tk) := by
  intro pins s σ H Q I h
  refine wpAny_Call_Name_kw (ld_glob I hg gC ?_ hdb)
  refine PySem.W.callWith_KW0 (h₀ := X.base) I.ok.mod.kin T.kC hall (thn (hkw.run pos pins s σ H _ I h) fun ws s1 hh => ?_) hpl
  obtain ⟨vs, H1, I1, r1, v, ev, q1⟩ := hh
  subst ev
  rw [hks]
  refine ⟨I1.kIn, ?_⟩
  cases r1 with
  | cons rv rn =>
    rename_i v' us'
    cases rn
    show wpAny _ _ (call (.ref C) [] [(f, v')]) _ _ _
    refine wpAny_call (PySem.Xc.madeK F IR T I1.kIn I1.nolimit (by have := hr.dp; omega) fun h' tk' e d M => ?_)
    exact mkp1 I1 rv M (raises_own T.exC T.tyC) q1
def tMk3K (f1 f2 f3 : Str) (C : Addr) (swap : Bool) (ta : TA) : St → Hp → XK → Prop := fun σ H Q => ta σ H fun vs H1 => ∃ v1 v2 v3, vs = (if swap then [v3, v1, v2] else [v3, v2, v1]) ∧ ∀ d, H1 d = none → Q (.ref C) (some d) (upd H1 d (.xd (m3L f1 f2 f3 v1 v2 v3)))
theorem pmk3A {kws : List Keyword} {tk : TA} {p pos : Pos} {k : Nat} (F : ExcBaseFacts B newId initId bmB) (IR : PySem.Xc.InitRun3K (PySem.Xc.ordA f1 f2 f3) B newId initId bmB f1 f2 f3 qn X.K C fI) (T : PySem.Xc.Txt3 B newId initId bmB f1 f2 f3 qn X.K C fI) (gC : X.mg x = some (.ref C)) (hr : Room k X.A) (hkw : PK X kws tk) (hg : Gl X x)
    (hall : (backToKw pos (keywordEach kws X.env)).all (·.1.isSome) = true := by rfl) (hks : (backToKw pos (keywordEach kws X.env)).filterMap (·.1) = [f3, f2, f1] := by rfl) (hdb : (x == ("__debug__" : Str)) = false := by decide)
    (hpl : ((backTo pos (starEach [] X.env)).any (·.1) || (backToKw pos (keywordEach kws X.env)).any (·.1.isNone)) = false := by rfl) :
    PMk X (.Call (.Name x p) [] kws pos) (tMk3K f1 f2 f3 C false tk) := by
  intro pins s σ H Q I h
  refine wpAny_Call_Name_kw (ld_glob I hg gC ?_ hdb)
  refine PySem.W.callWith_KW0 (h₀ := X.base) I.ok.mod.kin T.kC hall (thn (hkw.run pos pins s σ H _ I h) fun ws s1 hh => ?_) hpl
  obtain ⟨vs, H1, I1, rr, v1, v2, v3, ev, q1⟩ := hh
  have ev : vs = [v3, v2, v1] := ev
  subst ev
  rw [hks]
  refine ⟨I1.kIn, ?_⟩
  rcases rr with _ | ⟨r3, rr⟩
  rename_i u3 us
  rcases rr with _ | ⟨r2, rr⟩
  rename_i u2 us
  rcases rr with _ | ⟨r1, rr⟩
  rename_i u1 us
  cases rr
  show wpAny _ _ (call (.ref C) [] (PySem.Xc.ordA f1 f2 f3 u1 u2 u3)) _ _ _
  refine wpAny_call (PySem.Xc.made3K F IR T I1.kIn I1.nolimit (by have := hr.dp; omega) fun h' tk' e d M => ?_)
  exact mkp3 I1 r1 r2 r3 M (raises_own T.exC T.tyC) q1
theorem pmk3B {kws : List Keyword} {tk : TA} {p pos : Pos} {k : Nat} (F : ExcBaseFacts B newId initId bmB) (IR : PySem.Xc.InitRun3K (PySem.Xc.ordB f1 f2 f3) B newId initId bmB f1 f2 f3 qn X.K C fI) (T : PySem.Xc.Txt3 B newId initId bmB f1 f2 f3 qn X.K C fI) (gC : X.mg x = some (.ref C)) (hr : Room k X.A) (hkw : PK X kws tk) (hg : Gl X x)
    (hall : (backToKw pos (keywordEach kws X.env)).all (·.1.isSome) = true := by rfl) (hks : (backToKw pos (keywordEach kws X.env)).filterMap (·.1) = [f3, f1, f2] := by rfl) (hdb : (x == ("__debug__" : Str)) = false := by decide)
    (hpl : ((backTo pos (starEach [] X.env)).any (·.1) || (backToKw pos (keywordEach kws X.env)).any (·.1.isNone)) = false := by rfl) :
    PMk X (.Call (.Name x p) [] kws pos) (tMk3K f1 f2 f3 C true tk) := by
  intro pins s σ H Q I h
  refine wpAny_Call_Name_kw (ld_glob I hg gC ?_ hdb)
  refine PySem.W.callWith_KW0 (h₀ := X.base) I.ok.mod.kin T.kC hall (thn (hkw.run pos pins s σ H _ I h) fun ws s1 hh => ?_) hpl
  obtain ⟨vs, H1, I1, rr, v1, v2, v3, ev, q1⟩ := hh
  have ev : vs = [v3, v1, v2] := ev
  subst ev
  rw [hks]
  refine ⟨I1.kIn, ?_⟩
  rcases rr with _ | ⟨r3, rr⟩
  rename_i u3 us
  rcases rr with _ | ⟨r1, rr⟩
  rename_i u1 us
  rcases rr with _ | ⟨r2, rr⟩
  rename_i u2 us
  cases rr
  show wpAny _ _ (call (.ref C) [] (PySem.Xc.ordB f1 f2 f3 u1 u2 u3)) _ _ _
  refine wpAny_call (PySem.Xc.made3K F IR T I1.kIn I1.nolimit (by have := hr.dp; omega) fun h' tk' e d M => ?_)
  exact mkp3 I1 r1 r2 r3 M (raises_own T.exC T.tyC) q1
def tMkE (tm : St → Hp → XK → Prop) : TE := fun σ H Q => tm σ H fun cls d H' => ∀ a, H' a = none → Q (.ref a) (upd H' a (ExO cls d a))
theorem pe_mkE {e : Expr} {tm : St → Hp → XK → Prop} (hex : X.ex = []) (h : PMk X e tm) : PE X e (tMkE tm) := by
  refine ⟨fun pins s σ H Q I ht => ?_⟩
  refine thn (h pins s σ H _ I ht) fun u s' hm => ?_
  obtain ⟨a, oe, vs, sI, H', cls, d, rfl, I', k, hne, he, hz, hd, h1, na, os, ag, r, q⟩ := hm
  have J : Inv X pins σ H' s' := by
    refine I'.landed (B := PySem.W.hideAll sI.heap (frs X.stack)) (fun b o e hb => PySem.W.hideAll_get _ e hb) (fun b o e => k b o (PySem.W.of_hideAll _ e)) (Heap.UpToSlots.of_keeps k) os ag
  have n0 : X.s_0.heap.get? a = none := by
    cases e : X.s_0.heap.get? a with
    | none => rfl
    | some o =>
      obtain ⟨o', e'⟩ := I'.base.there a o e (by rw [hex]; simp)
      rw [hne] at e'; cases e'
  have nL : a ≠ X.env.locals := fun z => by
    obtain ⟨m, ⟨o, es, ep, e, _⟩, _⟩ := I'.loc
    rw [z] at hne
    rw [hne] at e; cases e
  have np : ∀ p ∈ X.pn ++ pins, p.1 ≠ a := fun p hp z => by
    have := (I'.pin p hp).1
    rw [z, hne] at this; cases this
  exact ⟨.ref a, _, J.adopt he hz ⟨vs, hd⟩ na n0 nL np, rfl, q a na⟩
end
end L2
set_option maxRecDepth 100000
set_option maxHeartbeats 1000000
namespace Pz
open PySem PySem.Spec PyProof.Rows L2 TL PySem.W
variable [PenC]
section
variable {X : Cx} {E : WXs} {Z0 : Zs} {L M F ys : List Str} {x f f1 f2 f3 : Str} {p pos : Pos} {a b c : Expr} {t : DA} {k : Nat} {kws : List Keyword}
def wMk0 (x : Str) : DE := fun Ed sl st Q => Q (.d (excD x [])) st
theorem wMk0_ap {Ed : DX} {sl : Sls} {st : Sto} {Q : DK} : wMk0 x Ed sl st Q = Q (.d (excD x [])) st := rfl
def wMk1 (x f : Str) (t : DA) : DE := fun Ed sl st Q => t Ed sl st fun ss st => match ss with
  | [.d y] => Q (.d (excD x [(f, y)])) st
  | _ => False
theorem wMk1_ap {Ed : DX} {sl : Sls} {st : Sto} {Q : DK} : wMk1 x f t Ed sl st Q = (t Ed sl st fun ss st => match ss with
  | [.d y] => Q (.d (excD x [(f, y)])) st
  | _ => False) := rfl
def wMk3 (x f1 f2 f3 : Str) (t : DA) : DE := fun Ed sl st Q => t Ed sl st fun ss st => match ss with
  | [.d y1, .d y2, .d y3] => Q (.d (excD x [(f3, y3), (f2, y2), (f1, y1)])) st
  | _ => False
theorem wMk3_ap {Ed : DX} {sl : Sls} {st : Sto} {Q : DK} : wMk3 x f1 f2 f3 t Ed sl st Q = (t Ed sl st fun ss st => match ss with
  | [.d y1, .d y2, .d y3] => Q (.d (excD x [(f3, y3), (f2, y2), (f1, y1)])) st
  | _ => False) := rfl
def wMk3A (x f1 f2 f3 : Str) (t : DA) : DE := fun Ed sl st Q => t Ed sl st fun ss st => match ss with
  | [.d y3, .d y2, .d y1] => Q (.d (excD x [(f3, y3), (f2, y2), (f1, y1)])) st
  | _ => False
theorem wMk3A_ap {Ed : DX} {sl : Sls} {st : Sto} {Q : DK} : wMk3A x f1 f2 f3 t Ed sl st Q = (t Ed sl st fun ss st => match ss with
  | [.d y3, .d y2, .d y1] => Q (.d (excD x [(f3, y3), (f2, y2), (f1, y1)])) st
  | _ => False) := rfl
def wRaise3B (x f1 f2 f3 : Str) (t : DA) : DS := fun D sl st => t D.ex sl st fun ss st => match ss with
  | [.d y3, .d y1, .d y2] => D.ex x [(f3, y3), (f2, y2), (f1, y1)] sl st
  | _ => False
theorem wRaise3B_ap {nx bk ct : Sls → Sto → Prop} {rt : DK} {ex : DX} {sl : Sls} {st : Sto} : wRaise3B x f1 f2 f3 t ⟨nx, rt, ex, bk, ct⟩ sl st = (t ex sl st fun ss st => match ss with
  | [.d y3, .d y1, .d y2] => ex x [(f3, y3), (f2, y2), (f1, y1)] sl st
  | _ => False) := rfl
def Mk1W (K : Frag) (mg : Str → Option Value) (x f : Str) : Prop := ∃ (C fI : Addr) (B newId initId : String) (bmB : List Value) (qn : Str), mg x = some (.ref C) ∧ ClsV K x (.ref C) ∧ ExcBaseFacts B newId initId bmB ∧ PySem.Xc.InitRunK B newId initId bmB f qn K C fI ∧ PySem.Xc.Txt B newId initId bmB f qn K C fI
def Mk3W (K : Frag) (mg : Str → Option Value) (x f1 f2 f3 : Str) : Prop := ∃ (C fI : Addr) (B newId initId : String) (bmB : List Value) (qn : Str), mg x = some (.ref C) ∧ ClsV K x (.ref C) ∧ ExcBaseFacts B newId initId bmB ∧
  (PySem.Xc.InitRun3K (PySem.Xc.ordA f1 f2 f3) B newId initId bmB f1 f2 f3 qn K C fI ∧ PySem.Xc.InitRun3K (PySem.Xc.ordB f1 f2 f3) B newId initId bmB f1 f2 f3 qn K C fI) ∧ PySem.Xc.Txt3 B newId initId bmB f1 f2 f3 qn K C fI
theorem mk_im {K : Frag} {Z : Zs} (ok : Ok K Z) {cv : Value} {us : List (Str × V)} {fs : List (Str × PyData)} (hc : ClsV K x cv) (ek : ExcK K cv) {d a : Addr} (nd : Z.H d = none) (na : upd Z.H d (.xd us) a = none) (e : us.map (·.1) = fs.map (·.1)) (i : Z.ImAll K (us.map (·.2)) (fs.map (·.2))) :
    ((Z.new d (.xd us)).new a (ExO cv (some d) a)).Im K (.ref a) (excD x fs) := by
  have l1 := ok.leNew (o := .xd us) nd
  have ok1 := ok.new (o := .xd us) nd
  have l2 := ok1.leNew (o := ExO cv (some d) a) na
  have l := l1.trans l2
  have z := Im.exc (K := K) (W := ((Z.new d (.xd us)).new a (ExO cv (some d) a)).W) (H := ((Z.new d (.xd us)).new a (ExO cv (some d) a)).H) (us := us) (ds := fs.map (·.2)) (d := some d) (a := a) hc ek upd_same (fun w => ok1.nw na w)
    ⟨fun w => ok.nw nd (by
      have w1 : (Z.new d (.xd us)).W d := w
      exact w1), upd_keep na upd_same⟩ (ImAll.tr l.stay i)
  rw [exc_zip e] at z
  exact z
theorem de_mk0 (Ek : XEk X.K ys) (hx : x ∈ ys) (h0 : Mk0 X.K X.mg x) (hg : Gl X x) (hex : X.ex = [] := by rfl) (hdb : (x == ("__debug__" : Str)) = false := by decide) : DEx X E (.Call (.Name x p) [] [] pos) (wMk0 x) := by
  obtain ⟨C, B, newId, initId, bmB, gC, cv, FB, q, kC, h1, h2⟩ := h0
  refine ⟨peI (pe_mkE hex (pmk0 FB q gC kC (raises_own h1 h2) hg hdb)) fun σ H Q ⟨Z, sl, Qd, Ed, h, ok, so, w, kq, kx⟩ => ?_⟩
  subst h
  intro a na
  have l := ok.leNew (o := ExO (.ref C) none a) na
  refine kq (Z.new a (ExO (.ref C) none a)) (.ref a) (.d (excD x [])) l (ok.new na) ?_ w
  exact Im.exc (us := []) (ds := []) cv (Ek x hx _ cv) upd_same (fun w => ok.nw na w) rfl .nil
theorem de_mk1 (f : Str) (Ek : XEk X.K ys) (hx : x ∈ ys) (h1 : Mk1 X.K X.mg x f) (hr : Room k X.A) (hg : Gl X x) (ha : DAs X E [a] t) (hex : X.ex = [] := by rfl)
    (hdb : (x == ("__debug__" : Str)) = false := by decide) (he : starEach (a :: []) X.env = (false, eval a X.env) :: starEach [] X.env := by rfl) (hpl : (backTo pos (starEach [] X.env)).any (·.1) = false := by rfl) :
    DEx X E (.Call (.Name x p) [a] [] pos) (wMk1 x f t) := by
  obtain ⟨C, fI, B, newId, initId, bmB, qn, gC, cv, FB, IR, T⟩ := h1
  refine ⟨peI (pe_mkE hex (pmk1 FB IR T gC hr ha.run hg hdb he hpl)) fun σ H Q ⟨Z, sl, Qd, Ed, h, ok, so, w, kq, kx⟩ => ?_⟩
  refine ⟨Z, sl, _, Ed, h, ok, so, w, fun Z1 vs ss l1 ok1 r1 w1 => ?_, kx⟩
  dsimp only at w1
  split at w1
  · rename_i y
    rcases r1 with _ | ⟨ry, rn⟩
    cases rn
    rename_i v
    refine ⟨v, rfl, fun d nd a na => ?_⟩
    have iy : Z1.Im X.K v y := ry
    exact kq ((Z1.new d (.xd [(f, v)])).new a (ExO (.ref C) (some d) a)) (.ref a) (.d (excD x [(f, y)])) ((l1.trans (ok1.leNew nd)).trans ((ok1.new nd).leNew na)) ((ok1.new nd).new na) (mk_im (fs := [(f, y)]) ok1 cv (Ek x hx _ cv) nd na rfl (.cons iy .nil)) w1
  · exact w1.elim
theorem de_mk1K (f : Str) (Ek : XEk X.K ys) (hx : x ∈ ys) (h1 : Mk1W X.K X.mg x f) (hr : Room k X.A) (hg : Gl X x) (hkw : DKs X E kws t) (hex : X.ex = [] := by rfl)
    (hall : (backToKw pos (keywordEach kws X.env)).all (·.1.isSome) = true := by rfl) (hks : (backToKw pos (keywordEach kws X.env)).filterMap (·.1) = [f] := by rfl) (hdb : (x == ("__debug__" : Str)) = false := by decide)
    (hpl : ((backTo pos (starEach [] X.env)).any (·.1) || (backToKw pos (keywordEach kws X.env)).any (·.1.isNone)) = false := by rfl) : DEx X E (.Call (.Name x p) [] kws pos) (wMk1 x f t) := by
  obtain ⟨C, fI, B, newId, initId, bmB, qn, gC, cv, FB, IR, T⟩ := h1
  refine ⟨peI (pe_mkE hex (pmk1K FB IR T gC hr hkw.run hg hall hks hdb hpl)) fun σ H Q ⟨Z, sl, Qd, Ed, h, ok, so, w, kq, kx⟩ => ?_⟩
  refine ⟨Z, sl, _, Ed, h, ok, so, w, fun Z1 vs ss l1 ok1 r1 w1 => ?_, kx⟩
  dsimp only at w1
  split at w1
  · rename_i y
    rcases r1 with _ | ⟨ry, rn⟩
    cases rn
    rename_i v
    refine ⟨v, rfl, fun d nd a na => ?_⟩
    have iy : Z1.Im X.K v y := ry
    exact kq ((Z1.new d (.xd [(f, v)])).new a (ExO (.ref C) (some d) a)) (.ref a) (.d (excD x [(f, y)])) ((l1.trans (ok1.leNew nd)).trans ((ok1.new nd).leNew na)) ((ok1.new nd).new na) (mk_im (fs := [(f, y)]) ok1 cv (Ek x hx _ cv) nd na rfl (.cons iy .nil)) w1
  · exact w1.elim
theorem de_mk3 (f1 f2 f3 : Str) (Ek : XEk X.K ys) (hx : x ∈ ys) (h1 : Mk3 X.K X.mg x f1 f2 f3) (hr : Room k X.A) (hg : Gl X x) (ha : DAs X E [a, b, c] t) (hex : X.ex = [] := by rfl)
    (hdb : (x == ("__debug__" : Str)) = false := by decide) (he : starEach [a, b, c] X.env = (false, eval a X.env) :: starEach [b, c] X.env := by rfl) (hpl : (backTo pos (starEach [b, c] X.env)).any (·.1) = false := by rfl) :
    DEx X E (.Call (.Name x p) [a, b, c] [] pos) (wMk3 x f1 f2 f3 t) := by
  obtain ⟨C, fI, B, newId, initId, bmB, qn, gC, cv, FB, IR, T⟩ := h1
  refine ⟨peI (pe_mkE hex (pmk3 FB IR T gC hr ha.run hg hdb he hpl)) fun σ H Q ⟨Z, sl, Qd, Ed, h, ok, so, w, kq, kx⟩ => ?_⟩
  refine ⟨Z, sl, _, Ed, h, ok, so, w, fun Z1 vs ss l1 ok1 r1 w1 => ?_, kx⟩
  dsimp only at w1
  split at w1
  · rename_i y1 y2 y3
    rcases r1 with _ | ⟨r1, rr⟩
    rename_i v1 _
    rcases rr with _ | ⟨r2, rr⟩
    rename_i v2 _
    rcases rr with _ | ⟨r3, rr⟩
    rename_i v3 _
    cases rr
    refine ⟨v1, v2, v3, rfl, fun d nd a na => ?_⟩
    have i1 : Z1.Im X.K v1 y1 := r1
    have i2 : Z1.Im X.K v2 y2 := r2
    have i3 : Z1.Im X.K v3 y3 := r3
    exact kq ((Z1.new d (.xd (m3L f1 f2 f3 v1 v2 v3))).new a (ExO (.ref C) (some d) a)) (.ref a) (.d (excD x [(f3, y3), (f2, y2), (f1, y1)])) ((l1.trans (ok1.leNew nd)).trans ((ok1.new nd).leNew na)) ((ok1.new nd).new na)
      (mk_im (us := m3L f1 f2 f3 v1 v2 v3) (fs := [(f3, y3), (f2, y2), (f1, y1)]) ok1 cv (Ek x hx _ cv) nd na rfl (.cons i3 (.cons i2 (.cons i1 .nil)))) w1
  · exact w1.elim
theorem de_mk3A (f1 f2 f3 : Str) (Ek : XEk X.K ys) (hx : x ∈ ys) (h1 : Mk3W X.K X.mg x f1 f2 f3) (hr : Room k X.A) (hg : Gl X x) (hkw : DKs X E kws t) (hex : X.ex = [] := by rfl)
    (hall : (backToKw pos (keywordEach kws X.env)).all (·.1.isSome) = true := by rfl) (hks : (backToKw pos (keywordEach kws X.env)).filterMap (·.1) = [f3, f2, f1] := by rfl) (hdb : (x == ("__debug__" : Str)) = false := by decide)
    (hpl : ((backTo pos (starEach [] X.env)).any (·.1) || (backToKw pos (keywordEach kws X.env)).any (·.1.isNone)) = false := by rfl) : DEx X E (.Call (.Name x p) [] kws pos) (wMk3A x f1 f2 f3 t) := by
  obtain ⟨C, fI, B, newId, initId, bmB, qn, gC, cv, FB, IR, T⟩ := h1
  refine ⟨peI (pe_mkE hex (pmk3A FB IR.1 T gC hr hkw.run hg hall hks hdb hpl)) fun σ H Q ⟨Z, sl, Qd, Ed, h, ok, so, w, kq, kx⟩ => ?_⟩
  refine ⟨Z, sl, _, Ed, h, ok, so, w, fun Z1 vs ss l1 ok1 r1 w1 => ?_, kx⟩
  dsimp only at w1
  split at w1
  · rename_i y3 y2 y1
    rcases r1 with _ | ⟨r3, rr⟩
    rename_i v3 _
    rcases rr with _ | ⟨r2, rr⟩
    rename_i v2 _
    rcases rr with _ | ⟨r1, rr⟩
    rename_i v1 _
    cases rr
    refine ⟨v1, v2, v3, rfl, fun d nd a na => ?_⟩
    have i1 : Z1.Im X.K v1 y1 := r1
    have i2 : Z1.Im X.K v2 y2 := r2
    have i3 : Z1.Im X.K v3 y3 := r3
    exact kq ((Z1.new d (.xd (m3L f1 f2 f3 v1 v2 v3))).new a (ExO (.ref C) (some d) a)) (.ref a) (.d (excD x [(f3, y3), (f2, y2), (f1, y1)])) ((l1.trans (ok1.leNew nd)).trans ((ok1.new nd).leNew na)) ((ok1.new nd).new na)
      (mk_im (us := m3L f1 f2 f3 v1 v2 v3) (fs := [(f3, y3), (f2, y2), (f1, y1)]) ok1 cv (Ek x hx _ cv) nd na rfl (.cons i3 (.cons i2 (.cons i1 .nil)))) w1
  · exact w1.elim
theorem ds_raise1K (f : Str) {pos' : Pos} (hc : X.calm = true) (tk : Takes X E) (h1 : Mk1W X.K X.mg x f) (hr : Room k X.A) (hg : Gl X x) (hkw : DKs X E kws t)
    (hall : (backToKw pos (keywordEach kws X.env)).all (·.1.isSome) = true := by rfl) (hks : (backToKw pos (keywordEach kws X.env)).filterMap (·.1) = [f] := by rfl) (hdb : (x == ("__debug__" : Str)) = false := by decide)
    (hpl : ((backTo pos (starEach [] X.env)).any (·.1) || (backToKw pos (keywordEach kws X.env)).any (·.1.isNone)) = false := by rfl) : DSt X E Z0 (.Raise (some (.Call (.Name x p) [] kws pos)) none pos') (wRaise1 x f t) := by
  obtain ⟨C, fI, B, newId, initId, bmB, qn, gC, cv, FB, IR, T⟩ := h1
  refine ⟨psI (ps_raise hc tk (pmk1K FB IR T gC hr hkw.run hg hall hks hdb hpl)) fun D σ H ⟨Z, sl, Dd, h, l0, ok, so, w, en⟩ => ?_⟩
  refine ⟨Z, sl, _, Dd.ex, h, ok, so, w, fun Z1 vs ss l1 ok1 r1 w1 => ?_, en.ex.le l0⟩
  dsimp only at w1
  split at w1
  · rename_i y
    rcases r1 with _ | ⟨ry, rn⟩
    cases rn
    rename_i v
    refine ⟨v, rfl, fun d nd => ?_⟩
    have l2 := ok1.leNew (o := .xd [(f, v)]) nd
    have ry' : (Z1.new d (.xd [(f, v)])).Im X.K v y := Rp.tr l2 (s := .d y) ry
    exact en.ex (Z1.new d (.xd [(f, v)])) σ sl (.ref C) x (some d) [(f, y)] ((l0.trans l1).trans l2) (l1.trans l2).stay (ok1.new nd) ((so.tr l1).tr l2)
      ⟨fun w => ok1.nw nd w, [(f, v)], upd_same, rfl, .cons ry' .nil⟩ cv w1
  · exact w1.elim
theorem ds_raise3B (f1 f2 f3 : Str) {pos' : Pos} (hc : X.calm = true) (tk : Takes X E) (h1 : Mk3W X.K X.mg x f1 f2 f3) (hr : Room k X.A) (hg : Gl X x) (hkw : DKs X E kws t)
    (hall : (backToKw pos (keywordEach kws X.env)).all (·.1.isSome) = true := by rfl) (hks : (backToKw pos (keywordEach kws X.env)).filterMap (·.1) = [f3, f1, f2] := by rfl) (hdb : (x == ("__debug__" : Str)) = false := by decide)
    (hpl : ((backTo pos (starEach [] X.env)).any (·.1) || (backToKw pos (keywordEach kws X.env)).any (·.1.isNone)) = false := by rfl) : DSt X E Z0 (.Raise (some (.Call (.Name x p) [] kws pos)) none pos') (wRaise3B x f1 f2 f3 t) := by
  obtain ⟨C, fI, B, newId, initId, bmB, qn, gC, cv, FB, IR, T⟩ := h1
  refine ⟨psI (ps_raise hc tk (pmk3B FB IR.2 T gC hr hkw.run hg hall hks hdb hpl)) fun D σ H ⟨Z, sl, Dd, h, l0, ok, so, w, en⟩ => ?_⟩
  refine ⟨Z, sl, _, Dd.ex, h, ok, so, w, fun Z1 vs ss l1 ok1 r1 w1 => ?_, en.ex.le l0⟩
  dsimp only at w1
  split at w1
  · rename_i y3 y1 y2
    rcases r1 with _ | ⟨r3, rr⟩
    rename_i v3 _
    rcases rr with _ | ⟨r1, rr⟩
    rename_i v1 _
    rcases rr with _ | ⟨r2, rr⟩
    rename_i v2 _
    cases rr
    refine ⟨v1, v2, v3, rfl, fun d nd => ?_⟩
    have l2 := ok1.leNew (o := .xd (m3L f1 f2 f3 v1 v2 v3)) nd
    have im : ∀ {v : V} {y : PyData}, Rp X.K Z1 v (.d y) → (Z1.new d (.xd (m3L f1 f2 f3 v1 v2 v3))).Im X.K v y := fun {v y} r => Rp.tr l2 (s := .d y) r
    exact en.ex (Z1.new d (.xd (m3L f1 f2 f3 v1 v2 v3))) σ sl (.ref C) x (some d) [(f3, y3), (f2, y2), (f1, y1)] ((l0.trans l1).trans l2) (l1.trans l2).stay (ok1.new nd) ((so.tr l1).tr l2)
      ⟨fun w => ok1.nw nd w, m3L f1 f2 f3 v1 v2 v3, upd_same, rfl, .cons (im r3) (.cons (im r2) (.cons (im r1) .nil))⟩ cv w1
  · exact w1.elim
end
end Pz
set_option maxRecDepth 100000
set_option maxHeartbeats 1000000
namespace Pz
open PySem PySem.Spec PyProof.Rows L2 TL PySem.W
variable [PenC]
section
variable {X : Cx} {E : WXs} {Z0 : Zs} {L M F : List Str} {pos pos1 p1 p2 q1 q2 q3 np1 : Pos}
def wTryA (L : List Str) (y f : Str) (i k : Nat) (u : DS) : DS := fun D sl st => u ⟨D.nx, D.rt, fun c fs sl' st' => c ∈ L ∧ if subB c y = true then (match nthS sl' k with
    | some (.o h) => match st'[h]? with
      | some (.lst ds) => ∃ d, fs.lookup f = some d ∧ ds.length < sizeLine ∧ D.nx (sl'.set i none) (st'.set h (.lst (ds ++ [d])))
      | _ => False
    | _ => False) else D.ex c fs sl' st', D.bk, D.ct⟩ sl st
theorem wTryA_ap {y f : Str} {i k : Nat} {u : DS} {nx bk ct : Sls → Sto → Prop} {rt : DK} {ex : DX} {sl : Sls} {st : Sto} : wTryA L y f i k u ⟨nx, rt, ex, bk, ct⟩ sl st = u ⟨nx, rt, fun c fs sl' st' => c ∈ L ∧ if subB c y = true then (match nthS sl' k with
    | some (.o h) => match st'[h]? with
      | some (.lst ds) => ∃ d, fs.lookup f = some d ∧ ds.length < sizeLine ∧ nx (sl'.set i none) (st'.set h (.lst (ds ++ [d])))
      | _ => False
    | _ => False) else ex c fs sl' st', bk, ct⟩ sl st := rfl
def wTryA3 (L : List Str) (y f g h3 : Str) (i k : Nat) (u : DS) : DS := fun D sl st => u ⟨D.nx, D.rt, fun c fs sl' st' => c ∈ L ∧ if subB c y = true then (match nthS sl' k with
    | some (.o h) => match st'[h]? with
      | some (.lst ds) => ∃ d1 d2 d3, fs.lookup f = some d1 ∧ fs.lookup g = some d2 ∧ fs.lookup h3 = some d3 ∧ ds.length < sizeLine ∧ D.nx (sl'.set i none) (st'.set h (.lst (ds ++ [.tuple [d1, d2, d3]])))
      | _ => False
    | _ => False) else D.ex c fs sl' st', D.bk, D.ct⟩ sl st
theorem wTryA3_ap {y f g h3 : Str} {i k : Nat} {u : DS} {nx bk ct : Sls → Sto → Prop} {rt : DK} {ex : DX} {sl : Sls} {st : Sto} : wTryA3 L y f g h3 i k u ⟨nx, rt, ex, bk, ct⟩ sl st = u ⟨nx, rt, fun c fs sl' st' => c ∈ L ∧ if subB c y = true then (match nthS sl' k with
    | some (.o h) => match st'[h]? with
      | some (.lst ds) => ∃ d1 d2 d3, fs.lookup f = some d1 ∧ fs.lookup g = some d2 ∧ fs.lookup h3 = some d3 ∧ ds.length < sizeLine ∧ nx (sl'.set i none) (st'.set h (.lst (ds ++ [.tuple [d1, d2, d3]])))
      | _ => False
    | _ => False) else ex c fs sl' st', bk, ct⟩ sl st := rfl
theorem ds_tryA {y f n : Str} {i k : Nat} {body : List Stmt} {b : Stmt} {u : DS} (R : XRel X.K X.mg L M F) (tk : Takes X E) (hN : X.N.Nodup) (hm : y ∈ M) (hf1 : f ∈ F)
    (hb : ∀ (W : WX) (pn : List (Addr × Obj)) (xe : Value → Shared → Prop), Takes (X.tr pn xe) W → DSs (X.tr pn xe) W Z0 body u)
    (hsu : ∀ (a : Addr) (oe : Obj) (pn : List (Addr × Obj)) (te : TE), PE (X.suite a ((a, oe) :: pn)) (.Attribute (.Name n p1) f p2) te → PSs (X.suite a ((a, oe) :: pn)) [b] (tDrop (tBM X.K "list" rAppend (tVar k) (tCons te tNil))))
    (hv : ∀ (a : Addr) (oe : Obj) (pn : List (Addr × Obj)), PE (X.suite a ((a, oe) :: pn)) (.Name n p1) (tVar i))
    (hs : X.stack = X.env :: X.outer := by rfl) (hf : X.env.frame = some X.env.locals := by rfl) (hex : X.ex = [] := by rfl)
    (hi : X.N[i]? = some n := by rfl) (hln : X.env.kindOf n = some .local := by rfl) (hik : i ≠ k := by decide)
    (ha : attributeBase (.Name n p1) f X.env (eval (.Name n p1) X.env) = eval (.Name n p1) X.env := by rfl)
    (hg1 : Gl X y := by rfl) (hn1 : y ≠ "__name__" := by decide) (hd1 : (y == ("__debug__" : Str)) = false := by decide) :
    DSt X E Z0 (.Try body [.ExceptHandler (some (.Name y np1)) (some n) [b] pos1] [] [] pos) (wTryA L y f i k u) := by
  obtain ⟨u1, c1, m1, m2, m3, m4⟩ := nm_val (p := np1) (R.nms y hm) hg1 hn1 hd1
  have hk : HdsK X [.ExceptHandler (some (.Name y np1)) (some n) [b] pos1] [(u1, i, fun a cls d => tSuite X.K f a cls d (tVar i) fun te => tDrop (tBM X.K "list" rAppend (tVar k) (tCons te tNil)))] := by
    refine .cons m3 hi hln (fun a oe cls d pn hz hfl => ⟨fun pins s σ H D I h => ?_⟩) .nil
    obtain ⟨C, e, T, hno, h⟩ := h
    exact (hsu a oe pn _ (pe_xf T hno hz hfl (hv a oe pn) ha)).run pins s σ H D I h
  refine ⟨psI (ps_try_keeps (tb := fun W => upS X.K W Z0 u) hs hf hex hN tk (fun W pn xe tk' _ => (hb W pn xe tk').run) hk) fun D σ H ⟨Z, sl, Dd, h, l0, ok, so, w, en⟩ => ?_⟩
  refine ⟨Z, sl, _, h, l0, ok, so, w, ⟨en.nx, en.rt, fun Z' σ' sl' c x d fs l0' k' ok' so' xd cv hx => ?_, en.bk, en.ct⟩⟩
  obtain ⟨hL, hx⟩ := hx
  obtain ⟨C, rfl, xf⟩ := R.own x hL c cv
  refine ⟨_, (R.rel x hL _ cv y hm u1 m1).2, fun hb1 li1 a na => ?_, fun hb1 => ?_⟩
  · rw [if_pos hb1] at hx
    split at hx
    · rename_i hh e1
      split at hx
      · rename_i ds e2
        obtain ⟨dd, hl, hz, hx⟩ := hx
        obtain ⟨vk, ek, rk⟩ := so'.has k _ (nthS_get e1)
        obtain ⟨al, xs, rfl, eφ, eH, il⟩ := rk.hl ok' e2
        cases d with
        | none =>
          obtain rfl : fs = [] := xd
          cases hl
        | some dx =>
          obtain ⟨nW, us, g1, g2, g3⟩ := xd
          obtain ⟨v, hv', iv⟩ := lookup_im g2 g3 hl
          refine ⟨C, rfl, xcf_xf xf, R.fld _ hL _ cv f hf1, .ref al, by rw [List.getElem?_set_ne hik]; exact ek, .inl ⟨rfl, xs, .of eH⟩, .ref a, List.getElem?_set_self li1, rfl, rfl, dx, us, v, rfl, g1, hv', al, xs, v, rfl, rfl, eH, by rw [il.length]; exact hz, fun na2 => ?_⟩
          have l1 := ok'.lePut (o := .lst (xs ++ [v])) (c' := .lst (ds ++ [dd])) eφ e2 trivial trivial
          have ok1 := ok'.put (o := .lst (xs ++ [v])) (c' := .lst (ds ++ [dd])) eφ e2 trivial trivial ⟨_, upd_same, ImAll.tr l1.stay (il.append (.cons iv .nil))⟩ trivial
          have l2 := ok1.leNew (o := ExO (.ref C) (some dx) a) na2
          have ok2 := ok1.new (o := ExO (.ref C) (some dx) a) na2
          have l := l1.trans l2
          have so2 : SlOk X.K ((Z'.put hh al (.lst (xs ++ [v])) (.lst (ds ++ [dd]))).new a (ExO (.ref C) (some dx) a)) ((σ'.set i (some (.ref a))).set i none) (sl'.set i none) := by
            rw [List.set_set]
            exact (so'.tr l).setN i
          exact en.nx _ _ _ (l0'.trans l) (k'.trans l.stay) ok2 so2 hx
      · exact hx.elim
    · exact hx.elim
  · rw [if_neg (by rw [hb1]; decide)] at hx
    exact en.ex Z' σ' sl' (.ref C) x d fs l0' k' ok' so' xd cv hx
theorem ds_tryA3 {np2 : Pos} {y f g h3 n : Str} {i k : Nat} {body : List Stmt} {b : Stmt} {u : DS} (R : XRel X.K X.mg L M F) (tk : Takes X E) (hN : X.N.Nodup) (hm : y ∈ M) (hf1 : f ∈ F) (hf2 : g ∈ F) (hf3 : h3 ∈ F)
    (hb : ∀ (W : WX) (pn : List (Addr × Obj)) (xe : Value → Shared → Prop), Takes (X.tr pn xe) W → DSs (X.tr pn xe) W Z0 body u)
    (hsu : ∀ (a : Addr) (oe : Obj) (pn : List (Addr × Obj)) (te1 te2 te3 : TE), PE (X.suite a ((a, oe) :: pn)) (.Attribute (.Name n p1) f q1) te1 → PE (X.suite a ((a, oe) :: pn)) (.Attribute (.Name n p2) g q2) te2 → PE (X.suite a ((a, oe) :: pn)) (.Attribute (.Name n np1) h3 q3) te3 →
      PSs (X.suite a ((a, oe) :: pn)) [b] (tDrop (tBM X.K "list" rAppend (tVar k) (tCons (tTup (tCons te1 (tCons te2 (tCons te3 tNil)))) tNil))))
    (hv : ∀ (p : Pos) (a : Addr) (oe : Obj) (pn : List (Addr × Obj)), PE (X.suite a ((a, oe) :: pn)) (.Name n p) (tVar i))
    (hs : X.stack = X.env :: X.outer := by rfl) (hf : X.env.frame = some X.env.locals := by rfl) (hex : X.ex = [] := by rfl)
    (hi : X.N[i]? = some n := by rfl) (hln : X.env.kindOf n = some .local := by rfl) (hik : i ≠ k := by decide)
    (ha1 : attributeBase (.Name n p1) f X.env (eval (.Name n p1) X.env) = eval (.Name n p1) X.env := by rfl) (ha2 : attributeBase (.Name n p2) g X.env (eval (.Name n p2) X.env) = eval (.Name n p2) X.env := by rfl) (ha3 : attributeBase (.Name n np1) h3 X.env (eval (.Name n np1) X.env) = eval (.Name n np1) X.env := by rfl)
    (hg1 : Gl X y := by rfl) (hn1 : y ≠ "__name__" := by decide) (hd1 : (y == ("__debug__" : Str)) = false := by decide) :
    DSt X E Z0 (.Try body [.ExceptHandler (some (.Name y np2)) (some n) [b] pos1] [] [] pos) (wTryA3 L y f g h3 i k u) := by
  obtain ⟨u1, c1, m1, m2, m3, m4⟩ := nm_val (p := np2) (R.nms y hm) hg1 hn1 hd1
  have hk : HdsK X [.ExceptHandler (some (.Name y np2)) (some n) [b] pos1] [(u1, i, fun a cls d D σ H => ∃ C, cls = .ref C ∧ L2.XfC X.K C ∧ PySem.W.findIn X.K (.ref C) f = some none ∧ PySem.W.findIn X.K (.ref C) g = some none ∧ PySem.W.findIn X.K (.ref C) h3 = some none ∧
      tDrop (tBM X.K "list" rAppend (tVar k) (tCons (tTup (tCons (tXf a cls d C f (tVar i)) (tCons (tXf a cls d C g (tVar i)) (tCons (tXf a cls d C h3 (tVar i)) tNil)))) tNil)) D σ H)] := by
    refine .cons m3 hi hln (fun a oe cls d pn hz hfl => ⟨fun pins s σ H D I h => ?_⟩) .nil
    obtain ⟨C, e, T, n1, n2, n3, h⟩ := h
    exact (hsu a oe pn _ _ _ (pe_xf T n1 hz hfl (hv p1 a oe pn) ha1) (pe_xf T n2 hz hfl (hv p2 a oe pn) ha2) (pe_xf T n3 hz hfl (hv np1 a oe pn) ha3)).run pins s σ H D I h
  refine ⟨psI (ps_try_keeps (tb := fun W => upS X.K W Z0 u) hs hf hex hN tk (fun W pn xe tk' _ => (hb W pn xe tk').run) hk) fun D σ H ⟨Z, sl, Dd, h, l0, ok, so, w, en⟩ => ?_⟩
  refine ⟨Z, sl, _, h, l0, ok, so, w, ⟨en.nx, en.rt, fun Z' σ' sl' c x d fs l0' k' ok' so' xd cv hx => ?_, en.bk, en.ct⟩⟩
  obtain ⟨hL, hx⟩ := hx
  obtain ⟨C, rfl, xf⟩ := R.own x hL c cv
  refine ⟨_, (R.rel x hL _ cv y hm u1 m1).2, fun hb1 li1 a na => ?_, fun hb1 => ?_⟩
  · rw [if_pos hb1] at hx
    split at hx
    · rename_i hh e1
      split at hx
      · rename_i ds e2
        obtain ⟨d1, d2, d3, hl1, hl2, hl3, hz, hx⟩ := hx
        obtain ⟨vk, ek, rk⟩ := so'.has k _ (nthS_get e1)
        obtain ⟨al, xs, rfl, eφ, eH, il⟩ := rk.hl ok' e2
        cases d with
        | none =>
          obtain rfl : fs = [] := xd
          cases hl1
        | some dx =>
          obtain ⟨nW, us, g1, g2, g3⟩ := xd
          obtain ⟨v1, hv1, iv1⟩ := lookup_im g2 g3 hl1
          obtain ⟨v2, hv2, iv2⟩ := lookup_im g2 g3 hl2
          obtain ⟨v3, hv3, iv3⟩ := lookup_im g2 g3 hl3
          refine ⟨C, rfl, xcf_xf xf, R.fld _ hL _ cv f hf1, R.fld _ hL _ cv g hf2, R.fld _ hL _ cv h3 hf3, .ref al, by rw [List.getElem?_set_ne hik]; exact ek, .inl ⟨rfl, xs, .of eH⟩, ?_⟩
          refine ⟨.ref a, List.getElem?_set_self li1, rfl, rfl, dx, us, v1, rfl, g1, hv1, .ref a, List.getElem?_set_self li1, rfl, rfl, dx, us, v2, rfl, g1, hv2, .ref a, List.getElem?_set_self li1, rfl, rfl, dx, us, v3, rfl, g1, hv3, ?_⟩
          refine ⟨(by show 3 ≤ sizeLine; rw [sizeLine_eq]; decide), fun p np => ?_⟩
          have l0 := ok'.leNew (o := .tup [v1, v2, v3]) np
          have ok0 := ok'.new (o := .tup [v1, v2, v3]) np
          have eH0 : (Z'.new p (.tup [v1, v2, v3])).H al = some (.lst xs) := upd_keep np eH
          refine ⟨al, xs, .ref p, rfl, rfl, eH0, by rw [il.length]; exact hz, fun na2 => ?_⟩
          have it : (Z'.new p (.tup [v1, v2, v3])).Im X.K (.ref p) (.tuple [d1, d2, d3]) := Im.tup (.inl ⟨upd_same, fun w => ok'.nw np w⟩) (ImAll.tr l0.stay (.cons iv1 (.cons iv2 (.cons iv3 .nil))))
          have l1 := ok0.lePut (o := .lst (xs ++ [.ref p])) (c' := .lst (ds ++ [.tuple [d1, d2, d3]])) eφ e2 trivial trivial
          have ok1 := ok0.put (o := .lst (xs ++ [.ref p])) (c' := .lst (ds ++ [.tuple [d1, d2, d3]])) eφ e2 trivial trivial ⟨_, upd_same, ImAll.tr l1.stay ((ImAll.tr l0.stay il).append (.cons it .nil))⟩ trivial
          have l2 := ok1.leNew (o := ExO (.ref C) (some dx) a) na2
          have ok2 := ok1.new (o := ExO (.ref C) (some dx) a) na2
          have l := (l0.trans l1).trans l2
          have so2 : SlOk X.K (((Z'.new p (.tup [v1, v2, v3])).put hh al (.lst (xs ++ [.ref p])) (.lst (ds ++ [.tuple [d1, d2, d3]]))).new a (ExO (.ref C) (some dx) a)) ((σ'.set i (some (.ref a))).set i none) (sl'.set i none) := by
            rw [List.set_set]
            exact (so'.tr l).setN i
          exact en.nx _ _ _ (l0'.trans l) (k'.trans l.stay) ok2 so2 hx
      · exact hx.elim
    · exact hx.elim
  · rw [if_neg (by rw [hb1]; decide)] at hx
    exact en.ex Z' σ' sl' (.ref C) x d fs l0' k' ok' so' xd cv hx
end
def Mk1WK (K : Frag) (x f : Str) : Prop := ∃ (C fI : Addr) (B newId initId : String) (bmB : List Value) (qn : Str), PySem.W.nsIn K mainGlobals x = some (some (.ref C)) ∧ ExcBaseFacts B newId initId bmB ∧ PySem.Xc.InitRunK B newId initId bmB f qn K C fI ∧ PySem.Xc.Txt B newId initId bmB f qn K C fI
theorem Mk1WK.to {K : Frag} {h : Heap} {mg : Str → Option Value} {x f : Str} (R : Mk1WK K x f) (X : K.In h) (G : h.Ns mainGlobals mg) : Mk1W K mg x f := by
  obtain ⟨C, fI, B, a, b, bm, qn, e, h1, h2, h3⟩ := R
  exact ⟨C, fI, B, a, b, bm, qn, PySem.W.mg_of X G e, e, h1, h2, h3⟩
def Mk3WK (K : Frag) (x f1 f2 f3 : Str) : Prop := ∃ (C fI : Addr) (B newId initId : String) (bmB : List Value) (qn : Str), PySem.W.nsIn K mainGlobals x = some (some (.ref C)) ∧ ExcBaseFacts B newId initId bmB ∧
  (PySem.Xc.InitRun3K (PySem.Xc.ordA f1 f2 f3) B newId initId bmB f1 f2 f3 qn K C fI ∧ PySem.Xc.InitRun3K (PySem.Xc.ordB f1 f2 f3) B newId initId bmB f1 f2 f3 qn K C fI) ∧ PySem.Xc.Txt3 B newId initId bmB f1 f2 f3 qn K C fI
theorem Mk3WK.to {K : Frag} {h : Heap} {mg : Str → Option Value} {x f1 f2 f3 : Str} (R : Mk3WK K x f1 f2 f3) (X : K.In h) (G : h.Ns mainGlobals mg) : Mk3W K mg x f1 f2 f3 := by
  obtain ⟨C, fI, B, a, b, bm, qn, e, h1, h2, h3⟩ := R
  exact ⟨C, fI, B, a, b, bm, qn, PySem.W.mg_of X G e, e, h1, h2, h3⟩
end Pz
set_option maxRecDepth 100000
namespace Pz
open PySem PySem.Spec PyProof.Rows L2 TL
variable [PenC]
def clsL : List String := ["InvalidText", "UnbalancedBracket", "IndentedStart", "BadDedent", "InconsistentTabs", "NoIndent", "Unreachable", "InvalidReading", "RootConflict", "InvalidTokens", "InvalidOperation", "InvalidNotation", "UnknownCommand", "TooLong", "TooMany", "NoVariant", "NoLine", "Busy", "NothingToUndo", "NothingToRedo"]
def ecN (k : Nat) : Str := Str.ofString (clsL.getD k "")
def madeL (a b c d e f g h : Int) : List PyData := [excD "InvalidText" [], excD "UnbalancedBracket" [("number", .int a)], excD "IndentedStart" [("number", .int b)], excD "BadDedent" [("number", .int c)], excD "InconsistentTabs" [("number", .int d)],
  excD "NoIndent" [("reason", .tuple [.str "rise", .int e])], excD "Unreachable" [("paper", .tuple [.str "conflict", .int f, .int g])], excD "InvalidReading" [("index", .int h)], excD "RootConflict" [("other", .int c), ("width", .int b), ("line", .int a)], excD "InvalidTokens" [("index", .int d)],
  excD "InvalidOperation" [], excD "InvalidNotation" [("at", .int e)], excD "UnknownCommand" [], excD "TooLong" [("length", .int f)], excD "TooMany" [("count", .int g)], excD "NoVariant" [("index", .int h)], excD "NoLine" [("index", .int a)], excD "Busy" [], excD "NothingToUndo" [], excD "NothingToRedo" []]
def dueF (a b c d e f g h : Int) : List PyData := [.int a, .int b, .int c, .int d, .tuple [.str "rise", .int e], .tuple [.str "conflict", .int f, .int g], .int h, .tuple [.int a, .int b, .int c], .int d, .int e, .int f, .int g, .int h, .int a]
def marksC (c : Str) : PyData := .list (clsL.map fun y => .bool (subB c (Str.ofString y)))
def upL : List String := ["PrismError", "ValueError", "OverflowError", "IndexError", "RuntimeError", "LookupError", "KeyError", "ArithmeticError"]
def aboveC (c : Str) : PyData := .list (upL.map fun y => .bool (subB c (Str.ofString y)))
def aboveK (k : Nat) : PyData := .list ((if k < 13 then [true, true, false, false, false, false, false, false] else if k < 15 then [false, false, true, false, false, false, false, true] else if k < 17 then [false, false, false, true, false, true, false, false] else [false, false, false, false, true, false, false, false]).map .bool)
theorem marks_ok : ∀ k, k < 20 → marksC (ecN k) = .list ((List.range 20).map fun j => .bool (decide (j = k))) := by
  have h : ((List.range 20).all fun k => clsL.map (fun y => subB (ecN k) (Str.ofString y)) == (List.range 20).map fun j => decide (j = k)) = true := by decide +kernel
  intro k hk
  have h2 := beq_iff_eq.mp (List.all_eq_true.mp h k (List.mem_range.mpr hk))
  have h3 := congrArg (List.map PyData.bool) h2
  rw [List.map_map, List.map_map] at h3
  unfold marksC
  rw [show (fun y => PyData.bool (subB (ecN k) (Str.ofString y))) = PyData.bool ∘ fun y => subB (ecN k) (Str.ofString y) from rfl, h3]
  rfl
theorem above_ok : ∀ k, k < 20 → aboveC (ecN k) = aboveK k := by
  have h : ((List.range 20).all fun k => upL.map (fun y => subB (ecN k) (Str.ofString y)) == (if k < 13 then [true, true, false, false, false, false, false, false] else if k < 15 then [false, false, true, false, false, false, false, true] else if k < 17 then [false, false, false, true, false, true, false, false] else [false, false, false, false, true, false, false, false])) = true := by decide +kernel
  intro k hk
  have h2 := beq_iff_eq.mp (List.all_eq_true.mp h k (List.mem_range.mpr hk))
  unfold aboveC aboveK
  rw [← h2, List.map_map]
  rfl
theorem made_at {a b c d e f g h : Int} : ∀ k, k < 20 → ∃ fs, (madeL a b c d e f g h)[k]? = some (excD (ecN k) fs)
  | 0, _ => ⟨_, rfl⟩
  | 1, _ => ⟨_, rfl⟩
  | 2, _ => ⟨_, rfl⟩
  | 3, _ => ⟨_, rfl⟩
  | 4, _ => ⟨_, rfl⟩
  | 5, _ => ⟨_, rfl⟩
  | 6, _ => ⟨_, rfl⟩
  | 7, _ => ⟨_, rfl⟩
  | 8, _ => ⟨_, rfl⟩
  | 9, _ => ⟨_, rfl⟩
  | 10, _ => ⟨_, rfl⟩
  | 11, _ => ⟨_, rfl⟩
  | 12, _ => ⟨_, rfl⟩
  | 13, _ => ⟨_, rfl⟩
  | 14, _ => ⟨_, rfl⟩
  | 15, _ => ⟨_, rfl⟩
  | 16, _ => ⟨_, rfl⟩
  | 17, _ => ⟨_, rfl⟩
  | 18, _ => ⟨_, rfl⟩
  | 19, _ => ⟨_, rfl⟩
  | n + 20, hk => absurd hk (by omega)
theorem ecN_mem : ∀ k, k < 20 → ecN k ∈ clsL.map Str.ofString := fun k hk => by
  have hl : k < clsL.length := hk
  unfold ecN
  rw [show clsL.getD k "" = clsL[k] by rw [List.getD_eq_getElem?_getD, List.getElem?_eq_getElem hl]; rfl]
  exact List.mem_map.mpr ⟨_, List.getElem_mem hl, rfl⟩
def kindK (n : Nat) : Int := if n < 13 then 0 else if n < 15 then 1 else if n < 17 then 2 else 3
theorem kind_at : ∀ n : Nat, n < 20 → atI (List.replicate (Int.toNat 13) (PyData.int 0) ++ [.int 1, .int 1, .int 2, .int 2, .int 3, .int 3, .int 3]) (n : Int) = some (.int (kindK n))
  | 0, _ => rfl
  | 1, _ => rfl
  | 2, _ => rfl
  | 3, _ => rfl
  | 4, _ => rfl
  | 5, _ => rfl
  | 6, _ => rfl
  | 7, _ => rfl
  | 8, _ => rfl
  | 9, _ => rfl
  | 10, _ => rfl
  | 11, _ => rfl
  | 12, _ => rfl
  | 13, _ => rfl
  | 14, _ => rfl
  | 15, _ => rfl
  | 16, _ => rfl
  | 17, _ => rfl
  | 18, _ => rfl
  | 19, _ => rfl
  | n + 20, hk => absurd hk (by omega)
theorem excD_inj {c c' : Str} {fs fs' : List (Str × PyData)} (h : excD c fs = excD c' fs') : c = c' := by
  unfold excD at h
  injection h with h
  injection h with h _
  injection h with _ h
  injection h
def ownK (k : Nat) : PyData := .list ((List.range 20).map fun j => .bool (decide (j = k)))
theorem own_eq {k : Nat} : PyData.list ((rng 0 20).map fun d => .bool (PyData.eqv d (.int (k : Nat)))) = ownK k := by
  unfold ownK rng
  rw [List.map_map]
  congr 1
  refine List.map_congr_left fun j _ => ?_
  show PyData.bool (PyData.eqv (.int (0 + (j : Nat))) (.int (k : Nat))) = _
  rw [eqv_int]
  congr 1
  exact decide_eq_decide.mpr (by omega)
theorem marks_own : ∀ k, k < 20 → SeqAt.shaped (marksC (ecN k)) = true ∧ SeqAt.shaped (ownK k) = true ∧ PyData.eqv (marksC (ecN k)) (ownK k) = true := fun k hk => by
  have h : ((List.range 20).all fun k => SeqAt.shaped (ownK k) && PyData.eqv (ownK k) (ownK k)) = true := by decide +kernel
  have h2 := List.all_eq_true.mp h k (List.mem_range.mpr hk)
  rw [Bool.and_eq_true] at h2
  rw [show marksC (ecN k) = ownK k from marks_ok k hk]
  exact ⟨h2.1, h2.1, h2.2⟩
theorem above_own : ∀ k, k < 20 → SeqAt.shaped (aboveC (ecN k)) = true ∧ SeqAt.shaped (aboveK k) = true ∧ PyData.eqv (aboveC (ecN k)) (aboveK k) = true := fun k hk => by
  have h : ((List.range 20).all fun k => SeqAt.shaped (aboveK k) && PyData.eqv (aboveK k) (aboveK k)) = true := by decide +kernel
  have h2 := List.all_eq_true.mp h k (List.mem_range.mpr hk)
  rw [Bool.and_eq_true] at h2
  rw [above_ok k hk]
  exact ⟨h2.1, h2.1, h2.2⟩
theorem madeL_inj {a b c d e f g h a' b' c' d' e' f' g' h' : Int} (q : madeL a b c d e f g h = madeL a' b' c' d' e' f' g' h') : a = a' ∧ b = b' ∧ c = c' ∧ d = d' ∧ e = e' ∧ f = f' ∧ g = g' ∧ h = h' := by
  unfold madeL excD at q
  simp only [List.cons.injEq, PyData.dict.injEq, List.map_cons, List.map_nil, Prod.mk.injEq, PyData.int.injEq, PyData.tuple.injEq, and_true, true_and] at q
  refine ⟨by omega, by omega, by omega, by omega, by omega, by omega, by omega, by omega⟩
theorem due_sh {a b c d e f g h : Int} : SeqAt.shaped (.list (dueF a b c d e f g h)) = true := by
  unfold dueF SeqAt.shaped
  simp [PyData.canLay0, PyData.canLayAll0, PyData.depth, PyData.depthAll, strOk_lit]
theorem due_eqv {a b c d e f g h : Int} : PyData.eqv (.list (dueF a b c d e f g h)) (.list (dueF a b c d e f g h)) = true := by
  unfold dueF
  simp [PyData.eqv, PyData.eqvAll]
theorem marks_base : marksC (Str.ofString "PrismError") = .list (clsL.map fun _ => .bool false) := by
  have h : clsL.map (fun y => subB (Str.ofString "PrismError") (Str.ofString y)) = clsL.map fun _ => false := by decide +kernel
  have h3 := congrArg (List.map PyData.bool) h
  rw [List.map_map, List.map_map] at h3
  unfold marksC
  rw [show (fun y => PyData.bool (subB (Str.ofString "PrismError") (Str.ofString y))) = PyData.bool ∘ fun y => subB (Str.ofString "PrismError") (Str.ofString y) from rfl, h3]
  rfl
end Pz
set_option maxRecDepth 100000
set_option maxHeartbeats 0
namespace Lw
open PySem PySem.Spec PyProof.Rows L2 TL Pz
local instance : PenC := penL []
def topS (i : Nat) : Stmt := PySem.Challenge.pw_tabprism_k93_errors_and_limits.main.body.getD i (.Pass ⟨0, 0, 0, 0⟩)
abbrev s__law_pen : Stmt := topS 27
abbrev N__law_pen : List Str := ["_law_script"]
theorem st__law_pen {a0 : Sl} : startS N__law_pen [a0] = [some a0] := rfl
theorem sc__law_pen : FnScope N__law_pen ["_law_script"] (defScope s__law_pen) := ⟨rfl, rfl, rfl, by decide +kernel, rfl, by decide +kernel, by decide +kernel⟩
abbrev s__law_draw : Stmt := topS 28
abbrev N__law_draw : List Str := ["_law_pen_here", "_law_bound", "_law_turn", "_law_cell", "_law_mixed", "_law_digit", "_law_great"]
theorem st__law_draw {a0 a1 : Sl} : startS N__law_draw [a0, a1] = [some a0, some a1, none, none, none, none, none] := rfl
theorem sc__law_draw : FnScope N__law_draw ["_law_pen_here", "_law_bound"] (defScope s__law_draw) := ⟨rfl, rfl, rfl, by decide +kernel, rfl, by decide +kernel, by decide +kernel⟩
abbrev s__law_made : Stmt := topS 29
abbrev N__law_made : List Str := ["_law_some", "_law_made_here"]
theorem st__law_made {a0 : Sl} : startS N__law_made [a0] = [some a0, none] := rfl
theorem sc__law_made : FnScope N__law_made ["_law_some"] (defScope s__law_made) := ⟨rfl, rfl, rfl, by decide +kernel, rfl, by decide +kernel, by decide +kernel⟩
abbrev s__law_marks : Stmt := topS 30
abbrev N__law_marks : List Str := ["_law_error", "_law_marks_here"]
theorem st__law_marks {a0 : Sl} : startS N__law_marks [a0] = [some a0, none] := rfl
theorem sc__law_marks : FnScope N__law_marks ["_law_error"] (defScope s__law_marks) := ⟨rfl, rfl, rfl, by decide +kernel, rfl, by decide +kernel, by decide +kernel⟩
abbrev s__law_above : Stmt := topS 31
abbrev N__law_above : List Str := ["_law_error", "_law_found"]
theorem st__law_above {a0 : Sl} : startS N__law_above [a0] = [some a0, none] := rfl
theorem sc__law_above : FnScope N__law_above ["_law_error"] (defScope s__law_above) := ⟨rfl, rfl, rfl, by decide +kernel, rfl, by decide +kernel, by decide +kernel⟩
abbrev s__law_above_due : Stmt := topS 32
abbrev N__law_above_due : List Str := ["_law_spot", "_law_kind"]
theorem st__law_above_due {a0 : Sl} : startS N__law_above_due [a0] = [some a0, none] := rfl
theorem sc__law_above_due : FnScope N__law_above_due ["_law_spot"] (defScope s__law_above_due) := ⟨rfl, rfl, rfl, by decide +kernel, rfl, by decide +kernel, by decide +kernel⟩
abbrev s__law_fields : Stmt := topS 33
abbrev N__law_fields : List Str := ["_law_made_here", "_law_numbers", "_law_root", "_law_others", "_law_k"]
theorem st__law_fields {a0 : Sl} : startS N__law_fields [a0] = [some a0, none, none, none, none] := rfl
theorem sc__law_fields : FnScope N__law_fields ["_law_made_here"] (defScope s__law_fields) := ⟨rfl, rfl, rfl, by decide +kernel, rfl, by decide +kernel, by decide +kernel⟩
abbrev s__law_named : Stmt := topS 34
abbrev N__law_named : List Str := ["_law_some", "_law_numbers", "_law_root", "_law_others"]
theorem st__law_named {a0 : Sl} : startS N__law_named [a0] = [some a0, none, none, none] := rfl
theorem sc__law_named : FnScope N__law_named ["_law_some"] (defScope s__law_named) := ⟨rfl, rfl, rfl, by decide +kernel, rfl, by decide +kernel, by decide +kernel⟩
abbrev s__law_caught : Stmt := topS 35
abbrev N__law_caught : List Str := ["_law_one", "_law_two", "_law_found", "_law_error"]
theorem st__law_caught {a0 a1 : Sl} : startS N__law_caught [a0, a1] = [some a0, some a1, none, none] := rfl
theorem sc__law_caught : FnScope N__law_caught ["_law_one", "_law_two"] (defScope s__law_caught) := ⟨rfl, rfl, rfl, by decide +kernel, rfl, by decide +kernel, by decide +kernel⟩
abbrev s_law : Stmt := topS 36
abbrev N_law : List Str := ["_law_script", "_law_pen_here", "_law_some", "_law_made_here", "_law_spot", "_law_error", "_law_due", "_law_base", "_law_own", "_law_k"]
theorem st_law {a0 : Sl} : startS N_law [a0] = [some a0, none, none, none, none, none, none, none, none, none] := rfl
theorem sc_law : FnScope N_law ["_law_script"] (defScope s_law) := ⟨rfl, rfl, rfl, by decide +kernel, rfl, by decide +kernel, by decide +kernel⟩
structure Tx (K : Frag) (mg : Str → Option Value) (f__law_pen f__law_draw f__law_made f__law_marks f__law_above f__law_above_due f__law_fields f__law_named f__law_caught f_law : Addr) (fd__law_pen fd__law_draw fd__law_made fd__law_marks fd__law_above fd__law_above_due fd__law_fields fd__law_named fd__law_caught fd_law : FuncData) : Prop where
  d__law_pen : FAt K mg "_law_pen" s__law_pen ["_law_script"] f__law_pen fd__law_pen
  d__law_draw : FAt K mg "_law_draw" s__law_draw ["_law_pen_here", "_law_bound"] f__law_draw fd__law_draw
  d__law_made : FAt K mg "_law_made" s__law_made ["_law_some"] f__law_made fd__law_made
  d__law_marks : FAt K mg "_law_marks" s__law_marks ["_law_error"] f__law_marks fd__law_marks
  d__law_above : FAt K mg "_law_above" s__law_above ["_law_error"] f__law_above fd__law_above
  d__law_above_due : FAt K mg "_law_above_due" s__law_above_due ["_law_spot"] f__law_above_due fd__law_above_due
  d__law_fields : FAt K mg "_law_fields" s__law_fields ["_law_made_here"] f__law_fields fd__law_fields
  d__law_named : FAt K mg "_law_named" s__law_named ["_law_some"] f__law_named fd__law_named
  d__law_caught : FAt K mg "_law_caught" s__law_caught ["_law_one", "_law_two"] f__law_caught fd__law_caught
  d_law : FAt K mg "law" s_law ["_law_script"] f_law fd_law
  b_abs : mg "abs" = none
  b_enumerate : mg "enumerate" = none
  b_int : mg "int" = none
  b_isinstance : mg "isinstance" = none
  b_len : mg "len" = none
  b_list : mg "list" = none
  b_range : mg "range" = none
  xr : XRel K mg ["InvalidText", "UnbalancedBracket", "IndentedStart", "BadDedent", "InconsistentTabs", "NoIndent", "Unreachable", "InvalidReading", "RootConflict", "InvalidTokens", "InvalidOperation", "InvalidNotation", "UnknownCommand", "TooLong", "TooMany", "NoVariant", "NoLine", "Busy", "NothingToUndo", "NothingToRedo", "PrismError"] ["InvalidText", "UnbalancedBracket", "IndentedStart", "BadDedent", "InconsistentTabs", "NoIndent", "Unreachable", "InvalidReading", "RootConflict", "InvalidTokens", "InvalidOperation", "InvalidNotation", "UnknownCommand", "TooLong", "TooMany", "NoVariant", "NoLine", "Busy", "NothingToUndo", "NothingToRedo", "PrismError", "ValueError", "OverflowError", "IndexError", "RuntimeError", "LookupError", "KeyError", "ArithmeticError"] ["number", "reason", "paper", "index", "line", "width", "other", "at", "length", "count"]
  ek : XEk K ["InvalidText", "UnbalancedBracket", "IndentedStart", "BadDedent", "InconsistentTabs", "NoIndent", "Unreachable", "InvalidReading", "RootConflict", "InvalidTokens", "InvalidOperation", "InvalidNotation", "UnknownCommand", "TooLong", "TooMany", "NoVariant", "NoLine", "Busy", "NothingToUndo", "NothingToRedo", "PrismError"]
  mk_InvalidText : Mk0 K mg "InvalidText"
  mk_UnbalancedBracket : Mk1 K mg "UnbalancedBracket" "number"
  mk_IndentedStart : Mk1 K mg "IndentedStart" "number"
  mk_BadDedent : Mk1 K mg "BadDedent" "number"
  mk_InconsistentTabs : Mk1 K mg "InconsistentTabs" "number"
  mk_NoIndent : Mk1 K mg "NoIndent" "reason"
  mk_Unreachable : Mk1 K mg "Unreachable" "paper"
  mk_InvalidReading : Mk1 K mg "InvalidReading" "index"
  mk_RootConflict : Mk3 K mg "RootConflict" "line" "width" "other"
  mk_InvalidTokens : Mk1 K mg "InvalidTokens" "index"
  mk_InvalidOperation : Mk0 K mg "InvalidOperation"
  mk_InvalidNotation : Mk1 K mg "InvalidNotation" "at"
  mk_UnknownCommand : Mk0 K mg "UnknownCommand"
  mk_TooLong : Mk1 K mg "TooLong" "length"
  mk_TooMany : Mk1 K mg "TooMany" "count"
  mk_NoVariant : Mk1 K mg "NoVariant" "index"
  mk_NoLine : Mk1 K mg "NoLine" "index"
  mk_Busy : Mk0 K mg "Busy"
  mk_NothingToUndo : Mk0 K mg "NothingToUndo"
  mk_NothingToRedo : Mk0 K mg "NothingToRedo"
  mk_PrismError : Mk0 K mg "PrismError"
  mkk_RootConflict : Mk3W K mg "RootConflict" "line" "width" "other"
  mkk_UnbalancedBracket : Mk1W K mg "UnbalancedBracket" "number"
  mkk_IndentedStart : Mk1W K mg "IndentedStart" "number"
  mkk_NoIndent : Mk1W K mg "NoIndent" "reason"
  mkk_Unreachable : Mk1W K mg "Unreachable" "paper"
  mkk_BadDedent : Mk1W K mg "BadDedent" "number"
  mkk_InconsistentTabs : Mk1W K mg "InconsistentTabs" "number"
  mkk_InvalidReading : Mk1W K mg "InvalidReading" "index"
  mkk_InvalidTokens : Mk1W K mg "InvalidTokens" "index"
  mkk_InvalidNotation : Mk1W K mg "InvalidNotation" "at"
  mkk_TooLong : Mk1W K mg "TooLong" "length"
  mkk_TooMany : Mk1W K mg "TooMany" "count"
  mkk_NoVariant : Mk1W K mg "NoVariant" "index"
  mkk_NoLine : Mk1W K mg "NoLine" "index"
  c_LONGEST : ∃ t, mg "LONGEST" = some (.int 60 t)
  c_MOST_CHARACTERS : ∃ t, mg "MOST_CHARACTERS" = some (.int 1000 t)
  c_MOST_LINES : ∃ t, mg "MOST_LINES" = some (.int 20 t)
  c_MOST_STATES : ∃ t, mg "MOST_STATES" = some (.int 400 t)
variable {P : Program} {w : World} {K : Frag} {mg : Str → Option Value} {base : Heap} {f__law_pen f__law_draw f__law_made f__law_marks f__law_above f__law_above_due f__law_fields f__law_named f__law_caught f_law : Addr} {fd__law_pen fd__law_draw fd__law_made fd__law_marks fd__law_above fd__law_above_due fd__law_fields fd__law_named fd__law_caught fd_law : FuncData}
def sp_law : DSp := sp1 fun a cs Q Ed => ∃ ns, a = .f ns ∧ cs = [] ∧ Q (.d (.bool true)) []
theorem sp_ok : ∀ ns : List Int, ns.length ≤ 63 → (∀ z ∈ ns, Builtin.Int.intBits z ≤ 1048576) → sp_law [.f ns] [] (fun s _ => s = .d (.bool true)) fun _ _ _ => False := fun ns _ _ => ⟨ns, rfl, rfl, rfl⟩
abbrev sp__law_pen := sp_pen
def F__law_draw : FD := fun ss K => match ss with
  | [.d (.int m)] => (0 < m ∧ m < 2 ^ 64) ∧ (∀ r : Int, 0 ≤ r → r < m → K (.int r))
  | _ => False
theorem fo__law_draw : FOk F__law_draw 1 := ⟨fun ss k h => by unfold F__law_draw at h; split at h <;> first | exact ⟨rfl, rfl⟩ | exact h.elim, fun ss k k1 m h => by
  unfold F__law_draw at h; split at h
  · exact ⟨h.1, by have h2 := h.2; revert h2; clear h; intro h2; first | exact m _ h2 | exact ⟨fun f e => m _ (h2.1 f e), fun f e => m _ (h2.2 f e)⟩ | (intros; apply m; apply h2 <;> assumption) | (obtain h2 := h2; split at h2 <;> split <;> first | exact m _ h2 | simp_all) | simp_all | grind⟩
  · exact h.elim⟩
abbrev sp__law_draw : DSp := spQ 1 F__law_draw
theorem ho__law_draw {N : List Str} {m : Nat} {τ : DS} (h : ∀ (m : Int) (c : Ct) (n : Nat) (Qd : DK), Pen n c → n + 1 ≤ 1000000 → (0 < m ∧ m < 2 ^ 64) → (∀ r : Int, 0 ≤ r → r < m → (fun d => ∀ c', Pen (n + 1) c' → Qd (.d d) [c']) (.int r)) → τ (end1 Qd) (startS N [.o 0, .d (.int m)]) [c]) : ∀ (ss : List Sl) (cs : Sto) (Qd : DK) (Ed : DXF), spQ 1 F__law_draw ss cs Qd Ed → ss.length = m → cs.length = 1 ∧ τ (end1 Qd) (startS N ss) cs := hQ fun ss c n Qd p hn w => by
  unfold F__law_draw at w; split at w
  · exact h _ c n Qd p hn w.1 w.2
  · exact w.elim
def F__law_made : FD := fun ss K => match ss with
  | [.d (.list [.int a, .int b, .int c, .int d, .int e, .int f, .int g, .int h])] => (True) ∧ (K (.list (madeL a b c d e f g h)))
  | _ => False
theorem fo__law_made : FOk F__law_made 1 := ⟨fun ss k h => by unfold F__law_made at h; split at h <;> first | exact ⟨rfl, rfl⟩ | exact h.elim, fun ss k k1 m h => by
  unfold F__law_made at h; split at h
  · exact ⟨h.1, by have h2 := h.2; revert h2; clear h; intro h2; first | exact m _ h2 | exact ⟨fun f e => m _ (h2.1 f e), fun f e => m _ (h2.2 f e)⟩ | (intros; apply m; apply h2 <;> assumption) | (obtain h2 := h2; split at h2 <;> split <;> first | exact m _ h2 | simp_all) | simp_all | grind⟩
  · exact h.elim⟩
abbrev sp__law_made : DSp := spF F__law_made
theorem ho__law_made {N : List Str} {m : Nat} {τ : DS} (h : ∀ (a b c d e f g h : Int) (Qd : DK), (True) → ((fun d => Qd (.d d) []) (.list (madeL a b c d e f g h))) → τ (end0 Qd) (startS N [.d (.list [.int a, .int b, .int c, .int d, .int e, .int f, .int g, .int h])]) []) : ∀ (ss : List Sl) (cs : Sto) (Qd : DK) (Ed : DXF), spF F__law_made ss cs Qd Ed → ss.length = m → cs.length = 0 ∧ τ (end0 Qd) (startS N ss) cs := hF fun ss Qd w => by
  unfold F__law_made at w; split at w
  · exact h _ _ _ _ _ _ _ _ Qd w.1 w.2
  · exact w.elim
def F__law_marks : FD := fun ss K => match ss with
  | [.d d] => (∃ c fs, d = excD c fs ∧ (c ∈ clsL.map Str.ofString ∨ c = "PrismError")) ∧ (∀ c fs, d = excD c fs → K (marksC c))
  | _ => False
theorem fo__law_marks : FOk F__law_marks 1 := ⟨fun ss k h => by unfold F__law_marks at h; split at h <;> first | exact ⟨rfl, rfl⟩ | exact h.elim, fun ss k k1 m h => by
  unfold F__law_marks at h; split at h
  · exact ⟨h.1, by have h2 := h.2; revert h2; clear h; intro h2; first | exact m _ h2 | exact ⟨fun f e => m _ (h2.1 f e), fun f e => m _ (h2.2 f e)⟩ | (intros; apply m; apply h2 <;> assumption) | (obtain h2 := h2; split at h2 <;> split <;> first | exact m _ h2 | simp_all) | simp_all | grind⟩
  · exact h.elim⟩
abbrev sp__law_marks : DSp := spF F__law_marks
theorem ho__law_marks {N : List Str} {m : Nat} {τ : DS} (h : ∀ (d : PyData) (Qd : DK), (∃ c fs, d = excD c fs ∧ (c ∈ clsL.map Str.ofString ∨ c = "PrismError")) → (∀ c fs, d = excD c fs → (fun d => Qd (.d d) []) (marksC c)) → τ (end0 Qd) (startS N [.d d]) []) : ∀ (ss : List Sl) (cs : Sto) (Qd : DK) (Ed : DXF), spF F__law_marks ss cs Qd Ed → ss.length = m → cs.length = 0 ∧ τ (end0 Qd) (startS N ss) cs := hF fun ss Qd w => by
  unfold F__law_marks at w; split at w
  · exact h _ Qd w.1 w.2
  · exact w.elim
def F__law_above : FD := fun ss K => match ss with
  | [.d d] => (∃ c fs, d = excD c fs ∧ (c ∈ clsL.map Str.ofString ∨ c = "PrismError")) ∧ (∀ c fs, d = excD c fs → K (aboveC c))
  | _ => False
theorem fo__law_above : FOk F__law_above 1 := ⟨fun ss k h => by unfold F__law_above at h; split at h <;> first | exact ⟨rfl, rfl⟩ | exact h.elim, fun ss k k1 m h => by
  unfold F__law_above at h; split at h
  · exact ⟨h.1, by have h2 := h.2; revert h2; clear h; intro h2; first | exact m _ h2 | exact ⟨fun f e => m _ (h2.1 f e), fun f e => m _ (h2.2 f e)⟩ | (intros; apply m; apply h2 <;> assumption) | (obtain h2 := h2; split at h2 <;> split <;> first | exact m _ h2 | simp_all) | simp_all | grind⟩
  · exact h.elim⟩
abbrev sp__law_above : DSp := spF F__law_above
theorem ho__law_above {N : List Str} {m : Nat} {τ : DS} (h : ∀ (d : PyData) (Qd : DK), (∃ c fs, d = excD c fs ∧ (c ∈ clsL.map Str.ofString ∨ c = "PrismError")) → (∀ c fs, d = excD c fs → (fun d => Qd (.d d) []) (aboveC c)) → τ (end0 Qd) (startS N [.d d]) []) : ∀ (ss : List Sl) (cs : Sto) (Qd : DK) (Ed : DXF), spF F__law_above ss cs Qd Ed → ss.length = m → cs.length = 0 ∧ τ (end0 Qd) (startS N ss) cs := hF fun ss Qd w => by
  unfold F__law_above at w; split at w
  · exact h _ Qd w.1 w.2
  · exact w.elim
def F__law_above_due : FD := fun ss K => match ss with
  | [.d (.int k)] => (0 ≤ k ∧ k < 20) ∧ (K (aboveK k.toNat))
  | _ => False
theorem fo__law_above_due : FOk F__law_above_due 1 := ⟨fun ss k h => by unfold F__law_above_due at h; split at h <;> first | exact ⟨rfl, rfl⟩ | exact h.elim, fun ss k k1 m h => by
  unfold F__law_above_due at h; split at h
  · exact ⟨h.1, by have h2 := h.2; revert h2; clear h; intro h2; first | exact m _ h2 | exact ⟨fun f e => m _ (h2.1 f e), fun f e => m _ (h2.2 f e)⟩ | (intros; apply m; apply h2 <;> assumption) | (obtain h2 := h2; split at h2 <;> split <;> first | exact m _ h2 | simp_all) | simp_all | grind⟩
  · exact h.elim⟩
abbrev sp__law_above_due : DSp := spF F__law_above_due
theorem ho__law_above_due {N : List Str} {m : Nat} {τ : DS} (h : ∀ (k : Int) (Qd : DK), (0 ≤ k ∧ k < 20) → ((fun d => Qd (.d d) []) (aboveK k.toNat)) → τ (end0 Qd) (startS N [.d (.int k)]) []) : ∀ (ss : List Sl) (cs : Sto) (Qd : DK) (Ed : DXF), spF F__law_above_due ss cs Qd Ed → ss.length = m → cs.length = 0 ∧ τ (end0 Qd) (startS N ss) cs := hF fun ss Qd w => by
  unfold F__law_above_due at w; split at w
  · exact h _ Qd w.1 w.2
  · exact w.elim
def F__law_fields : FD := fun ss K => match ss with
  | [.d (.list ls)] => (∃ a b c d e f g h : Int, ls = madeL a b c d e f g h) ∧ (∀ a b c d e f g h : Int, ls = madeL a b c d e f g h → K (.list (dueF a b c d e f g h)))
  | _ => False
theorem fo__law_fields : FOk F__law_fields 1 := ⟨fun ss k h => by unfold F__law_fields at h; split at h <;> first | exact ⟨rfl, rfl⟩ | exact h.elim, fun ss k k1 m h => by
  unfold F__law_fields at h; split at h
  · exact ⟨h.1, by have h2 := h.2; revert h2; clear h; intro h2; first | exact m _ h2 | exact ⟨fun f e => m _ (h2.1 f e), fun f e => m _ (h2.2 f e)⟩ | (intros; apply m; apply h2 <;> assumption) | (obtain h2 := h2; split at h2 <;> split <;> first | exact m _ h2 | simp_all) | simp_all | grind⟩
  · exact h.elim⟩
abbrev sp__law_fields : DSp := spF F__law_fields
theorem ho__law_fields {N : List Str} {m : Nat} {τ : DS} (h : ∀ (ls : List PyData) (Qd : DK), (∃ a b c d e f g h : Int, ls = madeL a b c d e f g h) → (∀ a b c d e f g h : Int, ls = madeL a b c d e f g h → (fun d => Qd (.d d) []) (.list (dueF a b c d e f g h))) → τ (end0 Qd) (startS N [.d (.list ls)]) []) : ∀ (ss : List Sl) (cs : Sto) (Qd : DK) (Ed : DXF), spF F__law_fields ss cs Qd Ed → ss.length = m → cs.length = 0 ∧ τ (end0 Qd) (startS N ss) cs := hF fun ss Qd w => by
  unfold F__law_fields at w; split at w
  · exact h _ Qd w.1 w.2
  · exact w.elim
def F__law_named : FD := fun ss K => match ss with
  | [.d (.list [.int a, .int b, .int c, .int d, .int e, .int f, .int g, .int h])] => (True) ∧ (K (.list (dueF a b c d e f g h)))
  | _ => False
theorem fo__law_named : FOk F__law_named 1 := ⟨fun ss k h => by unfold F__law_named at h; split at h <;> first | exact ⟨rfl, rfl⟩ | exact h.elim, fun ss k k1 m h => by
  unfold F__law_named at h; split at h
  · exact ⟨h.1, by have h2 := h.2; revert h2; clear h; intro h2; first | exact m _ h2 | exact ⟨fun f e => m _ (h2.1 f e), fun f e => m _ (h2.2 f e)⟩ | (intros; apply m; apply h2 <;> assumption) | (obtain h2 := h2; split at h2 <;> split <;> first | exact m _ h2 | simp_all) | simp_all | grind⟩
  · exact h.elim⟩
abbrev sp__law_named : DSp := spF F__law_named
theorem ho__law_named {N : List Str} {m : Nat} {τ : DS} (h : ∀ (a b c d e f g h : Int) (Qd : DK), (True) → ((fun d => Qd (.d d) []) (.list (dueF a b c d e f g h))) → τ (end0 Qd) (startS N [.d (.list [.int a, .int b, .int c, .int d, .int e, .int f, .int g, .int h])]) []) : ∀ (ss : List Sl) (cs : Sto) (Qd : DK) (Ed : DXF), spF F__law_named ss cs Qd Ed → ss.length = m → cs.length = 0 ∧ τ (end0 Qd) (startS N ss) cs := hF fun ss Qd w => by
  unfold F__law_named at w; split at w
  · exact h _ _ _ _ _ _ _ _ Qd w.1 w.2
  · exact w.elim
def F__law_caught : FD := fun ss K => match ss with
  | [.d (.int a), .d (.int b)] => (True) ∧ (K (.list [.tuple [.int a, .int b, .int a], .int a, .int b]))
  | _ => False
theorem fo__law_caught : FOk F__law_caught 2 := ⟨fun ss k h => by unfold F__law_caught at h; split at h <;> first | exact ⟨rfl, rfl⟩ | exact h.elim, fun ss k k1 m h => by
  unfold F__law_caught at h; split at h
  · exact ⟨h.1, by have h2 := h.2; revert h2; clear h; intro h2; first | exact m _ h2 | exact ⟨fun f e => m _ (h2.1 f e), fun f e => m _ (h2.2 f e)⟩ | (intros; apply m; apply h2 <;> assumption) | (obtain h2 := h2; split at h2 <;> split <;> first | exact m _ h2 | simp_all) | simp_all | grind⟩
  · exact h.elim⟩
abbrev sp__law_caught : DSp := spF F__law_caught
theorem ho__law_caught {N : List Str} {m : Nat} {τ : DS} (h : ∀ (a b : Int) (Qd : DK), (True) → ((fun d => Qd (.d d) []) (.list [.tuple [.int a, .int b, .int a], .int a, .int b])) → τ (end0 Qd) (startS N [.d (.int a), .d (.int b)]) []) : ∀ (ss : List Sl) (cs : Sto) (Qd : DK) (Ed : DXF), spF F__law_caught ss cs Qd Ed → ss.length = m → cs.length = 0 ∧ τ (end0 Qd) (startS N ss) cs := hF fun ss Qd w => by
  unfold F__law_caught at w; split at w
  · exact h _ _ Qd w.1 w.2
  · exact w.elim
local macro_rules | `(tactic| nofun) => `(tactic| try simp -implicitDefEqProofs only [↓Pz.wC_ap, ↓Pz.wVar_ap, ↓Pz.wOp_ap, ↓Pz.wTest_ap, ↓Pz.wNil_ap, ↓Pz.wCons_ap, ↓Pz.wCall_ap, ↓Pz.wCallW_ap, ↓Pz.wApp_ap, ↓Pz.wLst_ap, ↓Pz.wTup_ap, ↓Pz.wLstO_ap, ↓Pz.wNoPart_ap, ↓Pz.wPart_ap, ↓Pz.wSl_ap, ↓Pz.wAnd_ap, ↓Pz.wOr_ap, ↓Pz.wNot_ap, ↓Pz.wAndV_ap, ↓Pz.wOrV_ap, ↓Pz.wNotV_ap, ↓Pz.wIfE_ap, ↓Pz.wTru_ap, ↓Pz.wChain_ap, ↓Pz.wNeg_ap, ↓Pz.wAug_ap, ↓Pz.gNm_ap, ↓Pz.gNl_ap, ↓Pz.gCn_ap, ↓Pz.gTp_ap, ↓Pz.wAsg_ap, ↓Pz.wItE_ap, ↓Pz.wRng1_ap, ↓Pz.wRng2_ap, ↓Pz.wYes_ap, ↓Pz.wLc_ap, ↓Pz.wLcO_ap, ↓Pz.wBM_ap, ↓Pz.wSetIx_ap, ↓Pz.wFrz_ap, ↓Pz.wCallF_ap, ↓Pz.wCallQ_ap, ↓Pz.wCallWF_ap, ↓Pz.wRev_ap, ↓Pz.wRg1_ap, ↓Pz.wRg2_ap, ↓Pz.wListRg_ap, ↓Pz.wRng3_ap, ↓Pz.wEnum_ap, ↓Pz.wZip_ap, ↓Pz.wCallQO_ap, ↓Pz.wDPut_ap, ↓Pz.wPNil_ap, ↓Pz.wPCons_ap, ↓Pz.wDisp_ap, ↓Pz.wDNew_ap, ↓Pz.wDNil_ap, ↓Pz.wEnumX_ap, ↓Pz.wCallE_ap, ↓Pz.wSlO_ap, ↓Pz.wEnumY_ap, ↓Pz.wDGet2_ap, ↓Pz.wMaxDf_ap, ↓Pz.wCallFO_ap, ↓Pz.wRevY_ap, ↓Pz.wFrzX_ap, ↓Pz.wSwp_ap, ↓Pz.wCallX_ap, ↓Pz.wCallXO_ap, ↓Pz.wCallWX_ap, ↓Pz.wRaise1_ap, ↓Pz.wRaise0_ap, ↓Pz.wTry_ap, ↓Pz.wIsE_ap, ↓Pz.wXf_ap, ↓Pz.wDispD_ap, ↓Pz.wSortLen_ap, ↓Pz.wGGet_ap, ↓Pz.wMinDf_ap, ↓Pz.wPar_ap, ↓Pz.wLam_ap, ↓Pz.wAct_ap, ↓Pz.wRep_ap, ↓Pz.wZipM_ap, ↓Pz.wZipN_ap, ↓Pz.wLenSet_ap, ↓Pz.wBor_ap, ↓Pz.gTpL_ap, ↓Pz.wTupRg_ap, ↓Pz.wRevS_ap, ↓Pz.wFmt_ap, ↓Pz.wJoined_ap, ↓Pz.wAsgS_ap, ↓Pz.wPar3_ap, ↓Pz.wDc_ap, ↓Pz.wDcT_ap, ↓Pz.wDGet3_ap, ↓Pz.wListV_ap, ↓Pz.wSumV_ap, ↓Pz.wDIn_ap, ↓Pz.wTGet2_ap, ↓Pz.wTPut_ap, ↓Pz.wDAug_ap, ↓Pz.wFrzL_ap, ↓Pz.wItV_ap, ↓Pz.wItI_ap, ↓Pz.wItK_ap, ↓Pz.wDisp1_ap, ↓Pz.wBorD_ap, ↓Pz.wDNewT_ap, ↓Pz.wCallFD_ap, ↓Pz.wDNew_ap, ↓Pz.wItC_ap, ↓Pz.wCallXE_ap, ↓Pz.wTSetd_ap, ↓Pz.wListRgO_ap, ↓Pz.wTryC_ap, ↓Pz.wTry2_ap, ↓Pz.wRepl_ap, ↓Pz.wThaw_ap, ↓Pz.wBorN_ap, ↓Pz.wZip3_ap, ↓Pz.wLcX_ap, ↓Pz.wLcXO_ap, ↓Pz.wMk0_ap, ↓Pz.wMk1_ap, ↓Pz.wMk3_ap, ↓Pz.wMk3A_ap, ↓Pz.wRaise3B_ap, ↓Pz.wTryA_ap, ↓Pz.wTryA3_ap, ↓Pz.wMinLen_ap, ↓Pz.wDNewN_ap, ↓Pz.wNSetd_ap, ↓Pz.wFrzN_ap, Pz.setAll, ↓Pz.wClose_ap, ↓Pz.wSetIxO_ap, ↓Pz.oIxS_ap, ↓Pz.wRaise3_ap, ↓Pz.oMulT_ap, Pz.dkX, Pz.unKD_kdD, Option.isSome_some, ↓Pz.wOrX_apS, ↓Pz.wAndX_apS, ↓Pz.orP_str, Pz.orP_some, Pz.orP_none, ↓oTGet, ↓oLtS, ↓oLtT, ↓fListKy, ↓fSortKy, ↓fLenD_o, ↓Pz.aFD, Pz.unD_K, Pz.unD_T, Pz.kyS_t, Pz.keysL_nil, Pz.keysL_ci, Pz.keysL_cs, ↓Pz.dtAt_o, Pz.dtAt_L, ↓Pz.dkAny_o, Pz.dkAny_D, Pz.dkAny_L, ↓Pz.dvAt_o, Pz.dvAt_D, Pz.dvAt_L, Pz.dvAt_T, ↓Pz.dkyS_o, Pz.dkyS_D, Pz.dkyS_L, Pz.dkyS_T, ↓Pz.dinS_o, Pz.dinS_D, Pz.dinS_L, Pz.dinS_T, Pz.lkP_K, Pz.lkP_T, Pz.lkV_K, Pz.lkV_T, Pz.lkV_N, ↓Pz.dnAt_o, Pz.oK_n, Pz.oK_i, ↓ret1_dT, cl_dt, Pz.lkOf_K, Pz.lkOf_T, Pz.xor_f, Pz.xor_t, Pz.hasD_int, Option.bind, Option.bind_some, List.set, ↓seq_mk, ↓wTrim_mk, trimS, List.take_succ_cons, List.take_zero, Nat.reduceLT, ↓nx_mk, ↓set_mk, ↓if_mk, nthS, ↓oEq, ↓oNe, vw, ↓oAdd, ↓oSub, ↓oIadd, ↓oDGet, keyOf_str, keyOf_int, keyS_str, keyS_int, ↓dkAt_o, valE_cells, valE_at, valE_left, putE_at, putE_left, mergeE, mergeD1, kvD1, keyD_s, keyD_i, ret1_dE, cl_dk, ↓fIsi, ↓fDivmod, ↓fStr, Pz.okT_int, Pz.is_int_none, Pz.is_int_bool, Pz.is_int_int, Pz.is_int_str, Pz.is_int_list, Pz.is_int_tuple, Pz.is_int_dict, Pz.okT_bool, Pz.is_bool_none, Pz.is_bool_bool, Pz.is_bool_int, Pz.is_bool_str, Pz.is_bool_list, Pz.is_bool_tuple, Pz.is_bool_dict, Pz.okT_str, Pz.is_str_none, Pz.is_str_bool, Pz.is_str_int, Pz.is_str_str, Pz.is_str_list, Pz.is_str_tuple, Pz.is_str_dict, Pz.okT_tuple, Pz.is_tuple_none, Pz.is_tuple_bool, Pz.is_tuple_int, Pz.is_tuple_str, Pz.is_tuple_list, Pz.is_tuple_tuple, Pz.is_tuple_dict, Pz.okT_list, Pz.is_list_none, Pz.is_list_bool, Pz.is_list_int, Pz.is_list_str, Pz.is_list_list, Pz.is_list_tuple, Pz.is_list_dict, Pz.is_dict_none, Pz.is_dict_bool, Pz.is_dict_int, Pz.is_dict_str, Pz.is_dict_list, Pz.is_dict_tuple, Pz.is_dict_dict, ↓oFdiv, ↓oMod, ↓oMul, ↓oPow, ↓oBool, ↓oII, ↓oIsN, ↓oNotN, ↓oIn, ↓oInX, ↓oInQ, ↓oInT, ↓oIsB, ↓oIsBN, ↓oNotB, noneS, ↓ret_mk, ↓retN_mk, ↓bk_mk, ↓ct_mk, ↓expr_mk, ↓for_mk, truD, ↓oIxE, ↓mPopAt, ↓mIndex, ↓mInsert, ↓fIntS, ↓fStrN, ↓Pz.wJs_cons, ↓Pz.wJs_nil, at0, at1, at2, at3, ix10, ix20, ix21, ix30, ix31, ix32, Pz.len1, Pz.len2, Pz.len3, List.length_nil, List.length_cons, sh_int, sh_bl, sh_non, Int.reduceEq, reduceCtorEq, decide_true, decide_false, sh_nil, eqv_nn, eqv_nilL, List.isEmpty_map, sh_lit, List.flatten_replicate_singleton, List.length_replicate, eqv_int, Nat.zero_le, szL, Nat.reduceLeDiff, Nat.reduceAdd, ↓ret1_d, ↓ret1_o0, ↓ret1_o1, ↓ret1_o2, ↓ret0_o0, ↓ret_d, cl_lst, true_and, and_true, decide_eq_true_eq, ↓oSl, ↓oSlO, ↓fLen, ↓fAbs, ↓fInt, ↓fMaxE, ↓fMinE, ↓fSumE, ↓Pz.fSumL, ↓fAll, ↓fAny, ↓fList, ↓fListO, ↓fListE, ↓fListEO, ↓fTuple, ↓fSortedE, ↓fSortedS, ↓fSortedG, ↓Pz.fSortedGO, ↓fRep, ↓fRepX, ↓fRepZ, ↓fRepW, ↓fBool, vwJ_l, vwJ_t, vwS_l, vwS_t, vwB, dsOf, tyD, ↓mAppend, ↓mExtend, ↓mPop, ↓mReverse, ↓mSplit, ↓mSplitO, ↓mStrip, ↓mLstrip, ↓mRstrip, ↓mStr2, ↓mPart, ↓mJoinE, frzS, frzX, ↓excOf_o, Pz.excOf_d, ↓oDGetX, List.map_cons, List.map_nil, List.getElem?_cons_zero, List.getElem?_cons_succ, List.cons_append, List.nil_append, Bool.false_eq_true, Bool.true_eq_false, ↓reduceIte, p10_3, p10_6, p10_7, p10_9, p10_12, Option.map, ↓aQ, ↓aQO, ↓aFO, borS, cleanS, noD, noDAll, atomD, ↓aXO, ↓oAddO, ↓oMulO, Option.some.injEq, exists_eq_left', exists_and_left, datO, datQ_d, ↓mCount, ↓mCountS, Bool.not_true, Bool.not_false, ↓F__law_draw, ↓F__law_made, ↓F__law_marks, ↓F__law_above, ↓F__law_above_due, ↓F__law_fields, ↓F__law_named, ↓F__law_caught]) | `(tactic| subst_eqs) => `(tactic| simp -implicitDefEqProofs only [↓Pz.wC_ap, ↓Pz.wVar_ap, ↓Pz.wOp_ap, ↓Pz.wTest_ap, ↓Pz.wNil_ap, ↓Pz.wCons_ap, ↓Pz.wCall_ap, ↓Pz.wCallW_ap, ↓Pz.wApp_ap, ↓Pz.wLst_ap, ↓Pz.wTup_ap, ↓Pz.wLstO_ap, ↓Pz.wNoPart_ap, ↓Pz.wPart_ap, ↓Pz.wSl_ap, ↓Pz.wAnd_ap, ↓Pz.wOr_ap, ↓Pz.wNot_ap, ↓Pz.wAndV_ap, ↓Pz.wOrV_ap, ↓Pz.wNotV_ap, ↓Pz.wIfE_ap, ↓Pz.wTru_ap, ↓Pz.wChain_ap, ↓Pz.wNeg_ap, ↓Pz.wAug_ap, ↓Pz.gNm_ap, ↓Pz.gNl_ap, ↓Pz.gCn_ap, ↓Pz.gTp_ap, ↓Pz.wAsg_ap, ↓Pz.wItE_ap, ↓Pz.wRng1_ap, ↓Pz.wRng2_ap, ↓Pz.wYes_ap, ↓Pz.wLc_ap, ↓Pz.wLcO_ap, ↓Pz.wBM_ap, ↓Pz.wSetIx_ap, ↓Pz.wFrz_ap, ↓Pz.wCallF_ap, ↓Pz.wCallQ_ap, ↓Pz.wCallWF_ap, ↓Pz.wRev_ap, ↓Pz.wRg1_ap, ↓Pz.wRg2_ap, ↓Pz.wListRg_ap, ↓Pz.wRng3_ap, ↓Pz.wEnum_ap, ↓Pz.wZip_ap, ↓Pz.wCallQO_ap, ↓Pz.wDPut_ap, ↓Pz.wPNil_ap, ↓Pz.wPCons_ap, ↓Pz.wDisp_ap, ↓Pz.wDNew_ap, ↓Pz.wDNil_ap, ↓Pz.wEnumX_ap, ↓Pz.wCallE_ap, ↓Pz.wSlO_ap, ↓Pz.wEnumY_ap, ↓Pz.wDGet2_ap, ↓Pz.wMaxDf_ap, ↓Pz.wCallFO_ap, ↓Pz.wRevY_ap, ↓Pz.wFrzX_ap, ↓Pz.wSwp_ap, ↓Pz.wCallX_ap, ↓Pz.wCallXO_ap, ↓Pz.wCallWX_ap, ↓Pz.wRaise1_ap, ↓Pz.wRaise0_ap, ↓Pz.wTry_ap, ↓Pz.wIsE_ap, ↓Pz.wXf_ap, ↓Pz.wDispD_ap, ↓Pz.wSortLen_ap, ↓Pz.wGGet_ap, ↓Pz.wMinDf_ap, ↓Pz.wPar_ap, ↓Pz.wLam_ap, ↓Pz.wAct_ap, ↓Pz.wRep_ap, ↓Pz.wZipM_ap, ↓Pz.wZipN_ap, ↓Pz.wLenSet_ap, ↓Pz.wBor_ap, ↓Pz.gTpL_ap, ↓Pz.wTupRg_ap, ↓Pz.wRevS_ap, ↓Pz.wFmt_ap, ↓Pz.wJoined_ap, ↓Pz.wAsgS_ap, ↓Pz.wPar3_ap, ↓Pz.wDc_ap, ↓Pz.wDcT_ap, ↓Pz.wDGet3_ap, ↓Pz.wListV_ap, ↓Pz.wSumV_ap, ↓Pz.wDIn_ap, ↓Pz.wTGet2_ap, ↓Pz.wTPut_ap, ↓Pz.wDAug_ap, ↓Pz.wFrzL_ap, ↓Pz.wItV_ap, ↓Pz.wItI_ap, ↓Pz.wItK_ap, ↓Pz.wDisp1_ap, ↓Pz.wBorD_ap, ↓Pz.wDNewT_ap, ↓Pz.wCallFD_ap, ↓Pz.wDNew_ap, ↓Pz.wItC_ap, ↓Pz.wCallXE_ap, ↓Pz.wTSetd_ap, ↓Pz.wListRgO_ap, ↓Pz.wTryC_ap, ↓Pz.wTry2_ap, ↓Pz.wRepl_ap, ↓Pz.wThaw_ap, ↓Pz.wBorN_ap, ↓Pz.wZip3_ap, ↓Pz.wLcX_ap, ↓Pz.wLcXO_ap, ↓Pz.wMk0_ap, ↓Pz.wMk1_ap, ↓Pz.wMk3_ap, ↓Pz.wMk3A_ap, ↓Pz.wRaise3B_ap, ↓Pz.wTryA_ap, ↓Pz.wTryA3_ap, ↓Pz.wMinLen_ap, ↓Pz.wDNewN_ap, ↓Pz.wNSetd_ap, ↓Pz.wFrzN_ap, Pz.setAll, ↓Pz.wClose_ap, ↓Pz.wSetIxO_ap, ↓Pz.oIxS_ap, ↓Pz.wRaise3_ap, ↓Pz.oMulT_ap, Pz.dkX, Pz.unKD_kdD, Option.isSome_some, ↓Pz.wOrX_apS, ↓Pz.wAndX_apS, ↓Pz.orP_str, Pz.orP_some, Pz.orP_none, ↓oTGet, ↓oLtS, ↓oLtT, ↓fListKy, ↓fSortKy, ↓fLenD_o, ↓Pz.aFD, Pz.unD_K, Pz.unD_T, Pz.kyS_t, Pz.keysL_nil, Pz.keysL_ci, Pz.keysL_cs, ↓Pz.dtAt_o, Pz.dtAt_L, ↓Pz.dkAny_o, Pz.dkAny_D, Pz.dkAny_L, ↓Pz.dvAt_o, Pz.dvAt_D, Pz.dvAt_L, Pz.dvAt_T, ↓Pz.dkyS_o, Pz.dkyS_D, Pz.dkyS_L, Pz.dkyS_T, ↓Pz.dinS_o, Pz.dinS_D, Pz.dinS_L, Pz.dinS_T, Pz.lkP_K, Pz.lkP_T, Pz.lkV_K, Pz.lkV_T, Pz.lkV_N, ↓Pz.dnAt_o, Pz.oK_n, Pz.oK_i, ↓ret1_dT, cl_dt, Pz.lkOf_K, Pz.lkOf_T, Pz.xor_f, Pz.xor_t, Pz.hasD_int, Option.bind, Option.bind_some, List.set, ↓wTrim_mk, trimS, List.take_succ_cons, List.take_zero, Nat.reduceLT, ↓nx_mk, ↓set_mk, ↓if_mk, nthS, ↓oEq, ↓oNe, vw, ↓oAdd, ↓oSub, ↓oIadd, ↓oDGet, keyOf_str, keyOf_int, keyS_str, keyS_int, ↓dkAt_o, valE_cells, valE_at, valE_left, putE_at, putE_left, mergeE, mergeD1, kvD1, keyD_s, keyD_i, ret1_dE, cl_dk, ↓fIsi, ↓fDivmod, ↓fStr, Pz.okT_int, Pz.is_int_none, Pz.is_int_bool, Pz.is_int_int, Pz.is_int_str, Pz.is_int_list, Pz.is_int_tuple, Pz.is_int_dict, Pz.okT_bool, Pz.is_bool_none, Pz.is_bool_bool, Pz.is_bool_int, Pz.is_bool_str, Pz.is_bool_list, Pz.is_bool_tuple, Pz.is_bool_dict, Pz.okT_str, Pz.is_str_none, Pz.is_str_bool, Pz.is_str_int, Pz.is_str_str, Pz.is_str_list, Pz.is_str_tuple, Pz.is_str_dict, Pz.okT_tuple, Pz.is_tuple_none, Pz.is_tuple_bool, Pz.is_tuple_int, Pz.is_tuple_str, Pz.is_tuple_list, Pz.is_tuple_tuple, Pz.is_tuple_dict, Pz.okT_list, Pz.is_list_none, Pz.is_list_bool, Pz.is_list_int, Pz.is_list_str, Pz.is_list_list, Pz.is_list_tuple, Pz.is_list_dict, Pz.is_dict_none, Pz.is_dict_bool, Pz.is_dict_int, Pz.is_dict_str, Pz.is_dict_list, Pz.is_dict_tuple, Pz.is_dict_dict, ↓oFdiv, ↓oMod, ↓oMul, ↓oPow, ↓oBool, ↓oII, ↓oIsN, ↓oNotN, ↓oIn, ↓oInX, ↓oInQ, ↓oInT, ↓oIsB, ↓oIsBN, ↓oNotB, noneS, ↓ret_mk, ↓retN_mk, ↓bk_mk, ↓ct_mk, ↓expr_mk, ↓for_mk, truD, ↓oIxE, ↓mPopAt, ↓mIndex, ↓mInsert, ↓fIntS, ↓fStrN, ↓Pz.wJs_cons, ↓Pz.wJs_nil, at0, at1, at2, at3, ix10, ix20, ix21, ix30, ix31, ix32, Pz.len1, Pz.len2, Pz.len3, List.length_nil, List.length_cons, sh_int, sh_bl, sh_non, Int.reduceEq, reduceCtorEq, decide_true, decide_false, sh_nil, eqv_nn, eqv_nilL, List.isEmpty_map, sh_lit, List.flatten_replicate_singleton, List.length_replicate, eqv_int, Nat.zero_le, szL, Nat.reduceLeDiff, Nat.reduceAdd, ↓ret1_d, ↓ret1_o0, ↓ret1_o1, ↓ret1_o2, ↓ret0_o0, ↓ret_d, cl_lst, true_and, and_true, decide_eq_true_eq, ↓oSl, ↓oSlO, ↓fLen, ↓fAbs, ↓fInt, ↓fMaxE, ↓fMinE, ↓fSumE, ↓Pz.fSumL, ↓fAll, ↓fAny, ↓fList, ↓fListO, ↓fListE, ↓fListEO, ↓fTuple, ↓fSortedE, ↓fSortedS, ↓fSortedG, ↓Pz.fSortedGO, ↓fRep, ↓fRepX, ↓fRepZ, ↓fRepW, ↓fBool, vwJ_l, vwJ_t, vwS_l, vwS_t, vwB, dsOf, tyD, ↓mAppend, ↓mExtend, ↓mPop, ↓mReverse, ↓mSplit, ↓mSplitO, ↓mStrip, ↓mLstrip, ↓mRstrip, ↓mStr2, ↓mPart, ↓mJoinE, frzS, frzX, ↓excOf_o, Pz.excOf_d, ↓oDGetX, List.map_cons, List.map_nil, List.getElem?_cons_zero, List.getElem?_cons_succ, List.cons_append, List.nil_append, Bool.false_eq_true, Bool.true_eq_false, ↓reduceIte, p10_3, p10_6, p10_7, p10_9, p10_12, Option.map, ↓aQ, ↓aQO, ↓aFO, borS, cleanS, noD, noDAll, atomD, ↓aXO, ↓oAddO, ↓oMulO, Option.some.injEq, exists_eq_left', exists_and_left, datO, datQ_d, ↓mCount, ↓mCountS, Bool.not_true, Bool.not_false, ↓F__law_draw, ↓F__law_made, ↓F__law_marks, ↓F__law_above, ↓F__law_above_due, ↓F__law_fields, ↓F__law_named, ↓F__law_caught]) | `(tactic| subst_vars) => `(tactic| simp -implicitDefEqProofs only [wipeS, ↓Pz.wC_ap, ↓Pz.wVar_ap, ↓Pz.wOp_ap, ↓Pz.wTest_ap, ↓Pz.wNil_ap, ↓Pz.wCons_ap, ↓Pz.wCall_ap, ↓Pz.wCallW_ap, ↓Pz.wApp_ap, ↓Pz.wLst_ap, ↓Pz.wTup_ap, ↓Pz.wLstO_ap, ↓Pz.wNoPart_ap, ↓Pz.wPart_ap, ↓Pz.wSl_ap, ↓Pz.wAnd_ap, ↓Pz.wOr_ap, ↓Pz.wNot_ap, ↓Pz.wAndV_ap, ↓Pz.wOrV_ap, ↓Pz.wNotV_ap, ↓Pz.wIfE_ap, ↓Pz.wTru_ap, ↓Pz.wChain_ap, ↓Pz.wNeg_ap, ↓Pz.wAug_ap, ↓Pz.gNm_ap, ↓Pz.gNl_ap, ↓Pz.gCn_ap, ↓Pz.gTp_ap, ↓Pz.wAsg_ap, ↓Pz.wItE_ap, ↓Pz.wRng1_ap, ↓Pz.wRng2_ap, ↓Pz.wYes_ap, ↓Pz.wLc_ap, ↓Pz.wLcO_ap, ↓Pz.wBM_ap, ↓Pz.wSetIx_ap, ↓Pz.wFrz_ap, ↓Pz.wCallF_ap, ↓Pz.wCallQ_ap, ↓Pz.wCallWF_ap, ↓Pz.wRev_ap, ↓Pz.wRg1_ap, ↓Pz.wRg2_ap, ↓Pz.wListRg_ap, ↓Pz.wRng3_ap, ↓Pz.wEnum_ap, ↓Pz.wZip_ap, ↓Pz.wCallQO_ap, ↓Pz.wDPut_ap, ↓Pz.wPNil_ap, ↓Pz.wPCons_ap, ↓Pz.wDisp_ap, ↓Pz.wDNew_ap, ↓Pz.wDNil_ap, ↓Pz.wEnumX_ap, ↓Pz.wCallE_ap, ↓Pz.wSlO_ap, ↓Pz.wEnumY_ap, ↓Pz.wDGet2_ap, ↓Pz.wMaxDf_ap, ↓Pz.wCallFO_ap, ↓Pz.wRevY_ap, ↓Pz.wFrzX_ap, ↓Pz.wSwp_ap, ↓Pz.wCallX_ap, ↓Pz.wCallXO_ap, ↓Pz.wCallWX_ap, ↓Pz.wRaise1_ap, ↓Pz.wRaise0_ap, ↓Pz.wTry_ap, ↓Pz.wIsE_ap, ↓Pz.wXf_ap, ↓Pz.wDispD_ap, ↓Pz.wSortLen_ap, ↓Pz.wGGet_ap, ↓Pz.wMinDf_ap, ↓Pz.wPar_ap, ↓Pz.wLam_ap, ↓Pz.wAct_ap, ↓Pz.wRep_ap, ↓Pz.wZipM_ap, ↓Pz.wZipN_ap, ↓Pz.wLenSet_ap, ↓Pz.wBor_ap, ↓Pz.gTpL_ap, ↓Pz.wTupRg_ap, ↓Pz.wRevS_ap, ↓Pz.wFmt_ap, ↓Pz.wJoined_ap, ↓Pz.wAsgS_ap, ↓Pz.wPar3_ap, ↓Pz.wDc_ap, ↓Pz.wDcT_ap, ↓Pz.wDGet3_ap, ↓Pz.wListV_ap, ↓Pz.wSumV_ap, ↓Pz.wDIn_ap, ↓Pz.wTGet2_ap, ↓Pz.wTPut_ap, ↓Pz.wDAug_ap, ↓Pz.wFrzL_ap, ↓Pz.wItV_ap, ↓Pz.wItI_ap, ↓Pz.wItK_ap, ↓Pz.wDisp1_ap, ↓Pz.wBorD_ap, ↓Pz.wDNewT_ap, ↓Pz.wCallFD_ap, ↓Pz.wDNew_ap, ↓Pz.wItC_ap, ↓Pz.wCallXE_ap, ↓Pz.wTSetd_ap, ↓Pz.wListRgO_ap, ↓Pz.wTryC_ap, ↓Pz.wTry2_ap, ↓Pz.wRepl_ap, ↓Pz.wThaw_ap, ↓Pz.wBorN_ap, ↓Pz.wZip3_ap, ↓Pz.wLcX_ap, ↓Pz.wLcXO_ap, ↓Pz.wMk0_ap, ↓Pz.wMk1_ap, ↓Pz.wMk3_ap, ↓Pz.wMk3A_ap, ↓Pz.wRaise3B_ap, ↓Pz.wTryA_ap, ↓Pz.wTryA3_ap, ↓Pz.wMinLen_ap, ↓Pz.wDNewN_ap, ↓Pz.wNSetd_ap, ↓Pz.wFrzN_ap, Pz.setAll, ↓Pz.wClose_ap, ↓Pz.wSetIxO_ap, ↓Pz.oIxS_ap, ↓Pz.wRaise3_ap, ↓Pz.oMulT_ap, Pz.dkX, Pz.unKD_kdD, Option.isSome_some, ↓Pz.wOrX_apS, ↓Pz.wAndX_apS, ↓Pz.orP_str, Pz.orP_some, Pz.orP_none, ↓oTGet, ↓oLtS, ↓oLtT, ↓fListKy, ↓fSortKy, ↓fLenD_o, ↓Pz.aFD, Pz.unD_K, Pz.unD_T, Pz.kyS_t, Pz.keysL_nil, Pz.keysL_ci, Pz.keysL_cs, ↓Pz.dtAt_o, Pz.dtAt_L, ↓Pz.dkAny_o, Pz.dkAny_D, Pz.dkAny_L, ↓Pz.dvAt_o, Pz.dvAt_D, Pz.dvAt_L, Pz.dvAt_T, ↓Pz.dkyS_o, Pz.dkyS_D, Pz.dkyS_L, Pz.dkyS_T, ↓Pz.dinS_o, Pz.dinS_D, Pz.dinS_L, Pz.dinS_T, Pz.lkP_K, Pz.lkP_T, Pz.lkV_K, Pz.lkV_T, Pz.lkV_N, ↓Pz.dnAt_o, Pz.oK_n, Pz.oK_i, ↓ret1_dT, cl_dt, Pz.lkOf_K, Pz.lkOf_T, Pz.xor_f, Pz.xor_t, Pz.hasD_int, Option.bind, Option.bind_some, List.set, ↓seq_mk, ↓wTrim_mk, trimS, List.take_succ_cons, List.take_zero, Nat.reduceLT, ↓nx_mk, ↓set_mk, ↓if_mk, nthS, ↓oEq, ↓oNe, vw, ↓oAdd, ↓oSub, ↓oIadd, ↓oDGet, keyOf_str, keyOf_int, keyS_str, keyS_int, ↓dkAt_o, valE_cells, valE_at, valE_left, putE_at, putE_left, mergeE, mergeD1, kvD1, keyD_s, keyD_i, ret1_dE, cl_dk, ↓fIsi, ↓fDivmod, ↓fStr, Pz.okT_int, Pz.is_int_none, Pz.is_int_bool, Pz.is_int_int, Pz.is_int_str, Pz.is_int_list, Pz.is_int_tuple, Pz.is_int_dict, Pz.okT_bool, Pz.is_bool_none, Pz.is_bool_bool, Pz.is_bool_int, Pz.is_bool_str, Pz.is_bool_list, Pz.is_bool_tuple, Pz.is_bool_dict, Pz.okT_str, Pz.is_str_none, Pz.is_str_bool, Pz.is_str_int, Pz.is_str_str, Pz.is_str_list, Pz.is_str_tuple, Pz.is_str_dict, Pz.okT_tuple, Pz.is_tuple_none, Pz.is_tuple_bool, Pz.is_tuple_int, Pz.is_tuple_str, Pz.is_tuple_list, Pz.is_tuple_tuple, Pz.is_tuple_dict, Pz.okT_list, Pz.is_list_none, Pz.is_list_bool, Pz.is_list_int, Pz.is_list_str, Pz.is_list_list, Pz.is_list_tuple, Pz.is_list_dict, Pz.is_dict_none, Pz.is_dict_bool, Pz.is_dict_int, Pz.is_dict_str, Pz.is_dict_list, Pz.is_dict_tuple, Pz.is_dict_dict, ↓oFdiv, ↓oMod, ↓oMul, ↓oPow, ↓oBool, ↓oII, ↓oIsN, ↓oNotN, ↓oIn, ↓oInX, ↓oInQ, ↓oInT, ↓oIsB, ↓oIsBN, ↓oNotB, noneS, ↓ret_mk, ↓retN_mk, ↓bk_mk, ↓ct_mk, ↓expr_mk, ↓for_mk, truD, ↓oIxE, ↓mPopAt, ↓mIndex, ↓mInsert, ↓fIntS, ↓fStrN, ↓Pz.wJs_cons, ↓Pz.wJs_nil, at0, at1, at2, at3, ix10, ix20, ix21, ix30, ix31, ix32, Pz.len1, Pz.len2, Pz.len3, List.length_nil, List.length_cons, sh_int, sh_bl, sh_non, Int.reduceEq, reduceCtorEq, decide_true, decide_false, sh_nil, eqv_nn, eqv_nilL, List.isEmpty_map, sh_lit, List.flatten_replicate_singleton, List.length_replicate, eqv_int, Nat.zero_le, szL, Nat.reduceLeDiff, Nat.reduceAdd, ↓ret1_d, ↓ret1_o0, ↓ret1_o1, ↓ret1_o2, ↓ret0_o0, ↓ret_d, cl_lst, true_and, and_true, decide_eq_true_eq, ↓oSl, ↓oSlO, ↓fLen, ↓fAbs, ↓fInt, ↓fMaxE, ↓fMinE, ↓fSumE, ↓Pz.fSumL, ↓fAll, ↓fAny, ↓fList, ↓fListO, ↓fListE, ↓fListEO, ↓fTuple, ↓fSortedE, ↓fSortedS, ↓fSortedG, ↓Pz.fSortedGO, ↓fRep, ↓fRepX, ↓fRepZ, ↓fRepW, ↓fBool, vwJ_l, vwJ_t, vwS_l, vwS_t, vwB, dsOf, tyD, ↓mAppend, ↓mExtend, ↓mPop, ↓mReverse, ↓mSplit, ↓mSplitO, ↓mStrip, ↓mLstrip, ↓mRstrip, ↓mStr2, ↓mPart, ↓mJoinE, frzS, frzX, ↓excOf_o, Pz.excOf_d, ↓oDGetX, List.map_cons, List.map_nil, List.getElem?_cons_zero, List.getElem?_cons_succ, List.cons_append, List.nil_append, Bool.false_eq_true, Bool.true_eq_false, ↓reduceIte, p10_3, p10_6, p10_7, p10_9, p10_12, Option.map, ↓aQ, ↓aQO, ↓aFO, borS, cleanS, noD, noDAll, atomD, ↓aXO, ↓oAddO, ↓oMulO, Option.some.injEq, exists_eq_left', exists_and_left, datO, datQ_d, ↓mCount, ↓mCountS, Bool.not_true, Bool.not_false, ↓F__law_draw, ↓F__law_made, ↓F__law_marks, ↓F__law_above, ↓F__law_above_due, ↓F__law_fields, ↓F__law_named, ↓F__law_caught])
theorem ok__law_pen (T : Tx K mg f__law_pen f__law_draw f__law_made f__law_marks f__law_above f__law_above_due f__law_fields f__law_named f__law_caught f_law fd__law_pen fd__law_draw fd__law_made fd__law_marks fd__law_above fd__law_above_due fd__law_fields fd__law_named fd__law_caught fd_law) : FnD P w K mg base CX0 1 f__law_pen fd__law_pen ["_law_script"] sp__law_pen := by
  refine FnD.of0 T.d__law_pen.F sc__law_pen 0 _ (fun cdv A outer s H E Z0 hA hr hz => (dss_one (ds_ret (de_lstO (da_cons (de_callTy cd_listE (call_listE rfl) rfl T.b_list (by decide +kernel) (da_cons (de_slice (de_v 0 (pv 0)) dpo_none (dpo_some de_int)) da_nil)) (da_cons de_int (da_cons de_int da_nil))))))) ?_
  refine e1 fun a cs Qd Ed => ?_
  rintro ⟨ns, rfl, rfl, q⟩
  refine ⟨rfl, ?_⟩
  simp only [st__law_pen, ↓Pz.wC_ap, ↓Pz.wVar_ap, ↓Pz.wOp_ap, ↓Pz.wTest_ap, ↓Pz.wNil_ap, ↓Pz.wCons_ap, ↓Pz.wCall_ap, ↓Pz.wCallW_ap, ↓Pz.wApp_ap, ↓Pz.wLst_ap, ↓Pz.wTup_ap, ↓Pz.wLstO_ap, ↓Pz.wNoPart_ap, ↓Pz.wPart_ap, ↓Pz.wSl_ap, ↓Pz.wAnd_ap, ↓Pz.wOr_ap, ↓Pz.wNot_ap, ↓Pz.wAndV_ap, ↓Pz.wOrV_ap, ↓Pz.wNotV_ap, ↓Pz.wIfE_ap, ↓Pz.wTru_ap, ↓Pz.wChain_ap, ↓Pz.wNeg_ap, ↓Pz.wAug_ap, ↓Pz.gNm_ap, ↓Pz.gNl_ap, ↓Pz.gCn_ap, ↓Pz.gTp_ap, ↓Pz.wAsg_ap, ↓Pz.wItE_ap, ↓Pz.wRng1_ap, ↓Pz.wRng2_ap, ↓Pz.wYes_ap, ↓Pz.wLc_ap, ↓Pz.wLcO_ap, ↓Pz.wBM_ap, ↓Pz.wSetIx_ap, ↓Pz.wFrz_ap, ↓Pz.wCallF_ap, ↓Pz.wCallQ_ap, ↓Pz.wCallWF_ap, ↓Pz.wRev_ap, ↓Pz.wRg1_ap, ↓Pz.wRg2_ap, ↓Pz.wListRg_ap, ↓Pz.wRng3_ap, ↓Pz.wEnum_ap, ↓Pz.wZip_ap, ↓Pz.wCallQO_ap, ↓Pz.wDPut_ap, ↓Pz.wPNil_ap, ↓Pz.wPCons_ap, ↓Pz.wDisp_ap, ↓Pz.wDNew_ap, ↓Pz.wDNil_ap, ↓Pz.wEnumX_ap, ↓Pz.wCallE_ap, ↓Pz.wSlO_ap, ↓Pz.wEnumY_ap, ↓Pz.wDGet2_ap, ↓Pz.wMaxDf_ap, ↓Pz.wCallFO_ap, ↓Pz.wRevY_ap, ↓Pz.wFrzX_ap, ↓Pz.wSwp_ap, ↓Pz.wCallX_ap, ↓Pz.wCallXO_ap, ↓Pz.wCallWX_ap, ↓Pz.wRaise1_ap, ↓Pz.wRaise0_ap, ↓Pz.wTry_ap, ↓Pz.wIsE_ap, ↓Pz.wXf_ap, ↓Pz.wDispD_ap, ↓Pz.wSortLen_ap, ↓Pz.wGGet_ap, ↓Pz.wMinDf_ap, ↓Pz.wPar_ap, ↓Pz.wLam_ap, ↓Pz.wAct_ap, ↓Pz.wRep_ap, ↓Pz.wZipM_ap, ↓Pz.wZipN_ap, ↓Pz.wLenSet_ap, ↓Pz.wBor_ap, ↓Pz.gTpL_ap, ↓Pz.wTupRg_ap, ↓Pz.wRevS_ap, ↓Pz.wFmt_ap, ↓Pz.wJoined_ap, ↓Pz.wAsgS_ap, ↓Pz.wPar3_ap, ↓Pz.wDc_ap, ↓Pz.wDcT_ap, ↓Pz.wDGet3_ap, ↓Pz.wListV_ap, ↓Pz.wSumV_ap, ↓Pz.wDIn_ap, ↓Pz.wTGet2_ap, ↓Pz.wTPut_ap, ↓Pz.wDAug_ap, ↓Pz.wFrzL_ap, ↓Pz.wItV_ap, ↓Pz.wItI_ap, ↓Pz.wItK_ap, ↓Pz.wDisp1_ap, ↓Pz.wBorD_ap, ↓Pz.wDNewT_ap, ↓Pz.wCallFD_ap, ↓Pz.wDNew_ap, ↓Pz.wItC_ap, ↓Pz.wCallXE_ap, ↓Pz.wTSetd_ap, ↓Pz.wListRgO_ap, ↓Pz.wTryC_ap, ↓Pz.wTry2_ap, ↓Pz.wRepl_ap, ↓Pz.wThaw_ap, ↓Pz.wBorN_ap, ↓Pz.wZip3_ap, ↓Pz.wLcX_ap, ↓Pz.wLcXO_ap, ↓Pz.wMk0_ap, ↓Pz.wMk1_ap, ↓Pz.wMk3_ap, ↓Pz.wMk3A_ap, ↓Pz.wRaise3B_ap, ↓Pz.wTryA_ap, ↓Pz.wTryA3_ap, ↓Pz.wMinLen_ap, ↓Pz.wDNewN_ap, ↓Pz.wNSetd_ap, ↓Pz.wFrzN_ap, Pz.setAll, ↓Pz.wClose_ap, ↓Pz.wSetIxO_ap, ↓Pz.oIxS_ap, ↓Pz.wRaise3_ap, ↓Pz.oMulT_ap, Pz.dkX, Pz.unKD_kdD, Option.isSome_some, ↓Pz.wOrX_apS, ↓Pz.wAndX_apS, ↓Pz.orP_str, Pz.orP_some, Pz.orP_none, ↓oTGet, ↓oLtS, ↓oLtT, ↓fListKy, ↓fSortKy, ↓fLenD_o, ↓Pz.aFD, Pz.unD_K, Pz.unD_T, Pz.kyS_t, Pz.keysL_nil, Pz.keysL_ci, Pz.keysL_cs, ↓Pz.dtAt_o, Pz.dtAt_L, ↓Pz.dkAny_o, Pz.dkAny_D, Pz.dkAny_L, ↓Pz.dvAt_o, Pz.dvAt_D, Pz.dvAt_L, Pz.dvAt_T, ↓Pz.dkyS_o, Pz.dkyS_D, Pz.dkyS_L, Pz.dkyS_T, ↓Pz.dinS_o, Pz.dinS_D, Pz.dinS_L, Pz.dinS_T, Pz.lkP_K, Pz.lkP_T, Pz.lkV_K, Pz.lkV_T, Pz.lkV_N, ↓Pz.dnAt_o, Pz.oK_n, Pz.oK_i, ↓ret1_dT, cl_dt, Pz.lkOf_K, Pz.lkOf_T, Pz.xor_f, Pz.xor_t, Pz.hasD_int, Option.bind, Option.bind_some, List.set, ↓seq_mk, ↓wTrim_mk, trimS, List.take_succ_cons, List.take_zero, Nat.reduceLT, ↓nx_mk, ↓set_mk, ↓if_mk, nthS, ↓oEq, ↓oNe, vw, ↓oAdd, ↓oSub, ↓oIadd, ↓oDGet, keyOf_str, keyOf_int, keyS_str, keyS_int, ↓dkAt_o, valE_cells, valE_at, valE_left, putE_at, putE_left, mergeE, mergeD1, kvD1, keyD_s, keyD_i, ret1_dE, cl_dk, ↓fIsi, ↓fDivmod, ↓fStr, Pz.okT_int, Pz.is_int_none, Pz.is_int_bool, Pz.is_int_int, Pz.is_int_str, Pz.is_int_list, Pz.is_int_tuple, Pz.is_int_dict, Pz.okT_bool, Pz.is_bool_none, Pz.is_bool_bool, Pz.is_bool_int, Pz.is_bool_str, Pz.is_bool_list, Pz.is_bool_tuple, Pz.is_bool_dict, Pz.okT_str, Pz.is_str_none, Pz.is_str_bool, Pz.is_str_int, Pz.is_str_str, Pz.is_str_list, Pz.is_str_tuple, Pz.is_str_dict, Pz.okT_tuple, Pz.is_tuple_none, Pz.is_tuple_bool, Pz.is_tuple_int, Pz.is_tuple_str, Pz.is_tuple_list, Pz.is_tuple_tuple, Pz.is_tuple_dict, Pz.okT_list, Pz.is_list_none, Pz.is_list_bool, Pz.is_list_int, Pz.is_list_str, Pz.is_list_list, Pz.is_list_tuple, Pz.is_list_dict, Pz.is_dict_none, Pz.is_dict_bool, Pz.is_dict_int, Pz.is_dict_str, Pz.is_dict_list, Pz.is_dict_tuple, Pz.is_dict_dict, ↓oFdiv, ↓oMod, ↓oMul, ↓oPow, ↓oBool, ↓oII, ↓oIsN, ↓oNotN, ↓oIn, ↓oInX, ↓oInQ, ↓oInT, ↓oIsB, ↓oIsBN, ↓oNotB, noneS, ↓ret_mk, ↓retN_mk, ↓bk_mk, ↓ct_mk, ↓expr_mk, ↓for_mk, truD, ↓oIxE, ↓mPopAt, ↓mIndex, ↓mInsert, ↓fIntS, ↓fStrN, ↓Pz.wJs_cons, ↓Pz.wJs_nil, at0, at1, at2, at3, ix10, ix20, ix21, ix30, ix31, ix32, Pz.len1, Pz.len2, Pz.len3, List.length_nil, List.length_cons, sh_int, sh_bl, sh_non, Int.reduceEq, reduceCtorEq, decide_true, decide_false, sh_nil, eqv_nn, eqv_nilL, List.isEmpty_map, sh_lit, List.flatten_replicate_singleton, List.length_replicate, eqv_int, Nat.zero_le, szL, Nat.reduceLeDiff, Nat.reduceAdd, ↓ret1_d, ↓ret1_o0, ↓ret1_o1, ↓ret1_o2, ↓ret0_o0, ↓ret_d, cl_lst, true_and, and_true, decide_eq_true_eq, ↓oSl, ↓oSlO, ↓fLen, ↓fAbs, ↓fInt, ↓fMaxE, ↓fMinE, ↓fSumE, ↓Pz.fSumL, ↓fAll, ↓fAny, ↓fList, ↓fListO, ↓fListE, ↓fListEO, ↓fTuple, ↓fSortedE, ↓fSortedS, ↓fSortedG, ↓Pz.fSortedGO, ↓fRep, ↓fRepX, ↓fRepZ, ↓fRepW, ↓fBool, vwJ_l, vwJ_t, vwS_l, vwS_t, vwB, dsOf, tyD, ↓mAppend, ↓mExtend, ↓mPop, ↓mReverse, ↓mSplit, ↓mSplitO, ↓mStrip, ↓mLstrip, ↓mRstrip, ↓mStr2, ↓mPart, ↓mJoinE, frzS, frzX, ↓excOf_o, Pz.excOf_d, ↓oDGetX, List.map_cons, List.map_nil, List.getElem?_cons_zero, List.getElem?_cons_succ, List.cons_append, List.nil_append, Bool.false_eq_true, Bool.true_eq_false, ↓reduceIte, p10_3, p10_6, p10_7, p10_9, p10_12, Option.map, ↓aQ, ↓aQO, ↓aFO, borS, cleanS, noD, noDAll, atomD, ↓aXO, ↓oAddO, ↓oMulO, Option.some.injEq, exists_eq_left', exists_and_left, datO, datQ_d, ↓mCount, ↓mCountS, Bool.not_true, Bool.not_false, ↓F__law_draw, ↓F__law_made, ↓F__law_marks, ↓F__law_above, ↓F__law_above_due, ↓F__law_fields, ↓F__law_named, ↓F__law_caught]
  refine q _ ⟨_, 0, 0, rfl, ?_, by omega, by omega, by omega⟩
  rw [show Pz.cutD ns none (some 63) = (ns.drop 0).take (HT.sIx ns.length ns.length (some 63) - 0) from rfl, List.length_take]
  have : HT.sIx ns.length ns.length (some 63) ≤ 63 := by
    simp [HT.sIx]
    omega
  omega
theorem ok__law_draw (T : Tx K mg f__law_pen f__law_draw f__law_made f__law_marks f__law_above f__law_above_due f__law_fields f__law_named f__law_caught f_law fd__law_pen fd__law_draw fd__law_made fd__law_marks fd__law_above fd__law_above_due fd__law_fields fd__law_named fd__law_caught fd_law) : FnD P w K mg base CX0 1 f__law_draw fd__law_draw ["_law_pen_here", "_law_bound"] sp__law_draw := by
  refine FnD.of0 T.d__law_draw.F sc__law_draw 1 _ (fun cdv A outer s H E Z0 hA hr hz => (dss_cons (ds_if (dt_cmp d2_bool op_gt (de_ixE (de_v 0 (pv 0)) de_int) de_int (nomark _)) (dss_cons (ds_set 5 sc__law_draw.nd (de_op d2_mod op_mod (de_ixE (de_v 0 (pv 0)) de_int) (de_v 1 (pv 1))))
      (dss_cons (ds_setIx (de_op d2_fdiv op_fdivW (de_ixE (de_v 0 (pv 0)) de_int) (de_v 1 (pv 1))) (de_v 0 (pv 0)) de_int)
      (dss_one (ds_ret (de_v 5 (pv 5)))))) dss_nil)
      (dss_cons (ds_set 2 sc__law_draw.nd (de_ixE (de_v 0 (pv 0)) de_int))
      (dss_cons (ds_setIx (de_op d2_add op_addR (de_v 2 (pv 2)) de_int) (de_v 0 (pv 0)) de_int)
      (dss_cons (ds_set 3 sc__law_draw.nd (de_op d2_add op_addR (de_op d2_mul op_mulR de_int (de_v 2 (pv 2))) de_int))
      (dss_cons (ds_if (dt_cmp d2_ne (op_neD hr.units) (de_ixE (de_v 0 (pv 0)) de_int) (de_lst da_nil) (nomark _)) (dss_one (ds_set 3 sc__law_draw.nd (de_ixE (de_ixE (de_v 0 (pv 0)) de_int) (de_op d2_mod op_mod (de_v 2 (pv 2)) (de_callB cd_len call_len rfl T.b_len (by decide +kernel) (da_cons (de_ixE (de_v 0 (pv 0)) de_int) da_nil)))))) dss_nil)
      (dss_cons (ds_if (DWs.dt (dw_and (dt_cmp d2_bool op_lt (de_v 2 (pv 2)) (de_callB cd_len call_len rfl T.b_len (by decide +kernel) (da_cons (de_ixE (de_v 0 (pv 0)) de_int) da_nil)) (nomark _)) (dw_and1 (dt_cmp d2_bool op_ge (de_callB cd_abs call_abs rfl T.b_abs (by decide +kernel) (da_cons (de_v 3 (pv 3)) da_nil)) (de_op d2_pow op_pow de_int de_int) (nomark _))))) (dss_cons (ds_set 6 sc__law_draw.nd (de_op d2_add op_addR (de_op d2_mul op_mulR de_int (de_callB cd_abs call_abs rfl T.b_abs (by decide +kernel) (da_cons (de_v 3 (pv 3)) da_nil))) (de_callTy cd_int call_int1 rfl T.b_int (by decide +kernel) (da_cons (de_cmp d2_bool op_lt (de_v 3 (pv 3)) de_int (nomark _)) da_nil))))
      (dss_cons (ds_setIx (de_op d2_fdiv op_fdivW (de_v 6 (pv 6)) (de_v 1 (pv 1))) (de_v 0 (pv 0)) de_int)
      (dss_one (ds_ret (de_op d2_mod op_mod (de_v 6 (pv 6)) (de_v 1 (pv 1))))))) dss_nil)
      (dss_cons (ds_set 4 sc__law_draw.nd (de_op d2_mod op_mod (de_op d2_pow op_pow (de_op d2_add op_addR (de_op d2_add op_addR (de_op d2_mod op_mod (de_v 3 (pv 3)) de_int) (de_op d2_mul op_mulR de_int (de_v 2 (pv 2)))) de_int) de_int) de_int))
      (dss_cons (ds_set 4 sc__law_draw.nd (de_op d2_mod op_mod (de_op d2_pow op_pow (de_op d2_add op_addR (de_op d2_mul op_mulR (de_v 4 (pv 4)) (de_op d2_add op_addR (de_op d2_mul op_mulR de_int (de_v 2 (pv 2))) de_int)) de_int) de_int) de_int))
      (dss_one (ds_ret (de_op d2_mod op_mod (de_op d2_fdiv op_fdivW (de_v 4 (pv 4)) de_int) (de_v 1 (pv 1)))))))))))))) ?_
  refine ho__law_draw fun m c n Qd p hn ⟨h6, h7⟩ q => ?_
  obtain ⟨ds, i, l, rfl, h1, h2, h3, h4⟩ := p
  have i0 : i ≤ 1000000 := by omega
  have q' : ∀ j l', 0 ≤ l' → (j = i ∨ j = i + 1) → ∀ r, Qd (.d (.int (r % m))) [.lst [.list (ds.map .int), .int j, .int l']] := fun j l' z e r => q _ (Int.emod_nonneg _ (by omega)) (Int.emod_lt_of_pos _ h6) _ ⟨ds, j, l', rfl, h1, by omega, by omega, z⟩
  have q2 : ∀ x : Int, (SmallI 50021 ∨ SmallI i) ∧ CPow (x % 2147483549 + 50021 * i + 43) 3 ∧ (0 : Int) < 2147483579 ∧ (SmallI 2 ∨ SmallI i) ∧ (SmallI ((x % 2147483549 + 50021 * i + 43) ^ Int.toNat 3 % 2147483579) ∨ SmallI (2 * i + 7)) ∧
      CPow ((x % 2147483549 + 50021 * i + 43) ^ Int.toNat 3 % 2147483579 * (2 * i + 7) + 80039) 3 ∧ (0 : Int) < 2147483629 ∧ CDivW (((x % 2147483549 + 50021 * i + 43) ^ Int.toNat 3 % 2147483579 * (2 * i + 7) + 80039) ^ Int.toNat 3 % 2147483629) 16 ∧ 0 < m ∧
      Qd (.d (.int (((x % 2147483549 + 50021 * i + 43) ^ Int.toNat 3 % 2147483579 * (2 * i + 7) + 80039) ^ Int.toNat 3 % 2147483629 / 16 % m))) [.lst [.list (ds.map .int), .int (i + 1), .int l]] :=
    fun x => ⟨.inl (small (by omega) (by omega)), mix1 h2 (by omega), by omega, .inl (small (by omega) (by omega)), .inr (small (by omega) (by omega)), mix2 h2 (by omega), by omega, cdw (by omega) (by omega), h6, q' _ _ h4 (.inr rfl) _⟩
  simp only [st__law_draw, ↓Pz.wC_ap, ↓Pz.wVar_ap, ↓Pz.wOp_ap, ↓Pz.wTest_ap, ↓Pz.wNil_ap, ↓Pz.wCons_ap, ↓Pz.wCall_ap, ↓Pz.wCallW_ap, ↓Pz.wApp_ap, ↓Pz.wLst_ap, ↓Pz.wTup_ap, ↓Pz.wLstO_ap, ↓Pz.wNoPart_ap, ↓Pz.wPart_ap, ↓Pz.wSl_ap, ↓Pz.wAnd_ap, ↓Pz.wOr_ap, ↓Pz.wNot_ap, ↓Pz.wAndV_ap, ↓Pz.wOrV_ap, ↓Pz.wNotV_ap, ↓Pz.wIfE_ap, ↓Pz.wTru_ap, ↓Pz.wChain_ap, ↓Pz.wNeg_ap, ↓Pz.wAug_ap, ↓Pz.gNm_ap, ↓Pz.gNl_ap, ↓Pz.gCn_ap, ↓Pz.gTp_ap, ↓Pz.wAsg_ap, ↓Pz.wItE_ap, ↓Pz.wRng1_ap, ↓Pz.wRng2_ap, ↓Pz.wYes_ap, ↓Pz.wLc_ap, ↓Pz.wLcO_ap, ↓Pz.wBM_ap, ↓Pz.wSetIx_ap, ↓Pz.wFrz_ap, ↓Pz.wCallF_ap, ↓Pz.wCallQ_ap, ↓Pz.wCallWF_ap, ↓Pz.wRev_ap, ↓Pz.wRg1_ap, ↓Pz.wRg2_ap, ↓Pz.wListRg_ap, ↓Pz.wRng3_ap, ↓Pz.wEnum_ap, ↓Pz.wZip_ap, ↓Pz.wCallQO_ap, ↓Pz.wDPut_ap, ↓Pz.wPNil_ap, ↓Pz.wPCons_ap, ↓Pz.wDisp_ap, ↓Pz.wDNew_ap, ↓Pz.wDNil_ap, ↓Pz.wEnumX_ap, ↓Pz.wCallE_ap, ↓Pz.wSlO_ap, ↓Pz.wEnumY_ap, ↓Pz.wDGet2_ap, ↓Pz.wMaxDf_ap, ↓Pz.wCallFO_ap, ↓Pz.wRevY_ap, ↓Pz.wFrzX_ap, ↓Pz.wSwp_ap, ↓Pz.wCallX_ap, ↓Pz.wCallXO_ap, ↓Pz.wCallWX_ap, ↓Pz.wRaise1_ap, ↓Pz.wRaise0_ap, ↓Pz.wTry_ap, ↓Pz.wIsE_ap, ↓Pz.wXf_ap, ↓Pz.wDispD_ap, ↓Pz.wSortLen_ap, ↓Pz.wGGet_ap, ↓Pz.wMinDf_ap, ↓Pz.wPar_ap, ↓Pz.wLam_ap, ↓Pz.wAct_ap, ↓Pz.wRep_ap, ↓Pz.wZipM_ap, ↓Pz.wZipN_ap, ↓Pz.wLenSet_ap, ↓Pz.wBor_ap, ↓Pz.gTpL_ap, ↓Pz.wTupRg_ap, ↓Pz.wRevS_ap, ↓Pz.wFmt_ap, ↓Pz.wJoined_ap, ↓Pz.wAsgS_ap, ↓Pz.wPar3_ap, ↓Pz.wDc_ap, ↓Pz.wDcT_ap, ↓Pz.wDGet3_ap, ↓Pz.wListV_ap, ↓Pz.wSumV_ap, ↓Pz.wDIn_ap, ↓Pz.wTGet2_ap, ↓Pz.wTPut_ap, ↓Pz.wDAug_ap, ↓Pz.wFrzL_ap, ↓Pz.wItV_ap, ↓Pz.wItI_ap, ↓Pz.wItK_ap, ↓Pz.wDisp1_ap, ↓Pz.wBorD_ap, ↓Pz.wDNewT_ap, ↓Pz.wCallFD_ap, ↓Pz.wDNew_ap, ↓Pz.wItC_ap, ↓Pz.wCallXE_ap, ↓Pz.wTSetd_ap, ↓Pz.wListRgO_ap, ↓Pz.wTryC_ap, ↓Pz.wTry2_ap, ↓Pz.wRepl_ap, ↓Pz.wThaw_ap, ↓Pz.wBorN_ap, ↓Pz.wZip3_ap, ↓Pz.wLcX_ap, ↓Pz.wLcXO_ap, ↓Pz.wMk0_ap, ↓Pz.wMk1_ap, ↓Pz.wMk3_ap, ↓Pz.wMk3A_ap, ↓Pz.wRaise3B_ap, ↓Pz.wTryA_ap, ↓Pz.wTryA3_ap, ↓Pz.wMinLen_ap, ↓Pz.wDNewN_ap, ↓Pz.wNSetd_ap, ↓Pz.wFrzN_ap, Pz.setAll, ↓Pz.wClose_ap, ↓Pz.wSetIxO_ap, ↓Pz.oIxS_ap, ↓Pz.wRaise3_ap, ↓Pz.oMulT_ap, Pz.dkX, Pz.unKD_kdD, Option.isSome_some, ↓Pz.wOrX_apS, ↓Pz.wAndX_apS, ↓Pz.orP_str, Pz.orP_some, Pz.orP_none, ↓oTGet, ↓oLtS, ↓oLtT, ↓fListKy, ↓fSortKy, ↓fLenD_o, ↓Pz.aFD, Pz.unD_K, Pz.unD_T, Pz.kyS_t, Pz.keysL_nil, Pz.keysL_ci, Pz.keysL_cs, ↓Pz.dtAt_o, Pz.dtAt_L, ↓Pz.dkAny_o, Pz.dkAny_D, Pz.dkAny_L, ↓Pz.dvAt_o, Pz.dvAt_D, Pz.dvAt_L, Pz.dvAt_T, ↓Pz.dkyS_o, Pz.dkyS_D, Pz.dkyS_L, Pz.dkyS_T, ↓Pz.dinS_o, Pz.dinS_D, Pz.dinS_L, Pz.dinS_T, Pz.lkP_K, Pz.lkP_T, Pz.lkV_K, Pz.lkV_T, Pz.lkV_N, ↓Pz.dnAt_o, Pz.oK_n, Pz.oK_i, ↓ret1_dT, cl_dt, Pz.lkOf_K, Pz.lkOf_T, Pz.xor_f, Pz.xor_t, Pz.hasD_int, Option.bind, Option.bind_some, List.set, ↓seq_mk, ↓wTrim_mk, trimS, List.take_succ_cons, List.take_zero, Nat.reduceLT, ↓nx_mk, ↓set_mk, ↓if_mk, nthS, ↓oEq, ↓oNe, vw, ↓oAdd, ↓oSub, ↓oIadd, ↓oDGet, keyOf_str, keyOf_int, keyS_str, keyS_int, ↓dkAt_o, valE_cells, valE_at, valE_left, putE_at, putE_left, mergeE, mergeD1, kvD1, keyD_s, keyD_i, ret1_dE, cl_dk, ↓fIsi, ↓fDivmod, ↓fStr, Pz.okT_int, Pz.is_int_none, Pz.is_int_bool, Pz.is_int_int, Pz.is_int_str, Pz.is_int_list, Pz.is_int_tuple, Pz.is_int_dict, Pz.okT_bool, Pz.is_bool_none, Pz.is_bool_bool, Pz.is_bool_int, Pz.is_bool_str, Pz.is_bool_list, Pz.is_bool_tuple, Pz.is_bool_dict, Pz.okT_str, Pz.is_str_none, Pz.is_str_bool, Pz.is_str_int, Pz.is_str_str, Pz.is_str_list, Pz.is_str_tuple, Pz.is_str_dict, Pz.okT_tuple, Pz.is_tuple_none, Pz.is_tuple_bool, Pz.is_tuple_int, Pz.is_tuple_str, Pz.is_tuple_list, Pz.is_tuple_tuple, Pz.is_tuple_dict, Pz.okT_list, Pz.is_list_none, Pz.is_list_bool, Pz.is_list_int, Pz.is_list_str, Pz.is_list_list, Pz.is_list_tuple, Pz.is_list_dict, Pz.is_dict_none, Pz.is_dict_bool, Pz.is_dict_int, Pz.is_dict_str, Pz.is_dict_list, Pz.is_dict_tuple, Pz.is_dict_dict, ↓oFdiv, ↓oMod, ↓oMul, ↓oPow, ↓oBool, ↓oII, ↓oIsN, ↓oNotN, ↓oIn, ↓oInX, ↓oInQ, ↓oInT, ↓oIsB, ↓oIsBN, ↓oNotB, noneS, ↓ret_mk, ↓retN_mk, ↓bk_mk, ↓ct_mk, ↓expr_mk, ↓for_mk, truD, ↓oIxE, ↓mPopAt, ↓mIndex, ↓mInsert, ↓fIntS, ↓fStrN, ↓Pz.wJs_cons, ↓Pz.wJs_nil, at0, at1, at2, at3, ix10, ix20, ix21, ix30, ix31, ix32, Pz.len1, Pz.len2, Pz.len3, List.length_nil, List.length_cons, sh_int, sh_bl, sh_non, Int.reduceEq, reduceCtorEq, decide_true, decide_false, sh_nil, eqv_nn, eqv_nilL, List.isEmpty_map, sh_lit, List.flatten_replicate_singleton, List.length_replicate, eqv_int, Nat.zero_le, szL, Nat.reduceLeDiff, Nat.reduceAdd, ↓ret1_d, ↓ret1_o0, ↓ret1_o1, ↓ret1_o2, ↓ret0_o0, ↓ret_d, cl_lst, true_and, and_true, decide_eq_true_eq, ↓oSl, ↓oSlO, ↓fLen, ↓fAbs, ↓fInt, ↓fMaxE, ↓fMinE, ↓fSumE, ↓Pz.fSumL, ↓fAll, ↓fAny, ↓fList, ↓fListO, ↓fListE, ↓fListEO, ↓fTuple, ↓fSortedE, ↓fSortedS, ↓fSortedG, ↓Pz.fSortedGO, ↓fRep, ↓fRepX, ↓fRepZ, ↓fRepW, ↓fBool, vwJ_l, vwJ_t, vwS_l, vwS_t, vwB, dsOf, tyD, ↓mAppend, ↓mExtend, ↓mPop, ↓mReverse, ↓mSplit, ↓mSplitO, ↓mStrip, ↓mLstrip, ↓mRstrip, ↓mStr2, ↓mPart, ↓mJoinE, frzS, frzX, ↓excOf_o, Pz.excOf_d, ↓oDGetX, List.map_cons, List.map_nil, List.getElem?_cons_zero, List.getElem?_cons_succ, List.cons_append, List.nil_append, Bool.false_eq_true, Bool.true_eq_false, ↓reduceIte, p10_3, p10_6, p10_7, p10_9, p10_12, Option.map, ↓aQ, ↓aQO, ↓aFO, borS, cleanS, noD, noDAll, atomD, ↓aXO, ↓oAddO, ↓oMulO, Option.some.injEq, exists_eq_left', exists_and_left, datO, datQ_d, ↓mCount, ↓mCountS, Bool.not_true, Bool.not_false, ↓F__law_draw, ↓F__law_made, ↓F__law_marks, ↓F__law_above, ↓F__law_above_due, ↓F__law_fields, ↓F__law_named, ↓F__law_caught, sh_ints, eqv_nil]
  split
  · exact ⟨h6, cdw h6 h7, q' _ _ (Int.ediv_nonneg h4 (by omega)) (.inl rfl) _⟩
  · refine ⟨.inl (small (by omega) (by omega)), ?_⟩
    by_cases hd : ds = []
    · subst hd
      simp only [List.isEmpty_nil, ↓Pz.wC_ap, ↓Pz.wVar_ap, ↓Pz.wOp_ap, ↓Pz.wTest_ap, ↓Pz.wNil_ap, ↓Pz.wCons_ap, ↓Pz.wCall_ap, ↓Pz.wCallW_ap, ↓Pz.wApp_ap, ↓Pz.wLst_ap, ↓Pz.wTup_ap, ↓Pz.wLstO_ap, ↓Pz.wNoPart_ap, ↓Pz.wPart_ap, ↓Pz.wSl_ap, ↓Pz.wAnd_ap, ↓Pz.wOr_ap, ↓Pz.wNot_ap, ↓Pz.wAndV_ap, ↓Pz.wOrV_ap, ↓Pz.wNotV_ap, ↓Pz.wIfE_ap, ↓Pz.wTru_ap, ↓Pz.wChain_ap, ↓Pz.wNeg_ap, ↓Pz.wAug_ap, ↓Pz.gNm_ap, ↓Pz.gNl_ap, ↓Pz.gCn_ap, ↓Pz.gTp_ap, ↓Pz.wAsg_ap, ↓Pz.wItE_ap, ↓Pz.wRng1_ap, ↓Pz.wRng2_ap, ↓Pz.wYes_ap, ↓Pz.wLc_ap, ↓Pz.wLcO_ap, ↓Pz.wBM_ap, ↓Pz.wSetIx_ap, ↓Pz.wFrz_ap, ↓Pz.wCallF_ap, ↓Pz.wCallQ_ap, ↓Pz.wCallWF_ap, ↓Pz.wRev_ap, ↓Pz.wRg1_ap, ↓Pz.wRg2_ap, ↓Pz.wListRg_ap, ↓Pz.wRng3_ap, ↓Pz.wEnum_ap, ↓Pz.wZip_ap, ↓Pz.wCallQO_ap, ↓Pz.wDPut_ap, ↓Pz.wPNil_ap, ↓Pz.wPCons_ap, ↓Pz.wDisp_ap, ↓Pz.wDNew_ap, ↓Pz.wDNil_ap, ↓Pz.wEnumX_ap, ↓Pz.wCallE_ap, ↓Pz.wSlO_ap, ↓Pz.wEnumY_ap, ↓Pz.wDGet2_ap, ↓Pz.wMaxDf_ap, ↓Pz.wCallFO_ap, ↓Pz.wRevY_ap, ↓Pz.wFrzX_ap, ↓Pz.wSwp_ap, ↓Pz.wCallX_ap, ↓Pz.wCallXO_ap, ↓Pz.wCallWX_ap, ↓Pz.wRaise1_ap, ↓Pz.wRaise0_ap, ↓Pz.wTry_ap, ↓Pz.wIsE_ap, ↓Pz.wXf_ap, ↓Pz.wDispD_ap, ↓Pz.wSortLen_ap, ↓Pz.wGGet_ap, ↓Pz.wMinDf_ap, ↓Pz.wPar_ap, ↓Pz.wLam_ap, ↓Pz.wAct_ap, ↓Pz.wRep_ap, ↓Pz.wZipM_ap, ↓Pz.wZipN_ap, ↓Pz.wLenSet_ap, ↓Pz.wBor_ap, ↓Pz.gTpL_ap, ↓Pz.wTupRg_ap, ↓Pz.wRevS_ap, ↓Pz.wFmt_ap, ↓Pz.wJoined_ap, ↓Pz.wAsgS_ap, ↓Pz.wPar3_ap, ↓Pz.wDc_ap, ↓Pz.wDcT_ap, ↓Pz.wDGet3_ap, ↓Pz.wListV_ap, ↓Pz.wSumV_ap, ↓Pz.wDIn_ap, ↓Pz.wTGet2_ap, ↓Pz.wTPut_ap, ↓Pz.wDAug_ap, ↓Pz.wFrzL_ap, ↓Pz.wItV_ap, ↓Pz.wItI_ap, ↓Pz.wItK_ap, ↓Pz.wDisp1_ap, ↓Pz.wBorD_ap, ↓Pz.wDNewT_ap, ↓Pz.wCallFD_ap, ↓Pz.wDNew_ap, ↓Pz.wItC_ap, ↓Pz.wCallXE_ap, ↓Pz.wTSetd_ap, ↓Pz.wListRgO_ap, ↓Pz.wTryC_ap, ↓Pz.wTry2_ap, ↓Pz.wRepl_ap, ↓Pz.wThaw_ap, ↓Pz.wBorN_ap, ↓Pz.wZip3_ap, ↓Pz.wLcX_ap, ↓Pz.wLcXO_ap, ↓Pz.wMk0_ap, ↓Pz.wMk1_ap, ↓Pz.wMk3_ap, ↓Pz.wMk3A_ap, ↓Pz.wRaise3B_ap, ↓Pz.wTryA_ap, ↓Pz.wTryA3_ap, ↓Pz.wMinLen_ap, ↓Pz.wDNewN_ap, ↓Pz.wNSetd_ap, ↓Pz.wFrzN_ap, Pz.setAll, ↓Pz.wClose_ap, ↓Pz.wSetIxO_ap, ↓Pz.oIxS_ap, ↓Pz.wRaise3_ap, ↓Pz.oMulT_ap, Pz.dkX, Pz.unKD_kdD, Option.isSome_some, ↓Pz.wOrX_apS, ↓Pz.wAndX_apS, ↓Pz.orP_str, Pz.orP_some, Pz.orP_none, ↓oTGet, ↓oLtS, ↓oLtT, ↓fListKy, ↓fSortKy, ↓fLenD_o, ↓Pz.aFD, Pz.unD_K, Pz.unD_T, Pz.kyS_t, Pz.keysL_nil, Pz.keysL_ci, Pz.keysL_cs, ↓Pz.dtAt_o, Pz.dtAt_L, ↓Pz.dkAny_o, Pz.dkAny_D, Pz.dkAny_L, ↓Pz.dvAt_o, Pz.dvAt_D, Pz.dvAt_L, Pz.dvAt_T, ↓Pz.dkyS_o, Pz.dkyS_D, Pz.dkyS_L, Pz.dkyS_T, ↓Pz.dinS_o, Pz.dinS_D, Pz.dinS_L, Pz.dinS_T, Pz.lkP_K, Pz.lkP_T, Pz.lkV_K, Pz.lkV_T, Pz.lkV_N, ↓Pz.dnAt_o, Pz.oK_n, Pz.oK_i, ↓ret1_dT, cl_dt, Pz.lkOf_K, Pz.lkOf_T, Pz.xor_f, Pz.xor_t, Pz.hasD_int, Option.bind, Option.bind_some, List.set, ↓seq_mk, ↓wTrim_mk, trimS, List.take_succ_cons, List.take_zero, Nat.reduceLT, ↓nx_mk, ↓set_mk, ↓if_mk, nthS, ↓oEq, ↓oNe, vw, ↓oAdd, ↓oSub, ↓oIadd, ↓oDGet, keyOf_str, keyOf_int, keyS_str, keyS_int, ↓dkAt_o, valE_cells, valE_at, valE_left, putE_at, putE_left, mergeE, mergeD1, kvD1, keyD_s, keyD_i, ret1_dE, cl_dk, ↓fIsi, ↓fDivmod, ↓fStr, Pz.okT_int, Pz.is_int_none, Pz.is_int_bool, Pz.is_int_int, Pz.is_int_str, Pz.is_int_list, Pz.is_int_tuple, Pz.is_int_dict, Pz.okT_bool, Pz.is_bool_none, Pz.is_bool_bool, Pz.is_bool_int, Pz.is_bool_str, Pz.is_bool_list, Pz.is_bool_tuple, Pz.is_bool_dict, Pz.okT_str, Pz.is_str_none, Pz.is_str_bool, Pz.is_str_int, Pz.is_str_str, Pz.is_str_list, Pz.is_str_tuple, Pz.is_str_dict, Pz.okT_tuple, Pz.is_tuple_none, Pz.is_tuple_bool, Pz.is_tuple_int, Pz.is_tuple_str, Pz.is_tuple_list, Pz.is_tuple_tuple, Pz.is_tuple_dict, Pz.okT_list, Pz.is_list_none, Pz.is_list_bool, Pz.is_list_int, Pz.is_list_str, Pz.is_list_list, Pz.is_list_tuple, Pz.is_list_dict, Pz.is_dict_none, Pz.is_dict_bool, Pz.is_dict_int, Pz.is_dict_str, Pz.is_dict_list, Pz.is_dict_tuple, Pz.is_dict_dict, ↓oFdiv, ↓oMod, ↓oMul, ↓oPow, ↓oBool, ↓oII, ↓oIsN, ↓oNotN, ↓oIn, ↓oInX, ↓oInQ, ↓oInT, ↓oIsB, ↓oIsBN, ↓oNotB, noneS, ↓ret_mk, ↓retN_mk, ↓bk_mk, ↓ct_mk, ↓expr_mk, ↓for_mk, truD, ↓oIxE, ↓mPopAt, ↓mIndex, ↓mInsert, ↓fIntS, ↓fStrN, ↓Pz.wJs_cons, ↓Pz.wJs_nil, at0, at1, at2, at3, ix10, ix20, ix21, ix30, ix31, ix32, Pz.len1, Pz.len2, Pz.len3, List.length_nil, List.length_cons, sh_int, sh_bl, sh_non, Int.reduceEq, reduceCtorEq, decide_true, decide_false, sh_nil, eqv_nn, eqv_nilL, List.isEmpty_map, sh_lit, List.flatten_replicate_singleton, List.length_replicate, eqv_int, Nat.zero_le, szL, Nat.reduceLeDiff, Nat.reduceAdd, ↓ret1_d, ↓ret1_o0, ↓ret1_o1, ↓ret1_o2, ↓ret0_o0, ↓ret_d, cl_lst, true_and, and_true, decide_eq_true_eq, ↓oSl, ↓oSlO, ↓fLen, ↓fAbs, ↓fInt, ↓fMaxE, ↓fMinE, ↓fSumE, ↓Pz.fSumL, ↓fAll, ↓fAny, ↓fList, ↓fListO, ↓fListE, ↓fListEO, ↓fTuple, ↓fSortedE, ↓fSortedS, ↓fSortedG, ↓Pz.fSortedGO, ↓fRep, ↓fRepX, ↓fRepZ, ↓fRepW, ↓fBool, vwJ_l, vwJ_t, vwS_l, vwS_t, vwB, dsOf, tyD, ↓mAppend, ↓mExtend, ↓mPop, ↓mReverse, ↓mSplit, ↓mSplitO, ↓mStrip, ↓mLstrip, ↓mRstrip, ↓mStr2, ↓mPart, ↓mJoinE, frzS, frzX, ↓excOf_o, Pz.excOf_d, ↓oDGetX, List.map_cons, List.map_nil, List.getElem?_cons_zero, List.getElem?_cons_succ, List.cons_append, List.nil_append, Bool.false_eq_true, Bool.true_eq_false, ↓reduceIte, p10_3, p10_6, p10_7, p10_9, p10_12, Option.map, ↓aQ, ↓aQO, ↓aFO, borS, cleanS, noD, noDAll, atomD, ↓aXO, ↓oAddO, ↓oMulO, Option.some.injEq, exists_eq_left', exists_and_left, datO, datQ_d, ↓mCount, ↓mCountS, Bool.not_true, Bool.not_false, ↓F__law_draw, ↓F__law_made, ↓F__law_marks, ↓F__law_above, ↓F__law_above_due, ↓F__law_fields, ↓F__law_named, ↓F__law_caught, List.length_map]
      rw [if_neg (by simpa using h2)]
      exact ⟨by omega, q2 _⟩
    · have he : ds.isEmpty = false := by cases ds with | nil => exact absurd rfl hd | cons _ _ => rfl
      have hp : 0 < ((ds.map PyData.int).length : Int) := by cases ds with | nil => exact absurd rfl hd | cons _ _ => simp only [List.map_cons, List.length_cons]; omega
      obtain ⟨y, e, my⟩ := atI_lt (xs := ds.map PyData.int) (i := i % (ds.map PyData.int).length) (Int.emod_nonneg _ (by omega)) (Int.emod_lt_of_pos _ hp)
      obtain ⟨v, _, rfl⟩ := List.mem_map.mp my
      simp only [he, e, ↓Pz.wC_ap, ↓Pz.wVar_ap, ↓Pz.wOp_ap, ↓Pz.wTest_ap, ↓Pz.wNil_ap, ↓Pz.wCons_ap, ↓Pz.wCall_ap, ↓Pz.wCallW_ap, ↓Pz.wApp_ap, ↓Pz.wLst_ap, ↓Pz.wTup_ap, ↓Pz.wLstO_ap, ↓Pz.wNoPart_ap, ↓Pz.wPart_ap, ↓Pz.wSl_ap, ↓Pz.wAnd_ap, ↓Pz.wOr_ap, ↓Pz.wNot_ap, ↓Pz.wAndV_ap, ↓Pz.wOrV_ap, ↓Pz.wNotV_ap, ↓Pz.wIfE_ap, ↓Pz.wTru_ap, ↓Pz.wChain_ap, ↓Pz.wNeg_ap, ↓Pz.wAug_ap, ↓Pz.gNm_ap, ↓Pz.gNl_ap, ↓Pz.gCn_ap, ↓Pz.gTp_ap, ↓Pz.wAsg_ap, ↓Pz.wItE_ap, ↓Pz.wRng1_ap, ↓Pz.wRng2_ap, ↓Pz.wYes_ap, ↓Pz.wLc_ap, ↓Pz.wLcO_ap, ↓Pz.wBM_ap, ↓Pz.wSetIx_ap, ↓Pz.wFrz_ap, ↓Pz.wCallF_ap, ↓Pz.wCallQ_ap, ↓Pz.wCallWF_ap, ↓Pz.wRev_ap, ↓Pz.wRg1_ap, ↓Pz.wRg2_ap, ↓Pz.wListRg_ap, ↓Pz.wRng3_ap, ↓Pz.wEnum_ap, ↓Pz.wZip_ap, ↓Pz.wCallQO_ap, ↓Pz.wDPut_ap, ↓Pz.wPNil_ap, ↓Pz.wPCons_ap, ↓Pz.wDisp_ap, ↓Pz.wDNew_ap, ↓Pz.wDNil_ap, ↓Pz.wEnumX_ap, ↓Pz.wCallE_ap, ↓Pz.wSlO_ap, ↓Pz.wEnumY_ap, ↓Pz.wDGet2_ap, ↓Pz.wMaxDf_ap, ↓Pz.wCallFO_ap, ↓Pz.wRevY_ap, ↓Pz.wFrzX_ap, ↓Pz.wSwp_ap, ↓Pz.wCallX_ap, ↓Pz.wCallXO_ap, ↓Pz.wCallWX_ap, ↓Pz.wRaise1_ap, ↓Pz.wRaise0_ap, ↓Pz.wTry_ap, ↓Pz.wIsE_ap, ↓Pz.wXf_ap, ↓Pz.wDispD_ap, ↓Pz.wSortLen_ap, ↓Pz.wGGet_ap, ↓Pz.wMinDf_ap, ↓Pz.wPar_ap, ↓Pz.wLam_ap, ↓Pz.wAct_ap, ↓Pz.wRep_ap, ↓Pz.wZipM_ap, ↓Pz.wZipN_ap, ↓Pz.wLenSet_ap, ↓Pz.wBor_ap, ↓Pz.gTpL_ap, ↓Pz.wTupRg_ap, ↓Pz.wRevS_ap, ↓Pz.wFmt_ap, ↓Pz.wJoined_ap, ↓Pz.wAsgS_ap, ↓Pz.wPar3_ap, ↓Pz.wDc_ap, ↓Pz.wDcT_ap, ↓Pz.wDGet3_ap, ↓Pz.wListV_ap, ↓Pz.wSumV_ap, ↓Pz.wDIn_ap, ↓Pz.wTGet2_ap, ↓Pz.wTPut_ap, ↓Pz.wDAug_ap, ↓Pz.wFrzL_ap, ↓Pz.wItV_ap, ↓Pz.wItI_ap, ↓Pz.wItK_ap, ↓Pz.wDisp1_ap, ↓Pz.wBorD_ap, ↓Pz.wDNewT_ap, ↓Pz.wCallFD_ap, ↓Pz.wDNew_ap, ↓Pz.wItC_ap, ↓Pz.wCallXE_ap, ↓Pz.wTSetd_ap, ↓Pz.wListRgO_ap, ↓Pz.wTryC_ap, ↓Pz.wTry2_ap, ↓Pz.wRepl_ap, ↓Pz.wThaw_ap, ↓Pz.wBorN_ap, ↓Pz.wZip3_ap, ↓Pz.wLcX_ap, ↓Pz.wLcXO_ap, ↓Pz.wMk0_ap, ↓Pz.wMk1_ap, ↓Pz.wMk3_ap, ↓Pz.wMk3A_ap, ↓Pz.wRaise3B_ap, ↓Pz.wTryA_ap, ↓Pz.wTryA3_ap, ↓Pz.wMinLen_ap, ↓Pz.wDNewN_ap, ↓Pz.wNSetd_ap, ↓Pz.wFrzN_ap, Pz.setAll, ↓Pz.wClose_ap, ↓Pz.wSetIxO_ap, ↓Pz.oIxS_ap, ↓Pz.wRaise3_ap, ↓Pz.oMulT_ap, Pz.dkX, Pz.unKD_kdD, Option.isSome_some, ↓Pz.wOrX_apS, ↓Pz.wAndX_apS, ↓Pz.orP_str, Pz.orP_some, Pz.orP_none, ↓oTGet, ↓oLtS, ↓oLtT, ↓fListKy, ↓fSortKy, ↓fLenD_o, ↓Pz.aFD, Pz.unD_K, Pz.unD_T, Pz.kyS_t, Pz.keysL_nil, Pz.keysL_ci, Pz.keysL_cs, ↓Pz.dtAt_o, Pz.dtAt_L, ↓Pz.dkAny_o, Pz.dkAny_D, Pz.dkAny_L, ↓Pz.dvAt_o, Pz.dvAt_D, Pz.dvAt_L, Pz.dvAt_T, ↓Pz.dkyS_o, Pz.dkyS_D, Pz.dkyS_L, Pz.dkyS_T, ↓Pz.dinS_o, Pz.dinS_D, Pz.dinS_L, Pz.dinS_T, Pz.lkP_K, Pz.lkP_T, Pz.lkV_K, Pz.lkV_T, Pz.lkV_N, ↓Pz.dnAt_o, Pz.oK_n, Pz.oK_i, ↓ret1_dT, cl_dt, Pz.lkOf_K, Pz.lkOf_T, Pz.xor_f, Pz.xor_t, Pz.hasD_int, Option.bind, Option.bind_some, List.set, ↓seq_mk, ↓wTrim_mk, trimS, List.take_succ_cons, List.take_zero, Nat.reduceLT, ↓nx_mk, ↓set_mk, ↓if_mk, nthS, ↓oEq, ↓oNe, vw, ↓oAdd, ↓oSub, ↓oIadd, ↓oDGet, keyOf_str, keyOf_int, keyS_str, keyS_int, ↓dkAt_o, valE_cells, valE_at, valE_left, putE_at, putE_left, mergeE, mergeD1, kvD1, keyD_s, keyD_i, ret1_dE, cl_dk, ↓fIsi, ↓fDivmod, ↓fStr, Pz.okT_int, Pz.is_int_none, Pz.is_int_bool, Pz.is_int_int, Pz.is_int_str, Pz.is_int_list, Pz.is_int_tuple, Pz.is_int_dict, Pz.okT_bool, Pz.is_bool_none, Pz.is_bool_bool, Pz.is_bool_int, Pz.is_bool_str, Pz.is_bool_list, Pz.is_bool_tuple, Pz.is_bool_dict, Pz.okT_str, Pz.is_str_none, Pz.is_str_bool, Pz.is_str_int, Pz.is_str_str, Pz.is_str_list, Pz.is_str_tuple, Pz.is_str_dict, Pz.okT_tuple, Pz.is_tuple_none, Pz.is_tuple_bool, Pz.is_tuple_int, Pz.is_tuple_str, Pz.is_tuple_list, Pz.is_tuple_tuple, Pz.is_tuple_dict, Pz.okT_list, Pz.is_list_none, Pz.is_list_bool, Pz.is_list_int, Pz.is_list_str, Pz.is_list_list, Pz.is_list_tuple, Pz.is_list_dict, Pz.is_dict_none, Pz.is_dict_bool, Pz.is_dict_int, Pz.is_dict_str, Pz.is_dict_list, Pz.is_dict_tuple, Pz.is_dict_dict, ↓oFdiv, ↓oMod, ↓oMul, ↓oPow, ↓oBool, ↓oII, ↓oIsN, ↓oNotN, ↓oIn, ↓oInX, ↓oInQ, ↓oInT, ↓oIsB, ↓oIsBN, ↓oNotB, noneS, ↓ret_mk, ↓retN_mk, ↓bk_mk, ↓ct_mk, ↓expr_mk, ↓for_mk, truD, ↓oIxE, ↓mPopAt, ↓mIndex, ↓mInsert, ↓fIntS, ↓fStrN, ↓Pz.wJs_cons, ↓Pz.wJs_nil, at0, at1, at2, at3, ix10, ix20, ix21, ix30, ix31, ix32, Pz.len1, Pz.len2, Pz.len3, List.length_nil, List.length_cons, sh_int, sh_bl, sh_non, Int.reduceEq, reduceCtorEq, decide_true, decide_false, sh_nil, eqv_nn, eqv_nilL, List.isEmpty_map, sh_lit, List.flatten_replicate_singleton, List.length_replicate, eqv_int, Nat.zero_le, szL, Nat.reduceLeDiff, Nat.reduceAdd, ↓ret1_d, ↓ret1_o0, ↓ret1_o1, ↓ret1_o2, ↓ret0_o0, ↓ret_d, cl_lst, true_and, and_true, decide_eq_true_eq, ↓oSl, ↓oSlO, ↓fLen, ↓fAbs, ↓fInt, ↓fMaxE, ↓fMinE, ↓fSumE, ↓Pz.fSumL, ↓fAll, ↓fAny, ↓fList, ↓fListO, ↓fListE, ↓fListEO, ↓fTuple, ↓fSortedE, ↓fSortedS, ↓fSortedG, ↓Pz.fSortedGO, ↓fRep, ↓fRepX, ↓fRepZ, ↓fRepW, ↓fBool, vwJ_l, vwJ_t, vwS_l, vwS_t, vwB, dsOf, tyD, ↓mAppend, ↓mExtend, ↓mPop, ↓mReverse, ↓mSplit, ↓mSplitO, ↓mStrip, ↓mLstrip, ↓mRstrip, ↓mStr2, ↓mPart, ↓mJoinE, frzS, frzX, ↓excOf_o, Pz.excOf_d, ↓oDGetX, List.map_cons, List.map_nil, List.getElem?_cons_zero, List.getElem?_cons_succ, List.cons_append, List.nil_append, Bool.false_eq_true, Bool.true_eq_false, ↓reduceIte, p10_3, p10_6, p10_7, p10_9, p10_12, Option.map, ↓aQ, ↓aQO, ↓aFO, borS, cleanS, noD, noDAll, atomD, ↓aXO, ↓oAddO, ↓oMulO, Option.some.injEq, exists_eq_left', exists_and_left, datO, datQ_d, ↓mCount, ↓mCountS, Bool.not_true, Bool.not_false, ↓F__law_draw, ↓F__law_made, ↓F__law_marks, ↓F__law_above, ↓F__law_above_due, ↓F__law_fields, ↓F__law_named, ↓F__law_caught]
      refine ⟨hp, ?_⟩
      refine ite_all ⟨cpow (by omega) (by omega) (by omega) (by omega), ite_all ?_ ⟨by omega, q2 _⟩⟩ ⟨by omega, q2 _⟩
      refine ⟨.inl (small (by omega) (by omega)), cdw h6 h7, h6, q' _ _ (Int.ediv_nonneg ?_ (by omega)) (.inr rfl) _⟩
      by_cases hv : v < 0
      · rw [if_pos hv, if_pos hv]; omega
      · rw [if_neg hv, if_neg hv]; omega
theorem ok__law_made (T : Tx K mg f__law_pen f__law_draw f__law_made f__law_marks f__law_above f__law_above_due f__law_fields f__law_named f__law_caught f_law fd__law_pen fd__law_draw fd__law_made fd__law_marks fd__law_above fd__law_above_due fd__law_fields fd__law_named fd__law_caught fd_law) : FnD P w K mg base CX0 1 f__law_made fd__law_made ["_law_some"] sp__law_made := by
  refine FnD.of0 T.d__law_made.F sc__law_made 0 _ (fun cdv A outer s H E Z0 hA hr hz => (dss_cons (ds_set 1 sc__law_made.nd (de_lst (da_cons (de_mk0 T.ek List.mem_cons_self T.mk_InvalidText rfl) (da_cons (de_mk1 "number" T.ek (List.mem_cons_of_mem _ List.mem_cons_self) T.mk_UnbalancedBracket hr rfl (da_cons (de_ixE (de_v 0 (pv 0)) de_int) da_nil)) (da_cons (de_mk1 "number" T.ek (List.mem_cons_of_mem _ (List.mem_cons_of_mem _ List.mem_cons_self)) T.mk_IndentedStart hr rfl (da_cons (de_ixE (de_v 0 (pv 0)) de_int) da_nil)) (da_cons (de_mk1 "number" T.ek (List.mem_cons_of_mem _ (List.mem_cons_of_mem _ (List.mem_cons_of_mem _ List.mem_cons_self))) T.mk_BadDedent hr rfl (da_cons (de_ixE (de_v 0 (pv 0)) de_int) da_nil)) da_nil))))))
      (dss_cons (ds_set 1 sc__law_made.nd (de_op d2_add op_addR (de_v 1 (pv 1)) (de_lst (da_cons (de_mk1 "number" T.ek (List.mem_cons_of_mem _ (List.mem_cons_of_mem _ (List.mem_cons_of_mem _ (List.mem_cons_of_mem _ List.mem_cons_self)))) T.mk_InconsistentTabs hr rfl (da_cons (de_ixE (de_v 0 (pv 0)) de_int) da_nil)) (da_cons (de_mk1 "reason" T.ek (List.mem_cons_of_mem _ (List.mem_cons_of_mem _ (List.mem_cons_of_mem _ (List.mem_cons_of_mem _ (List.mem_cons_of_mem _ List.mem_cons_self))))) T.mk_NoIndent hr rfl (da_cons (de_tup (da_cons de_str (da_cons (de_ixE (de_v 0 (pv 0)) de_int) da_nil))) da_nil)) (da_cons (de_mk1 "paper" T.ek (List.mem_cons_of_mem _ (List.mem_cons_of_mem _ (List.mem_cons_of_mem _ (List.mem_cons_of_mem _ (List.mem_cons_of_mem _ (List.mem_cons_of_mem _ List.mem_cons_self)))))) T.mk_Unreachable hr rfl (da_cons (de_tup (da_cons de_str (da_cons (de_ixE (de_v 0 (pv 0)) de_int) (da_cons (de_ixE (de_v 0 (pv 0)) de_int) da_nil)))) da_nil)) da_nil))))))
      (dss_cons (ds_set 1 sc__law_made.nd (de_op d2_add op_addR (de_v 1 (pv 1)) (de_lst (da_cons (de_mk1 "index" T.ek (List.mem_cons_of_mem _ (List.mem_cons_of_mem _ (List.mem_cons_of_mem _ (List.mem_cons_of_mem _ (List.mem_cons_of_mem _ (List.mem_cons_of_mem _ (List.mem_cons_of_mem _ List.mem_cons_self))))))) T.mk_InvalidReading hr rfl (da_cons (de_ixE (de_v 0 (pv 0)) de_int) da_nil)) (da_cons (de_mk3 "line" "width" "other" T.ek (List.mem_cons_of_mem _ (List.mem_cons_of_mem _ (List.mem_cons_of_mem _ (List.mem_cons_of_mem _ (List.mem_cons_of_mem _ (List.mem_cons_of_mem _ (List.mem_cons_of_mem _ (List.mem_cons_of_mem _ List.mem_cons_self)))))))) T.mk_RootConflict hr rfl (da_cons (de_ixE (de_v 0 (pv 0)) de_int) (da_cons (de_ixE (de_v 0 (pv 0)) de_int) (da_cons (de_ixE (de_v 0 (pv 0)) de_int) da_nil)))) (da_cons (de_mk1 "index" T.ek (List.mem_cons_of_mem _ (List.mem_cons_of_mem _ (List.mem_cons_of_mem _ (List.mem_cons_of_mem _ (List.mem_cons_of_mem _ (List.mem_cons_of_mem _ (List.mem_cons_of_mem _ (List.mem_cons_of_mem _ (List.mem_cons_of_mem _ List.mem_cons_self))))))))) T.mk_InvalidTokens hr rfl (da_cons (de_ixE (de_v 0 (pv 0)) de_int) da_nil)) da_nil))))))
      (dss_cons (ds_set 1 sc__law_made.nd (de_op d2_add op_addR (de_v 1 (pv 1)) (de_lst (da_cons (de_mk0 T.ek (List.mem_cons_of_mem _ (List.mem_cons_of_mem _ (List.mem_cons_of_mem _ (List.mem_cons_of_mem _ (List.mem_cons_of_mem _ (List.mem_cons_of_mem _ (List.mem_cons_of_mem _ (List.mem_cons_of_mem _ (List.mem_cons_of_mem _ (List.mem_cons_of_mem _ List.mem_cons_self)))))))))) T.mk_InvalidOperation rfl) (da_cons (de_mk1 "at" T.ek (List.mem_cons_of_mem _ (List.mem_cons_of_mem _ (List.mem_cons_of_mem _ (List.mem_cons_of_mem _ (List.mem_cons_of_mem _ (List.mem_cons_of_mem _ (List.mem_cons_of_mem _ (List.mem_cons_of_mem _ (List.mem_cons_of_mem _ (List.mem_cons_of_mem _ (List.mem_cons_of_mem _ List.mem_cons_self))))))))))) T.mk_InvalidNotation hr rfl (da_cons (de_ixE (de_v 0 (pv 0)) de_int) da_nil)) (da_cons (de_mk0 T.ek (List.mem_cons_of_mem _ (List.mem_cons_of_mem _ (List.mem_cons_of_mem _ (List.mem_cons_of_mem _ (List.mem_cons_of_mem _ (List.mem_cons_of_mem _ (List.mem_cons_of_mem _ (List.mem_cons_of_mem _ (List.mem_cons_of_mem _ (List.mem_cons_of_mem _ (List.mem_cons_of_mem _ (List.mem_cons_of_mem _ List.mem_cons_self)))))))))))) T.mk_UnknownCommand rfl) (da_cons (de_mk1 "length" T.ek (List.mem_cons_of_mem _ (List.mem_cons_of_mem _ (List.mem_cons_of_mem _ (List.mem_cons_of_mem _ (List.mem_cons_of_mem _ (List.mem_cons_of_mem _ (List.mem_cons_of_mem _ (List.mem_cons_of_mem _ (List.mem_cons_of_mem _ (List.mem_cons_of_mem _ (List.mem_cons_of_mem _ (List.mem_cons_of_mem _ (List.mem_cons_of_mem _ List.mem_cons_self))))))))))))) T.mk_TooLong hr rfl (da_cons (de_ixE (de_v 0 (pv 0)) de_int) da_nil)) (da_cons (de_mk1 "count" T.ek (List.mem_cons_of_mem _ (List.mem_cons_of_mem _ (List.mem_cons_of_mem _ (List.mem_cons_of_mem _ (List.mem_cons_of_mem _ (List.mem_cons_of_mem _ (List.mem_cons_of_mem _ (List.mem_cons_of_mem _ (List.mem_cons_of_mem _ (List.mem_cons_of_mem _ (List.mem_cons_of_mem _ (List.mem_cons_of_mem _ (List.mem_cons_of_mem _ (List.mem_cons_of_mem _ List.mem_cons_self)))))))))))))) T.mk_TooMany hr rfl (da_cons (de_ixE (de_v 0 (pv 0)) de_int) da_nil)) da_nil))))))))
      (dss_one (ds_ret (de_op d2_add op_addR (de_v 1 (pv 1)) (de_lst (da_cons (de_mk1 "index" T.ek (List.mem_cons_of_mem _ (List.mem_cons_of_mem _ (List.mem_cons_of_mem _ (List.mem_cons_of_mem _ (List.mem_cons_of_mem _ (List.mem_cons_of_mem _ (List.mem_cons_of_mem _ (List.mem_cons_of_mem _ (List.mem_cons_of_mem _ (List.mem_cons_of_mem _ (List.mem_cons_of_mem _ (List.mem_cons_of_mem _ (List.mem_cons_of_mem _ (List.mem_cons_of_mem _ (List.mem_cons_of_mem _ List.mem_cons_self))))))))))))))) T.mk_NoVariant hr rfl (da_cons (de_ixE (de_v 0 (pv 0)) de_int) da_nil)) (da_cons (de_mk1 "index" T.ek (List.mem_cons_of_mem _ (List.mem_cons_of_mem _ (List.mem_cons_of_mem _ (List.mem_cons_of_mem _ (List.mem_cons_of_mem _ (List.mem_cons_of_mem _ (List.mem_cons_of_mem _ (List.mem_cons_of_mem _ (List.mem_cons_of_mem _ (List.mem_cons_of_mem _ (List.mem_cons_of_mem _ (List.mem_cons_of_mem _ (List.mem_cons_of_mem _ (List.mem_cons_of_mem _ (List.mem_cons_of_mem _ (List.mem_cons_of_mem _ List.mem_cons_self)))))))))))))))) T.mk_NoLine hr rfl (da_cons (de_ixE (de_v 0 (pv 0)) de_int) da_nil)) (da_cons (de_mk0 T.ek (List.mem_cons_of_mem _ (List.mem_cons_of_mem _ (List.mem_cons_of_mem _ (List.mem_cons_of_mem _ (List.mem_cons_of_mem _ (List.mem_cons_of_mem _ (List.mem_cons_of_mem _ (List.mem_cons_of_mem _ (List.mem_cons_of_mem _ (List.mem_cons_of_mem _ (List.mem_cons_of_mem _ (List.mem_cons_of_mem _ (List.mem_cons_of_mem _ (List.mem_cons_of_mem _ (List.mem_cons_of_mem _ (List.mem_cons_of_mem _ (List.mem_cons_of_mem _ List.mem_cons_self))))))))))))))))) T.mk_Busy rfl) (da_cons (de_mk0 T.ek (List.mem_cons_of_mem _ (List.mem_cons_of_mem _ (List.mem_cons_of_mem _ (List.mem_cons_of_mem _ (List.mem_cons_of_mem _ (List.mem_cons_of_mem _ (List.mem_cons_of_mem _ (List.mem_cons_of_mem _ (List.mem_cons_of_mem _ (List.mem_cons_of_mem _ (List.mem_cons_of_mem _ (List.mem_cons_of_mem _ (List.mem_cons_of_mem _ (List.mem_cons_of_mem _ (List.mem_cons_of_mem _ (List.mem_cons_of_mem _ (List.mem_cons_of_mem _ (List.mem_cons_of_mem _ List.mem_cons_self)))))))))))))))))) T.mk_NothingToUndo rfl) (da_cons (de_mk0 T.ek (List.mem_cons_of_mem _ (List.mem_cons_of_mem _ (List.mem_cons_of_mem _ (List.mem_cons_of_mem _ (List.mem_cons_of_mem _ (List.mem_cons_of_mem _ (List.mem_cons_of_mem _ (List.mem_cons_of_mem _ (List.mem_cons_of_mem _ (List.mem_cons_of_mem _ (List.mem_cons_of_mem _ (List.mem_cons_of_mem _ (List.mem_cons_of_mem _ (List.mem_cons_of_mem _ (List.mem_cons_of_mem _ (List.mem_cons_of_mem _ (List.mem_cons_of_mem _ (List.mem_cons_of_mem _ (List.mem_cons_of_mem _ List.mem_cons_self))))))))))))))))))) T.mk_NothingToRedo rfl) da_nil)))))))))))))) ?_
  refine ho__law_made fun a b c d e f g h Qd _ q => ?_
  try dsimp only at *
  rw [st__law_made]
  nofun
  repeat (first | exact q | refine ⟨_, rfl, ?_⟩ | refine And.intro (by decide) ?_)
theorem ok__law_marks (T : Tx K mg f__law_pen f__law_draw f__law_made f__law_marks f__law_above f__law_above_due f__law_fields f__law_named f__law_caught f_law fd__law_pen fd__law_draw fd__law_made fd__law_marks fd__law_above fd__law_above_due fd__law_fields fd__law_named fd__law_caught fd_law) : FnD P w K mg base CX0 1 f__law_marks fd__law_marks ["_law_error"] sp__law_marks := by
  refine FnD.of0 T.d__law_marks.F sc__law_marks 0 _ (fun cdv A outer s H E Z0 hA hr hz => (dss_cons (ds_set 1 sc__law_marks.nd (de_lst (da_cons (de_isE1 T.xr (de_v 0 (pv 0)) List.mem_cons_self rfl T.b_isinstance (by decide +kernel)) (da_cons (de_isE1 T.xr (de_v 0 (pv 0)) (List.mem_cons_of_mem _ List.mem_cons_self) rfl T.b_isinstance (by decide +kernel)) (da_cons (de_isE1 T.xr (de_v 0 (pv 0)) (List.mem_cons_of_mem _ (List.mem_cons_of_mem _ List.mem_cons_self)) rfl T.b_isinstance (by decide +kernel)) da_nil)))))
      (dss_cons (ds_set 1 sc__law_marks.nd (de_op d2_add op_addR (de_v 1 (pv 1)) (de_lst (da_cons (de_isE1 T.xr (de_v 0 (pv 0)) (List.mem_cons_of_mem _ (List.mem_cons_of_mem _ (List.mem_cons_of_mem _ List.mem_cons_self))) rfl T.b_isinstance (by decide +kernel)) (da_cons (de_isE1 T.xr (de_v 0 (pv 0)) (List.mem_cons_of_mem _ (List.mem_cons_of_mem _ (List.mem_cons_of_mem _ (List.mem_cons_of_mem _ List.mem_cons_self)))) rfl T.b_isinstance (by decide +kernel)) (da_cons (de_isE1 T.xr (de_v 0 (pv 0)) (List.mem_cons_of_mem _ (List.mem_cons_of_mem _ (List.mem_cons_of_mem _ (List.mem_cons_of_mem _ (List.mem_cons_of_mem _ List.mem_cons_self))))) rfl T.b_isinstance (by decide +kernel)) da_nil))))))
      (dss_cons (ds_set 1 sc__law_marks.nd (de_op d2_add op_addR (de_v 1 (pv 1)) (de_lst (da_cons (de_isE1 T.xr (de_v 0 (pv 0)) (List.mem_cons_of_mem _ (List.mem_cons_of_mem _ (List.mem_cons_of_mem _ (List.mem_cons_of_mem _ (List.mem_cons_of_mem _ (List.mem_cons_of_mem _ List.mem_cons_self)))))) rfl T.b_isinstance (by decide +kernel)) (da_cons (de_isE1 T.xr (de_v 0 (pv 0)) (List.mem_cons_of_mem _ (List.mem_cons_of_mem _ (List.mem_cons_of_mem _ (List.mem_cons_of_mem _ (List.mem_cons_of_mem _ (List.mem_cons_of_mem _ (List.mem_cons_of_mem _ List.mem_cons_self))))))) rfl T.b_isinstance (by decide +kernel)) da_nil)))))
      (dss_cons (ds_set 1 sc__law_marks.nd (de_op d2_add op_addR (de_v 1 (pv 1)) (de_lst (da_cons (de_isE1 T.xr (de_v 0 (pv 0)) (List.mem_cons_of_mem _ (List.mem_cons_of_mem _ (List.mem_cons_of_mem _ (List.mem_cons_of_mem _ (List.mem_cons_of_mem _ (List.mem_cons_of_mem _ (List.mem_cons_of_mem _ (List.mem_cons_of_mem _ List.mem_cons_self)))))))) rfl T.b_isinstance (by decide +kernel)) (da_cons (de_isE1 T.xr (de_v 0 (pv 0)) (List.mem_cons_of_mem _ (List.mem_cons_of_mem _ (List.mem_cons_of_mem _ (List.mem_cons_of_mem _ (List.mem_cons_of_mem _ (List.mem_cons_of_mem _ (List.mem_cons_of_mem _ (List.mem_cons_of_mem _ (List.mem_cons_of_mem _ List.mem_cons_self))))))))) rfl T.b_isinstance (by decide +kernel)) da_nil)))))
      (dss_cons (ds_set 1 sc__law_marks.nd (de_op d2_add op_addR (de_v 1 (pv 1)) (de_lst (da_cons (de_isE1 T.xr (de_v 0 (pv 0)) (List.mem_cons_of_mem _ (List.mem_cons_of_mem _ (List.mem_cons_of_mem _ (List.mem_cons_of_mem _ (List.mem_cons_of_mem _ (List.mem_cons_of_mem _ (List.mem_cons_of_mem _ (List.mem_cons_of_mem _ (List.mem_cons_of_mem _ (List.mem_cons_of_mem _ List.mem_cons_self)))))))))) rfl T.b_isinstance (by decide +kernel)) (da_cons (de_isE1 T.xr (de_v 0 (pv 0)) (List.mem_cons_of_mem _ (List.mem_cons_of_mem _ (List.mem_cons_of_mem _ (List.mem_cons_of_mem _ (List.mem_cons_of_mem _ (List.mem_cons_of_mem _ (List.mem_cons_of_mem _ (List.mem_cons_of_mem _ (List.mem_cons_of_mem _ (List.mem_cons_of_mem _ (List.mem_cons_of_mem _ List.mem_cons_self))))))))))) rfl T.b_isinstance (by decide +kernel)) da_nil)))))
      (dss_cons (ds_set 1 sc__law_marks.nd (de_op d2_add op_addR (de_v 1 (pv 1)) (de_lst (da_cons (de_isE1 T.xr (de_v 0 (pv 0)) (List.mem_cons_of_mem _ (List.mem_cons_of_mem _ (List.mem_cons_of_mem _ (List.mem_cons_of_mem _ (List.mem_cons_of_mem _ (List.mem_cons_of_mem _ (List.mem_cons_of_mem _ (List.mem_cons_of_mem _ (List.mem_cons_of_mem _ (List.mem_cons_of_mem _ (List.mem_cons_of_mem _ (List.mem_cons_of_mem _ List.mem_cons_self)))))))))))) rfl T.b_isinstance (by decide +kernel)) (da_cons (de_isE1 T.xr (de_v 0 (pv 0)) (List.mem_cons_of_mem _ (List.mem_cons_of_mem _ (List.mem_cons_of_mem _ (List.mem_cons_of_mem _ (List.mem_cons_of_mem _ (List.mem_cons_of_mem _ (List.mem_cons_of_mem _ (List.mem_cons_of_mem _ (List.mem_cons_of_mem _ (List.mem_cons_of_mem _ (List.mem_cons_of_mem _ (List.mem_cons_of_mem _ (List.mem_cons_of_mem _ List.mem_cons_self))))))))))))) rfl T.b_isinstance (by decide +kernel)) (da_cons (de_isE1 T.xr (de_v 0 (pv 0)) (List.mem_cons_of_mem _ (List.mem_cons_of_mem _ (List.mem_cons_of_mem _ (List.mem_cons_of_mem _ (List.mem_cons_of_mem _ (List.mem_cons_of_mem _ (List.mem_cons_of_mem _ (List.mem_cons_of_mem _ (List.mem_cons_of_mem _ (List.mem_cons_of_mem _ (List.mem_cons_of_mem _ (List.mem_cons_of_mem _ (List.mem_cons_of_mem _ (List.mem_cons_of_mem _ List.mem_cons_self)))))))))))))) rfl T.b_isinstance (by decide +kernel)) da_nil))))))
      (dss_cons (ds_set 1 sc__law_marks.nd (de_op d2_add op_addR (de_v 1 (pv 1)) (de_lst (da_cons (de_isE1 T.xr (de_v 0 (pv 0)) (List.mem_cons_of_mem _ (List.mem_cons_of_mem _ (List.mem_cons_of_mem _ (List.mem_cons_of_mem _ (List.mem_cons_of_mem _ (List.mem_cons_of_mem _ (List.mem_cons_of_mem _ (List.mem_cons_of_mem _ (List.mem_cons_of_mem _ (List.mem_cons_of_mem _ (List.mem_cons_of_mem _ (List.mem_cons_of_mem _ (List.mem_cons_of_mem _ (List.mem_cons_of_mem _ (List.mem_cons_of_mem _ List.mem_cons_self))))))))))))))) rfl T.b_isinstance (by decide +kernel)) (da_cons (de_isE1 T.xr (de_v 0 (pv 0)) (List.mem_cons_of_mem _ (List.mem_cons_of_mem _ (List.mem_cons_of_mem _ (List.mem_cons_of_mem _ (List.mem_cons_of_mem _ (List.mem_cons_of_mem _ (List.mem_cons_of_mem _ (List.mem_cons_of_mem _ (List.mem_cons_of_mem _ (List.mem_cons_of_mem _ (List.mem_cons_of_mem _ (List.mem_cons_of_mem _ (List.mem_cons_of_mem _ (List.mem_cons_of_mem _ (List.mem_cons_of_mem _ (List.mem_cons_of_mem _ List.mem_cons_self)))))))))))))))) rfl T.b_isinstance (by decide +kernel)) (da_cons (de_isE1 T.xr (de_v 0 (pv 0)) (List.mem_cons_of_mem _ (List.mem_cons_of_mem _ (List.mem_cons_of_mem _ (List.mem_cons_of_mem _ (List.mem_cons_of_mem _ (List.mem_cons_of_mem _ (List.mem_cons_of_mem _ (List.mem_cons_of_mem _ (List.mem_cons_of_mem _ (List.mem_cons_of_mem _ (List.mem_cons_of_mem _ (List.mem_cons_of_mem _ (List.mem_cons_of_mem _ (List.mem_cons_of_mem _ (List.mem_cons_of_mem _ (List.mem_cons_of_mem _ (List.mem_cons_of_mem _ List.mem_cons_self))))))))))))))))) rfl T.b_isinstance (by decide +kernel)) da_nil))))))
      (dss_one (ds_ret (de_op d2_add op_addR (de_v 1 (pv 1)) (de_lst (da_cons (de_isE1 T.xr (de_v 0 (pv 0)) (List.mem_cons_of_mem _ (List.mem_cons_of_mem _ (List.mem_cons_of_mem _ (List.mem_cons_of_mem _ (List.mem_cons_of_mem _ (List.mem_cons_of_mem _ (List.mem_cons_of_mem _ (List.mem_cons_of_mem _ (List.mem_cons_of_mem _ (List.mem_cons_of_mem _ (List.mem_cons_of_mem _ (List.mem_cons_of_mem _ (List.mem_cons_of_mem _ (List.mem_cons_of_mem _ (List.mem_cons_of_mem _ (List.mem_cons_of_mem _ (List.mem_cons_of_mem _ (List.mem_cons_of_mem _ List.mem_cons_self)))))))))))))))))) rfl T.b_isinstance (by decide +kernel)) (da_cons (de_isE1 T.xr (de_v 0 (pv 0)) (List.mem_cons_of_mem _ (List.mem_cons_of_mem _ (List.mem_cons_of_mem _ (List.mem_cons_of_mem _ (List.mem_cons_of_mem _ (List.mem_cons_of_mem _ (List.mem_cons_of_mem _ (List.mem_cons_of_mem _ (List.mem_cons_of_mem _ (List.mem_cons_of_mem _ (List.mem_cons_of_mem _ (List.mem_cons_of_mem _ (List.mem_cons_of_mem _ (List.mem_cons_of_mem _ (List.mem_cons_of_mem _ (List.mem_cons_of_mem _ (List.mem_cons_of_mem _ (List.mem_cons_of_mem _ (List.mem_cons_of_mem _ List.mem_cons_self))))))))))))))))))) rfl T.b_isinstance (by decide +kernel)) da_nil)))))))))))))) ?_
  refine ho__law_marks fun d Qd ⟨c, fs, hd, hc⟩ q => ?_
  try dsimp only at *
  rw [st__law_marks]
  subst hd
  have q := q c fs rfl
  nofun
  have hL : c ∈ clsL.map Str.ofString ++ [Str.ofString "PrismError"] := List.mem_append.mpr (hc.imp id List.mem_singleton.mpr)
  simp only [List.any_cons, List.any_nil, Bool.or_false]
  repeat (first | exact q | refine And.intro hL ?_ | refine And.intro (by decide) ?_)
theorem ok__law_above (T : Tx K mg f__law_pen f__law_draw f__law_made f__law_marks f__law_above f__law_above_due f__law_fields f__law_named f__law_caught f_law fd__law_pen fd__law_draw fd__law_made fd__law_marks fd__law_above fd__law_above_due fd__law_fields fd__law_named fd__law_caught fd_law) : FnD P w K mg base CX0 1 f__law_above fd__law_above ["_law_error"] sp__law_above := by
  refine FnD.of0 T.d__law_above.F sc__law_above 0 _ (fun cdv A outer s H E Z0 hA hr hz => (dss_cons (ds_set 1 sc__law_above.nd (de_lst (da_cons (de_isE1 T.xr (de_v 0 (pv 0)) (List.mem_cons_of_mem _ (List.mem_cons_of_mem _ (List.mem_cons_of_mem _ (List.mem_cons_of_mem _ (List.mem_cons_of_mem _ (List.mem_cons_of_mem _ (List.mem_cons_of_mem _ (List.mem_cons_of_mem _ (List.mem_cons_of_mem _ (List.mem_cons_of_mem _ (List.mem_cons_of_mem _ (List.mem_cons_of_mem _ (List.mem_cons_of_mem _ (List.mem_cons_of_mem _ (List.mem_cons_of_mem _ (List.mem_cons_of_mem _ (List.mem_cons_of_mem _ (List.mem_cons_of_mem _ (List.mem_cons_of_mem _ (List.mem_cons_of_mem _ List.mem_cons_self)))))))))))))))))))) rfl T.b_isinstance (by decide +kernel)) (da_cons (de_isE1 T.xr (de_v 0 (pv 0)) (List.mem_cons_of_mem _ (List.mem_cons_of_mem _ (List.mem_cons_of_mem _ (List.mem_cons_of_mem _ (List.mem_cons_of_mem _ (List.mem_cons_of_mem _ (List.mem_cons_of_mem _ (List.mem_cons_of_mem _ (List.mem_cons_of_mem _ (List.mem_cons_of_mem _ (List.mem_cons_of_mem _ (List.mem_cons_of_mem _ (List.mem_cons_of_mem _ (List.mem_cons_of_mem _ (List.mem_cons_of_mem _ (List.mem_cons_of_mem _ (List.mem_cons_of_mem _ (List.mem_cons_of_mem _ (List.mem_cons_of_mem _ (List.mem_cons_of_mem _ (List.mem_cons_of_mem _ List.mem_cons_self))))))))))))))))))))) rfl T.b_isinstance (by decide +kernel)) (da_cons (de_isE1 T.xr (de_v 0 (pv 0)) (List.mem_cons_of_mem _ (List.mem_cons_of_mem _ (List.mem_cons_of_mem _ (List.mem_cons_of_mem _ (List.mem_cons_of_mem _ (List.mem_cons_of_mem _ (List.mem_cons_of_mem _ (List.mem_cons_of_mem _ (List.mem_cons_of_mem _ (List.mem_cons_of_mem _ (List.mem_cons_of_mem _ (List.mem_cons_of_mem _ (List.mem_cons_of_mem _ (List.mem_cons_of_mem _ (List.mem_cons_of_mem _ (List.mem_cons_of_mem _ (List.mem_cons_of_mem _ (List.mem_cons_of_mem _ (List.mem_cons_of_mem _ (List.mem_cons_of_mem _ (List.mem_cons_of_mem _ (List.mem_cons_of_mem _ List.mem_cons_self)))))))))))))))))))))) rfl T.b_isinstance (by decide +kernel)) da_nil)))))
      (dss_cons (ds_set 1 sc__law_above.nd (de_op d2_add op_addR (de_v 1 (pv 1)) (de_lst (da_cons (de_isE1 T.xr (de_v 0 (pv 0)) (List.mem_cons_of_mem _ (List.mem_cons_of_mem _ (List.mem_cons_of_mem _ (List.mem_cons_of_mem _ (List.mem_cons_of_mem _ (List.mem_cons_of_mem _ (List.mem_cons_of_mem _ (List.mem_cons_of_mem _ (List.mem_cons_of_mem _ (List.mem_cons_of_mem _ (List.mem_cons_of_mem _ (List.mem_cons_of_mem _ (List.mem_cons_of_mem _ (List.mem_cons_of_mem _ (List.mem_cons_of_mem _ (List.mem_cons_of_mem _ (List.mem_cons_of_mem _ (List.mem_cons_of_mem _ (List.mem_cons_of_mem _ (List.mem_cons_of_mem _ (List.mem_cons_of_mem _ (List.mem_cons_of_mem _ (List.mem_cons_of_mem _ List.mem_cons_self))))))))))))))))))))))) rfl T.b_isinstance (by decide +kernel)) (da_cons (de_isE1 T.xr (de_v 0 (pv 0)) (List.mem_cons_of_mem _ (List.mem_cons_of_mem _ (List.mem_cons_of_mem _ (List.mem_cons_of_mem _ (List.mem_cons_of_mem _ (List.mem_cons_of_mem _ (List.mem_cons_of_mem _ (List.mem_cons_of_mem _ (List.mem_cons_of_mem _ (List.mem_cons_of_mem _ (List.mem_cons_of_mem _ (List.mem_cons_of_mem _ (List.mem_cons_of_mem _ (List.mem_cons_of_mem _ (List.mem_cons_of_mem _ (List.mem_cons_of_mem _ (List.mem_cons_of_mem _ (List.mem_cons_of_mem _ (List.mem_cons_of_mem _ (List.mem_cons_of_mem _ (List.mem_cons_of_mem _ (List.mem_cons_of_mem _ (List.mem_cons_of_mem _ (List.mem_cons_of_mem _ List.mem_cons_self)))))))))))))))))))))))) rfl T.b_isinstance (by decide +kernel)) (da_cons (de_isE1 T.xr (de_v 0 (pv 0)) (List.mem_cons_of_mem _ (List.mem_cons_of_mem _ (List.mem_cons_of_mem _ (List.mem_cons_of_mem _ (List.mem_cons_of_mem _ (List.mem_cons_of_mem _ (List.mem_cons_of_mem _ (List.mem_cons_of_mem _ (List.mem_cons_of_mem _ (List.mem_cons_of_mem _ (List.mem_cons_of_mem _ (List.mem_cons_of_mem _ (List.mem_cons_of_mem _ (List.mem_cons_of_mem _ (List.mem_cons_of_mem _ (List.mem_cons_of_mem _ (List.mem_cons_of_mem _ (List.mem_cons_of_mem _ (List.mem_cons_of_mem _ (List.mem_cons_of_mem _ (List.mem_cons_of_mem _ (List.mem_cons_of_mem _ (List.mem_cons_of_mem _ (List.mem_cons_of_mem _ (List.mem_cons_of_mem _ List.mem_cons_self))))))))))))))))))))))))) rfl T.b_isinstance (by decide +kernel)) da_nil))))))
      (dss_one (ds_ret (de_op d2_add op_addR (de_v 1 (pv 1)) (de_lst (da_cons (de_isE1 T.xr (de_v 0 (pv 0)) (List.mem_cons_of_mem _ (List.mem_cons_of_mem _ (List.mem_cons_of_mem _ (List.mem_cons_of_mem _ (List.mem_cons_of_mem _ (List.mem_cons_of_mem _ (List.mem_cons_of_mem _ (List.mem_cons_of_mem _ (List.mem_cons_of_mem _ (List.mem_cons_of_mem _ (List.mem_cons_of_mem _ (List.mem_cons_of_mem _ (List.mem_cons_of_mem _ (List.mem_cons_of_mem _ (List.mem_cons_of_mem _ (List.mem_cons_of_mem _ (List.mem_cons_of_mem _ (List.mem_cons_of_mem _ (List.mem_cons_of_mem _ (List.mem_cons_of_mem _ (List.mem_cons_of_mem _ (List.mem_cons_of_mem _ (List.mem_cons_of_mem _ (List.mem_cons_of_mem _ (List.mem_cons_of_mem _ (List.mem_cons_of_mem _ List.mem_cons_self)))))))))))))))))))))))))) rfl T.b_isinstance (by decide +kernel)) (da_cons (de_isE1 T.xr (de_v 0 (pv 0)) (List.mem_cons_of_mem _ (List.mem_cons_of_mem _ (List.mem_cons_of_mem _ (List.mem_cons_of_mem _ (List.mem_cons_of_mem _ (List.mem_cons_of_mem _ (List.mem_cons_of_mem _ (List.mem_cons_of_mem _ (List.mem_cons_of_mem _ (List.mem_cons_of_mem _ (List.mem_cons_of_mem _ (List.mem_cons_of_mem _ (List.mem_cons_of_mem _ (List.mem_cons_of_mem _ (List.mem_cons_of_mem _ (List.mem_cons_of_mem _ (List.mem_cons_of_mem _ (List.mem_cons_of_mem _ (List.mem_cons_of_mem _ (List.mem_cons_of_mem _ (List.mem_cons_of_mem _ (List.mem_cons_of_mem _ (List.mem_cons_of_mem _ (List.mem_cons_of_mem _ (List.mem_cons_of_mem _ (List.mem_cons_of_mem _ (List.mem_cons_of_mem _ List.mem_cons_self))))))))))))))))))))))))))) rfl T.b_isinstance (by decide +kernel)) da_nil))))))))) ?_
  refine ho__law_above fun d Qd ⟨c, fs, hd, hc⟩ q => ?_
  try dsimp only at *
  rw [st__law_above]
  subst hd
  have q := q c fs rfl
  nofun
  have hL : c ∈ clsL.map Str.ofString ++ [Str.ofString "PrismError"] := List.mem_append.mpr (hc.imp id List.mem_singleton.mpr)
  simp only [List.any_cons, List.any_nil, Bool.or_false]
  repeat (first | exact q | refine And.intro hL ?_ | refine And.intro (by decide) ?_)
theorem ok__law_above_due (T : Tx K mg f__law_pen f__law_draw f__law_made f__law_marks f__law_above f__law_above_due f__law_fields f__law_named f__law_caught f_law fd__law_pen fd__law_draw fd__law_made fd__law_marks fd__law_above fd__law_above_due fd__law_fields fd__law_named fd__law_caught fd_law) : FnD P w K mg base CX0 1 f__law_above_due fd__law_above_due ["_law_spot"] sp__law_above_due := by
  refine FnD.of0 T.d__law_above_due.F sc__law_above_due 0 _ (fun cdv A outer s H E Z0 hA hr hz => (dss_cons (ds_set 1 sc__law_above_due.nd (de_op d2_add op_addR (de_op d2_mul op_mulR (de_lst (da_cons de_int da_nil)) de_int) (de_lst (da_cons de_int (da_cons de_int (da_cons de_int (da_cons de_int (da_cons de_int (da_cons de_int (da_cons de_int da_nil))))))))))
      (dss_one (ds_ret (de_ixE (de_lst (da_cons (de_lst (da_cons de_bl (da_cons de_bl (da_cons de_bl (da_cons de_bl (da_cons de_bl (da_cons de_bl (da_cons de_bl (da_cons de_bl da_nil))))))))) (da_cons (de_lst (da_cons de_bl (da_cons de_bl (da_cons de_bl (da_cons de_bl (da_cons de_bl (da_cons de_bl (da_cons de_bl (da_cons de_bl da_nil))))))))) (da_cons (de_lst (da_cons de_bl (da_cons de_bl (da_cons de_bl (da_cons de_bl (da_cons de_bl (da_cons de_bl (da_cons de_bl (da_cons de_bl da_nil))))))))) (da_cons (de_lst (da_cons de_bl (da_cons de_bl (da_cons de_bl (da_cons de_bl (da_cons de_bl (da_cons de_bl (da_cons de_bl (da_cons de_bl da_nil))))))))) da_nil))))) (de_ixE (de_v 1 (pv 1)) (de_v 0 (pv 0)))))))) ?_
  refine ho__law_above_due fun k Qd ⟨h0, h1⟩ q => ?_
  try dsimp only at *
  rw [st__law_above_due]
  nofun
  obtain ⟨n, rfl⟩ : ∃ n : Nat, k = n := ⟨k.toNat, by omega⟩
  refine ⟨by decide, by decide, by decide, by decide, _, kind_at n (by omega), ?_⟩
  rw [Int.toNat_natCast] at q
  unfold aboveK at q
  unfold kindK
  dsimp only
  by_cases h1 : n < 13
  · rw [if_pos h1] at q ⊢; exact ⟨_, rfl, q⟩
  · rw [if_neg h1] at q ⊢
    by_cases h2 : n < 15
    · rw [if_pos h2] at q ⊢; exact ⟨_, rfl, q⟩
    · rw [if_neg h2] at q ⊢
      by_cases h3 : n < 17
      · rw [if_pos h3] at q ⊢; exact ⟨_, rfl, q⟩
      · rw [if_neg h3] at q ⊢; exact ⟨_, rfl, q⟩
theorem ok__law_fields (T : Tx K mg f__law_pen f__law_draw f__law_made f__law_marks f__law_above f__law_above_due f__law_fields f__law_named f__law_caught f_law fd__law_pen fd__law_draw fd__law_made fd__law_marks fd__law_above fd__law_above_due fd__law_fields fd__law_named fd__law_caught fd_law) : FnD P w K mg base CX0 1 f__law_fields fd__law_fields ["_law_made_here"] sp__law_fields := by
  refine FnD.of0 T.d__law_fields.F sc__law_fields 0 _ (fun cdv A outer s H E Z0 hA hr hz => (dss_cons (ds_setLc 1 rfl sc__law_fields.nd (di_e (de_tup (da_cons de_int (da_cons de_int (da_cons de_int (da_cons de_int da_nil)))))) (blkOk_by (own := [("_law_k", 4)]) (N := N__law_fields) (sc := defScope s__law_fields) (by decide +kernel)) (by decide) (fun _ _ _ _ _ => (dg_name 4 sc__law_fields.nd)) (fun _ _ _ _ _ => dpt_nil) (fun _ _ _ _ _ => (de_xf "number" T.xr List.mem_cons_self (de_ixE (de_v 0 (pv 0)) (de_v 4 (pv 4))))) (sw_true rfl rfl rfl (by decide +kernel)))
      (dss_cons (ds_set 2 sc__law_fields.nd (de_ixE (de_v 0 (pv 0)) de_int))
      (dss_cons (ds_set 3 sc__law_fields.nd (de_lst (da_cons (de_xf "reason" T.xr (List.mem_cons_of_mem _ List.mem_cons_self) (de_ixE (de_v 0 (pv 0)) de_int)) (da_cons (de_xf "paper" T.xr (List.mem_cons_of_mem _ (List.mem_cons_of_mem _ List.mem_cons_self)) (de_ixE (de_v 0 (pv 0)) de_int)) (da_cons (de_xf "index" T.xr (List.mem_cons_of_mem _ (List.mem_cons_of_mem _ (List.mem_cons_of_mem _ List.mem_cons_self))) (de_ixE (de_v 0 (pv 0)) de_int)) (da_cons (de_tup (da_cons (de_xf "line" T.xr (List.mem_cons_of_mem _ (List.mem_cons_of_mem _ (List.mem_cons_of_mem _ (List.mem_cons_of_mem _ List.mem_cons_self)))) (de_v 2 (pv 2))) (da_cons (de_xf "width" T.xr (List.mem_cons_of_mem _ (List.mem_cons_of_mem _ (List.mem_cons_of_mem _ (List.mem_cons_of_mem _ (List.mem_cons_of_mem _ List.mem_cons_self))))) (de_v 2 (pv 2))) (da_cons (de_xf "other" T.xr (List.mem_cons_of_mem _ (List.mem_cons_of_mem _ (List.mem_cons_of_mem _ (List.mem_cons_of_mem _ (List.mem_cons_of_mem _ (List.mem_cons_of_mem _ List.mem_cons_self)))))) (de_v 2 (pv 2))) da_nil)))) (da_cons (de_xf "index" T.xr (List.mem_cons_of_mem _ (List.mem_cons_of_mem _ (List.mem_cons_of_mem _ List.mem_cons_self))) (de_ixE (de_v 0 (pv 0)) de_int)) da_nil)))))))
      (dss_one (ds_ret (de_op d2_add op_addR (de_op d2_add op_addR (de_v 1 (pv 1)) (de_v 3 (pv 3))) (de_lst (da_cons (de_xf "at" T.xr (List.mem_cons_of_mem _ (List.mem_cons_of_mem _ (List.mem_cons_of_mem _ (List.mem_cons_of_mem _ (List.mem_cons_of_mem _ (List.mem_cons_of_mem _ (List.mem_cons_of_mem _ List.mem_cons_self))))))) (de_ixE (de_v 0 (pv 0)) de_int)) (da_cons (de_xf "length" T.xr (List.mem_cons_of_mem _ (List.mem_cons_of_mem _ (List.mem_cons_of_mem _ (List.mem_cons_of_mem _ (List.mem_cons_of_mem _ (List.mem_cons_of_mem _ (List.mem_cons_of_mem _ (List.mem_cons_of_mem _ List.mem_cons_self)))))))) (de_ixE (de_v 0 (pv 0)) de_int)) (da_cons (de_xf "count" T.xr (List.mem_cons_of_mem _ (List.mem_cons_of_mem _ (List.mem_cons_of_mem _ (List.mem_cons_of_mem _ (List.mem_cons_of_mem _ (List.mem_cons_of_mem _ (List.mem_cons_of_mem _ (List.mem_cons_of_mem _ (List.mem_cons_of_mem _ List.mem_cons_self))))))))) (de_ixE (de_v 0 (pv 0)) de_int)) (da_cons (de_xf "index" T.xr (List.mem_cons_of_mem _ (List.mem_cons_of_mem _ (List.mem_cons_of_mem _ List.mem_cons_self))) (de_ixE (de_v 0 (pv 0)) de_int)) (da_cons (de_xf "index" T.xr (List.mem_cons_of_mem _ (List.mem_cons_of_mem _ (List.mem_cons_of_mem _ List.mem_cons_self))) (de_ixE (de_v 0 (pv 0)) de_int)) da_nil))))))))))))) ?_
  refine ho__law_fields fun ls Qd ⟨a, b, c, d, e, f, g, h, hls⟩ q => ?_
  try dsimp only at *
  rw [st__law_fields]
  subst hls
  have q := q a b c d e f g h rfl
  unfold madeL
  rw [seq_mk]
  subst_eqs
  simp only [wLcL, wipeS]
  nofun
  repeat (first | exact q | refine ⟨_, rfl, ?_⟩ | refine And.intro (by simp) ?_ | refine And.intro (by decide) ?_)
theorem ok__law_named (T : Tx K mg f__law_pen f__law_draw f__law_made f__law_marks f__law_above f__law_above_due f__law_fields f__law_named f__law_caught f_law fd__law_pen fd__law_draw fd__law_made fd__law_marks fd__law_above fd__law_above_due fd__law_fields fd__law_named fd__law_caught fd_law) : FnD P w K mg base CX0 1 f__law_named fd__law_named ["_law_some"] sp__law_named := by
  refine FnD.of0 T.d__law_named.F sc__law_named 0 _ (fun cdv A outer s H E Z0 hA hr hz => (dss_cons (ds_set 1 sc__law_named.nd (de_lst (da_cons (de_xf "number" T.xr List.mem_cons_self (de_mk1K "number" T.ek (List.mem_cons_of_mem _ List.mem_cons_self) T.mkk_UnbalancedBracket hr rfl (dk_cons (de_ixE (de_v 0 (pv 0)) de_int) dk_nil))) (da_cons (de_xf "number" T.xr List.mem_cons_self (de_mk1K "number" T.ek (List.mem_cons_of_mem _ (List.mem_cons_of_mem _ List.mem_cons_self)) T.mkk_IndentedStart hr rfl (dk_cons (de_ixE (de_v 0 (pv 0)) de_int) dk_nil))) da_nil))))
      (dss_cons (ds_set 1 sc__law_named.nd (de_op d2_add op_addR (de_v 1 (pv 1)) (de_lst (da_cons (de_xf "number" T.xr List.mem_cons_self (de_mk1K "number" T.ek (List.mem_cons_of_mem _ (List.mem_cons_of_mem _ (List.mem_cons_of_mem _ List.mem_cons_self))) T.mkk_BadDedent hr rfl (dk_cons (de_ixE (de_v 0 (pv 0)) de_int) dk_nil))) (da_cons (de_xf "number" T.xr List.mem_cons_self (de_mk1K "number" T.ek (List.mem_cons_of_mem _ (List.mem_cons_of_mem _ (List.mem_cons_of_mem _ (List.mem_cons_of_mem _ List.mem_cons_self)))) T.mkk_InconsistentTabs hr rfl (dk_cons (de_ixE (de_v 0 (pv 0)) de_int) dk_nil))) da_nil)))))
      (dss_cons (ds_set 2 sc__law_named.nd (de_mk3A "line" "width" "other" T.ek (List.mem_cons_of_mem _ (List.mem_cons_of_mem _ (List.mem_cons_of_mem _ (List.mem_cons_of_mem _ (List.mem_cons_of_mem _ (List.mem_cons_of_mem _ (List.mem_cons_of_mem _ (List.mem_cons_of_mem _ List.mem_cons_self)))))))) T.mkk_RootConflict hr rfl (dk_cons (de_ixE (de_v 0 (pv 0)) de_int) (dk_cons (de_ixE (de_v 0 (pv 0)) de_int) (dk_cons (de_ixE (de_v 0 (pv 0)) de_int) dk_nil)))))
      (dss_cons (ds_set 3 sc__law_named.nd (de_lst (da_cons (de_xf "reason" T.xr (List.mem_cons_of_mem _ List.mem_cons_self) (de_mk1K "reason" T.ek (List.mem_cons_of_mem _ (List.mem_cons_of_mem _ (List.mem_cons_of_mem _ (List.mem_cons_of_mem _ (List.mem_cons_of_mem _ List.mem_cons_self))))) T.mkk_NoIndent hr rfl (dk_cons (de_tup (da_cons de_str (da_cons (de_ixE (de_v 0 (pv 0)) de_int) da_nil))) dk_nil))) (da_cons (de_xf "paper" T.xr (List.mem_cons_of_mem _ (List.mem_cons_of_mem _ List.mem_cons_self)) (de_mk1K "paper" T.ek (List.mem_cons_of_mem _ (List.mem_cons_of_mem _ (List.mem_cons_of_mem _ (List.mem_cons_of_mem _ (List.mem_cons_of_mem _ (List.mem_cons_of_mem _ List.mem_cons_self)))))) T.mkk_Unreachable hr rfl (dk_cons (de_tup (da_cons de_str (da_cons (de_ixE (de_v 0 (pv 0)) de_int) (da_cons (de_ixE (de_v 0 (pv 0)) de_int) da_nil)))) dk_nil))) da_nil))))
      (dss_cons (ds_set 3 sc__law_named.nd (de_op d2_add op_addR (de_v 3 (pv 3)) (de_lst (da_cons (de_xf "index" T.xr (List.mem_cons_of_mem _ (List.mem_cons_of_mem _ (List.mem_cons_of_mem _ List.mem_cons_self))) (de_mk1K "index" T.ek (List.mem_cons_of_mem _ (List.mem_cons_of_mem _ (List.mem_cons_of_mem _ (List.mem_cons_of_mem _ (List.mem_cons_of_mem _ (List.mem_cons_of_mem _ (List.mem_cons_of_mem _ List.mem_cons_self))))))) T.mkk_InvalidReading hr rfl (dk_cons (de_ixE (de_v 0 (pv 0)) de_int) dk_nil))) (da_cons (de_tup (da_cons (de_xf "line" T.xr (List.mem_cons_of_mem _ (List.mem_cons_of_mem _ (List.mem_cons_of_mem _ (List.mem_cons_of_mem _ List.mem_cons_self)))) (de_v 2 (pv 2))) (da_cons (de_xf "width" T.xr (List.mem_cons_of_mem _ (List.mem_cons_of_mem _ (List.mem_cons_of_mem _ (List.mem_cons_of_mem _ (List.mem_cons_of_mem _ List.mem_cons_self))))) (de_v 2 (pv 2))) (da_cons (de_xf "other" T.xr (List.mem_cons_of_mem _ (List.mem_cons_of_mem _ (List.mem_cons_of_mem _ (List.mem_cons_of_mem _ (List.mem_cons_of_mem _ (List.mem_cons_of_mem _ List.mem_cons_self)))))) (de_v 2 (pv 2))) da_nil)))) da_nil)))))
      (dss_cons (ds_set 3 sc__law_named.nd (de_op d2_add op_addR (de_v 3 (pv 3)) (de_lst (da_cons (de_xf "index" T.xr (List.mem_cons_of_mem _ (List.mem_cons_of_mem _ (List.mem_cons_of_mem _ List.mem_cons_self))) (de_mk1K "index" T.ek (List.mem_cons_of_mem _ (List.mem_cons_of_mem _ (List.mem_cons_of_mem _ (List.mem_cons_of_mem _ (List.mem_cons_of_mem _ (List.mem_cons_of_mem _ (List.mem_cons_of_mem _ (List.mem_cons_of_mem _ (List.mem_cons_of_mem _ List.mem_cons_self))))))))) T.mkk_InvalidTokens hr rfl (dk_cons (de_ixE (de_v 0 (pv 0)) de_int) dk_nil))) (da_cons (de_xf "at" T.xr (List.mem_cons_of_mem _ (List.mem_cons_of_mem _ (List.mem_cons_of_mem _ (List.mem_cons_of_mem _ (List.mem_cons_of_mem _ (List.mem_cons_of_mem _ (List.mem_cons_of_mem _ List.mem_cons_self))))))) (de_mk1K "at" T.ek (List.mem_cons_of_mem _ (List.mem_cons_of_mem _ (List.mem_cons_of_mem _ (List.mem_cons_of_mem _ (List.mem_cons_of_mem _ (List.mem_cons_of_mem _ (List.mem_cons_of_mem _ (List.mem_cons_of_mem _ (List.mem_cons_of_mem _ (List.mem_cons_of_mem _ (List.mem_cons_of_mem _ List.mem_cons_self))))))))))) T.mkk_InvalidNotation hr rfl (dk_cons (de_ixE (de_v 0 (pv 0)) de_int) dk_nil))) da_nil)))))
      (dss_cons (ds_set 3 sc__law_named.nd (de_op d2_add op_addR (de_v 3 (pv 3)) (de_lst (da_cons (de_xf "length" T.xr (List.mem_cons_of_mem _ (List.mem_cons_of_mem _ (List.mem_cons_of_mem _ (List.mem_cons_of_mem _ (List.mem_cons_of_mem _ (List.mem_cons_of_mem _ (List.mem_cons_of_mem _ (List.mem_cons_of_mem _ List.mem_cons_self)))))))) (de_mk1K "length" T.ek (List.mem_cons_of_mem _ (List.mem_cons_of_mem _ (List.mem_cons_of_mem _ (List.mem_cons_of_mem _ (List.mem_cons_of_mem _ (List.mem_cons_of_mem _ (List.mem_cons_of_mem _ (List.mem_cons_of_mem _ (List.mem_cons_of_mem _ (List.mem_cons_of_mem _ (List.mem_cons_of_mem _ (List.mem_cons_of_mem _ (List.mem_cons_of_mem _ List.mem_cons_self))))))))))))) T.mkk_TooLong hr rfl (dk_cons (de_ixE (de_v 0 (pv 0)) de_int) dk_nil))) (da_cons (de_xf "count" T.xr (List.mem_cons_of_mem _ (List.mem_cons_of_mem _ (List.mem_cons_of_mem _ (List.mem_cons_of_mem _ (List.mem_cons_of_mem _ (List.mem_cons_of_mem _ (List.mem_cons_of_mem _ (List.mem_cons_of_mem _ (List.mem_cons_of_mem _ List.mem_cons_self))))))))) (de_mk1K "count" T.ek (List.mem_cons_of_mem _ (List.mem_cons_of_mem _ (List.mem_cons_of_mem _ (List.mem_cons_of_mem _ (List.mem_cons_of_mem _ (List.mem_cons_of_mem _ (List.mem_cons_of_mem _ (List.mem_cons_of_mem _ (List.mem_cons_of_mem _ (List.mem_cons_of_mem _ (List.mem_cons_of_mem _ (List.mem_cons_of_mem _ (List.mem_cons_of_mem _ (List.mem_cons_of_mem _ List.mem_cons_self)))))))))))))) T.mkk_TooMany hr rfl (dk_cons (de_ixE (de_v 0 (pv 0)) de_int) dk_nil))) da_nil)))))
      (dss_one (ds_ret (de_op d2_add op_addR (de_op d2_add op_addR (de_v 1 (pv 1)) (de_v 3 (pv 3))) (de_lst (da_cons (de_xf "index" T.xr (List.mem_cons_of_mem _ (List.mem_cons_of_mem _ (List.mem_cons_of_mem _ List.mem_cons_self))) (de_mk1K "index" T.ek (List.mem_cons_of_mem _ (List.mem_cons_of_mem _ (List.mem_cons_of_mem _ (List.mem_cons_of_mem _ (List.mem_cons_of_mem _ (List.mem_cons_of_mem _ (List.mem_cons_of_mem _ (List.mem_cons_of_mem _ (List.mem_cons_of_mem _ (List.mem_cons_of_mem _ (List.mem_cons_of_mem _ (List.mem_cons_of_mem _ (List.mem_cons_of_mem _ (List.mem_cons_of_mem _ (List.mem_cons_of_mem _ List.mem_cons_self))))))))))))))) T.mkk_NoVariant hr rfl (dk_cons (de_ixE (de_v 0 (pv 0)) de_int) dk_nil))) (da_cons (de_xf "index" T.xr (List.mem_cons_of_mem _ (List.mem_cons_of_mem _ (List.mem_cons_of_mem _ List.mem_cons_self))) (de_mk1K "index" T.ek (List.mem_cons_of_mem _ (List.mem_cons_of_mem _ (List.mem_cons_of_mem _ (List.mem_cons_of_mem _ (List.mem_cons_of_mem _ (List.mem_cons_of_mem _ (List.mem_cons_of_mem _ (List.mem_cons_of_mem _ (List.mem_cons_of_mem _ (List.mem_cons_of_mem _ (List.mem_cons_of_mem _ (List.mem_cons_of_mem _ (List.mem_cons_of_mem _ (List.mem_cons_of_mem _ (List.mem_cons_of_mem _ (List.mem_cons_of_mem _ List.mem_cons_self)))))))))))))))) T.mkk_NoLine hr rfl (dk_cons (de_ixE (de_v 0 (pv 0)) de_int) dk_nil))) da_nil)))))))))))))) ?_
  refine ho__law_named fun a b c d e f g h Qd _ q => ?_
  try dsimp only at *
  rw [st__law_named]
  nofun
  repeat (first | exact q | refine ⟨_, rfl, ?_⟩ | refine And.intro (by simp) ?_ | refine And.intro (by decide) ?_)
theorem ok__law_caught (T : Tx K mg f__law_pen f__law_draw f__law_made f__law_marks f__law_above f__law_above_due f__law_fields f__law_named f__law_caught f_law fd__law_pen fd__law_draw fd__law_made fd__law_marks fd__law_above fd__law_above_due fd__law_fields fd__law_named fd__law_caught fd_law) : FnD P w K mg base CX0 1 f__law_caught fd__law_caught ["_law_one", "_law_two"] sp__law_caught := by
  refine FnD.of0 T.d__law_caught.F sc__law_caught 0 _ (fun cdv A outer s H E Z0 hA hr hz => (dss_cons (ds_set 2 sc__law_caught.nd (de_lstO da_nil))
      (dss_cons (ds_tryA3 (f := "other") (g := "line") (h3 := "width") (i := 3) (k := 2) T.xr L2.takes0 sc__law_caught.nd (List.mem_cons_of_mem _ (List.mem_cons_of_mem _ (List.mem_cons_of_mem _ (List.mem_cons_of_mem _ (List.mem_cons_of_mem _ (List.mem_cons_of_mem _ (List.mem_cons_of_mem _ (List.mem_cons_of_mem _ (List.mem_cons_of_mem _ (List.mem_cons_of_mem _ (List.mem_cons_of_mem _ (List.mem_cons_of_mem _ (List.mem_cons_of_mem _ (List.mem_cons_of_mem _ (List.mem_cons_of_mem _ (List.mem_cons_of_mem _ (List.mem_cons_of_mem _ (List.mem_cons_of_mem _ (List.mem_cons_of_mem _ (List.mem_cons_of_mem _ List.mem_cons_self)))))))))))))))))))) (List.mem_cons_of_mem _ (List.mem_cons_of_mem _ (List.mem_cons_of_mem _ (List.mem_cons_of_mem _ (List.mem_cons_of_mem _ (List.mem_cons_of_mem _ List.mem_cons_self)))))) (List.mem_cons_of_mem _ (List.mem_cons_of_mem _ (List.mem_cons_of_mem _ (List.mem_cons_of_mem _ List.mem_cons_self)))) (List.mem_cons_of_mem _ (List.mem_cons_of_mem _ (List.mem_cons_of_mem _ (List.mem_cons_of_mem _ (List.mem_cons_of_mem _ List.mem_cons_self))))) (fun W pn xe tk => (dss_one (ds_raise3B "line" "width" "other" rfl tk T.mkk_RootConflict hr rfl (dk_cons (de_v 0 (pv 0)) (dk_cons (de_v 1 (pv 1)) (dk_cons (de_v 0 (pv 0)) dk_nil)))))) (fun a oe pn te1 te2 te3 h1 h2 h3 => pss_one (ps_expr (pe_bm PySem.F.plainAttrs_list PySem.F.slot_list_append PySem.F.type_list_append mt_append (pv 2) (pa_cons (pe_tup (pa_cons h1 (pa_cons h2 (pa_cons h3 pa_nil)))) pa_nil)))) (fun p a oe pn => pv 3))
      (dss_cons (ds_tryA (f := "length") (i := 3) (k := 2) T.xr L2.takes0 sc__law_caught.nd (List.mem_cons_of_mem _ (List.mem_cons_of_mem _ (List.mem_cons_of_mem _ (List.mem_cons_of_mem _ (List.mem_cons_of_mem _ (List.mem_cons_of_mem _ (List.mem_cons_of_mem _ (List.mem_cons_of_mem _ (List.mem_cons_of_mem _ (List.mem_cons_of_mem _ (List.mem_cons_of_mem _ (List.mem_cons_of_mem _ (List.mem_cons_of_mem _ List.mem_cons_self))))))))))))) (List.mem_cons_of_mem _ (List.mem_cons_of_mem _ (List.mem_cons_of_mem _ (List.mem_cons_of_mem _ (List.mem_cons_of_mem _ (List.mem_cons_of_mem _ (List.mem_cons_of_mem _ (List.mem_cons_of_mem _ List.mem_cons_self)))))))) (fun W pn xe tk => (dss_one (ds_raise1K "length" rfl tk T.mkk_TooLong hr rfl (dk_cons (de_v 0 (pv 0)) dk_nil)))) (fun a oe pn te h => pss_one (ps_expr (pe_bm PySem.F.plainAttrs_list PySem.F.slot_list_append PySem.F.type_list_append mt_append (pv 2) (pa_cons h pa_nil)))) (fun a oe pn => pv 3))
      (dss_cons (ds_tryA (f := "index") (i := 3) (k := 2) T.xr L2.takes0 sc__law_caught.nd (List.mem_cons_of_mem _ (List.mem_cons_of_mem _ (List.mem_cons_of_mem _ (List.mem_cons_of_mem _ (List.mem_cons_of_mem _ (List.mem_cons_of_mem _ (List.mem_cons_of_mem _ (List.mem_cons_of_mem _ (List.mem_cons_of_mem _ (List.mem_cons_of_mem _ (List.mem_cons_of_mem _ (List.mem_cons_of_mem _ (List.mem_cons_of_mem _ (List.mem_cons_of_mem _ (List.mem_cons_of_mem _ (List.mem_cons_of_mem _ List.mem_cons_self)))))))))))))))) (List.mem_cons_of_mem _ (List.mem_cons_of_mem _ (List.mem_cons_of_mem _ List.mem_cons_self))) (fun W pn xe tk => (dss_one (ds_raise1K "index" rfl tk T.mkk_NoLine hr rfl (dk_cons (de_v 1 (pv 1)) dk_nil)))) (fun a oe pn te h => pss_one (ps_expr (pe_bm PySem.F.plainAttrs_list PySem.F.slot_list_append PySem.F.type_list_append mt_append (pv 2) (pa_cons h pa_nil)))) (fun a oe pn => pv 3))
      (dss_frz 0 2 hz (dss_one (ds_ret (de_v 2 (pv 2)))))))))) ?_
  refine ho__law_caught fun a b Qd _ q => ?_
  try dsimp only at *
  rw [st__law_caught]
  nofun
  refine ⟨by simp, ?_⟩
  rw [if_pos (by decide +kernel)]
  refine ⟨_, rfl, _, rfl, _, rfl, by simp, ?_⟩
  rw [if_pos (by decide +kernel)]
  refine ⟨_, rfl, by simp, ?_⟩
  rw [if_pos (by decide +kernel)]
  refine ⟨_, rfl, fun c m => ?_, q⟩
  rw [List.mem_singleton.mp m]
  trivial
theorem ok_law (T : Tx K mg f__law_pen f__law_draw f__law_made f__law_marks f__law_above f__law_above_due f__law_fields f__law_named f__law_caught f_law fd__law_pen fd__law_draw fd__law_made fd__law_marks fd__law_above fd__law_above_due fd__law_fields fd__law_named fd__law_caught fd_law) : FnD P w K mg base CX0 2 f_law fd_law ["_law_script"] sp_law := by
  refine FnD.of0 T.d_law.F sc_law 0 _ (fun cdv A outer s H E Z0 hA hr hz => (dss_cons (ds_set 1 sc_law.nd (de_call (ok__law_pen T) hA (hr.mono (by decide)) (by first | exact lD fun _ => rfl | exact lP fun _ => rfl | exact l1) rfl T.d__law_pen.g T.d__law_pen.F.kp T.d__law_pen.b (da_cons (de_v 0 (pv 0)) da_nil)))
      (dss_cons (ds_setLc 2 rfl sc_law.nd (di_rng1 rfl T.b_range (da_cons de_int da_nil)) (blkOk_by (own := [("_law_k", 9)]) (N := N_law) (sc := defScope s_law) (by decide +kernel)) (by decide) (fun _ _ _ _ _ => (dg_name 9 sc_law.nd)) (fun _ _ _ _ _ => dpt_nil) (fun _ _ _ _ _ => (de_ixE (de_lst (da_cons (de_callQ fo__law_draw (ok__law_draw T) hA (hr.mono (by decide)) rfl rfl T.d__law_draw.g T.d__law_draw.F.kp T.d__law_draw.b (da_cons (de_v 1 (pv 1)) (da_cons de_int da_nil))) (da_cons (de_op d2_add op_addR (de_op d2_pow op_pow de_int de_int) (de_callQ fo__law_draw (ok__law_draw T) hA (hr.mono (by decide)) rfl rfl T.d__law_draw.g T.d__law_draw.F.kp T.d__law_draw.b (da_cons (de_v 1 (pv 1)) (da_cons (de_op d2_pow op_pow de_int de_int) da_nil)))) da_nil))) (de_callQ fo__law_draw (ok__law_draw T) hA (hr.mono (by decide)) rfl rfl T.d__law_draw.g T.d__law_draw.F.kp T.d__law_draw.b (da_cons (de_v 1 (pv 1)) (da_cons de_int da_nil))))) (sw_true rfl rfl rfl (by decide +kernel)))
      (dss_cons (ds_set 3 sc_law.nd (de_callF fo__law_made (ok__law_made T) hA (hr.mono (by decide)) rfl rfl T.d__law_made.g T.d__law_made.F.kp T.d__law_made.b (da_cons (de_v 2 (pv 2)) da_nil)))
      (dss_cons (ds_for PassesOwn.never rfl (di_enumY rfl T.b_enumerate (da_cons (de_v 3 (pv 3)) da_nil)) (dg_tup (n := 2) rfl (dgs_cons (dg_name 4 sc_law.nd) (dgs_cons (dg_name 5 sc_law.nd) dgs_nil))) (dss_cons (ds_setLc 8 rfl sc_law.nd (di_rng1 rfl T.b_range (da_cons de_int da_nil)) (blkOk_by (own := [("_law_k", 9)]) (N := N_law) (sc := defScope s_law) (by decide +kernel)) (by decide) (fun _ _ _ _ _ => (dg_name 9 sc_law.nd)) (fun _ _ _ _ _ => dpt_nil) (fun _ _ _ _ _ => (de_cmp d2_eq (op_eqD hr.units) (de_v 9 (pv 9)) (de_v 4 (pv 4)) (nomark _))) (sw_true rfl rfl rfl (by decide +kernel)))
      (dss_one (ds_if (DWs.dt (dw_or (dt_cmp d2_ne (op_neD hr.units) (de_callF fo__law_marks (ok__law_marks T) hA (hr.mono (by decide)) rfl rfl T.d__law_marks.g T.d__law_marks.F.kp T.d__law_marks.b (da_cons (de_v 5 (pv 5)) da_nil)) (de_v 8 (pv 8)) (nomark _)) (dw_or1 (dt_cmp d2_ne (op_neD hr.units) (de_callF fo__law_above (ok__law_above T) hA (hr.mono (by decide)) rfl rfl T.d__law_above.g T.d__law_above.F.kp T.d__law_above.b (da_cons (de_v 5 (pv 5)) da_nil)) (de_callF fo__law_above_due (ok__law_above_due T) hA (hr.mono (by decide)) rfl rfl T.d__law_above_due.g T.d__law_above_due.F.kp T.d__law_above_due.b (da_cons (de_v 4 (pv 4)) da_nil)) (nomark _))))) (dss_one (ds_ret de_bl)) dss_nil))))
      (dss_cons (ds_set 6 sc_law.nd (de_op d2_add op_addR (de_slice (de_v 2 (pv 2)) dpo_none (dpo_some de_int)) (de_lst (da_cons (de_tup (da_cons de_str (da_cons (de_ixE (de_v 2 (pv 2)) de_int) da_nil))) (da_cons (de_tup (da_cons de_str (da_cons (de_ixE (de_v 2 (pv 2)) de_int) (da_cons (de_ixE (de_v 2 (pv 2)) de_int) da_nil)))) (da_cons (de_ixE (de_v 2 (pv 2)) de_int) (da_cons (de_tup (da_cons (de_ixE (de_v 2 (pv 2)) de_int) (da_cons (de_ixE (de_v 2 (pv 2)) de_int) (da_cons (de_ixE (de_v 2 (pv 2)) de_int) da_nil)))) (da_cons (de_ixE (de_v 2 (pv 2)) de_int) da_nil))))))))
      (dss_cons (ds_set 6 sc_law.nd (de_op d2_add op_addR (de_v 6 (pv 6)) (de_lst (da_cons (de_ixE (de_v 2 (pv 2)) de_int) (da_cons (de_ixE (de_v 2 (pv 2)) de_int) (da_cons (de_ixE (de_v 2 (pv 2)) de_int) (da_cons (de_ixE (de_v 2 (pv 2)) de_int) (da_cons (de_ixE (de_v 2 (pv 2)) de_int) da_nil))))))))
      (dss_cons (ds_if (DWs.dt (dw_or (dt_cmp d2_ne (op_neD hr.units) (de_callF fo__law_fields (ok__law_fields T) hA (hr.mono (by decide)) rfl rfl T.d__law_fields.g T.d__law_fields.F.kp T.d__law_fields.b (da_cons (de_v 3 (pv 3)) da_nil)) (de_v 6 (pv 6)) (nomark _)) (dw_or1 (dt_cmp d2_ne (op_neD hr.units) (de_callF fo__law_named (ok__law_named T) hA (hr.mono (by decide)) rfl rfl T.d__law_named.g T.d__law_named.F.kp T.d__law_named.b (da_cons (de_v 2 (pv 2)) da_nil)) (de_v 6 (pv 6)) (nomark _))))) (dss_one (ds_ret de_bl)) dss_nil)
      (dss_cons (ds_if (dt_cmp d2_ne (op_neD hr.units) (de_callF fo__law_caught (ok__law_caught T) hA (hr.mono (by decide)) rfl rfl T.d__law_caught.g T.d__law_caught.F.kp T.d__law_caught.b (da_cons (de_ixE (de_v 2 (pv 2)) de_int) (da_cons (de_ixE (de_v 2 (pv 2)) de_int) da_nil))) (de_lst (da_cons (de_tup (da_cons (de_ixE (de_v 2 (pv 2)) de_int) (da_cons (de_ixE (de_v 2 (pv 2)) de_int) (da_cons (de_ixE (de_v 2 (pv 2)) de_int) da_nil)))) (da_cons (de_ixE (de_v 2 (pv 2)) de_int) (da_cons (de_ixE (de_v 2 (pv 2)) de_int) da_nil)))) (nomark _)) (dss_one (ds_ret de_bl)) dss_nil)
      (dss_cons (ds_set 7 sc_law.nd (de_mk0 T.ek (List.mem_cons_of_mem _ (List.mem_cons_of_mem _ (List.mem_cons_of_mem _ (List.mem_cons_of_mem _ (List.mem_cons_of_mem _ (List.mem_cons_of_mem _ (List.mem_cons_of_mem _ (List.mem_cons_of_mem _ (List.mem_cons_of_mem _ (List.mem_cons_of_mem _ (List.mem_cons_of_mem _ (List.mem_cons_of_mem _ (List.mem_cons_of_mem _ (List.mem_cons_of_mem _ (List.mem_cons_of_mem _ (List.mem_cons_of_mem _ (List.mem_cons_of_mem _ (List.mem_cons_of_mem _ (List.mem_cons_of_mem _ (List.mem_cons_of_mem _ List.mem_cons_self)))))))))))))))))))) T.mk_PrismError rfl))
      (dss_cons (ds_if (DWs.dt (dw_or (dt_not (dt_tru (de_isE1 T.xr (de_v 7 (pv 7)) (List.mem_cons_of_mem _ (List.mem_cons_of_mem _ (List.mem_cons_of_mem _ (List.mem_cons_of_mem _ (List.mem_cons_of_mem _ (List.mem_cons_of_mem _ (List.mem_cons_of_mem _ (List.mem_cons_of_mem _ (List.mem_cons_of_mem _ (List.mem_cons_of_mem _ (List.mem_cons_of_mem _ (List.mem_cons_of_mem _ (List.mem_cons_of_mem _ (List.mem_cons_of_mem _ (List.mem_cons_of_mem _ (List.mem_cons_of_mem _ (List.mem_cons_of_mem _ (List.mem_cons_of_mem _ (List.mem_cons_of_mem _ (List.mem_cons_of_mem _ (List.mem_cons_of_mem _ List.mem_cons_self))))))))))))))))))))) rfl T.b_isinstance (by decide +kernel)))) (dw_or1 (dt_cmp d2_inX (op_inX (room65 hr)) de_bl (de_callF fo__law_marks (ok__law_marks T) hA (hr.mono (by decide)) rfl rfl T.d__law_marks.g T.d__law_marks.F.kp T.d__law_marks.b (da_cons (de_v 7 (pv 7)) da_nil)) (by with_unfolding_all rfl))))) (dss_one (ds_ret de_bl)) dss_nil)
      (dss_one (ds_ret (de_cmp d2_eq (op_eqD hr.units) (de_tup (da_cons (de_c (C8.pe_gc rfl (glI T.c_LONGEST)) fun _ => .int _) (da_cons (de_c (C8.pe_gc rfl (glI T.c_MOST_CHARACTERS)) fun _ => .int _) (da_cons (de_c (C8.pe_gc rfl (glI T.c_MOST_LINES)) fun _ => .int _) (da_cons (de_c (C8.pe_gc rfl (glI T.c_MOST_STATES)) fun _ => .int _) da_nil))))) (de_tup (da_cons de_int (da_cons de_int (da_cons de_int (da_cons de_int da_nil))))) (nomark _))))))))))))))) ?_
  refine e1 fun a cs Qd Ed => ?_
  rintro ⟨ns, rfl, rfl, q⟩
  refine ⟨rfl, ?_⟩
  rw [st_law]
  simp -implicitDefEqProofs only [↓Pz.wC_ap, ↓Pz.wVar_ap, ↓Pz.wOp_ap, ↓Pz.wTest_ap, ↓Pz.wNil_ap, ↓Pz.wCons_ap, ↓Pz.wCall_ap, ↓Pz.wCallW_ap, ↓Pz.wApp_ap, ↓Pz.wLst_ap, ↓Pz.wTup_ap, ↓Pz.wLstO_ap, ↓Pz.wNoPart_ap, ↓Pz.wPart_ap, ↓Pz.wSl_ap, ↓Pz.wAnd_ap, ↓Pz.wOr_ap, ↓Pz.wNot_ap, ↓Pz.wAndV_ap, ↓Pz.wOrV_ap, ↓Pz.wNotV_ap, ↓Pz.wIfE_ap, ↓Pz.wTru_ap, ↓Pz.wChain_ap, ↓Pz.wNeg_ap, ↓Pz.wAug_ap, ↓Pz.gNm_ap, ↓Pz.gNl_ap, ↓Pz.gCn_ap, ↓Pz.gTp_ap, ↓Pz.wAsg_ap, ↓Pz.wItE_ap, ↓Pz.wRng1_ap, ↓Pz.wRng2_ap, ↓Pz.wYes_ap, ↓Pz.wLc_ap, ↓Pz.wLcO_ap, ↓Pz.wBM_ap, ↓Pz.wSetIx_ap, ↓Pz.wFrz_ap, ↓Pz.wCallF_ap, ↓Pz.wCallQ_ap, ↓Pz.wCallWF_ap, ↓Pz.wRev_ap, ↓Pz.wRg1_ap, ↓Pz.wRg2_ap, ↓Pz.wListRg_ap, ↓Pz.wRng3_ap, ↓Pz.wEnum_ap, ↓Pz.wZip_ap, ↓Pz.wCallQO_ap, ↓Pz.wDPut_ap, ↓Pz.wPNil_ap, ↓Pz.wPCons_ap, ↓Pz.wDisp_ap, ↓Pz.wDNew_ap, ↓Pz.wDNil_ap, ↓Pz.wEnumX_ap, ↓Pz.wCallE_ap, ↓Pz.wSlO_ap, ↓Pz.wEnumY_ap, ↓Pz.wDGet2_ap, ↓Pz.wMaxDf_ap, ↓Pz.wCallFO_ap, ↓Pz.wRevY_ap, ↓Pz.wFrzX_ap, ↓Pz.wSwp_ap, ↓Pz.wCallX_ap, ↓Pz.wCallXO_ap, ↓Pz.wCallWX_ap, ↓Pz.wRaise1_ap, ↓Pz.wRaise0_ap, ↓Pz.wTry_ap, ↓Pz.wIsE_ap, ↓Pz.wXf_ap, ↓Pz.wDispD_ap, ↓Pz.wSortLen_ap, ↓Pz.wGGet_ap, ↓Pz.wMinDf_ap, ↓Pz.wPar_ap, ↓Pz.wLam_ap, ↓Pz.wAct_ap, ↓Pz.wRep_ap, ↓Pz.wZipM_ap, ↓Pz.wZipN_ap, ↓Pz.wLenSet_ap, ↓Pz.wBor_ap, ↓Pz.gTpL_ap, ↓Pz.wTupRg_ap, ↓Pz.wRevS_ap, ↓Pz.wFmt_ap, ↓Pz.wJoined_ap, ↓Pz.wAsgS_ap, ↓Pz.wPar3_ap, ↓Pz.wDc_ap, ↓Pz.wDcT_ap, ↓Pz.wDGet3_ap, ↓Pz.wListV_ap, ↓Pz.wSumV_ap, ↓Pz.wDIn_ap, ↓Pz.wTGet2_ap, ↓Pz.wTPut_ap, ↓Pz.wDAug_ap, ↓Pz.wFrzL_ap, ↓Pz.wItV_ap, ↓Pz.wItI_ap, ↓Pz.wItK_ap, ↓Pz.wDisp1_ap, ↓Pz.wBorD_ap, ↓Pz.wDNewT_ap, ↓Pz.wCallFD_ap, ↓Pz.wDNew_ap, ↓Pz.wItC_ap, ↓Pz.wCallXE_ap, ↓Pz.wTSetd_ap, ↓Pz.wListRgO_ap, ↓Pz.wTryC_ap, ↓Pz.wTry2_ap, ↓Pz.wRepl_ap, ↓Pz.wThaw_ap, ↓Pz.wBorN_ap, ↓Pz.wZip3_ap, ↓Pz.wLcX_ap, ↓Pz.wLcXO_ap, ↓Pz.wMk0_ap, ↓Pz.wMk1_ap, ↓Pz.wMk3_ap, ↓Pz.wMk3A_ap, ↓Pz.wRaise3B_ap, ↓Pz.wTryA_ap, ↓Pz.wTryA3_ap, ↓Pz.wMinLen_ap, ↓Pz.wDNewN_ap, ↓Pz.wNSetd_ap, ↓Pz.wFrzN_ap, Pz.setAll, ↓Pz.wClose_ap, ↓Pz.wSetIxO_ap, ↓Pz.oIxS_ap, ↓Pz.wRaise3_ap, ↓Pz.oMulT_ap, Pz.dkX, Pz.unKD_kdD, Option.isSome_some, ↓Pz.wOrX_apS, ↓Pz.wAndX_apS, ↓Pz.orP_str, Pz.orP_some, Pz.orP_none, ↓oTGet, ↓oLtS, ↓oLtT, ↓fListKy, ↓fSortKy, ↓fLenD_o, ↓Pz.aFD, Pz.unD_K, Pz.unD_T, Pz.kyS_t, Pz.keysL_nil, Pz.keysL_ci, Pz.keysL_cs, ↓Pz.dtAt_o, Pz.dtAt_L, ↓Pz.dkAny_o, Pz.dkAny_D, Pz.dkAny_L, ↓Pz.dvAt_o, Pz.dvAt_D, Pz.dvAt_L, Pz.dvAt_T, ↓Pz.dkyS_o, Pz.dkyS_D, Pz.dkyS_L, Pz.dkyS_T, ↓Pz.dinS_o, Pz.dinS_D, Pz.dinS_L, Pz.dinS_T, Pz.lkP_K, Pz.lkP_T, Pz.lkV_K, Pz.lkV_T, Pz.lkV_N, ↓Pz.dnAt_o, Pz.oK_n, Pz.oK_i, ↓ret1_dT, cl_dt, Pz.lkOf_K, Pz.lkOf_T, Pz.xor_f, Pz.xor_t, Pz.hasD_int, Option.bind, Option.bind_some, List.set, ↓seq_mk, ↓wTrim_mk, trimS, List.take_succ_cons, List.take_zero, Nat.reduceLT, ↓nx_mk, ↓set_mk, ↓if_mk, nthS, ↓oEq, ↓oNe, vw, ↓oAdd, ↓oSub, ↓oIadd, ↓oDGet, keyOf_str, keyOf_int, keyS_str, keyS_int, ↓dkAt_o, valE_cells, valE_at, valE_left, putE_at, putE_left, mergeE, mergeD1, kvD1, keyD_s, keyD_i, ret1_dE, cl_dk, ↓fIsi, ↓fDivmod, ↓fStr, Pz.okT_int, Pz.is_int_none, Pz.is_int_bool, Pz.is_int_int, Pz.is_int_str, Pz.is_int_list, Pz.is_int_tuple, Pz.is_int_dict, Pz.okT_bool, Pz.is_bool_none, Pz.is_bool_bool, Pz.is_bool_int, Pz.is_bool_str, Pz.is_bool_list, Pz.is_bool_tuple, Pz.is_bool_dict, Pz.okT_str, Pz.is_str_none, Pz.is_str_bool, Pz.is_str_int, Pz.is_str_str, Pz.is_str_list, Pz.is_str_tuple, Pz.is_str_dict, Pz.okT_tuple, Pz.is_tuple_none, Pz.is_tuple_bool, Pz.is_tuple_int, Pz.is_tuple_str, Pz.is_tuple_list, Pz.is_tuple_tuple, Pz.is_tuple_dict, Pz.okT_list, Pz.is_list_none, Pz.is_list_bool, Pz.is_list_int, Pz.is_list_str, Pz.is_list_list, Pz.is_list_tuple, Pz.is_list_dict, Pz.is_dict_none, Pz.is_dict_bool, Pz.is_dict_int, Pz.is_dict_str, Pz.is_dict_list, Pz.is_dict_tuple, Pz.is_dict_dict, ↓oFdiv, ↓oMod, ↓oMul, ↓oPow, ↓oBool, ↓oII, ↓oIsN, ↓oNotN, ↓oIn, ↓oInX, ↓oInQ, ↓oInT, ↓oIsB, ↓oIsBN, ↓oNotB, noneS, ↓ret_mk, ↓retN_mk, ↓bk_mk, ↓ct_mk, ↓expr_mk, ↓for_mk, truD, ↓oIxE, ↓mPopAt, ↓mIndex, ↓mInsert, ↓fIntS, ↓fStrN, ↓Pz.wJs_cons, ↓Pz.wJs_nil, at0, at1, at2, at3, ix10, ix20, ix21, ix30, ix31, ix32, Pz.len1, Pz.len2, Pz.len3, List.length_nil, List.length_cons, sh_int, sh_bl, sh_non, Int.reduceEq, reduceCtorEq, decide_true, decide_false, sh_nil, eqv_nn, eqv_nilL, List.isEmpty_map, sh_lit, List.flatten_replicate_singleton, List.length_replicate, eqv_int, Nat.zero_le, szL, Nat.reduceLeDiff, Nat.reduceAdd, ↓ret1_d, ↓ret1_o0, ↓ret1_o1, ↓ret1_o2, ↓ret0_o0, ↓ret_d, cl_lst, true_and, and_true, decide_eq_true_eq, ↓oSl, ↓oSlO, ↓fLen, ↓fAbs, ↓fInt, ↓fMaxE, ↓fMinE, ↓fSumE, ↓Pz.fSumL, ↓fAll, ↓fAny, ↓fList, ↓fListO, ↓fListE, ↓fListEO, ↓fTuple, ↓fSortedE, ↓fSortedS, ↓fSortedG, ↓Pz.fSortedGO, ↓fRep, ↓fRepX, ↓fRepZ, ↓fRepW, ↓fBool, vwJ_l, vwJ_t, vwS_l, vwS_t, vwB, dsOf, tyD, ↓mAppend, ↓mExtend, ↓mPop, ↓mReverse, ↓mSplit, ↓mSplitO, ↓mStrip, ↓mLstrip, ↓mRstrip, ↓mStr2, ↓mPart, ↓mJoinE, frzS, frzX, ↓excOf_o, Pz.excOf_d, ↓oDGetX, List.map_cons, List.map_nil, List.getElem?_cons_zero, List.getElem?_cons_succ, List.cons_append, List.nil_append, Bool.false_eq_true, Bool.true_eq_false, ↓reduceIte, p10_3, p10_6, p10_7, p10_9, p10_12, Option.map, ↓aQ, ↓aQO, ↓aFO, borS, cleanS, noD, noDAll, atomD, ↓aXO, ↓oAddO, ↓oMulO, Option.some.injEq, exists_eq_left', exists_and_left, datO, datQ_d, ↓mCount, ↓mCountS, Bool.not_true, Bool.not_false, ↓F__law_draw, ↓F__law_made, ↓F__law_marks, ↓F__law_above, ↓F__law_above_due, ↓F__law_fields, ↓F__law_named, ↓F__law_caught]
  refine pen_call fun c0 p0 => ?_
  nofun
  refine ⟨by decide, by decide, ?_⟩
  refine lcL_ind (fun ds acc st => ∃ (c : Ct) (j : Nat) (zs : List Int), st = [c] ∧ Pen j c ∧ j + 3 * ds.length ≤ 24 ∧ acc = zs.map .int ∧ zs.length + ds.length = 8) ?_ ?_ _ _ _ ⟨c0, 0, [], rfl, p0, by rw [len_rng]; decide, rfl, by rw [len_rng]; decide⟩
  · rintro acc st ⟨c, j, zs, rfl, pj, hj, rfl, hl⟩
    match zs, hl with
    | [a, b, c1, d, e, f, g, h], _ =>
      simp only [List.map_cons, List.map_nil]
      refine forL_ix (fun (ds : List PyData) (sl : Sls) (st : Sto) => ∃ (k : Nat) (s_4 s_5 s_6 s_7 s_8 s_9 : Option Sl), sl = [some (.f ns), some (.o 0), some (.d (.list [.int a, .int b, .int c1, .int d, .int e, .int f, .int g, .int h])), some (.d (.list (madeL a b c1 d e f g h))), s_4, s_5, s_6, s_7, s_8, s_9] ∧ st = [c] ∧ ds = enumD k ((madeL a b c1 d e f g h).drop k) ∧ k ≤ 20) ?_ ?_ _ _ _ ⟨0, _, _, _, _, _, _, rfl, rfl, rfl, by omega⟩
      · rintro sl st ⟨k, s_4, s_5, s_6, s_7, s_8, s_9, rfl, rfl, hd, hk⟩
        nofun
        refine ⟨_, rfl, _, rfl, _, rfl, _, rfl, by show 4 ≤ 16777211; decide, _, rfl, _, rfl, _, rfl, _, rfl, by show 9 ≤ 16777211; decide, ⟨a, b, c1, d, e, f, g, h, rfl⟩, fun a2 b2 c2 d2 e2 f2 g2 h2 e9 => ?_⟩
        obtain ⟨rfl, rfl, rfl, rfl, rfl, rfl, rfl, rfl⟩ := madeL_inj e9
        have e0 : (Pz.cutD [PyData.int a, .int b, .int c1, .int d, .int e, .int f, .int g, .int h] none (some 4) ++ [PyData.tuple [PyData.str (Str.ofString "rise"), PyData.int e], PyData.tuple [PyData.str (Str.ofString "conflict"), PyData.int f, PyData.int g], PyData.int h, PyData.tuple [PyData.int a, PyData.int b, PyData.int c1], PyData.int d] ++ [PyData.int e, PyData.int f, PyData.int g, PyData.int h, PyData.int a]) = dueF a b c1 d e f g h := rfl
        rw [e0, due_eqv]
        refine ⟨due_sh, due_sh, ?_⟩
        rw [if_neg (by simp)]
        refine ⟨due_sh, due_sh, ?_⟩
        rw [if_neg (by simp)]
        refine ⟨rfl, rfl, ?_⟩
        rw [if_neg (by simp [PyData.eqv, PyData.eqvAll])]
        refine ⟨by simp, ?_⟩
        rw [if_neg (by decide +kernel)]
        refine ⟨⟨_, _, rfl, .inr rfl⟩, fun cc fs2 e2 => ?_⟩
        obtain rfl := excD_inj e2
        rw [marks_base]
        dsimp only
        refine ⟨rfl, by decide +kernel, ?_⟩
        rw [if_neg (by decide +kernel)]
        refine ⟨by decide +kernel, by decide +kernel, ?_⟩
        rw [show PyData.eqv (.tuple [.int 60, .int 1000, .int 20, .int 400]) (.tuple [.int 60, .int 1000, .int 20, .int 400]) = true from by decide +kernel]
        exact q
      · rintro R B d0 ds sl st ih ⟨k, s_4, s_5, s_6, s_7, s_8, s_9, rfl, rfl, hd, hk⟩
        have hlt : k < 20 := by
          rcases Nat.lt_or_ge k 20 with z | z
          · exact z
          · rw [List.drop_eq_nil_of_le (show (madeL a b c1 d e f g h).length ≤ k from z)] at hd
            cases hd
        obtain ⟨fs, hfs⟩ := made_at (a := a) (b := b) (c := c1) (d := d) (e := e) (f := f) (g := g) (h := h) k hlt
        obtain ⟨hl2, hg2⟩ := List.getElem?_eq_some_iff.mp hfs
        rw [List.drop_eq_getElem_cons hl2, hg2, enumD, List.cons.injEq] at hd
        obtain ⟨rfl, rfl⟩ := hd
        subst_eqs
        rw [seq_mk]
        subst_eqs
        refine ⟨by decide, by decide, ?_⟩
        refine lc_map (fun d => .bool (PyData.eqv d (.int (k : Nat)))) (by rw [len_rng]; decide) (fun d md R2 hR => ?_) ?_
        · rw [rng] at md
          obtain ⟨j, _, rfl⟩ := List.mem_map.mp md
          subst_vars
          exact hR
        · rw [show Int.toNat 20 = 20 from rfl, own_eq]
          refine ⟨⟨_, _, rfl, .inl (ecN_mem k hlt)⟩, fun cc fs1 e1 => ?_⟩
          obtain rfl := excD_inj e1
          obtain ⟨m1, m2, m3⟩ := marks_own k hlt
          refine ⟨m1, m2, ?_⟩
          rw [m3, if_neg (by simp)]
          refine ⟨⟨_, _, rfl, .inl (ecN_mem k hlt)⟩, fun cc fs2 e2 => ?_⟩
          obtain rfl := excD_inj e2
          refine ⟨⟨by omega, by omega⟩, ?_⟩
          rw [Int.toNat_natCast]
          obtain ⟨m1, m2, m3⟩ := above_own k hlt
          refine ⟨m1, m2, ?_⟩
          rw [m3, if_neg (by simp)]
          exact ih _ _ ⟨k + 1, _, _, _, _, _, _, rfl, rfl, rfl, by omega⟩
  · rintro R d ds acc st ih ⟨c, j, zs, rfl, pj, hj, rfl, hl⟩
    rw [List.length_cons] at hj hl
    subst_vars
    refine ⟨_, pj, by omega, ⟨by omega, by omega⟩, fun r1 a1 b1 c2 p1 => ?_⟩
    refine ⟨cpow (by omega) (by omega) (by omega) (by omega), cpow (by omega) (by omega) (by omega) (by omega), ?_⟩
    refine ⟨_, p1, by omega, ⟨by omega, by omega⟩, fun r2 a2 b2 c3 p2 => ?_⟩
    refine ⟨_, p2, by omega, ⟨by omega, by omega⟩, fun r3 a3 b3 c4 p3 => ?_⟩
    refine pickM (P := fun d => ∃ z : Int, d = .int z) (fun d md => ?_) a3 (by simpa using b3) fun d ⟨z, hz⟩ => ?_
    · simp only [List.mem_cons, List.not_mem_nil, or_false] at md
      rcases md with rfl | rfl
      · exact ⟨_, rfl⟩
      · exact ⟨_, rfl⟩
    subst hz
    exact ⟨by rw [List.length_map]; omega, ih _ _ ⟨c4, _, zs ++ [z], rfl, p3, by omega, by simp, by rw [List.length_append, List.length_singleton]; omega⟩⟩
theorem all_mk {l : PySem.W.OpenLaw} {w : World} {K : Frag} {h : Heap} {mg : Str → Option Value} {fa f__law_pen f__law_draw f__law_made f__law_marks f__law_above f__law_above_due f__law_fields f__law_named f__law_caught f_law : Addr} (X : K.In h) (G : h.Ns mainGlobals mg) (hfa : mg "law" = some (.ref fa))
    {od__law_pen an__law_pen : Option Addr} {sl__law_pen : Array (Option Value)} {oc__law_pen kV__law_pen dc__law_pen pm__law_pen cd__law_pen ct__law_pen : Value}
    {od__law_draw an__law_draw : Option Addr} {sl__law_draw : Array (Option Value)} {oc__law_draw kV__law_draw dc__law_draw pm__law_draw cd__law_draw ct__law_draw : Value}
    {od__law_made an__law_made : Option Addr} {sl__law_made : Array (Option Value)} {oc__law_made kV__law_made dc__law_made pm__law_made cd__law_made ct__law_made : Value}
    {od__law_marks an__law_marks : Option Addr} {sl__law_marks : Array (Option Value)} {oc__law_marks kV__law_marks dc__law_marks pm__law_marks cd__law_marks ct__law_marks : Value}
    {od__law_above an__law_above : Option Addr} {sl__law_above : Array (Option Value)} {oc__law_above kV__law_above dc__law_above pm__law_above cd__law_above ct__law_above : Value}
    {od__law_above_due an__law_above_due : Option Addr} {sl__law_above_due : Array (Option Value)} {oc__law_above_due kV__law_above_due dc__law_above_due pm__law_above_due cd__law_above_due ct__law_above_due : Value}
    {od__law_fields an__law_fields : Option Addr} {sl__law_fields : Array (Option Value)} {oc__law_fields kV__law_fields dc__law_fields pm__law_fields cd__law_fields ct__law_fields : Value}
    {od__law_named an__law_named : Option Addr} {sl__law_named : Array (Option Value)} {oc__law_named kV__law_named dc__law_named pm__law_named cd__law_named ct__law_named : Value}
    {od__law_caught an__law_caught : Option Addr} {sl__law_caught : Array (Option Value)} {oc__law_caught kV__law_caught dc__law_caught pm__law_caught cd__law_caught ct__law_caught : Value}
    {od_law an_law : Option Addr} {sl_law : Array (Option Value)} {oc_law kV_law dc_law pm_law cd_law ct_law : Value}
    (a__law_pen : PySem.W.nsIn K mainGlobals "_law_pen" = some (some (.ref f__law_pen))) (l__law_pen : K.lookup f__law_pen = some ⟨oc__law_pen, od__law_pen, .func (PySem.W.fnOf "_law_pen" "_law_pen" (defArgs s__law_pen) (defBody s__law_pen) (defScope s__law_pen) .none kV__law_pen dc__law_pen pm__law_pen an__law_pen cd__law_pen ct__law_pen), sl__law_pen⟩) (c__law_pen : PySem.W.codeIn K cd__law_pen "_law_pen" = true) (k__law_pen : PySem.W.keepIn K (.ref f__law_pen) = true)
    (a__law_draw : PySem.W.nsIn K mainGlobals "_law_draw" = some (some (.ref f__law_draw))) (l__law_draw : K.lookup f__law_draw = some ⟨oc__law_draw, od__law_draw, .func (PySem.W.fnOf "_law_draw" "_law_draw" (defArgs s__law_draw) (defBody s__law_draw) (defScope s__law_draw) .none kV__law_draw dc__law_draw pm__law_draw an__law_draw cd__law_draw ct__law_draw), sl__law_draw⟩) (c__law_draw : PySem.W.codeIn K cd__law_draw "_law_draw" = true) (k__law_draw : PySem.W.keepIn K (.ref f__law_draw) = true)
    (a__law_made : PySem.W.nsIn K mainGlobals "_law_made" = some (some (.ref f__law_made))) (l__law_made : K.lookup f__law_made = some ⟨oc__law_made, od__law_made, .func (PySem.W.fnOf "_law_made" "_law_made" (defArgs s__law_made) (defBody s__law_made) (defScope s__law_made) .none kV__law_made dc__law_made pm__law_made an__law_made cd__law_made ct__law_made), sl__law_made⟩) (c__law_made : PySem.W.codeIn K cd__law_made "_law_made" = true) (k__law_made : PySem.W.keepIn K (.ref f__law_made) = true)
    (a__law_marks : PySem.W.nsIn K mainGlobals "_law_marks" = some (some (.ref f__law_marks))) (l__law_marks : K.lookup f__law_marks = some ⟨oc__law_marks, od__law_marks, .func (PySem.W.fnOf "_law_marks" "_law_marks" (defArgs s__law_marks) (defBody s__law_marks) (defScope s__law_marks) .none kV__law_marks dc__law_marks pm__law_marks an__law_marks cd__law_marks ct__law_marks), sl__law_marks⟩) (c__law_marks : PySem.W.codeIn K cd__law_marks "_law_marks" = true) (k__law_marks : PySem.W.keepIn K (.ref f__law_marks) = true)
    (a__law_above : PySem.W.nsIn K mainGlobals "_law_above" = some (some (.ref f__law_above))) (l__law_above : K.lookup f__law_above = some ⟨oc__law_above, od__law_above, .func (PySem.W.fnOf "_law_above" "_law_above" (defArgs s__law_above) (defBody s__law_above) (defScope s__law_above) .none kV__law_above dc__law_above pm__law_above an__law_above cd__law_above ct__law_above), sl__law_above⟩) (c__law_above : PySem.W.codeIn K cd__law_above "_law_above" = true) (k__law_above : PySem.W.keepIn K (.ref f__law_above) = true)
    (a__law_above_due : PySem.W.nsIn K mainGlobals "_law_above_due" = some (some (.ref f__law_above_due))) (l__law_above_due : K.lookup f__law_above_due = some ⟨oc__law_above_due, od__law_above_due, .func (PySem.W.fnOf "_law_above_due" "_law_above_due" (defArgs s__law_above_due) (defBody s__law_above_due) (defScope s__law_above_due) .none kV__law_above_due dc__law_above_due pm__law_above_due an__law_above_due cd__law_above_due ct__law_above_due), sl__law_above_due⟩) (c__law_above_due : PySem.W.codeIn K cd__law_above_due "_law_above_due" = true) (k__law_above_due : PySem.W.keepIn K (.ref f__law_above_due) = true)
    (a__law_fields : PySem.W.nsIn K mainGlobals "_law_fields" = some (some (.ref f__law_fields))) (l__law_fields : K.lookup f__law_fields = some ⟨oc__law_fields, od__law_fields, .func (PySem.W.fnOf "_law_fields" "_law_fields" (defArgs s__law_fields) (defBody s__law_fields) (defScope s__law_fields) .none kV__law_fields dc__law_fields pm__law_fields an__law_fields cd__law_fields ct__law_fields), sl__law_fields⟩) (c__law_fields : PySem.W.codeIn K cd__law_fields "_law_fields" = true) (k__law_fields : PySem.W.keepIn K (.ref f__law_fields) = true)
    (a__law_named : PySem.W.nsIn K mainGlobals "_law_named" = some (some (.ref f__law_named))) (l__law_named : K.lookup f__law_named = some ⟨oc__law_named, od__law_named, .func (PySem.W.fnOf "_law_named" "_law_named" (defArgs s__law_named) (defBody s__law_named) (defScope s__law_named) .none kV__law_named dc__law_named pm__law_named an__law_named cd__law_named ct__law_named), sl__law_named⟩) (c__law_named : PySem.W.codeIn K cd__law_named "_law_named" = true) (k__law_named : PySem.W.keepIn K (.ref f__law_named) = true)
    (a__law_caught : PySem.W.nsIn K mainGlobals "_law_caught" = some (some (.ref f__law_caught))) (l__law_caught : K.lookup f__law_caught = some ⟨oc__law_caught, od__law_caught, .func (PySem.W.fnOf "_law_caught" "_law_caught" (defArgs s__law_caught) (defBody s__law_caught) (defScope s__law_caught) .none kV__law_caught dc__law_caught pm__law_caught an__law_caught cd__law_caught ct__law_caught), sl__law_caught⟩) (c__law_caught : PySem.W.codeIn K cd__law_caught "_law_caught" = true) (k__law_caught : PySem.W.keepIn K (.ref f__law_caught) = true)
    (a_law : PySem.W.nsIn K mainGlobals "law" = some (some (.ref f_law))) (l_law : K.lookup f_law = some ⟨oc_law, od_law, .func (PySem.W.fnOf "law" "law" (defArgs s_law) (defBody s_law) (defScope s_law) .none kV_law dc_law pm_law an_law cd_law ct_law), sl_law⟩) (c_law : PySem.W.codeIn K cd_law "law" = true) (k_law : PySem.W.keepIn K (.ref f_law) = true)
    (b_abs : PySem.W.nsIn K mainGlobals "abs" = some none)
    (b_enumerate : PySem.W.nsIn K mainGlobals "enumerate" = some none)
    (b_int : PySem.W.nsIn K mainGlobals "int" = some none)
    (b_isinstance : PySem.W.nsIn K mainGlobals "isinstance" = some none)
    (b_len : PySem.W.nsIn K mainGlobals "len" = some none)
    (b_list : PySem.W.nsIn K mainGlobals "list" = some none)
    (b_range : PySem.W.nsIn K mainGlobals "range" = some none)
    (xr : XRelK K ["InvalidText", "UnbalancedBracket", "IndentedStart", "BadDedent", "InconsistentTabs", "NoIndent", "Unreachable", "InvalidReading", "RootConflict", "InvalidTokens", "InvalidOperation", "InvalidNotation", "UnknownCommand", "TooLong", "TooMany", "NoVariant", "NoLine", "Busy", "NothingToUndo", "NothingToRedo", "PrismError"] ["InvalidText", "UnbalancedBracket", "IndentedStart", "BadDedent", "InconsistentTabs", "NoIndent", "Unreachable", "InvalidReading", "RootConflict", "InvalidTokens", "InvalidOperation", "InvalidNotation", "UnknownCommand", "TooLong", "TooMany", "NoVariant", "NoLine", "Busy", "NothingToUndo", "NothingToRedo", "PrismError", "ValueError", "OverflowError", "IndexError", "RuntimeError", "LookupError", "KeyError", "ArithmeticError"] ["number", "reason", "paper", "index", "line", "width", "other", "at", "length", "count"])
    (ek : XEk K ["InvalidText", "UnbalancedBracket", "IndentedStart", "BadDedent", "InconsistentTabs", "NoIndent", "Unreachable", "InvalidReading", "RootConflict", "InvalidTokens", "InvalidOperation", "InvalidNotation", "UnknownCommand", "TooLong", "TooMany", "NoVariant", "NoLine", "Busy", "NothingToUndo", "NothingToRedo", "PrismError"])
    (mk_InvalidText : Mk0K K "InvalidText")
    (mk_UnbalancedBracket : Mk1K K "UnbalancedBracket" "number")
    (mk_IndentedStart : Mk1K K "IndentedStart" "number")
    (mk_BadDedent : Mk1K K "BadDedent" "number")
    (mk_InconsistentTabs : Mk1K K "InconsistentTabs" "number")
    (mk_NoIndent : Mk1K K "NoIndent" "reason")
    (mk_Unreachable : Mk1K K "Unreachable" "paper")
    (mk_InvalidReading : Mk1K K "InvalidReading" "index")
    (mk_RootConflict : Mk3K K "RootConflict" "line" "width" "other")
    (mk_InvalidTokens : Mk1K K "InvalidTokens" "index")
    (mk_InvalidOperation : Mk0K K "InvalidOperation")
    (mk_InvalidNotation : Mk1K K "InvalidNotation" "at")
    (mk_UnknownCommand : Mk0K K "UnknownCommand")
    (mk_TooLong : Mk1K K "TooLong" "length")
    (mk_TooMany : Mk1K K "TooMany" "count")
    (mk_NoVariant : Mk1K K "NoVariant" "index")
    (mk_NoLine : Mk1K K "NoLine" "index")
    (mk_Busy : Mk0K K "Busy")
    (mk_NothingToUndo : Mk0K K "NothingToUndo")
    (mk_NothingToRedo : Mk0K K "NothingToRedo")
    (mk_PrismError : Mk0K K "PrismError")
    (mkk_RootConflict : Mk3WK K "RootConflict" "line" "width" "other")
    (mkk_UnbalancedBracket : Mk1WK K "UnbalancedBracket" "number")
    (mkk_IndentedStart : Mk1WK K "IndentedStart" "number")
    (mkk_NoIndent : Mk1WK K "NoIndent" "reason")
    (mkk_Unreachable : Mk1WK K "Unreachable" "paper")
    (mkk_BadDedent : Mk1WK K "BadDedent" "number")
    (mkk_InconsistentTabs : Mk1WK K "InconsistentTabs" "number")
    (mkk_InvalidReading : Mk1WK K "InvalidReading" "index")
    (mkk_InvalidTokens : Mk1WK K "InvalidTokens" "index")
    (mkk_InvalidNotation : Mk1WK K "InvalidNotation" "at")
    (mkk_TooLong : Mk1WK K "TooLong" "length")
    (mkk_TooMany : Mk1WK K "TooMany" "count")
    (mkk_NoVariant : Mk1WK K "NoVariant" "index")
    (mkk_NoLine : Mk1WK K "NoLine" "index")
    {t_LONGEST : Tok} (v_LONGEST : PySem.W.nsIn K mainGlobals "LONGEST" = some (some (.int 60 t_LONGEST)))
    {t_MOST_CHARACTERS : Tok} (v_MOST_CHARACTERS : PySem.W.nsIn K mainGlobals "MOST_CHARACTERS" = some (some (.int 1000 t_MOST_CHARACTERS)))
    {t_MOST_LINES : Tok} (v_MOST_LINES : PySem.W.nsIn K mainGlobals "MOST_LINES" = some (some (.int 20 t_MOST_LINES)))
    {t_MOST_STATES : Tok} (v_MOST_STATES : PySem.W.nsIn K mainGlobals "MOST_STATES" = some (some (.int 400 t_MOST_STATES)))
    : ∃ fd : FuncData, (∀ (s : Shared) (v : Value), BindsTo s fd ⟨[v], []⟩ [("_law_script", v)]) ∧ ∀ base : Heap, K.In base → base.Ns mainGlobals mg → FnD l.prog w K mg base CX0 2 fa fd ["_law_script"] sp_law := by
  have e := hfa.symm.trans (PySem.W.mg_of X G a_law)
  cases e
  have F__law_pen := fun_mk (st := s__law_pen) l__law_pen c__law_pen k__law_pen
  have B__law_pen := F__law_pen.binds (ps := ["_law_script"]) fun _ _ _ _ _ _ us hl => match us, hl with | [_], _ => rfl
  have F__law_draw := fun_mk (st := s__law_draw) l__law_draw c__law_draw k__law_draw
  have B__law_draw := F__law_draw.binds (ps := ["_law_pen_here", "_law_bound"]) fun _ _ _ _ _ _ us hl => match us, hl with | [_, _], _ => rfl
  have F__law_made := fun_mk (st := s__law_made) l__law_made c__law_made k__law_made
  have B__law_made := F__law_made.binds (ps := ["_law_some"]) fun _ _ _ _ _ _ us hl => match us, hl with | [_], _ => rfl
  have F__law_marks := fun_mk (st := s__law_marks) l__law_marks c__law_marks k__law_marks
  have B__law_marks := F__law_marks.binds (ps := ["_law_error"]) fun _ _ _ _ _ _ us hl => match us, hl with | [_], _ => rfl
  have F__law_above := fun_mk (st := s__law_above) l__law_above c__law_above k__law_above
  have B__law_above := F__law_above.binds (ps := ["_law_error"]) fun _ _ _ _ _ _ us hl => match us, hl with | [_], _ => rfl
  have F__law_above_due := fun_mk (st := s__law_above_due) l__law_above_due c__law_above_due k__law_above_due
  have B__law_above_due := F__law_above_due.binds (ps := ["_law_spot"]) fun _ _ _ _ _ _ us hl => match us, hl with | [_], _ => rfl
  have F__law_fields := fun_mk (st := s__law_fields) l__law_fields c__law_fields k__law_fields
  have B__law_fields := F__law_fields.binds (ps := ["_law_made_here"]) fun _ _ _ _ _ _ us hl => match us, hl with | [_], _ => rfl
  have F__law_named := fun_mk (st := s__law_named) l__law_named c__law_named k__law_named
  have B__law_named := F__law_named.binds (ps := ["_law_some"]) fun _ _ _ _ _ _ us hl => match us, hl with | [_], _ => rfl
  have F__law_caught := fun_mk (st := s__law_caught) l__law_caught c__law_caught k__law_caught
  have B__law_caught := F__law_caught.binds (ps := ["_law_one", "_law_two"]) fun _ _ _ _ _ _ us hl => match us, hl with | [_, _], _ => rfl
  have F_law := fun_mk (st := s_law) l_law c_law k_law
  have B_law := F_law.binds (ps := ["_law_script"]) fun _ _ _ _ _ _ us hl => match us, hl with | [_], _ => rfl
  exact ⟨_, fun s v => .of_eq rfl, fun base _ _ => ok_law ⟨⟨F__law_pen, PySem.W.mg_of X G a__law_pen, B__law_pen⟩, ⟨F__law_draw, PySem.W.mg_of X G a__law_draw, B__law_draw⟩, ⟨F__law_made, PySem.W.mg_of X G a__law_made, B__law_made⟩, ⟨F__law_marks, PySem.W.mg_of X G a__law_marks, B__law_marks⟩, ⟨F__law_above, PySem.W.mg_of X G a__law_above, B__law_above⟩, ⟨F__law_above_due, PySem.W.mg_of X G a__law_above_due, B__law_above_due⟩, ⟨F__law_fields, PySem.W.mg_of X G a__law_fields, B__law_fields⟩, ⟨F__law_named, PySem.W.mg_of X G a__law_named, B__law_named⟩, ⟨F__law_caught, PySem.W.mg_of X G a__law_caught, B__law_caught⟩, ⟨F_law, PySem.W.mg_of X G a_law, B_law⟩, PySem.W.mg_none_of X G b_abs, PySem.W.mg_none_of X G b_enumerate, PySem.W.mg_none_of X G b_int, PySem.W.mg_none_of X G b_isinstance, PySem.W.mg_none_of X G b_len, PySem.W.mg_none_of X G b_list, PySem.W.mg_none_of X G b_range, xr.to X G, ek, mk_InvalidText.to X G, mk_UnbalancedBracket.to X G, mk_IndentedStart.to X G, mk_BadDedent.to X G, mk_InconsistentTabs.to X G, mk_NoIndent.to X G, mk_Unreachable.to X G, mk_InvalidReading.to X G, mk_RootConflict.to X G, mk_InvalidTokens.to X G, mk_InvalidOperation.to X G, mk_InvalidNotation.to X G, mk_UnknownCommand.to X G, mk_TooLong.to X G, mk_TooMany.to X G, mk_NoVariant.to X G, mk_NoLine.to X G, mk_Busy.to X G, mk_NothingToUndo.to X G, mk_NothingToRedo.to X G, mk_PrismError.to X G, mkk_RootConflict.to X G, mkk_UnbalancedBracket.to X G, mkk_IndentedStart.to X G, mkk_NoIndent.to X G, mkk_Unreachable.to X G, mkk_BadDedent.to X G, mkk_InconsistentTabs.to X G, mkk_InvalidReading.to X G, mkk_InvalidTokens.to X G, mkk_InvalidNotation.to X G, mkk_TooLong.to X G, mkk_TooMany.to X G, mkk_NoVariant.to X G, mkk_NoLine.to X G, ⟨_, PySem.W.mg_of X G v_LONGEST⟩, ⟨_, PySem.W.mg_of X G v_MOST_CHARACTERS⟩, ⟨_, PySem.W.mg_of X G v_MOST_LINES⟩, ⟨_, PySem.W.mg_of X G v_MOST_STATES⟩⟩⟩
end Lw
open PySem PySem.W PyProof.Rows
local instance : Pz.PenC := Pz.penL []
set_option maxHeartbeats 0 in
theorem PySem.Challenge.cw_tabprism_k93_errors_and_limits_holds : PySem.Challenge.rw_tabprism_k93_errors_and_limits.Holds := by
  w_on; o_law; k_head; (case hw => w_witness2)
  k_fill
  refine Pz.walkG (l := PySem.Challenge.rw_tabprism_k93_errors_and_limits) (n := 63) (k := 2) (x := "_law_script") (CX := fun _ => L2.CX0) (law := Lw.sp_law) rfl (by decide) rfl ⟨rfl, by decide, by decide⟩ (fun w h Y => PySem.W.kIn_of Y) ?F Lw.sp_ok (fun _ _ _ _ _ h => h)
  case F =>
    intro w mg fa h KX G hmg
    refine' Lw.all_mk KX G hmg ?a__law_pen ?l__law_pen ?c__law_pen ?k__law_pen ?a__law_draw ?l__law_draw ?c__law_draw ?k__law_draw ?a__law_made ?l__law_made ?c__law_made ?k__law_made ?a__law_marks ?l__law_marks ?c__law_marks ?k__law_marks ?a__law_above ?l__law_above ?c__law_above ?k__law_above ?a__law_above_due ?l__law_above_due ?c__law_above_due ?k__law_above_due ?a__law_fields ?l__law_fields ?c__law_fields ?k__law_fields ?a__law_named ?l__law_named ?c__law_named ?k__law_named ?a__law_caught ?l__law_caught ?c__law_caught ?k__law_caught ?a_law ?l_law ?c_law ?k_law ?b_abs ?b_enumerate ?b_int ?b_isinstance ?b_len ?b_list ?b_range ?xr ?ek ?mk_InvalidText ?mk_UnbalancedBracket ?mk_IndentedStart ?mk_BadDedent ?mk_InconsistentTabs ?mk_NoIndent ?mk_Unreachable ?mk_InvalidReading ?mk_RootConflict ?mk_InvalidTokens ?mk_InvalidOperation ?mk_InvalidNotation ?mk_UnknownCommand ?mk_TooLong ?mk_TooMany ?mk_NoVariant ?mk_NoLine ?mk_Busy ?mk_NothingToUndo ?mk_NothingToRedo ?mk_PrismError ?mkk_RootConflict ?mkk_UnbalancedBracket ?mkk_IndentedStart ?mkk_NoIndent ?mkk_Unreachable ?mkk_BadDedent ?mkk_InconsistentTabs ?mkk_InvalidReading ?mkk_InvalidTokens ?mkk_InvalidNotation ?mkk_TooLong ?mkk_TooMany ?mkk_NoVariant ?mkk_NoLine ?v_LONGEST ?v_MOST_CHARACTERS ?v_MOST_LINES ?v_MOST_STATES
    (case a__law_pen => k_is); (case l__law_pen => k_is); (case c__law_pen => k_is); (case k__law_pen => k_is); (case a__law_draw => k_is); (case l__law_draw => k_is); (case c__law_draw => k_is); (case k__law_draw => k_is); (case a__law_made => k_is); (case l__law_made => k_is); (case c__law_made => k_is); (case k__law_made => k_is); (case a__law_marks => k_is); (case l__law_marks => k_is); (case c__law_marks => k_is); (case k__law_marks => k_is); (case a__law_above => k_is); (case l__law_above => k_is); (case c__law_above => k_is); (case k__law_above => k_is); (case a__law_above_due => k_is); (case l__law_above_due => k_is); (case c__law_above_due => k_is); (case k__law_above_due => k_is); (case a__law_fields => k_is); (case l__law_fields => k_is); (case c__law_fields => k_is); (case k__law_fields => k_is); (case a__law_named => k_is); (case l__law_named => k_is); (case c__law_named => k_is); (case k__law_named => k_is); (case a__law_caught => k_is); (case l__law_caught => k_is); (case c__law_caught => k_is); (case k__law_caught => k_is); (case a_law => k_is); (case l_law => k_is); (case c_law => k_is); (case k_law => k_is); (case b_abs => k_is); (case b_enumerate => k_is); (case b_int => k_is); (case b_isinstance => k_is); (case b_len => k_is); (case b_list => k_is); (case b_range => k_is); (case xr => exact ⟨(Pz.ac (Pz.own_of (by k_is) ⟨Pz.is_some (by k_is), (by k_is), (by k_is), (by k_is), (by k_is), (by k_is), (by k_is), (by k_is), (by k_is)⟩) (Pz.ac (Pz.own_of (by k_is) ⟨Pz.is_some (by k_is), (by k_is), (by k_is), (by k_is), (by k_is), (by k_is), (by k_is), (by k_is), (by k_is)⟩) (Pz.ac (Pz.own_of (by k_is) ⟨Pz.is_some (by k_is), (by k_is), (by k_is), (by k_is), (by k_is), (by k_is), (by k_is), (by k_is), (by k_is)⟩) (Pz.ac (Pz.own_of (by k_is) ⟨Pz.is_some (by k_is), (by k_is), (by k_is), (by k_is), (by k_is), (by k_is), (by k_is), (by k_is), (by k_is)⟩) (Pz.ac (Pz.own_of (by k_is) ⟨Pz.is_some (by k_is), (by k_is), (by k_is), (by k_is), (by k_is), (by k_is), (by k_is), (by k_is), (by k_is)⟩) (Pz.ac (Pz.own_of (by k_is) ⟨Pz.is_some (by k_is), (by k_is), (by k_is), (by k_is), (by k_is), (by k_is), (by k_is), (by k_is), (by k_is)⟩) (Pz.ac (Pz.own_of (by k_is) ⟨Pz.is_some (by k_is), (by k_is), (by k_is), (by k_is), (by k_is), (by k_is), (by k_is), (by k_is), (by k_is)⟩) (Pz.ac (Pz.own_of (by k_is) ⟨Pz.is_some (by k_is), (by k_is), (by k_is), (by k_is), (by k_is), (by k_is), (by k_is), (by k_is), (by k_is)⟩) (Pz.ac (Pz.own_of (by k_is) ⟨Pz.is_some (by k_is), (by k_is), (by k_is), (by k_is), (by k_is), (by k_is), (by k_is), (by k_is), (by k_is)⟩) (Pz.ac (Pz.own_of (by k_is) ⟨Pz.is_some (by k_is), (by k_is), (by k_is), (by k_is), (by k_is), (by k_is), (by k_is), (by k_is), (by k_is)⟩) (Pz.ac (Pz.own_of (by k_is) ⟨Pz.is_some (by k_is), (by k_is), (by k_is), (by k_is), (by k_is), (by k_is), (by k_is), (by k_is), (by k_is)⟩) (Pz.ac (Pz.own_of (by k_is) ⟨Pz.is_some (by k_is), (by k_is), (by k_is), (by k_is), (by k_is), (by k_is), (by k_is), (by k_is), (by k_is)⟩) (Pz.ac (Pz.own_of (by k_is) ⟨Pz.is_some (by k_is), (by k_is), (by k_is), (by k_is), (by k_is), (by k_is), (by k_is), (by k_is), (by k_is)⟩) (Pz.ac (Pz.own_of (by k_is) ⟨Pz.is_some (by k_is), (by k_is), (by k_is), (by k_is), (by k_is), (by k_is), (by k_is), (by k_is), (by k_is)⟩) (Pz.ac (Pz.own_of (by k_is) ⟨Pz.is_some (by k_is), (by k_is), (by k_is), (by k_is), (by k_is), (by k_is), (by k_is), (by k_is), (by k_is)⟩) (Pz.ac (Pz.own_of (by k_is) ⟨Pz.is_some (by k_is), (by k_is), (by k_is), (by k_is), (by k_is), (by k_is), (by k_is), (by k_is), (by k_is)⟩) (Pz.ac (Pz.own_of (by k_is) ⟨Pz.is_some (by k_is), (by k_is), (by k_is), (by k_is), (by k_is), (by k_is), (by k_is), (by k_is), (by k_is)⟩) (Pz.ac (Pz.own_of (by k_is) ⟨Pz.is_some (by k_is), (by k_is), (by k_is), (by k_is), (by k_is), (by k_is), (by k_is), (by k_is), (by k_is)⟩) (Pz.ac (Pz.own_of (by k_is) ⟨Pz.is_some (by k_is), (by k_is), (by k_is), (by k_is), (by k_is), (by k_is), (by k_is), (by k_is), (by k_is)⟩) (Pz.ac (Pz.own_of (by k_is) ⟨Pz.is_some (by k_is), (by k_is), (by k_is), (by k_is), (by k_is), (by k_is), (by k_is), (by k_is), (by k_is)⟩) (Pz.ac (Pz.own_of (by k_is) ⟨Pz.is_some (by k_is), (by k_is), (by k_is), (by k_is), (by k_is), (by k_is), (by k_is), (by k_is), (by k_is)⟩) Pz.an))))))))))))))))))))), (Pz.ac (Pz.rel_of (by k_is) (Pz.ac (Pz.rel_own (by k_is) (by kit_is) (by kts_exm) (by decide +kernel)) (Pz.ac (Pz.rel_own (by k_is) (by kit_is) (by kts_exm) (by decide +kernel)) (Pz.ac (Pz.rel_own (by k_is) (by kit_is) (by kts_exm) (by decide +kernel)) (Pz.ac (Pz.rel_own (by k_is) (by kit_is) (by kts_exm) (by decide +kernel)) (Pz.ac (Pz.rel_own (by k_is) (by kit_is) (by kts_exm) (by decide +kernel)) (Pz.ac (Pz.rel_own (by k_is) (by kit_is) (by kts_exm) (by decide +kernel)) (Pz.ac (Pz.rel_own (by k_is) (by kit_is) (by kts_exm) (by decide +kernel)) (Pz.ac (Pz.rel_own (by k_is) (by kit_is) (by kts_exm) (by decide +kernel)) (Pz.ac (Pz.rel_own (by k_is) (by kit_is) (by kts_exm) (by decide +kernel)) (Pz.ac (Pz.rel_own (by k_is) (by kit_is) (by kts_exm) (by decide +kernel)) (Pz.ac (Pz.rel_own (by k_is) (by kit_is) (by kts_exm) (by decide +kernel)) (Pz.ac (Pz.rel_own (by k_is) (by kit_is) (by kts_exm) (by decide +kernel)) (Pz.ac (Pz.rel_own (by k_is) (by kit_is) (by kts_exm) (by decide +kernel)) (Pz.ac (Pz.rel_own (by k_is) (by kit_is) (by kts_exm) (by decide +kernel)) (Pz.ac (Pz.rel_own (by k_is) (by kit_is) (by kts_exm) (by decide +kernel)) (Pz.ac (Pz.rel_own (by k_is) (by kit_is) (by kts_exm) (by decide +kernel)) (Pz.ac (Pz.rel_own (by k_is) (by kit_is) (by kts_exm) (by decide +kernel)) (Pz.ac (Pz.rel_own (by k_is) (by kit_is) (by kts_exm) (by decide +kernel)) (Pz.ac (Pz.rel_own (by k_is) (by kit_is) (by kts_exm) (by decide +kernel)) (Pz.ac (Pz.rel_own (by k_is) (by kit_is) (by kts_exm) (by decide +kernel)) (Pz.ac (Pz.rel_own (by k_is) (by kit_is) (by kts_exm) (by decide +kernel)) (Pz.ac (Pz.rel_bi (n := "ValueError") (by k_is) (by kit_is) (by kts_exm) (by decide +kernel)) (Pz.ac (Pz.rel_bi (n := "OverflowError") (by k_is) (by kit_is) (by kts_exm) (by decide +kernel)) (Pz.ac (Pz.rel_bi (n := "IndexError") (by k_is) (by kit_is) (by kts_exm) (by decide +kernel)) (Pz.ac (Pz.rel_bi (n := "RuntimeError") (by k_is) (by kit_is) (by kts_exm) (by decide +kernel)) (Pz.ac (Pz.rel_bi (n := "LookupError") (by k_is) (by kit_is) (by kts_exm) (by decide +kernel)) (Pz.ac (Pz.rel_bi (n := "KeyError") (by k_is) (by kit_is) (by kts_exm) (by decide +kernel)) (Pz.ac (Pz.rel_bi (n := "ArithmeticError") (by k_is) (by kit_is) (by kts_exm) (by decide +kernel)) Pz.an))))))))))))))))))))))))))))) (Pz.ac (Pz.rel_of (by k_is) (Pz.ac (Pz.rel_own (by k_is) (by kit_is) (by kts_exm) (by decide +kernel)) (Pz.ac (Pz.rel_own (by k_is) (by kit_is) (by kts_exm) (by decide +kernel)) (Pz.ac (Pz.rel_own (by k_is) (by kit_is) (by kts_exm) (by decide +kernel)) (Pz.ac (Pz.rel_own (by k_is) (by kit_is) (by kts_exm) (by decide +kernel)) (Pz.ac (Pz.rel_own (by k_is) (by kit_is) (by kts_exm) (by decide +kernel)) (Pz.ac (Pz.rel_own (by k_is) (by kit_is) (by kts_exm) (by decide +kernel)) (Pz.ac (Pz.rel_own (by k_is) (by kit_is) (by kts_exm) (by decide +kernel)) (Pz.ac (Pz.rel_own (by k_is) (by kit_is) (by kts_exm) (by decide +kernel)) (Pz.ac (Pz.rel_own (by k_is) (by kit_is) (by kts_exm) (by decide +kernel)) (Pz.ac (Pz.rel_own (by k_is) (by kit_is) (by kts_exm) (by decide +kernel)) (Pz.ac (Pz.rel_own (by k_is) (by kit_is) (by kts_exm) (by decide +kernel)) (Pz.ac (Pz.rel_own (by k_is) (by kit_is) (by kts_exm) (by decide +kernel)) (Pz.ac (Pz.rel_own (by k_is) (by kit_is) (by kts_exm) (by decide +kernel)) (Pz.ac (Pz.rel_own (by k_is) (by kit_is) (by kts_exm) (by decide +kernel)) (Pz.ac (Pz.rel_own (by k_is) (by kit_is) (by kts_exm) (by decide +kernel)) (Pz.ac (Pz.rel_own (by k_is) (by kit_is) (by kts_exm) (by decide +kernel)) (Pz.ac (Pz.rel_own (by k_is) (by kit_is) (by kts_exm) (by decide +kernel)) (Pz.ac (Pz.rel_own (by k_is) (by kit_is) (by kts_exm) (by decide +kernel)) (Pz.ac (Pz.rel_own (by k_is) (by kit_is) (by kts_exm) (by decide +kernel)) (Pz.ac (Pz.rel_own (by k_is) (by kit_is) (by kts_exm) (by decide +kernel)) (Pz.ac (Pz.rel_own (by k_is) (by kit_is) (by kts_exm) (by decide +kernel)) (Pz.ac (Pz.rel_bi (n := "ValueError") (by k_is) (by kit_is) (by kts_exm) (by decide +kernel)) (Pz.ac (Pz.rel_bi (n := "OverflowError") (by k_is) (by kit_is) (by kts_exm) (by decide +kernel)) (Pz.ac (Pz.rel_bi (n := "IndexError") (by k_is) (by kit_is) (by kts_exm) (by decide +kernel)) (Pz.ac (Pz.rel_bi (n := "RuntimeError") (by k_is) (by kit_is) (by kts_exm) (by decide +kernel)) (Pz.ac (Pz.rel_bi (n := "LookupError") (by k_is) (by kit_is) (by kts_exm) (by decide +kernel)) (Pz.ac (Pz.rel_bi (n := "KeyError") (by k_is) (by kit_is) (by kts_exm) (by decide +kernel)) (Pz.ac (Pz.rel_bi (n := "ArithmeticError") (by k_is) (by kit_is) (by kts_exm) (by decide +kernel)) Pz.an))))))))))))))))))))))))))))) (Pz.ac (Pz.rel_of (by k_is) (Pz.ac (Pz.rel_own (by k_is) (by kit_is) (by kts_exm) (by decide +kernel)) (Pz.ac (Pz.rel_own (by k_is) (by kit_is) (by kts_exm) (by decide +kernel)) (Pz.ac (Pz.rel_own (by k_is) (by kit_is) (by kts_exm) (by decide +kernel)) (Pz.ac (Pz.rel_own (by k_is) (by kit_is) (by kts_exm) (by decide +kernel)) (Pz.ac (Pz.rel_own (by k_is) (by kit_is) (by kts_exm) (by decide +kernel)) (Pz.ac (Pz.rel_own (by k_is) (by kit_is) (by kts_exm) (by decide +kernel)) (Pz.ac (Pz.rel_own (by k_is) (by kit_is) (by kts_exm) (by decide +kernel)) (Pz.ac (Pz.rel_own (by k_is) (by kit_is) (by kts_exm) (by decide +kernel)) (Pz.ac (Pz.rel_own (by k_is) (by kit_is) (by kts_exm) (by decide +kernel)) (Pz.ac (Pz.rel_own (by k_is) (by kit_is) (by kts_exm) (by decide +kernel)) (Pz.ac (Pz.rel_own (by k_is) (by kit_is) (by kts_exm) (by decide +kernel)) (Pz.ac (Pz.rel_own (by k_is) (by kit_is) (by kts_exm) (by decide +kernel)) (Pz.ac (Pz.rel_own (by k_is) (by kit_is) (by kts_exm) (by decide +kernel)) (Pz.ac (Pz.rel_own (by k_is) (by kit_is) (by kts_exm) (by decide +kernel)) (Pz.ac (Pz.rel_own (by k_is) (by kit_is) (by kts_exm) (by decide +kernel)) (Pz.ac (Pz.rel_own (by k_is) (by kit_is) (by kts_exm) (by decide +kernel)) (Pz.ac (Pz.rel_own (by k_is) (by kit_is) (by kts_exm) (by decide +kernel)) (Pz.ac (Pz.rel_own (by k_is) (by kit_is) (by kts_exm) (by decide +kernel)) (Pz.ac (Pz.rel_own (by k_is) (by kit_is) (by kts_exm) (by decide +kernel)) (Pz.ac (Pz.rel_own (by k_is) (by kit_is) (by kts_exm) (by decide +kernel)) (Pz.ac (Pz.rel_own (by k_is) (by kit_is) (by kts_exm) (by decide +kernel)) (Pz.ac (Pz.rel_bi (n := "ValueError") (by k_is) (by kit_is) (by kts_exm) (by decide +kernel)) (Pz.ac (Pz.rel_bi (n := "OverflowError") (by k_is) (by kit_is) (by kts_exm) (by decide +kernel)) (Pz.ac (Pz.rel_bi (n := "IndexError") (by k_is) (by kit_is) (by kts_exm) (by decide +kernel)) (Pz.ac (Pz.rel_bi (n := "RuntimeError") (by k_is) (by kit_is) (by kts_exm) (by decide +kernel)) (Pz.ac (Pz.rel_bi (n := "LookupError") (by k_is) (by kit_is) (by kts_exm) (by decide +kernel)) (Pz.ac (Pz.rel_bi (n := "KeyError") (by k_is) (by kit_is) (by kts_exm) (by decide +kernel)) (Pz.ac (Pz.rel_bi (n := "ArithmeticError") (by k_is) (by kit_is) (by kts_exm) (by decide +kernel)) Pz.an))))))))))))))))))))))))))))) (Pz.ac (Pz.rel_of (by k_is) (Pz.ac (Pz.rel_own (by k_is) (by kit_is) (by kts_exm) (by decide +kernel)) (Pz.ac (Pz.rel_own (by k_is) (by kit_is) (by kts_exm) (by decide +kernel)) (Pz.ac (Pz.rel_own (by k_is) (by kit_is) (by kts_exm) (by decide +kernel)) (Pz.ac (Pz.rel_own (by k_is) (by kit_is) (by kts_exm) (by decide +kernel)) (Pz.ac (Pz.rel_own (by k_is) (by kit_is) (by kts_exm) (by decide +kernel)) (Pz.ac (Pz.rel_own (by k_is) (by kit_is) (by kts_exm) (by decide +kernel)) (Pz.ac (Pz.rel_own (by k_is) (by kit_is) (by kts_exm) (by decide +kernel)) (Pz.ac (Pz.rel_own (by k_is) (by kit_is) (by kts_exm) (by decide +kernel)) (Pz.ac (Pz.rel_own (by k_is) (by kit_is) (by kts_exm) (by decide +kernel)) (Pz.ac (Pz.rel_own (by k_is) (by kit_is) (by kts_exm) (by decide +kernel)) (Pz.ac (Pz.rel_own (by k_is) (by kit_is) (by kts_exm) (by decide +kernel)) (Pz.ac (Pz.rel_own (by k_is) (by kit_is) (by kts_exm) (by decide +kernel)) (Pz.ac (Pz.rel_own (by k_is) (by kit_is) (by kts_exm) (by decide +kernel)) (Pz.ac (Pz.rel_own (by k_is) (by kit_is) (by kts_exm) (by decide +kernel)) (Pz.ac (Pz.rel_own (by k_is) (by kit_is) (by kts_exm) (by decide +kernel)) (Pz.ac (Pz.rel_own (by k_is) (by kit_is) (by kts_exm) (by decide +kernel)) (Pz.ac (Pz.rel_own (by k_is) (by kit_is) (by kts_exm) (by decide +kernel)) (Pz.ac (Pz.rel_own (by k_is) (by kit_is) (by kts_exm) (by decide +kernel)) (Pz.ac (Pz.rel_own (by k_is) (by kit_is) (by kts_exm) (by decide +kernel)) (Pz.ac (Pz.rel_own (by k_is) (by kit_is) (by kts_exm) (by decide +kernel)) (Pz.ac (Pz.rel_own (by k_is) (by kit_is) (by kts_exm) (by decide +kernel)) (Pz.ac (Pz.rel_bi (n := "ValueError") (by k_is) (by kit_is) (by kts_exm) (by decide +kernel)) (Pz.ac (Pz.rel_bi (n := "OverflowError") (by k_is) (by kit_is) (by kts_exm) (by decide +kernel)) (Pz.ac (Pz.rel_bi (n := "IndexError") (by k_is) (by kit_is) (by kts_exm) (by decide +kernel)) (Pz.ac (Pz.rel_bi (n := "RuntimeError") (by k_is) (by kit_is) (by kts_exm) (by decide +kernel)) (Pz.ac (Pz.rel_bi (n := "LookupError") (by k_is) (by kit_is) (by kts_exm) (by decide +kernel)) (Pz.ac (Pz.rel_bi (n := "KeyError") (by k_is) (by kit_is) (by kts_exm) (by decide +kernel)) (Pz.ac (Pz.rel_bi (n := "ArithmeticError") (by k_is) (by kit_is) (by kts_exm) (by decide +kernel)) Pz.an))))))))))))))))))))))))))))) (Pz.ac (Pz.rel_of (by k_is) (Pz.ac (Pz.rel_own (by k_is) (by kit_is) (by kts_exm) (by decide +kernel)) (Pz.ac (Pz.rel_own (by k_is) (by kit_is) (by kts_exm) (by decide +kernel)) (Pz.ac (Pz.rel_own (by k_is) (by kit_is) (by kts_exm) (by decide +kernel)) (Pz.ac (Pz.rel_own (by k_is) (by kit_is) (by kts_exm) (by decide +kernel)) (Pz.ac (Pz.rel_own (by k_is) (by kit_is) (by kts_exm) (by decide +kernel)) (Pz.ac (Pz.rel_own (by k_is) (by kit_is) (by kts_exm) (by decide +kernel)) (Pz.ac (Pz.rel_own (by k_is) (by kit_is) (by kts_exm) (by decide +kernel)) (Pz.ac (Pz.rel_own (by k_is) (by kit_is) (by kts_exm) (by decide +kernel)) (Pz.ac (Pz.rel_own (by k_is) (by kit_is) (by kts_exm) (by decide +kernel)) (Pz.ac (Pz.rel_own (by k_is) (by kit_is) (by kts_exm) (by decide +kernel)) (Pz.ac (Pz.rel_own (by k_is) (by kit_is) (by kts_exm) (by decide +kernel)) (Pz.ac (Pz.rel_own (by k_is) (by kit_is) (by kts_exm) (by decide +kernel)) (Pz.ac (Pz.rel_own (by k_is) (by kit_is) (by kts_exm) (by decide +kernel)) (Pz.ac (Pz.rel_own (by k_is) (by kit_is) (by kts_exm) (by decide +kernel)) (Pz.ac (Pz.rel_own (by k_is) (by kit_is) (by kts_exm) (by decide +kernel)) (Pz.ac (Pz.rel_own (by k_is) (by kit_is) (by kts_exm) (by decide +kernel)) (Pz.ac (Pz.rel_own (by k_is) (by kit_is) (by kts_exm) (by decide +kernel)) (Pz.ac (Pz.rel_own (by k_is) (by kit_is) (by kts_exm) (by decide +kernel)) (Pz.ac (Pz.rel_own (by k_is) (by kit_is) (by kts_exm) (by decide +kernel)) (Pz.ac (Pz.rel_own (by k_is) (by kit_is) (by kts_exm) (by decide +kernel)) (Pz.ac (Pz.rel_own (by k_is) (by kit_is) (by kts_exm) (by decide +kernel)) (Pz.ac (Pz.rel_bi (n := "ValueError") (by k_is) (by kit_is) (by kts_exm) (by decide +kernel)) (Pz.ac (Pz.rel_bi (n := "OverflowError") (by k_is) (by kit_is) (by kts_exm) (by decide +kernel)) (Pz.ac (Pz.rel_bi (n := "IndexError") (by k_is) (by kit_is) (by kts_exm) (by decide +kernel)) (Pz.ac (Pz.rel_bi (n := "RuntimeError") (by k_is) (by kit_is) (by kts_exm) (by decide +kernel)) (Pz.ac (Pz.rel_bi (n := "LookupError") (by k_is) (by kit_is) (by kts_exm) (by decide +kernel)) (Pz.ac (Pz.rel_bi (n := "KeyError") (by k_is) (by kit_is) (by kts_exm) (by decide +kernel)) (Pz.ac (Pz.rel_bi (n := "ArithmeticError") (by k_is) (by kit_is) (by kts_exm) (by decide +kernel)) Pz.an))))))))))))))))))))))))))))) (Pz.ac (Pz.rel_of (by k_is) (Pz.ac (Pz.rel_own (by k_is) (by kit_is) (by kts_exm) (by decide +kernel)) (Pz.ac (Pz.rel_own (by k_is) (by kit_is) (by kts_exm) (by decide +kernel)) (Pz.ac (Pz.rel_own (by k_is) (by kit_is) (by kts_exm) (by decide +kernel)) (Pz.ac (Pz.rel_own (by k_is) (by kit_is) (by kts_exm) (by decide +kernel)) (Pz.ac (Pz.rel_own (by k_is) (by kit_is) (by kts_exm) (by decide +kernel)) (Pz.ac (Pz.rel_own (by k_is) (by kit_is) (by kts_exm) (by decide +kernel)) (Pz.ac (Pz.rel_own (by k_is) (by kit_is) (by kts_exm) (by decide +kernel)) (Pz.ac (Pz.rel_own (by k_is) (by kit_is) (by kts_exm) (by decide +kernel)) (Pz.ac (Pz.rel_own (by k_is) (by kit_is) (by kts_exm) (by decide +kernel)) (Pz.ac (Pz.rel_own (by k_is) (by kit_is) (by kts_exm) (by decide +kernel)) (Pz.ac (Pz.rel_own (by k_is) (by kit_is) (by kts_exm) (by decide +kernel)) (Pz.ac (Pz.rel_own (by k_is) (by kit_is) (by kts_exm) (by decide +kernel)) (Pz.ac (Pz.rel_own (by k_is) (by kit_is) (by kts_exm) (by decide +kernel)) (Pz.ac (Pz.rel_own (by k_is) (by kit_is) (by kts_exm) (by decide +kernel)) (Pz.ac (Pz.rel_own (by k_is) (by kit_is) (by kts_exm) (by decide +kernel)) (Pz.ac (Pz.rel_own (by k_is) (by kit_is) (by kts_exm) (by decide +kernel)) (Pz.ac (Pz.rel_own (by k_is) (by kit_is) (by kts_exm) (by decide +kernel)) (Pz.ac (Pz.rel_own (by k_is) (by kit_is) (by kts_exm) (by decide +kernel)) (Pz.ac (Pz.rel_own (by k_is) (by kit_is) (by kts_exm) (by decide +kernel)) (Pz.ac (Pz.rel_own (by k_is) (by kit_is) (by kts_exm) (by decide +kernel)) (Pz.ac (Pz.rel_own (by k_is) (by kit_is) (by kts_exm) (by decide +kernel)) (Pz.ac (Pz.rel_bi (n := "ValueError") (by k_is) (by kit_is) (by kts_exm) (by decide +kernel)) (Pz.ac (Pz.rel_bi (n := "OverflowError") (by k_is) (by kit_is) (by kts_exm) (by decide +kernel)) (Pz.ac (Pz.rel_bi (n := "IndexError") (by k_is) (by kit_is) (by kts_exm) (by decide +kernel)) (Pz.ac (Pz.rel_bi (n := "RuntimeError") (by k_is) (by kit_is) (by kts_exm) (by decide +kernel)) (Pz.ac (Pz.rel_bi (n := "LookupError") (by k_is) (by kit_is) (by kts_exm) (by decide +kernel)) (Pz.ac (Pz.rel_bi (n := "KeyError") (by k_is) (by kit_is) (by kts_exm) (by decide +kernel)) (Pz.ac (Pz.rel_bi (n := "ArithmeticError") (by k_is) (by kit_is) (by kts_exm) (by decide +kernel)) Pz.an))))))))))))))))))))))))))))) (Pz.ac (Pz.rel_of (by k_is) (Pz.ac (Pz.rel_own (by k_is) (by kit_is) (by kts_exm) (by decide +kernel)) (Pz.ac (Pz.rel_own (by k_is) (by kit_is) (by kts_exm) (by decide +kernel)) (Pz.ac (Pz.rel_own (by k_is) (by kit_is) (by kts_exm) (by decide +kernel)) (Pz.ac (Pz.rel_own (by k_is) (by kit_is) (by kts_exm) (by decide +kernel)) (Pz.ac (Pz.rel_own (by k_is) (by kit_is) (by kts_exm) (by decide +kernel)) (Pz.ac (Pz.rel_own (by k_is) (by kit_is) (by kts_exm) (by decide +kernel)) (Pz.ac (Pz.rel_own (by k_is) (by kit_is) (by kts_exm) (by decide +kernel)) (Pz.ac (Pz.rel_own (by k_is) (by kit_is) (by kts_exm) (by decide +kernel)) (Pz.ac (Pz.rel_own (by k_is) (by kit_is) (by kts_exm) (by decide +kernel)) (Pz.ac (Pz.rel_own (by k_is) (by kit_is) (by kts_exm) (by decide +kernel)) (Pz.ac (Pz.rel_own (by k_is) (by kit_is) (by kts_exm) (by decide +kernel)) (Pz.ac (Pz.rel_own (by k_is) (by kit_is) (by kts_exm) (by decide +kernel)) (Pz.ac (Pz.rel_own (by k_is) (by kit_is) (by kts_exm) (by decide +kernel)) (Pz.ac (Pz.rel_own (by k_is) (by kit_is) (by kts_exm) (by decide +kernel)) (Pz.ac (Pz.rel_own (by k_is) (by kit_is) (by kts_exm) (by decide +kernel)) (Pz.ac (Pz.rel_own (by k_is) (by kit_is) (by kts_exm) (by decide +kernel)) (Pz.ac (Pz.rel_own (by k_is) (by kit_is) (by kts_exm) (by decide +kernel)) (Pz.ac (Pz.rel_own (by k_is) (by kit_is) (by kts_exm) (by decide +kernel)) (Pz.ac (Pz.rel_own (by k_is) (by kit_is) (by kts_exm) (by decide +kernel)) (Pz.ac (Pz.rel_own (by k_is) (by kit_is) (by kts_exm) (by decide +kernel)) (Pz.ac (Pz.rel_own (by k_is) (by kit_is) (by kts_exm) (by decide +kernel)) (Pz.ac (Pz.rel_bi (n := "ValueError") (by k_is) (by kit_is) (by kts_exm) (by decide +kernel)) (Pz.ac (Pz.rel_bi (n := "OverflowError") (by k_is) (by kit_is) (by kts_exm) (by decide +kernel)) (Pz.ac (Pz.rel_bi (n := "IndexError") (by k_is) (by kit_is) (by kts_exm) (by decide +kernel)) (Pz.ac (Pz.rel_bi (n := "RuntimeError") (by k_is) (by kit_is) (by kts_exm) (by decide +kernel)) (Pz.ac (Pz.rel_bi (n := "LookupError") (by k_is) (by kit_is) (by kts_exm) (by decide +kernel)) (Pz.ac (Pz.rel_bi (n := "KeyError") (by k_is) (by kit_is) (by kts_exm) (by decide +kernel)) (Pz.ac (Pz.rel_bi (n := "ArithmeticError") (by k_is) (by kit_is) (by kts_exm) (by decide +kernel)) Pz.an))))))))))))))))))))))))))))) (Pz.ac (Pz.rel_of (by k_is) (Pz.ac (Pz.rel_own (by k_is) (by kit_is) (by kts_exm) (by decide +kernel)) (Pz.ac (Pz.rel_own (by k_is) (by kit_is) (by kts_exm) (by decide +kernel)) (Pz.ac (Pz.rel_own (by k_is) (by kit_is) (by kts_exm) (by decide +kernel)) (Pz.ac (Pz.rel_own (by k_is) (by kit_is) (by kts_exm) (by decide +kernel)) (Pz.ac (Pz.rel_own (by k_is) (by kit_is) (by kts_exm) (by decide +kernel)) (Pz.ac (Pz.rel_own (by k_is) (by kit_is) (by kts_exm) (by decide +kernel)) (Pz.ac (Pz.rel_own (by k_is) (by kit_is) (by kts_exm) (by decide +kernel)) (Pz.ac (Pz.rel_own (by k_is) (by kit_is) (by kts_exm) (by decide +kernel)) (Pz.ac (Pz.rel_own (by k_is) (by kit_is) (by kts_exm) (by decide +kernel)) (Pz.ac (Pz.rel_own (by k_is) (by kit_is) (by kts_exm) (by decide +kernel)) (Pz.ac (Pz.rel_own (by k_is) (by kit_is) (by kts_exm) (by decide +kernel)) (Pz.ac (Pz.rel_own (by k_is) (by kit_is) (by kts_exm) (by decide +kernel)) (Pz.ac (Pz.rel_own (by k_is) (by kit_is) (by kts_exm) (by decide +kernel)) (Pz.ac (Pz.rel_own (by k_is) (by kit_is) (by kts_exm) (by decide +kernel)) (Pz.ac (Pz.rel_own (by k_is) (by kit_is) (by kts_exm) (by decide +kernel)) (Pz.ac (Pz.rel_own (by k_is) (by kit_is) (by kts_exm) (by decide +kernel)) (Pz.ac (Pz.rel_own (by k_is) (by kit_is) (by kts_exm) (by decide +kernel)) (Pz.ac (Pz.rel_own (by k_is) (by kit_is) (by kts_exm) (by decide +kernel)) (Pz.ac (Pz.rel_own (by k_is) (by kit_is) (by kts_exm) (by decide +kernel)) (Pz.ac (Pz.rel_own (by k_is) (by kit_is) (by kts_exm) (by decide +kernel)) (Pz.ac (Pz.rel_own (by k_is) (by kit_is) (by kts_exm) (by decide +kernel)) (Pz.ac (Pz.rel_bi (n := "ValueError") (by k_is) (by kit_is) (by kts_exm) (by decide +kernel)) (Pz.ac (Pz.rel_bi (n := "OverflowError") (by k_is) (by kit_is) (by kts_exm) (by decide +kernel)) (Pz.ac (Pz.rel_bi (n := "IndexError") (by k_is) (by kit_is) (by kts_exm) (by decide +kernel)) (Pz.ac (Pz.rel_bi (n := "RuntimeError") (by k_is) (by kit_is) (by kts_exm) (by decide +kernel)) (Pz.ac (Pz.rel_bi (n := "LookupError") (by k_is) (by kit_is) (by kts_exm) (by decide +kernel)) (Pz.ac (Pz.rel_bi (n := "KeyError") (by k_is) (by kit_is) (by kts_exm) (by decide +kernel)) (Pz.ac (Pz.rel_bi (n := "ArithmeticError") (by k_is) (by kit_is) (by kts_exm) (by decide +kernel)) Pz.an))))))))))))))))))))))))))))) (Pz.ac (Pz.rel_of (by k_is) (Pz.ac (Pz.rel_own (by k_is) (by kit_is) (by kts_exm) (by decide +kernel)) (Pz.ac (Pz.rel_own (by k_is) (by kit_is) (by kts_exm) (by decide +kernel)) (Pz.ac (Pz.rel_own (by k_is) (by kit_is) (by kts_exm) (by decide +kernel)) (Pz.ac (Pz.rel_own (by k_is) (by kit_is) (by kts_exm) (by decide +kernel)) (Pz.ac (Pz.rel_own (by k_is) (by kit_is) (by kts_exm) (by decide +kernel)) (Pz.ac (Pz.rel_own (by k_is) (by kit_is) (by kts_exm) (by decide +kernel)) (Pz.ac (Pz.rel_own (by k_is) (by kit_is) (by kts_exm) (by decide +kernel)) (Pz.ac (Pz.rel_own (by k_is) (by kit_is) (by kts_exm) (by decide +kernel)) (Pz.ac (Pz.rel_own (by k_is) (by kit_is) (by kts_exm) (by decide +kernel)) (Pz.ac (Pz.rel_own (by k_is) (by kit_is) (by kts_exm) (by decide +kernel)) (Pz.ac (Pz.rel_own (by k_is) (by kit_is) (by kts_exm) (by decide +kernel)) (Pz.ac (Pz.rel_own (by k_is) (by kit_is) (by kts_exm) (by decide +kernel)) (Pz.ac (Pz.rel_own (by k_is) (by kit_is) (by kts_exm) (by decide +kernel)) (Pz.ac (Pz.rel_own (by k_is) (by kit_is) (by kts_exm) (by decide +kernel)) (Pz.ac (Pz.rel_own (by k_is) (by kit_is) (by kts_exm) (by decide +kernel)) (Pz.ac (Pz.rel_own (by k_is) (by kit_is) (by kts_exm) (by decide +kernel)) (Pz.ac (Pz.rel_own (by k_is) (by kit_is) (by kts_exm) (by decide +kernel)) (Pz.ac (Pz.rel_own (by k_is) (by kit_is) (by kts_exm) (by decide +kernel)) (Pz.ac (Pz.rel_own (by k_is) (by kit_is) (by kts_exm) (by decide +kernel)) (Pz.ac (Pz.rel_own (by k_is) (by kit_is) (by kts_exm) (by decide +kernel)) (Pz.ac (Pz.rel_own (by k_is) (by kit_is) (by kts_exm) (by decide +kernel)) (Pz.ac (Pz.rel_bi (n := "ValueError") (by k_is) (by kit_is) (by kts_exm) (by decide +kernel)) (Pz.ac (Pz.rel_bi (n := "OverflowError") (by k_is) (by kit_is) (by kts_exm) (by decide +kernel)) (Pz.ac (Pz.rel_bi (n := "IndexError") (by k_is) (by kit_is) (by kts_exm) (by decide +kernel)) (Pz.ac (Pz.rel_bi (n := "RuntimeError") (by k_is) (by kit_is) (by kts_exm) (by decide +kernel)) (Pz.ac (Pz.rel_bi (n := "LookupError") (by k_is) (by kit_is) (by kts_exm) (by decide +kernel)) (Pz.ac (Pz.rel_bi (n := "KeyError") (by k_is) (by kit_is) (by kts_exm) (by decide +kernel)) (Pz.ac (Pz.rel_bi (n := "ArithmeticError") (by k_is) (by kit_is) (by kts_exm) (by decide +kernel)) Pz.an))))))))))))))))))))))))))))) (Pz.ac (Pz.rel_of (by k_is) (Pz.ac (Pz.rel_own (by k_is) (by kit_is) (by kts_exm) (by decide +kernel)) (Pz.ac (Pz.rel_own (by k_is) (by kit_is) (by kts_exm) (by decide +kernel)) (Pz.ac (Pz.rel_own (by k_is) (by kit_is) (by kts_exm) (by decide +kernel)) (Pz.ac (Pz.rel_own (by k_is) (by kit_is) (by kts_exm) (by decide +kernel)) (Pz.ac (Pz.rel_own (by k_is) (by kit_is) (by kts_exm) (by decide +kernel)) (Pz.ac (Pz.rel_own (by k_is) (by kit_is) (by kts_exm) (by decide +kernel)) (Pz.ac (Pz.rel_own (by k_is) (by kit_is) (by kts_exm) (by decide +kernel)) (Pz.ac (Pz.rel_own (by k_is) (by kit_is) (by kts_exm) (by decide +kernel)) (Pz.ac (Pz.rel_own (by k_is) (by kit_is) (by kts_exm) (by decide +kernel)) (Pz.ac (Pz.rel_own (by k_is) (by kit_is) (by kts_exm) (by decide +kernel)) (Pz.ac (Pz.rel_own (by k_is) (by kit_is) (by kts_exm) (by decide +kernel)) (Pz.ac (Pz.rel_own (by k_is) (by kit_is) (by kts_exm) (by decide +kernel)) (Pz.ac (Pz.rel_own (by k_is) (by kit_is) (by kts_exm) (by decide +kernel)) (Pz.ac (Pz.rel_own (by k_is) (by kit_is) (by kts_exm) (by decide +kernel)) (Pz.ac (Pz.rel_own (by k_is) (by kit_is) (by kts_exm) (by decide +kernel)) (Pz.ac (Pz.rel_own (by k_is) (by kit_is) (by kts_exm) (by decide +kernel)) (Pz.ac (Pz.rel_own (by k_is) (by kit_is) (by kts_exm) (by decide +kernel)) (Pz.ac (Pz.rel_own (by k_is) (by kit_is) (by kts_exm) (by decide +kernel)) (Pz.ac (Pz.rel_own (by k_is) (by kit_is) (by kts_exm) (by decide +kernel)) (Pz.ac (Pz.rel_own (by k_is) (by kit_is) (by kts_exm) (by decide +kernel)) (Pz.ac (Pz.rel_own (by k_is) (by kit_is) (by kts_exm) (by decide +kernel)) (Pz.ac (Pz.rel_bi (n := "ValueError") (by k_is) (by kit_is) (by kts_exm) (by decide +kernel)) (Pz.ac (Pz.rel_bi (n := "OverflowError") (by k_is) (by kit_is) (by kts_exm) (by decide +kernel)) (Pz.ac (Pz.rel_bi (n := "IndexError") (by k_is) (by kit_is) (by kts_exm) (by decide +kernel)) (Pz.ac (Pz.rel_bi (n := "RuntimeError") (by k_is) (by kit_is) (by kts_exm) (by decide +kernel)) (Pz.ac (Pz.rel_bi (n := "LookupError") (by k_is) (by kit_is) (by kts_exm) (by decide +kernel)) (Pz.ac (Pz.rel_bi (n := "KeyError") (by k_is) (by kit_is) (by kts_exm) (by decide +kernel)) (Pz.ac (Pz.rel_bi (n := "ArithmeticError") (by k_is) (by kit_is) (by kts_exm) (by decide +kernel)) Pz.an))))))))))))))))))))))))))))) (Pz.ac (Pz.rel_of (by k_is) (Pz.ac (Pz.rel_own (by k_is) (by kit_is) (by kts_exm) (by decide +kernel)) (Pz.ac (Pz.rel_own (by k_is) (by kit_is) (by kts_exm) (by decide +kernel)) (Pz.ac (Pz.rel_own (by k_is) (by kit_is) (by kts_exm) (by decide +kernel)) (Pz.ac (Pz.rel_own (by k_is) (by kit_is) (by kts_exm) (by decide +kernel)) (Pz.ac (Pz.rel_own (by k_is) (by kit_is) (by kts_exm) (by decide +kernel)) (Pz.ac (Pz.rel_own (by k_is) (by kit_is) (by kts_exm) (by decide +kernel)) (Pz.ac (Pz.rel_own (by k_is) (by kit_is) (by kts_exm) (by decide +kernel)) (Pz.ac (Pz.rel_own (by k_is) (by kit_is) (by kts_exm) (by decide +kernel)) (Pz.ac (Pz.rel_own (by k_is) (by kit_is) (by kts_exm) (by decide +kernel)) (Pz.ac (Pz.rel_own (by k_is) (by kit_is) (by kts_exm) (by decide +kernel)) (Pz.ac (Pz.rel_own (by k_is) (by kit_is) (by kts_exm) (by decide +kernel)) (Pz.ac (Pz.rel_own (by k_is) (by kit_is) (by kts_exm) (by decide +kernel)) (Pz.ac (Pz.rel_own (by k_is) (by kit_is) (by kts_exm) (by decide +kernel)) (Pz.ac (Pz.rel_own (by k_is) (by kit_is) (by kts_exm) (by decide +kernel)) (Pz.ac (Pz.rel_own (by k_is) (by kit_is) (by kts_exm) (by decide +kernel)) (Pz.ac (Pz.rel_own (by k_is) (by kit_is) (by kts_exm) (by decide +kernel)) (Pz.ac (Pz.rel_own (by k_is) (by kit_is) (by kts_exm) (by decide +kernel)) (Pz.ac (Pz.rel_own (by k_is) (by kit_is) (by kts_exm) (by decide +kernel)) (Pz.ac (Pz.rel_own (by k_is) (by kit_is) (by kts_exm) (by decide +kernel)) (Pz.ac (Pz.rel_own (by k_is) (by kit_is) (by kts_exm) (by decide +kernel)) (Pz.ac (Pz.rel_own (by k_is) (by kit_is) (by kts_exm) (by decide +kernel)) (Pz.ac (Pz.rel_bi (n := "ValueError") (by k_is) (by kit_is) (by kts_exm) (by decide +kernel)) (Pz.ac (Pz.rel_bi (n := "OverflowError") (by k_is) (by kit_is) (by kts_exm) (by decide +kernel)) (Pz.ac (Pz.rel_bi (n := "IndexError") (by k_is) (by kit_is) (by kts_exm) (by decide +kernel)) (Pz.ac (Pz.rel_bi (n := "RuntimeError") (by k_is) (by kit_is) (by kts_exm) (by decide +kernel)) (Pz.ac (Pz.rel_bi (n := "LookupError") (by k_is) (by kit_is) (by kts_exm) (by decide +kernel)) (Pz.ac (Pz.rel_bi (n := "KeyError") (by k_is) (by kit_is) (by kts_exm) (by decide +kernel)) (Pz.ac (Pz.rel_bi (n := "ArithmeticError") (by k_is) (by kit_is) (by kts_exm) (by decide +kernel)) Pz.an))))))))))))))))))))))))))))) (Pz.ac (Pz.rel_of (by k_is) (Pz.ac (Pz.rel_own (by k_is) (by kit_is) (by kts_exm) (by decide +kernel)) (Pz.ac (Pz.rel_own (by k_is) (by kit_is) (by kts_exm) (by decide +kernel)) (Pz.ac (Pz.rel_own (by k_is) (by kit_is) (by kts_exm) (by decide +kernel)) (Pz.ac (Pz.rel_own (by k_is) (by kit_is) (by kts_exm) (by decide +kernel)) (Pz.ac (Pz.rel_own (by k_is) (by kit_is) (by kts_exm) (by decide +kernel)) (Pz.ac (Pz.rel_own (by k_is) (by kit_is) (by kts_exm) (by decide +kernel)) (Pz.ac (Pz.rel_own (by k_is) (by kit_is) (by kts_exm) (by decide +kernel)) (Pz.ac (Pz.rel_own (by k_is) (by kit_is) (by kts_exm) (by decide +kernel)) (Pz.ac (Pz.rel_own (by k_is) (by kit_is) (by kts_exm) (by decide +kernel)) (Pz.ac (Pz.rel_own (by k_is) (by kit_is) (by kts_exm) (by decide +kernel)) (Pz.ac (Pz.rel_own (by k_is) (by kit_is) (by kts_exm) (by decide +kernel)) (Pz.ac (Pz.rel_own (by k_is) (by kit_is) (by kts_exm) (by decide +kernel)) (Pz.ac (Pz.rel_own (by k_is) (by kit_is) (by kts_exm) (by decide +kernel)) (Pz.ac (Pz.rel_own (by k_is) (by kit_is) (by kts_exm) (by decide +kernel)) (Pz.ac (Pz.rel_own (by k_is) (by kit_is) (by kts_exm) (by decide +kernel)) (Pz.ac (Pz.rel_own (by k_is) (by kit_is) (by kts_exm) (by decide +kernel)) (Pz.ac (Pz.rel_own (by k_is) (by kit_is) (by kts_exm) (by decide +kernel)) (Pz.ac (Pz.rel_own (by k_is) (by kit_is) (by kts_exm) (by decide +kernel)) (Pz.ac (Pz.rel_own (by k_is) (by kit_is) (by kts_exm) (by decide +kernel)) (Pz.ac (Pz.rel_own (by k_is) (by kit_is) (by kts_exm) (by decide +kernel)) (Pz.ac (Pz.rel_own (by k_is) (by kit_is) (by kts_exm) (by decide +kernel)) (Pz.ac (Pz.rel_bi (n := "ValueError") (by k_is) (by kit_is) (by kts_exm) (by decide +kernel)) (Pz.ac (Pz.rel_bi (n := "OverflowError") (by k_is) (by kit_is) (by kts_exm) (by decide +kernel)) (Pz.ac (Pz.rel_bi (n := "IndexError") (by k_is) (by kit_is) (by kts_exm) (by decide +kernel)) (Pz.ac (Pz.rel_bi (n := "RuntimeError") (by k_is) (by kit_is) (by kts_exm) (by decide +kernel)) (Pz.ac (Pz.rel_bi (n := "LookupError") (by k_is) (by kit_is) (by kts_exm) (by decide +kernel)) (Pz.ac (Pz.rel_bi (n := "KeyError") (by k_is) (by kit_is) (by kts_exm) (by decide +kernel)) (Pz.ac (Pz.rel_bi (n := "ArithmeticError") (by k_is) (by kit_is) (by kts_exm) (by decide +kernel)) Pz.an))))))))))))))))))))))))))))) (Pz.ac (Pz.rel_of (by k_is) (Pz.ac (Pz.rel_own (by k_is) (by kit_is) (by kts_exm) (by decide +kernel)) (Pz.ac (Pz.rel_own (by k_is) (by kit_is) (by kts_exm) (by decide +kernel)) (Pz.ac (Pz.rel_own (by k_is) (by kit_is) (by kts_exm) (by decide +kernel)) (Pz.ac (Pz.rel_own (by k_is) (by kit_is) (by kts_exm) (by decide +kernel)) (Pz.ac (Pz.rel_own (by k_is) (by kit_is) (by kts_exm) (by decide +kernel)) (Pz.ac (Pz.rel_own (by k_is) (by kit_is) (by kts_exm) (by decide +kernel)) (Pz.ac (Pz.rel_own (by k_is) (by kit_is) (by kts_exm) (by decide +kernel)) (Pz.ac (Pz.rel_own (by k_is) (by kit_is) (by kts_exm) (by decide +kernel)) (Pz.ac (Pz.rel_own (by k_is) (by kit_is) (by kts_exm) (by decide +kernel)) (Pz.ac (Pz.rel_own (by k_is) (by kit_is) (by kts_exm) (by decide +kernel)) (Pz.ac (Pz.rel_own (by k_is) (by kit_is) (by kts_exm) (by decide +kernel)) (Pz.ac (Pz.rel_own (by k_is) (by kit_is) (by kts_exm) (by decide +kernel)) (Pz.ac (Pz.rel_own (by k_is) (by kit_is) (by kts_exm) (by decide +kernel)) (Pz.ac (Pz.rel_own (by k_is) (by kit_is) (by kts_exm) (by decide +kernel)) (Pz.ac (Pz.rel_own (by k_is) (by kit_is) (by kts_exm) (by decide +kernel)) (Pz.ac (Pz.rel_own (by k_is) (by kit_is) (by kts_exm) (by decide +kernel)) (Pz.ac (Pz.rel_own (by k_is) (by kit_is) (by kts_exm) (by decide +kernel)) (Pz.ac (Pz.rel_own (by k_is) (by kit_is) (by kts_exm) (by decide +kernel)) (Pz.ac (Pz.rel_own (by k_is) (by kit_is) (by kts_exm) (by decide +kernel)) (Pz.ac (Pz.rel_own (by k_is) (by kit_is) (by kts_exm) (by decide +kernel)) (Pz.ac (Pz.rel_own (by k_is) (by kit_is) (by kts_exm) (by decide +kernel)) (Pz.ac (Pz.rel_bi (n := "ValueError") (by k_is) (by kit_is) (by kts_exm) (by decide +kernel)) (Pz.ac (Pz.rel_bi (n := "OverflowError") (by k_is) (by kit_is) (by kts_exm) (by decide +kernel)) (Pz.ac (Pz.rel_bi (n := "IndexError") (by k_is) (by kit_is) (by kts_exm) (by decide +kernel)) (Pz.ac (Pz.rel_bi (n := "RuntimeError") (by k_is) (by kit_is) (by kts_exm) (by decide +kernel)) (Pz.ac (Pz.rel_bi (n := "LookupError") (by k_is) (by kit_is) (by kts_exm) (by decide +kernel)) (Pz.ac (Pz.rel_bi (n := "KeyError") (by k_is) (by kit_is) (by kts_exm) (by decide +kernel)) (Pz.ac (Pz.rel_bi (n := "ArithmeticError") (by k_is) (by kit_is) (by kts_exm) (by decide +kernel)) Pz.an))))))))))))))))))))))))))))) (Pz.ac (Pz.rel_of (by k_is) (Pz.ac (Pz.rel_own (by k_is) (by kit_is) (by kts_exm) (by decide +kernel)) (Pz.ac (Pz.rel_own (by k_is) (by kit_is) (by kts_exm) (by decide +kernel)) (Pz.ac (Pz.rel_own (by k_is) (by kit_is) (by kts_exm) (by decide +kernel)) (Pz.ac (Pz.rel_own (by k_is) (by kit_is) (by kts_exm) (by decide +kernel)) (Pz.ac (Pz.rel_own (by k_is) (by kit_is) (by kts_exm) (by decide +kernel)) (Pz.ac (Pz.rel_own (by k_is) (by kit_is) (by kts_exm) (by decide +kernel)) (Pz.ac (Pz.rel_own (by k_is) (by kit_is) (by kts_exm) (by decide +kernel)) (Pz.ac (Pz.rel_own (by k_is) (by kit_is) (by kts_exm) (by decide +kernel)) (Pz.ac (Pz.rel_own (by k_is) (by kit_is) (by kts_exm) (by decide +kernel)) (Pz.ac (Pz.rel_own (by k_is) (by kit_is) (by kts_exm) (by decide +kernel)) (Pz.ac (Pz.rel_own (by k_is) (by kit_is) (by kts_exm) (by decide +kernel)) (Pz.ac (Pz.rel_own (by k_is) (by kit_is) (by kts_exm) (by decide +kernel)) (Pz.ac (Pz.rel_own (by k_is) (by kit_is) (by kts_exm) (by decide +kernel)) (Pz.ac (Pz.rel_own (by k_is) (by kit_is) (by kts_exm) (by decide +kernel)) (Pz.ac (Pz.rel_own (by k_is) (by kit_is) (by kts_exm) (by decide +kernel)) (Pz.ac (Pz.rel_own (by k_is) (by kit_is) (by kts_exm) (by decide +kernel)) (Pz.ac (Pz.rel_own (by k_is) (by kit_is) (by kts_exm) (by decide +kernel)) (Pz.ac (Pz.rel_own (by k_is) (by kit_is) (by kts_exm) (by decide +kernel)) (Pz.ac (Pz.rel_own (by k_is) (by kit_is) (by kts_exm) (by decide +kernel)) (Pz.ac (Pz.rel_own (by k_is) (by kit_is) (by kts_exm) (by decide +kernel)) (Pz.ac (Pz.rel_own (by k_is) (by kit_is) (by kts_exm) (by decide +kernel)) (Pz.ac (Pz.rel_bi (n := "ValueError") (by k_is) (by kit_is) (by kts_exm) (by decide +kernel)) (Pz.ac (Pz.rel_bi (n := "OverflowError") (by k_is) (by kit_is) (by kts_exm) (by decide +kernel)) (Pz.ac (Pz.rel_bi (n := "IndexError") (by k_is) (by kit_is) (by kts_exm) (by decide +kernel)) (Pz.ac (Pz.rel_bi (n := "RuntimeError") (by k_is) (by kit_is) (by kts_exm) (by decide +kernel)) (Pz.ac (Pz.rel_bi (n := "LookupError") (by k_is) (by kit_is) (by kts_exm) (by decide +kernel)) (Pz.ac (Pz.rel_bi (n := "KeyError") (by k_is) (by kit_is) (by kts_exm) (by decide +kernel)) (Pz.ac (Pz.rel_bi (n := "ArithmeticError") (by k_is) (by kit_is) (by kts_exm) (by decide +kernel)) Pz.an))))))))))))))))))))))))))))) (Pz.ac (Pz.rel_of (by k_is) (Pz.ac (Pz.rel_own (by k_is) (by kit_is) (by kts_exm) (by decide +kernel)) (Pz.ac (Pz.rel_own (by k_is) (by kit_is) (by kts_exm) (by decide +kernel)) (Pz.ac (Pz.rel_own (by k_is) (by kit_is) (by kts_exm) (by decide +kernel)) (Pz.ac (Pz.rel_own (by k_is) (by kit_is) (by kts_exm) (by decide +kernel)) (Pz.ac (Pz.rel_own (by k_is) (by kit_is) (by kts_exm) (by decide +kernel)) (Pz.ac (Pz.rel_own (by k_is) (by kit_is) (by kts_exm) (by decide +kernel)) (Pz.ac (Pz.rel_own (by k_is) (by kit_is) (by kts_exm) (by decide +kernel)) (Pz.ac (Pz.rel_own (by k_is) (by kit_is) (by kts_exm) (by decide +kernel)) (Pz.ac (Pz.rel_own (by k_is) (by kit_is) (by kts_exm) (by decide +kernel)) (Pz.ac (Pz.rel_own (by k_is) (by kit_is) (by kts_exm) (by decide +kernel)) (Pz.ac (Pz.rel_own (by k_is) (by kit_is) (by kts_exm) (by decide +kernel)) (Pz.ac (Pz.rel_own (by k_is) (by kit_is) (by kts_exm) (by decide +kernel)) (Pz.ac (Pz.rel_own (by k_is) (by kit_is) (by kts_exm) (by decide +kernel)) (Pz.ac (Pz.rel_own (by k_is) (by kit_is) (by kts_exm) (by decide +kernel)) (Pz.ac (Pz.rel_own (by k_is) (by kit_is) (by kts_exm) (by decide +kernel)) (Pz.ac (Pz.rel_own (by k_is) (by kit_is) (by kts_exm) (by decide +kernel)) (Pz.ac (Pz.rel_own (by k_is) (by kit_is) (by kts_exm) (by decide +kernel)) (Pz.ac (Pz.rel_own (by k_is) (by kit_is) (by kts_exm) (by decide +kernel)) (Pz.ac (Pz.rel_own (by k_is) (by kit_is) (by kts_exm) (by decide +kernel)) (Pz.ac (Pz.rel_own (by k_is) (by kit_is) (by kts_exm) (by decide +kernel)) (Pz.ac (Pz.rel_own (by k_is) (by kit_is) (by kts_exm) (by decide +kernel)) (Pz.ac (Pz.rel_bi (n := "ValueError") (by k_is) (by kit_is) (by kts_exm) (by decide +kernel)) (Pz.ac (Pz.rel_bi (n := "OverflowError") (by k_is) (by kit_is) (by kts_exm) (by decide +kernel)) (Pz.ac (Pz.rel_bi (n := "IndexError") (by k_is) (by kit_is) (by kts_exm) (by decide +kernel)) (Pz.ac (Pz.rel_bi (n := "RuntimeError") (by k_is) (by kit_is) (by kts_exm) (by decide +kernel)) (Pz.ac (Pz.rel_bi (n := "LookupError") (by k_is) (by kit_is) (by kts_exm) (by decide +kernel)) (Pz.ac (Pz.rel_bi (n := "KeyError") (by k_is) (by kit_is) (by kts_exm) (by decide +kernel)) (Pz.ac (Pz.rel_bi (n := "ArithmeticError") (by k_is) (by kit_is) (by kts_exm) (by decide +kernel)) Pz.an))))))))))))))))))))))))))))) (Pz.ac (Pz.rel_of (by k_is) (Pz.ac (Pz.rel_own (by k_is) (by kit_is) (by kts_exm) (by decide +kernel)) (Pz.ac (Pz.rel_own (by k_is) (by kit_is) (by kts_exm) (by decide +kernel)) (Pz.ac (Pz.rel_own (by k_is) (by kit_is) (by kts_exm) (by decide +kernel)) (Pz.ac (Pz.rel_own (by k_is) (by kit_is) (by kts_exm) (by decide +kernel)) (Pz.ac (Pz.rel_own (by k_is) (by kit_is) (by kts_exm) (by decide +kernel)) (Pz.ac (Pz.rel_own (by k_is) (by kit_is) (by kts_exm) (by decide +kernel)) (Pz.ac (Pz.rel_own (by k_is) (by kit_is) (by kts_exm) (by decide +kernel)) (Pz.ac (Pz.rel_own (by k_is) (by kit_is) (by kts_exm) (by decide +kernel)) (Pz.ac (Pz.rel_own (by k_is) (by kit_is) (by kts_exm) (by decide +kernel)) (Pz.ac (Pz.rel_own (by k_is) (by kit_is) (by kts_exm) (by decide +kernel)) (Pz.ac (Pz.rel_own (by k_is) (by kit_is) (by kts_exm) (by decide +kernel)) (Pz.ac (Pz.rel_own (by k_is) (by kit_is) (by kts_exm) (by decide +kernel)) (Pz.ac (Pz.rel_own (by k_is) (by kit_is) (by kts_exm) (by decide +kernel)) (Pz.ac (Pz.rel_own (by k_is) (by kit_is) (by kts_exm) (by decide +kernel)) (Pz.ac (Pz.rel_own (by k_is) (by kit_is) (by kts_exm) (by decide +kernel)) (Pz.ac (Pz.rel_own (by k_is) (by kit_is) (by kts_exm) (by decide +kernel)) (Pz.ac (Pz.rel_own (by k_is) (by kit_is) (by kts_exm) (by decide +kernel)) (Pz.ac (Pz.rel_own (by k_is) (by kit_is) (by kts_exm) (by decide +kernel)) (Pz.ac (Pz.rel_own (by k_is) (by kit_is) (by kts_exm) (by decide +kernel)) (Pz.ac (Pz.rel_own (by k_is) (by kit_is) (by kts_exm) (by decide +kernel)) (Pz.ac (Pz.rel_own (by k_is) (by kit_is) (by kts_exm) (by decide +kernel)) (Pz.ac (Pz.rel_bi (n := "ValueError") (by k_is) (by kit_is) (by kts_exm) (by decide +kernel)) (Pz.ac (Pz.rel_bi (n := "OverflowError") (by k_is) (by kit_is) (by kts_exm) (by decide +kernel)) (Pz.ac (Pz.rel_bi (n := "IndexError") (by k_is) (by kit_is) (by kts_exm) (by decide +kernel)) (Pz.ac (Pz.rel_bi (n := "RuntimeError") (by k_is) (by kit_is) (by kts_exm) (by decide +kernel)) (Pz.ac (Pz.rel_bi (n := "LookupError") (by k_is) (by kit_is) (by kts_exm) (by decide +kernel)) (Pz.ac (Pz.rel_bi (n := "KeyError") (by k_is) (by kit_is) (by kts_exm) (by decide +kernel)) (Pz.ac (Pz.rel_bi (n := "ArithmeticError") (by k_is) (by kit_is) (by kts_exm) (by decide +kernel)) Pz.an))))))))))))))))))))))))))))) (Pz.ac (Pz.rel_of (by k_is) (Pz.ac (Pz.rel_own (by k_is) (by kit_is) (by kts_exm) (by decide +kernel)) (Pz.ac (Pz.rel_own (by k_is) (by kit_is) (by kts_exm) (by decide +kernel)) (Pz.ac (Pz.rel_own (by k_is) (by kit_is) (by kts_exm) (by decide +kernel)) (Pz.ac (Pz.rel_own (by k_is) (by kit_is) (by kts_exm) (by decide +kernel)) (Pz.ac (Pz.rel_own (by k_is) (by kit_is) (by kts_exm) (by decide +kernel)) (Pz.ac (Pz.rel_own (by k_is) (by kit_is) (by kts_exm) (by decide +kernel)) (Pz.ac (Pz.rel_own (by k_is) (by kit_is) (by kts_exm) (by decide +kernel)) (Pz.ac (Pz.rel_own (by k_is) (by kit_is) (by kts_exm) (by decide +kernel)) (Pz.ac (Pz.rel_own (by k_is) (by kit_is) (by kts_exm) (by decide +kernel)) (Pz.ac (Pz.rel_own (by k_is) (by kit_is) (by kts_exm) (by decide +kernel)) (Pz.ac (Pz.rel_own (by k_is) (by kit_is) (by kts_exm) (by decide +kernel)) (Pz.ac (Pz.rel_own (by k_is) (by kit_is) (by kts_exm) (by decide +kernel)) (Pz.ac (Pz.rel_own (by k_is) (by kit_is) (by kts_exm) (by decide +kernel)) (Pz.ac (Pz.rel_own (by k_is) (by kit_is) (by kts_exm) (by decide +kernel)) (Pz.ac (Pz.rel_own (by k_is) (by kit_is) (by kts_exm) (by decide +kernel)) (Pz.ac (Pz.rel_own (by k_is) (by kit_is) (by kts_exm) (by decide +kernel)) (Pz.ac (Pz.rel_own (by k_is) (by kit_is) (by kts_exm) (by decide +kernel)) (Pz.ac (Pz.rel_own (by k_is) (by kit_is) (by kts_exm) (by decide +kernel)) (Pz.ac (Pz.rel_own (by k_is) (by kit_is) (by kts_exm) (by decide +kernel)) (Pz.ac (Pz.rel_own (by k_is) (by kit_is) (by kts_exm) (by decide +kernel)) (Pz.ac (Pz.rel_own (by k_is) (by kit_is) (by kts_exm) (by decide +kernel)) (Pz.ac (Pz.rel_bi (n := "ValueError") (by k_is) (by kit_is) (by kts_exm) (by decide +kernel)) (Pz.ac (Pz.rel_bi (n := "OverflowError") (by k_is) (by kit_is) (by kts_exm) (by decide +kernel)) (Pz.ac (Pz.rel_bi (n := "IndexError") (by k_is) (by kit_is) (by kts_exm) (by decide +kernel)) (Pz.ac (Pz.rel_bi (n := "RuntimeError") (by k_is) (by kit_is) (by kts_exm) (by decide +kernel)) (Pz.ac (Pz.rel_bi (n := "LookupError") (by k_is) (by kit_is) (by kts_exm) (by decide +kernel)) (Pz.ac (Pz.rel_bi (n := "KeyError") (by k_is) (by kit_is) (by kts_exm) (by decide +kernel)) (Pz.ac (Pz.rel_bi (n := "ArithmeticError") (by k_is) (by kit_is) (by kts_exm) (by decide +kernel)) Pz.an))))))))))))))))))))))))))))) (Pz.ac (Pz.rel_of (by k_is) (Pz.ac (Pz.rel_own (by k_is) (by kit_is) (by kts_exm) (by decide +kernel)) (Pz.ac (Pz.rel_own (by k_is) (by kit_is) (by kts_exm) (by decide +kernel)) (Pz.ac (Pz.rel_own (by k_is) (by kit_is) (by kts_exm) (by decide +kernel)) (Pz.ac (Pz.rel_own (by k_is) (by kit_is) (by kts_exm) (by decide +kernel)) (Pz.ac (Pz.rel_own (by k_is) (by kit_is) (by kts_exm) (by decide +kernel)) (Pz.ac (Pz.rel_own (by k_is) (by kit_is) (by kts_exm) (by decide +kernel)) (Pz.ac (Pz.rel_own (by k_is) (by kit_is) (by kts_exm) (by decide +kernel)) (Pz.ac (Pz.rel_own (by k_is) (by kit_is) (by kts_exm) (by decide +kernel)) (Pz.ac (Pz.rel_own (by k_is) (by kit_is) (by kts_exm) (by decide +kernel)) (Pz.ac (Pz.rel_own (by k_is) (by kit_is) (by kts_exm) (by decide +kernel)) (Pz.ac (Pz.rel_own (by k_is) (by kit_is) (by kts_exm) (by decide +kernel)) (Pz.ac (Pz.rel_own (by k_is) (by kit_is) (by kts_exm) (by decide +kernel)) (Pz.ac (Pz.rel_own (by k_is) (by kit_is) (by kts_exm) (by decide +kernel)) (Pz.ac (Pz.rel_own (by k_is) (by kit_is) (by kts_exm) (by decide +kernel)) (Pz.ac (Pz.rel_own (by k_is) (by kit_is) (by kts_exm) (by decide +kernel)) (Pz.ac (Pz.rel_own (by k_is) (by kit_is) (by kts_exm) (by decide +kernel)) (Pz.ac (Pz.rel_own (by k_is) (by kit_is) (by kts_exm) (by decide +kernel)) (Pz.ac (Pz.rel_own (by k_is) (by kit_is) (by kts_exm) (by decide +kernel)) (Pz.ac (Pz.rel_own (by k_is) (by kit_is) (by kts_exm) (by decide +kernel)) (Pz.ac (Pz.rel_own (by k_is) (by kit_is) (by kts_exm) (by decide +kernel)) (Pz.ac (Pz.rel_own (by k_is) (by kit_is) (by kts_exm) (by decide +kernel)) (Pz.ac (Pz.rel_bi (n := "ValueError") (by k_is) (by kit_is) (by kts_exm) (by decide +kernel)) (Pz.ac (Pz.rel_bi (n := "OverflowError") (by k_is) (by kit_is) (by kts_exm) (by decide +kernel)) (Pz.ac (Pz.rel_bi (n := "IndexError") (by k_is) (by kit_is) (by kts_exm) (by decide +kernel)) (Pz.ac (Pz.rel_bi (n := "RuntimeError") (by k_is) (by kit_is) (by kts_exm) (by decide +kernel)) (Pz.ac (Pz.rel_bi (n := "LookupError") (by k_is) (by kit_is) (by kts_exm) (by decide +kernel)) (Pz.ac (Pz.rel_bi (n := "KeyError") (by k_is) (by kit_is) (by kts_exm) (by decide +kernel)) (Pz.ac (Pz.rel_bi (n := "ArithmeticError") (by k_is) (by kit_is) (by kts_exm) (by decide +kernel)) Pz.an))))))))))))))))))))))))))))) (Pz.ac (Pz.rel_of (by k_is) (Pz.ac (Pz.rel_own (by k_is) (by kit_is) (by kts_exm) (by decide +kernel)) (Pz.ac (Pz.rel_own (by k_is) (by kit_is) (by kts_exm) (by decide +kernel)) (Pz.ac (Pz.rel_own (by k_is) (by kit_is) (by kts_exm) (by decide +kernel)) (Pz.ac (Pz.rel_own (by k_is) (by kit_is) (by kts_exm) (by decide +kernel)) (Pz.ac (Pz.rel_own (by k_is) (by kit_is) (by kts_exm) (by decide +kernel)) (Pz.ac (Pz.rel_own (by k_is) (by kit_is) (by kts_exm) (by decide +kernel)) (Pz.ac (Pz.rel_own (by k_is) (by kit_is) (by kts_exm) (by decide +kernel)) (Pz.ac (Pz.rel_own (by k_is) (by kit_is) (by kts_exm) (by decide +kernel)) (Pz.ac (Pz.rel_own (by k_is) (by kit_is) (by kts_exm) (by decide +kernel)) (Pz.ac (Pz.rel_own (by k_is) (by kit_is) (by kts_exm) (by decide +kernel)) (Pz.ac (Pz.rel_own (by k_is) (by kit_is) (by kts_exm) (by decide +kernel)) (Pz.ac (Pz.rel_own (by k_is) (by kit_is) (by kts_exm) (by decide +kernel)) (Pz.ac (Pz.rel_own (by k_is) (by kit_is) (by kts_exm) (by decide +kernel)) (Pz.ac (Pz.rel_own (by k_is) (by kit_is) (by kts_exm) (by decide +kernel)) (Pz.ac (Pz.rel_own (by k_is) (by kit_is) (by kts_exm) (by decide +kernel)) (Pz.ac (Pz.rel_own (by k_is) (by kit_is) (by kts_exm) (by decide +kernel)) (Pz.ac (Pz.rel_own (by k_is) (by kit_is) (by kts_exm) (by decide +kernel)) (Pz.ac (Pz.rel_own (by k_is) (by kit_is) (by kts_exm) (by decide +kernel)) (Pz.ac (Pz.rel_own (by k_is) (by kit_is) (by kts_exm) (by decide +kernel)) (Pz.ac (Pz.rel_own (by k_is) (by kit_is) (by kts_exm) (by decide +kernel)) (Pz.ac (Pz.rel_own (by k_is) (by kit_is) (by kts_exm) (by decide +kernel)) (Pz.ac (Pz.rel_bi (n := "ValueError") (by k_is) (by kit_is) (by kts_exm) (by decide +kernel)) (Pz.ac (Pz.rel_bi (n := "OverflowError") (by k_is) (by kit_is) (by kts_exm) (by decide +kernel)) (Pz.ac (Pz.rel_bi (n := "IndexError") (by k_is) (by kit_is) (by kts_exm) (by decide +kernel)) (Pz.ac (Pz.rel_bi (n := "RuntimeError") (by k_is) (by kit_is) (by kts_exm) (by decide +kernel)) (Pz.ac (Pz.rel_bi (n := "LookupError") (by k_is) (by kit_is) (by kts_exm) (by decide +kernel)) (Pz.ac (Pz.rel_bi (n := "KeyError") (by k_is) (by kit_is) (by kts_exm) (by decide +kernel)) (Pz.ac (Pz.rel_bi (n := "ArithmeticError") (by k_is) (by kit_is) (by kts_exm) (by decide +kernel)) Pz.an))))))))))))))))))))))))))))) (Pz.ac (Pz.rel_of (by k_is) (Pz.ac (Pz.rel_own (by k_is) (by kit_is) (by kts_exm) (by decide +kernel)) (Pz.ac (Pz.rel_own (by k_is) (by kit_is) (by kts_exm) (by decide +kernel)) (Pz.ac (Pz.rel_own (by k_is) (by kit_is) (by kts_exm) (by decide +kernel)) (Pz.ac (Pz.rel_own (by k_is) (by kit_is) (by kts_exm) (by decide +kernel)) (Pz.ac (Pz.rel_own (by k_is) (by kit_is) (by kts_exm) (by decide +kernel)) (Pz.ac (Pz.rel_own (by k_is) (by kit_is) (by kts_exm) (by decide +kernel)) (Pz.ac (Pz.rel_own (by k_is) (by kit_is) (by kts_exm) (by decide +kernel)) (Pz.ac (Pz.rel_own (by k_is) (by kit_is) (by kts_exm) (by decide +kernel)) (Pz.ac (Pz.rel_own (by k_is) (by kit_is) (by kts_exm) (by decide +kernel)) (Pz.ac (Pz.rel_own (by k_is) (by kit_is) (by kts_exm) (by decide +kernel)) (Pz.ac (Pz.rel_own (by k_is) (by kit_is) (by kts_exm) (by decide +kernel)) (Pz.ac (Pz.rel_own (by k_is) (by kit_is) (by kts_exm) (by decide +kernel)) (Pz.ac (Pz.rel_own (by k_is) (by kit_is) (by kts_exm) (by decide +kernel)) (Pz.ac (Pz.rel_own (by k_is) (by kit_is) (by kts_exm) (by decide +kernel)) (Pz.ac (Pz.rel_own (by k_is) (by kit_is) (by kts_exm) (by decide +kernel)) (Pz.ac (Pz.rel_own (by k_is) (by kit_is) (by kts_exm) (by decide +kernel)) (Pz.ac (Pz.rel_own (by k_is) (by kit_is) (by kts_exm) (by decide +kernel)) (Pz.ac (Pz.rel_own (by k_is) (by kit_is) (by kts_exm) (by decide +kernel)) (Pz.ac (Pz.rel_own (by k_is) (by kit_is) (by kts_exm) (by decide +kernel)) (Pz.ac (Pz.rel_own (by k_is) (by kit_is) (by kts_exm) (by decide +kernel)) (Pz.ac (Pz.rel_own (by k_is) (by kit_is) (by kts_exm) (by decide +kernel)) (Pz.ac (Pz.rel_bi (n := "ValueError") (by k_is) (by kit_is) (by kts_exm) (by decide +kernel)) (Pz.ac (Pz.rel_bi (n := "OverflowError") (by k_is) (by kit_is) (by kts_exm) (by decide +kernel)) (Pz.ac (Pz.rel_bi (n := "IndexError") (by k_is) (by kit_is) (by kts_exm) (by decide +kernel)) (Pz.ac (Pz.rel_bi (n := "RuntimeError") (by k_is) (by kit_is) (by kts_exm) (by decide +kernel)) (Pz.ac (Pz.rel_bi (n := "LookupError") (by k_is) (by kit_is) (by kts_exm) (by decide +kernel)) (Pz.ac (Pz.rel_bi (n := "KeyError") (by k_is) (by kit_is) (by kts_exm) (by decide +kernel)) (Pz.ac (Pz.rel_bi (n := "ArithmeticError") (by k_is) (by kit_is) (by kts_exm) (by decide +kernel)) Pz.an))))))))))))))))))))))))))))) (Pz.ac (Pz.rel_of (by k_is) (Pz.ac (Pz.rel_own (by k_is) (by kit_is) (by kts_exm) (by decide +kernel)) (Pz.ac (Pz.rel_own (by k_is) (by kit_is) (by kts_exm) (by decide +kernel)) (Pz.ac (Pz.rel_own (by k_is) (by kit_is) (by kts_exm) (by decide +kernel)) (Pz.ac (Pz.rel_own (by k_is) (by kit_is) (by kts_exm) (by decide +kernel)) (Pz.ac (Pz.rel_own (by k_is) (by kit_is) (by kts_exm) (by decide +kernel)) (Pz.ac (Pz.rel_own (by k_is) (by kit_is) (by kts_exm) (by decide +kernel)) (Pz.ac (Pz.rel_own (by k_is) (by kit_is) (by kts_exm) (by decide +kernel)) (Pz.ac (Pz.rel_own (by k_is) (by kit_is) (by kts_exm) (by decide +kernel)) (Pz.ac (Pz.rel_own (by k_is) (by kit_is) (by kts_exm) (by decide +kernel)) (Pz.ac (Pz.rel_own (by k_is) (by kit_is) (by kts_exm) (by decide +kernel)) (Pz.ac (Pz.rel_own (by k_is) (by kit_is) (by kts_exm) (by decide +kernel)) (Pz.ac (Pz.rel_own (by k_is) (by kit_is) (by kts_exm) (by decide +kernel)) (Pz.ac (Pz.rel_own (by k_is) (by kit_is) (by kts_exm) (by decide +kernel)) (Pz.ac (Pz.rel_own (by k_is) (by kit_is) (by kts_exm) (by decide +kernel)) (Pz.ac (Pz.rel_own (by k_is) (by kit_is) (by kts_exm) (by decide +kernel)) (Pz.ac (Pz.rel_own (by k_is) (by kit_is) (by kts_exm) (by decide +kernel)) (Pz.ac (Pz.rel_own (by k_is) (by kit_is) (by kts_exm) (by decide +kernel)) (Pz.ac (Pz.rel_own (by k_is) (by kit_is) (by kts_exm) (by decide +kernel)) (Pz.ac (Pz.rel_own (by k_is) (by kit_is) (by kts_exm) (by decide +kernel)) (Pz.ac (Pz.rel_own (by k_is) (by kit_is) (by kts_exm) (by decide +kernel)) (Pz.ac (Pz.rel_own (by k_is) (by kit_is) (by kts_exm) (by decide +kernel)) (Pz.ac (Pz.rel_bi (n := "ValueError") (by k_is) (by kit_is) (by kts_exm) (by decide +kernel)) (Pz.ac (Pz.rel_bi (n := "OverflowError") (by k_is) (by kit_is) (by kts_exm) (by decide +kernel)) (Pz.ac (Pz.rel_bi (n := "IndexError") (by k_is) (by kit_is) (by kts_exm) (by decide +kernel)) (Pz.ac (Pz.rel_bi (n := "RuntimeError") (by k_is) (by kit_is) (by kts_exm) (by decide +kernel)) (Pz.ac (Pz.rel_bi (n := "LookupError") (by k_is) (by kit_is) (by kts_exm) (by decide +kernel)) (Pz.ac (Pz.rel_bi (n := "KeyError") (by k_is) (by kit_is) (by kts_exm) (by decide +kernel)) (Pz.ac (Pz.rel_bi (n := "ArithmeticError") (by k_is) (by kit_is) (by kts_exm) (by decide +kernel)) Pz.an))))))))))))))))))))))))))))) Pz.an))))))))))))))))))))), (Pz.ac (Pz.nm_own (by k_is)) (Pz.ac (Pz.nm_own (by k_is)) (Pz.ac (Pz.nm_own (by k_is)) (Pz.ac (Pz.nm_own (by k_is)) (Pz.ac (Pz.nm_own (by k_is)) (Pz.ac (Pz.nm_own (by k_is)) (Pz.ac (Pz.nm_own (by k_is)) (Pz.ac (Pz.nm_own (by k_is)) (Pz.ac (Pz.nm_own (by k_is)) (Pz.ac (Pz.nm_own (by k_is)) (Pz.ac (Pz.nm_own (by k_is)) (Pz.ac (Pz.nm_own (by k_is)) (Pz.ac (Pz.nm_own (by k_is)) (Pz.ac (Pz.nm_own (by k_is)) (Pz.ac (Pz.nm_own (by k_is)) (Pz.ac (Pz.nm_own (by k_is)) (Pz.ac (Pz.nm_own (by k_is)) (Pz.ac (Pz.nm_own (by k_is)) (Pz.ac (Pz.nm_own (by k_is)) (Pz.ac (Pz.nm_own (by k_is)) (Pz.ac (Pz.nm_own (by k_is)) (Pz.ac (Pz.nm_bi (n := "ValueError") (by decide +kernel) (by k_is)) (Pz.ac (Pz.nm_bi (n := "OverflowError") (by decide +kernel) (by k_is)) (Pz.ac (Pz.nm_bi (n := "IndexError") (by decide +kernel) (by k_is)) (Pz.ac (Pz.nm_bi (n := "RuntimeError") (by decide +kernel) (by k_is)) (Pz.ac (Pz.nm_bi (n := "LookupError") (by decide +kernel) (by k_is)) (Pz.ac (Pz.nm_bi (n := "KeyError") (by decide +kernel) (by k_is)) (Pz.ac (Pz.nm_bi (n := "ArithmeticError") (by decide +kernel) (by k_is)) Pz.an)))))))))))))))))))))))))))), (Pz.ac (Pz.fld_of (by k_is) (Pz.ac (by k_is) (Pz.ac (by k_is) (Pz.ac (by k_is) (Pz.ac (by k_is) (Pz.ac (by k_is) (Pz.ac (by k_is) (Pz.ac (by k_is) (Pz.ac (by k_is) (Pz.ac (by k_is) (Pz.ac (by k_is) Pz.an))))))))))) (Pz.ac (Pz.fld_of (by k_is) (Pz.ac (by k_is) (Pz.ac (by k_is) (Pz.ac (by k_is) (Pz.ac (by k_is) (Pz.ac (by k_is) (Pz.ac (by k_is) (Pz.ac (by k_is) (Pz.ac (by k_is) (Pz.ac (by k_is) (Pz.ac (by k_is) Pz.an))))))))))) (Pz.ac (Pz.fld_of (by k_is) (Pz.ac (by k_is) (Pz.ac (by k_is) (Pz.ac (by k_is) (Pz.ac (by k_is) (Pz.ac (by k_is) (Pz.ac (by k_is) (Pz.ac (by k_is) (Pz.ac (by k_is) (Pz.ac (by k_is) (Pz.ac (by k_is) Pz.an))))))))))) (Pz.ac (Pz.fld_of (by k_is) (Pz.ac (by k_is) (Pz.ac (by k_is) (Pz.ac (by k_is) (Pz.ac (by k_is) (Pz.ac (by k_is) (Pz.ac (by k_is) (Pz.ac (by k_is) (Pz.ac (by k_is) (Pz.ac (by k_is) (Pz.ac (by k_is) Pz.an))))))))))) (Pz.ac (Pz.fld_of (by k_is) (Pz.ac (by k_is) (Pz.ac (by k_is) (Pz.ac (by k_is) (Pz.ac (by k_is) (Pz.ac (by k_is) (Pz.ac (by k_is) (Pz.ac (by k_is) (Pz.ac (by k_is) (Pz.ac (by k_is) (Pz.ac (by k_is) Pz.an))))))))))) (Pz.ac (Pz.fld_of (by k_is) (Pz.ac (by k_is) (Pz.ac (by k_is) (Pz.ac (by k_is) (Pz.ac (by k_is) (Pz.ac (by k_is) (Pz.ac (by k_is) (Pz.ac (by k_is) (Pz.ac (by k_is) (Pz.ac (by k_is) (Pz.ac (by k_is) Pz.an))))))))))) (Pz.ac (Pz.fld_of (by k_is) (Pz.ac (by k_is) (Pz.ac (by k_is) (Pz.ac (by k_is) (Pz.ac (by k_is) (Pz.ac (by k_is) (Pz.ac (by k_is) (Pz.ac (by k_is) (Pz.ac (by k_is) (Pz.ac (by k_is) (Pz.ac (by k_is) Pz.an))))))))))) (Pz.ac (Pz.fld_of (by k_is) (Pz.ac (by k_is) (Pz.ac (by k_is) (Pz.ac (by k_is) (Pz.ac (by k_is) (Pz.ac (by k_is) (Pz.ac (by k_is) (Pz.ac (by k_is) (Pz.ac (by k_is) (Pz.ac (by k_is) (Pz.ac (by k_is) Pz.an))))))))))) (Pz.ac (Pz.fld_of (by k_is) (Pz.ac (by k_is) (Pz.ac (by k_is) (Pz.ac (by k_is) (Pz.ac (by k_is) (Pz.ac (by k_is) (Pz.ac (by k_is) (Pz.ac (by k_is) (Pz.ac (by k_is) (Pz.ac (by k_is) (Pz.ac (by k_is) Pz.an))))))))))) (Pz.ac (Pz.fld_of (by k_is) (Pz.ac (by k_is) (Pz.ac (by k_is) (Pz.ac (by k_is) (Pz.ac (by k_is) (Pz.ac (by k_is) (Pz.ac (by k_is) (Pz.ac (by k_is) (Pz.ac (by k_is) (Pz.ac (by k_is) (Pz.ac (by k_is) Pz.an))))))))))) (Pz.ac (Pz.fld_of (by k_is) (Pz.ac (by k_is) (Pz.ac (by k_is) (Pz.ac (by k_is) (Pz.ac (by k_is) (Pz.ac (by k_is) (Pz.ac (by k_is) (Pz.ac (by k_is) (Pz.ac (by k_is) (Pz.ac (by k_is) (Pz.ac (by k_is) Pz.an))))))))))) (Pz.ac (Pz.fld_of (by k_is) (Pz.ac (by k_is) (Pz.ac (by k_is) (Pz.ac (by k_is) (Pz.ac (by k_is) (Pz.ac (by k_is) (Pz.ac (by k_is) (Pz.ac (by k_is) (Pz.ac (by k_is) (Pz.ac (by k_is) (Pz.ac (by k_is) Pz.an))))))))))) (Pz.ac (Pz.fld_of (by k_is) (Pz.ac (by k_is) (Pz.ac (by k_is) (Pz.ac (by k_is) (Pz.ac (by k_is) (Pz.ac (by k_is) (Pz.ac (by k_is) (Pz.ac (by k_is) (Pz.ac (by k_is) (Pz.ac (by k_is) (Pz.ac (by k_is) Pz.an))))))))))) (Pz.ac (Pz.fld_of (by k_is) (Pz.ac (by k_is) (Pz.ac (by k_is) (Pz.ac (by k_is) (Pz.ac (by k_is) (Pz.ac (by k_is) (Pz.ac (by k_is) (Pz.ac (by k_is) (Pz.ac (by k_is) (Pz.ac (by k_is) (Pz.ac (by k_is) Pz.an))))))))))) (Pz.ac (Pz.fld_of (by k_is) (Pz.ac (by k_is) (Pz.ac (by k_is) (Pz.ac (by k_is) (Pz.ac (by k_is) (Pz.ac (by k_is) (Pz.ac (by k_is) (Pz.ac (by k_is) (Pz.ac (by k_is) (Pz.ac (by k_is) (Pz.ac (by k_is) Pz.an))))))))))) (Pz.ac (Pz.fld_of (by k_is) (Pz.ac (by k_is) (Pz.ac (by k_is) (Pz.ac (by k_is) (Pz.ac (by k_is) (Pz.ac (by k_is) (Pz.ac (by k_is) (Pz.ac (by k_is) (Pz.ac (by k_is) (Pz.ac (by k_is) (Pz.ac (by k_is) Pz.an))))))))))) (Pz.ac (Pz.fld_of (by k_is) (Pz.ac (by k_is) (Pz.ac (by k_is) (Pz.ac (by k_is) (Pz.ac (by k_is) (Pz.ac (by k_is) (Pz.ac (by k_is) (Pz.ac (by k_is) (Pz.ac (by k_is) (Pz.ac (by k_is) (Pz.ac (by k_is) Pz.an))))))))))) (Pz.ac (Pz.fld_of (by k_is) (Pz.ac (by k_is) (Pz.ac (by k_is) (Pz.ac (by k_is) (Pz.ac (by k_is) (Pz.ac (by k_is) (Pz.ac (by k_is) (Pz.ac (by k_is) (Pz.ac (by k_is) (Pz.ac (by k_is) (Pz.ac (by k_is) Pz.an))))))))))) (Pz.ac (Pz.fld_of (by k_is) (Pz.ac (by k_is) (Pz.ac (by k_is) (Pz.ac (by k_is) (Pz.ac (by k_is) (Pz.ac (by k_is) (Pz.ac (by k_is) (Pz.ac (by k_is) (Pz.ac (by k_is) (Pz.ac (by k_is) (Pz.ac (by k_is) Pz.an))))))))))) (Pz.ac (Pz.fld_of (by k_is) (Pz.ac (by k_is) (Pz.ac (by k_is) (Pz.ac (by k_is) (Pz.ac (by k_is) (Pz.ac (by k_is) (Pz.ac (by k_is) (Pz.ac (by k_is) (Pz.ac (by k_is) (Pz.ac (by k_is) (Pz.ac (by k_is) Pz.an))))))))))) (Pz.ac (Pz.fld_of (by k_is) (Pz.ac (by k_is) (Pz.ac (by k_is) (Pz.ac (by k_is) (Pz.ac (by k_is) (Pz.ac (by k_is) (Pz.ac (by k_is) (Pz.ac (by k_is) (Pz.ac (by k_is) (Pz.ac (by k_is) (Pz.ac (by k_is) Pz.an))))))))))) Pz.an)))))))))))))))))))))⟩); (case ek => exact (Pz.ac (Pz.ek_of (by k_is) ⟨Pz.is_some (by k_is), (by k_is), (by k_is), (by k_is), (by k_is), (by k_is), (by k_is), (by k_is), (by k_is)⟩ (Pz.ac (by kit_is) (Pz.ac (by kit_is) (Pz.ac (by kit_is) (Pz.ac (by kit_is) (Pz.ac (by kit_is) Pz.an)))))) (Pz.ac (Pz.ek_of (by k_is) ⟨Pz.is_some (by k_is), (by k_is), (by k_is), (by k_is), (by k_is), (by k_is), (by k_is), (by k_is), (by k_is)⟩ (Pz.ac (by kit_is) (Pz.ac (by kit_is) (Pz.ac (by kit_is) (Pz.ac (by kit_is) (Pz.ac (by kit_is) Pz.an)))))) (Pz.ac (Pz.ek_of (by k_is) ⟨Pz.is_some (by k_is), (by k_is), (by k_is), (by k_is), (by k_is), (by k_is), (by k_is), (by k_is), (by k_is)⟩ (Pz.ac (by kit_is) (Pz.ac (by kit_is) (Pz.ac (by kit_is) (Pz.ac (by kit_is) (Pz.ac (by kit_is) Pz.an)))))) (Pz.ac (Pz.ek_of (by k_is) ⟨Pz.is_some (by k_is), (by k_is), (by k_is), (by k_is), (by k_is), (by k_is), (by k_is), (by k_is), (by k_is)⟩ (Pz.ac (by kit_is) (Pz.ac (by kit_is) (Pz.ac (by kit_is) (Pz.ac (by kit_is) (Pz.ac (by kit_is) Pz.an)))))) (Pz.ac (Pz.ek_of (by k_is) ⟨Pz.is_some (by k_is), (by k_is), (by k_is), (by k_is), (by k_is), (by k_is), (by k_is), (by k_is), (by k_is)⟩ (Pz.ac (by kit_is) (Pz.ac (by kit_is) (Pz.ac (by kit_is) (Pz.ac (by kit_is) (Pz.ac (by kit_is) Pz.an)))))) (Pz.ac (Pz.ek_of (by k_is) ⟨Pz.is_some (by k_is), (by k_is), (by k_is), (by k_is), (by k_is), (by k_is), (by k_is), (by k_is), (by k_is)⟩ (Pz.ac (by kit_is) (Pz.ac (by kit_is) (Pz.ac (by kit_is) (Pz.ac (by kit_is) (Pz.ac (by kit_is) Pz.an)))))) (Pz.ac (Pz.ek_of (by k_is) ⟨Pz.is_some (by k_is), (by k_is), (by k_is), (by k_is), (by k_is), (by k_is), (by k_is), (by k_is), (by k_is)⟩ (Pz.ac (by kit_is) (Pz.ac (by kit_is) (Pz.ac (by kit_is) (Pz.ac (by kit_is) (Pz.ac (by kit_is) Pz.an)))))) (Pz.ac (Pz.ek_of (by k_is) ⟨Pz.is_some (by k_is), (by k_is), (by k_is), (by k_is), (by k_is), (by k_is), (by k_is), (by k_is), (by k_is)⟩ (Pz.ac (by kit_is) (Pz.ac (by kit_is) (Pz.ac (by kit_is) (Pz.ac (by kit_is) (Pz.ac (by kit_is) Pz.an)))))) (Pz.ac (Pz.ek_of (by k_is) ⟨Pz.is_some (by k_is), (by k_is), (by k_is), (by k_is), (by k_is), (by k_is), (by k_is), (by k_is), (by k_is)⟩ (Pz.ac (by kit_is) (Pz.ac (by kit_is) (Pz.ac (by kit_is) (Pz.ac (by kit_is) (Pz.ac (by kit_is) Pz.an)))))) (Pz.ac (Pz.ek_of (by k_is) ⟨Pz.is_some (by k_is), (by k_is), (by k_is), (by k_is), (by k_is), (by k_is), (by k_is), (by k_is), (by k_is)⟩ (Pz.ac (by kit_is) (Pz.ac (by kit_is) (Pz.ac (by kit_is) (Pz.ac (by kit_is) (Pz.ac (by kit_is) Pz.an)))))) (Pz.ac (Pz.ek_of (by k_is) ⟨Pz.is_some (by k_is), (by k_is), (by k_is), (by k_is), (by k_is), (by k_is), (by k_is), (by k_is), (by k_is)⟩ (Pz.ac (by kit_is) (Pz.ac (by kit_is) (Pz.ac (by kit_is) (Pz.ac (by kit_is) (Pz.ac (by kit_is) Pz.an)))))) (Pz.ac (Pz.ek_of (by k_is) ⟨Pz.is_some (by k_is), (by k_is), (by k_is), (by k_is), (by k_is), (by k_is), (by k_is), (by k_is), (by k_is)⟩ (Pz.ac (by kit_is) (Pz.ac (by kit_is) (Pz.ac (by kit_is) (Pz.ac (by kit_is) (Pz.ac (by kit_is) Pz.an)))))) (Pz.ac (Pz.ek_of (by k_is) ⟨Pz.is_some (by k_is), (by k_is), (by k_is), (by k_is), (by k_is), (by k_is), (by k_is), (by k_is), (by k_is)⟩ (Pz.ac (by kit_is) (Pz.ac (by kit_is) (Pz.ac (by kit_is) (Pz.ac (by kit_is) (Pz.ac (by kit_is) Pz.an)))))) (Pz.ac (Pz.ek_of (by k_is) ⟨Pz.is_some (by k_is), (by k_is), (by k_is), (by k_is), (by k_is), (by k_is), (by k_is), (by k_is), (by k_is)⟩ (Pz.ac (by kit_is) (Pz.ac (by kit_is) (Pz.ac (by kit_is) (Pz.ac (by kit_is) (Pz.ac (by kit_is) Pz.an)))))) (Pz.ac (Pz.ek_of (by k_is) ⟨Pz.is_some (by k_is), (by k_is), (by k_is), (by k_is), (by k_is), (by k_is), (by k_is), (by k_is), (by k_is)⟩ (Pz.ac (by kit_is) (Pz.ac (by kit_is) (Pz.ac (by kit_is) (Pz.ac (by kit_is) (Pz.ac (by kit_is) Pz.an)))))) (Pz.ac (Pz.ek_of (by k_is) ⟨Pz.is_some (by k_is), (by k_is), (by k_is), (by k_is), (by k_is), (by k_is), (by k_is), (by k_is), (by k_is)⟩ (Pz.ac (by kit_is) (Pz.ac (by kit_is) (Pz.ac (by kit_is) (Pz.ac (by kit_is) (Pz.ac (by kit_is) Pz.an)))))) (Pz.ac (Pz.ek_of (by k_is) ⟨Pz.is_some (by k_is), (by k_is), (by k_is), (by k_is), (by k_is), (by k_is), (by k_is), (by k_is), (by k_is)⟩ (Pz.ac (by kit_is) (Pz.ac (by kit_is) (Pz.ac (by kit_is) (Pz.ac (by kit_is) (Pz.ac (by kit_is) Pz.an)))))) (Pz.ac (Pz.ek_of (by k_is) ⟨Pz.is_some (by k_is), (by k_is), (by k_is), (by k_is), (by k_is), (by k_is), (by k_is), (by k_is), (by k_is)⟩ (Pz.ac (by kit_is) (Pz.ac (by kit_is) (Pz.ac (by kit_is) (Pz.ac (by kit_is) (Pz.ac (by kit_is) Pz.an)))))) (Pz.ac (Pz.ek_of (by k_is) ⟨Pz.is_some (by k_is), (by k_is), (by k_is), (by k_is), (by k_is), (by k_is), (by k_is), (by k_is), (by k_is)⟩ (Pz.ac (by kit_is) (Pz.ac (by kit_is) (Pz.ac (by kit_is) (Pz.ac (by kit_is) (Pz.ac (by kit_is) Pz.an)))))) (Pz.ac (Pz.ek_of (by k_is) ⟨Pz.is_some (by k_is), (by k_is), (by k_is), (by k_is), (by k_is), (by k_is), (by k_is), (by k_is), (by k_is)⟩ (Pz.ac (by kit_is) (Pz.ac (by kit_is) (Pz.ac (by kit_is) (Pz.ac (by kit_is) (Pz.ac (by kit_is) Pz.an)))))) (Pz.ac (Pz.ek_of (by k_is) ⟨Pz.is_some (by k_is), (by k_is), (by k_is), (by k_is), (by k_is), (by k_is), (by k_is), (by k_is), (by k_is)⟩ (Pz.ac (by kit_is) (Pz.ac (by kit_is) (Pz.ac (by kit_is) (Pz.ac (by kit_is) (Pz.ac (by kit_is) Pz.an)))))) Pz.an)))))))))))))))))))))); (case mk_InvalidText => exact ⟨_, _, _, _, _, (by k_is), PySem.F.excBase_ValueError, (by k_exc), (by k_is), (by k_is), (by k_is)⟩); (case mk_UnbalancedBracket => exact ⟨_, _, _, _, _, _, _, (by k_is), PySem.F.excBase_ValueError, PySem.Xc.init_number PySem.F.store_ValueError (by decide +kernel), ⟨⟨_, _, _, _, _, _, _, _, _, _, _, _, _, _, _, (by k_is), by decide +kernel⟩, (by k_is), (by k_is), (by k_is), (by k_is), (by k_is), (by k_is), (by k_is), ⟨_, _, _, _, _, _, _, _, _, _, _, _, _, _, (by k_is), (by k_is)⟩⟩⟩); (case mk_IndentedStart => exact ⟨_, _, _, _, _, _, _, (by k_is), PySem.F.excBase_ValueError, PySem.Xc.init_number PySem.F.store_ValueError (by decide +kernel), ⟨⟨_, _, _, _, _, _, _, _, _, _, _, _, _, _, _, (by k_is), by decide +kernel⟩, (by k_is), (by k_is), (by k_is), (by k_is), (by k_is), (by k_is), (by k_is), ⟨_, _, _, _, _, _, _, _, _, _, _, _, _, _, (by k_is), (by k_is)⟩⟩⟩); (case mk_BadDedent => exact ⟨_, _, _, _, _, _, _, (by k_is), PySem.F.excBase_ValueError, PySem.Xc.init_number PySem.F.store_ValueError (by decide +kernel), ⟨⟨_, _, _, _, _, _, _, _, _, _, _, _, _, _, _, (by k_is), by decide +kernel⟩, (by k_is), (by k_is), (by k_is), (by k_is), (by k_is), (by k_is), (by k_is), ⟨_, _, _, _, _, _, _, _, _, _, _, _, _, _, (by k_is), (by k_is)⟩⟩⟩); (case mk_InconsistentTabs => exact ⟨_, _, _, _, _, _, _, (by k_is), PySem.F.excBase_ValueError, PySem.Xc.init_number PySem.F.store_ValueError (by decide +kernel), ⟨⟨_, _, _, _, _, _, _, _, _, _, _, _, _, _, _, (by k_is), by decide +kernel⟩, (by k_is), (by k_is), (by k_is), (by k_is), (by k_is), (by k_is), (by k_is), ⟨_, _, _, _, _, _, _, _, _, _, _, _, _, _, (by k_is), (by k_is)⟩⟩⟩); (case mk_NoIndent => exact ⟨_, _, _, _, _, _, _, (by k_is), PySem.F.excBase_ValueError, PySem.Xc.init_reason PySem.F.store_ValueError (by decide +kernel), ⟨⟨_, _, _, _, _, _, _, _, _, _, _, _, _, _, _, (by k_is), by decide +kernel⟩, (by k_is), (by k_is), (by k_is), (by k_is), (by k_is), (by k_is), (by k_is), ⟨_, _, _, _, _, _, _, _, _, _, _, _, _, _, (by k_is), (by k_is)⟩⟩⟩); (case mk_Unreachable => exact ⟨_, _, _, _, _, _, _, (by k_is), PySem.F.excBase_ValueError, PySem.Xc.init_paper PySem.F.store_ValueError (by decide +kernel), ⟨⟨_, _, _, _, _, _, _, _, _, _, _, _, _, _, _, (by k_is), by decide +kernel⟩, (by k_is), (by k_is), (by k_is), (by k_is), (by k_is), (by k_is), (by k_is), ⟨_, _, _, _, _, _, _, _, _, _, _, _, _, _, (by k_is), (by k_is)⟩⟩⟩); (case mk_InvalidReading => exact ⟨_, _, _, _, _, _, _, (by k_is), PySem.F.excBase_ValueError, PySem.Xc.init_index PySem.F.store_ValueError (by decide +kernel), ⟨⟨_, _, _, _, _, _, _, _, _, _, _, _, _, _, _, (by k_is), by decide +kernel⟩, (by k_is), (by k_is), (by k_is), (by k_is), (by k_is), (by k_is), (by k_is), ⟨_, _, _, _, _, _, _, _, _, _, _, _, _, _, (by k_is), (by k_is)⟩⟩⟩); (case mk_RootConflict => exact ⟨_, _, _, _, _, _, _, (by k_is), PySem.F.excBase_ValueError, PySem.Xc.init_line_width_other PySem.F.store_ValueError (by decide +kernel), ⟨⟨_, _, _, _, _, _, _, _, _, _, _, _, _, _, _, (by k_is), by decide +kernel⟩, (by k_is), (by k_is), (by k_is), (by k_is), (by k_is), (by k_is), (by k_is), (by k_is), (by k_is), ⟨_, _, _, _, _, _, _, _, _, _, _, _, _, _, _, _, _, _, _, _, _, _, _, _, (by k_is), (by k_is)⟩⟩⟩); (case mk_InvalidTokens => exact ⟨_, _, _, _, _, _, _, (by k_is), PySem.F.excBase_ValueError, PySem.Xc.init_index PySem.F.store_ValueError (by decide +kernel), ⟨⟨_, _, _, _, _, _, _, _, _, _, _, _, _, _, _, (by k_is), by decide +kernel⟩, (by k_is), (by k_is), (by k_is), (by k_is), (by k_is), (by k_is), (by k_is), ⟨_, _, _, _, _, _, _, _, _, _, _, _, _, _, (by k_is), (by k_is)⟩⟩⟩); (case mk_InvalidOperation => exact ⟨_, _, _, _, _, (by k_is), PySem.F.excBase_ValueError, (by k_exc), (by k_is), (by k_is), (by k_is)⟩); (case mk_InvalidNotation => exact ⟨_, _, _, _, _, _, _, (by k_is), PySem.F.excBase_ValueError, PySem.Xc.init_at PySem.F.store_ValueError (by decide +kernel), ⟨⟨_, _, _, _, _, _, _, _, _, _, _, _, _, _, _, (by k_is), by decide +kernel⟩, (by k_is), (by k_is), (by k_is), (by k_is), (by k_is), (by k_is), (by k_is), ⟨_, _, _, _, _, _, _, _, _, _, _, _, _, _, (by k_is), (by k_is)⟩⟩⟩); (case mk_UnknownCommand => exact ⟨_, _, _, _, _, (by k_is), PySem.F.excBase_ValueError, (by k_exc), (by k_is), (by k_is), (by k_is)⟩); (case mk_TooLong => exact ⟨_, _, _, _, _, _, _, (by k_is), PySem.F.excBase_OverflowError, PySem.Xc.init_length PySem.F.store_OverflowError (by decide +kernel), ⟨⟨_, _, _, _, _, _, _, _, _, _, _, _, _, _, _, (by k_is), by decide +kernel⟩, (by k_is), (by k_is), (by k_is), (by k_is), (by k_is), (by k_is), (by k_is), ⟨_, _, _, _, _, _, _, _, _, _, _, _, _, _, (by k_is), (by k_is)⟩⟩⟩); (case mk_TooMany => exact ⟨_, _, _, _, _, _, _, (by k_is), PySem.F.excBase_OverflowError, PySem.Xc.init_count PySem.F.store_OverflowError (by decide +kernel), ⟨⟨_, _, _, _, _, _, _, _, _, _, _, _, _, _, _, (by k_is), by decide +kernel⟩, (by k_is), (by k_is), (by k_is), (by k_is), (by k_is), (by k_is), (by k_is), ⟨_, _, _, _, _, _, _, _, _, _, _, _, _, _, (by k_is), (by k_is)⟩⟩⟩); (case mk_NoVariant => exact ⟨_, _, _, _, _, _, _, (by k_is), PySem.F.excBase_IndexError, PySem.Xc.init_index PySem.F.store_IndexError (by decide +kernel), ⟨⟨_, _, _, _, _, _, _, _, _, _, _, _, _, _, _, (by k_is), by decide +kernel⟩, (by k_is), (by k_is), (by k_is), (by k_is), (by k_is), (by k_is), (by k_is), ⟨_, _, _, _, _, _, _, _, _, _, _, _, _, _, (by k_is), (by k_is)⟩⟩⟩); (case mk_NoLine => exact ⟨_, _, _, _, _, _, _, (by k_is), PySem.F.excBase_IndexError, PySem.Xc.init_index PySem.F.store_IndexError (by decide +kernel), ⟨⟨_, _, _, _, _, _, _, _, _, _, _, _, _, _, _, (by k_is), by decide +kernel⟩, (by k_is), (by k_is), (by k_is), (by k_is), (by k_is), (by k_is), (by k_is), ⟨_, _, _, _, _, _, _, _, _, _, _, _, _, _, (by k_is), (by k_is)⟩⟩⟩); (case mk_Busy => exact ⟨_, _, _, _, _, (by k_is), PySem.F.excBase_RuntimeError, (by k_exc), (by k_is), (by k_is), (by k_is)⟩); (case mk_NothingToUndo => exact ⟨_, _, _, _, _, (by k_is), PySem.F.excBase_RuntimeError, (by k_exc), (by k_is), (by k_is), (by k_is)⟩); (case mk_NothingToRedo => exact ⟨_, _, _, _, _, (by k_is), PySem.F.excBase_RuntimeError, (by k_exc), (by k_is), (by k_is), (by k_is)⟩); (case mk_PrismError => exact ⟨_, _, _, _, _, (by k_is), PySem.F.excBase_ValueError, (by k_exc), (by k_is), (by k_is), (by k_is)⟩); (case mkk_RootConflict => exact ⟨_, _, _, _, _, _, _, (by k_is), PySem.F.excBase_ValueError, ⟨PySem.Xc.initK3a PySem.F.store_ValueError (by decide +kernel), PySem.Xc.initK3b PySem.F.store_ValueError (by decide +kernel)⟩, ⟨⟨_, _, _, _, _, _, _, _, _, _, _, _, _, _, _, (by k_is), by decide +kernel⟩, (by k_is), (by k_is), (by k_is), (by k_is), (by k_is), (by k_is), (by k_is), (by k_is), (by k_is), ⟨_, _, _, _, _, _, _, _, _, _, _, _, _, _, _, _, _, _, _, _, _, _, _, _, (by k_is), (by k_is)⟩⟩⟩); (case mkk_UnbalancedBracket => exact ⟨_, _, _, _, _, _, _, (by k_is), PySem.F.excBase_ValueError, PySem.Xc.initK_number PySem.F.store_ValueError (by decide +kernel), ⟨⟨_, _, _, _, _, _, _, _, _, _, _, _, _, _, _, (by k_is), by decide +kernel⟩, (by k_is), (by k_is), (by k_is), (by k_is), (by k_is), (by k_is), (by k_is), ⟨_, _, _, _, _, _, _, _, _, _, _, _, _, _, (by k_is), (by k_is)⟩⟩⟩); (case mkk_IndentedStart => exact ⟨_, _, _, _, _, _, _, (by k_is), PySem.F.excBase_ValueError, PySem.Xc.initK_number PySem.F.store_ValueError (by decide +kernel), ⟨⟨_, _, _, _, _, _, _, _, _, _, _, _, _, _, _, (by k_is), by decide +kernel⟩, (by k_is), (by k_is), (by k_is), (by k_is), (by k_is), (by k_is), (by k_is), ⟨_, _, _, _, _, _, _, _, _, _, _, _, _, _, (by k_is), (by k_is)⟩⟩⟩); (case mkk_NoIndent => exact ⟨_, _, _, _, _, _, _, (by k_is), PySem.F.excBase_ValueError, PySem.Xc.initK_reason PySem.F.store_ValueError (by decide +kernel), ⟨⟨_, _, _, _, _, _, _, _, _, _, _, _, _, _, _, (by k_is), by decide +kernel⟩, (by k_is), (by k_is), (by k_is), (by k_is), (by k_is), (by k_is), (by k_is), ⟨_, _, _, _, _, _, _, _, _, _, _, _, _, _, (by k_is), (by k_is)⟩⟩⟩); (case mkk_Unreachable => exact ⟨_, _, _, _, _, _, _, (by k_is), PySem.F.excBase_ValueError, PySem.Xc.initK_paper PySem.F.store_ValueError (by decide +kernel), ⟨⟨_, _, _, _, _, _, _, _, _, _, _, _, _, _, _, (by k_is), by decide +kernel⟩, (by k_is), (by k_is), (by k_is), (by k_is), (by k_is), (by k_is), (by k_is), ⟨_, _, _, _, _, _, _, _, _, _, _, _, _, _, (by k_is), (by k_is)⟩⟩⟩); (case mkk_BadDedent => exact ⟨_, _, _, _, _, _, _, (by k_is), PySem.F.excBase_ValueError, PySem.Xc.initK_number PySem.F.store_ValueError (by decide +kernel), ⟨⟨_, _, _, _, _, _, _, _, _, _, _, _, _, _, _, (by k_is), by decide +kernel⟩, (by k_is), (by k_is), (by k_is), (by k_is), (by k_is), (by k_is), (by k_is), ⟨_, _, _, _, _, _, _, _, _, _, _, _, _, _, (by k_is), (by k_is)⟩⟩⟩); (case mkk_InconsistentTabs => exact ⟨_, _, _, _, _, _, _, (by k_is), PySem.F.excBase_ValueError, PySem.Xc.initK_number PySem.F.store_ValueError (by decide +kernel), ⟨⟨_, _, _, _, _, _, _, _, _, _, _, _, _, _, _, (by k_is), by decide +kernel⟩, (by k_is), (by k_is), (by k_is), (by k_is), (by k_is), (by k_is), (by k_is), ⟨_, _, _, _, _, _, _, _, _, _, _, _, _, _, (by k_is), (by k_is)⟩⟩⟩); (case mkk_InvalidReading => exact ⟨_, _, _, _, _, _, _, (by k_is), PySem.F.excBase_ValueError, PySem.Xc.initK_index PySem.F.store_ValueError (by decide +kernel), ⟨⟨_, _, _, _, _, _, _, _, _, _, _, _, _, _, _, (by k_is), by decide +kernel⟩, (by k_is), (by k_is), (by k_is), (by k_is), (by k_is), (by k_is), (by k_is), ⟨_, _, _, _, _, _, _, _, _, _, _, _, _, _, (by k_is), (by k_is)⟩⟩⟩); (case mkk_InvalidTokens => exact ⟨_, _, _, _, _, _, _, (by k_is), PySem.F.excBase_ValueError, PySem.Xc.initK_index PySem.F.store_ValueError (by decide +kernel), ⟨⟨_, _, _, _, _, _, _, _, _, _, _, _, _, _, _, (by k_is), by decide +kernel⟩, (by k_is), (by k_is), (by k_is), (by k_is), (by k_is), (by k_is), (by k_is), ⟨_, _, _, _, _, _, _, _, _, _, _, _, _, _, (by k_is), (by k_is)⟩⟩⟩); (case mkk_InvalidNotation => exact ⟨_, _, _, _, _, _, _, (by k_is), PySem.F.excBase_ValueError, PySem.Xc.initK_at PySem.F.store_ValueError (by decide +kernel), ⟨⟨_, _, _, _, _, _, _, _, _, _, _, _, _, _, _, (by k_is), by decide +kernel⟩, (by k_is), (by k_is), (by k_is), (by k_is), (by k_is), (by k_is), (by k_is), ⟨_, _, _, _, _, _, _, _, _, _, _, _, _, _, (by k_is), (by k_is)⟩⟩⟩); (case mkk_TooLong => exact ⟨_, _, _, _, _, _, _, (by k_is), PySem.F.excBase_OverflowError, PySem.Xc.initK_length PySem.F.store_OverflowError (by decide +kernel), ⟨⟨_, _, _, _, _, _, _, _, _, _, _, _, _, _, _, (by k_is), by decide +kernel⟩, (by k_is), (by k_is), (by k_is), (by k_is), (by k_is), (by k_is), (by k_is), ⟨_, _, _, _, _, _, _, _, _, _, _, _, _, _, (by k_is), (by k_is)⟩⟩⟩); (case mkk_TooMany => exact ⟨_, _, _, _, _, _, _, (by k_is), PySem.F.excBase_OverflowError, PySem.Xc.initK_count PySem.F.store_OverflowError (by decide +kernel), ⟨⟨_, _, _, _, _, _, _, _, _, _, _, _, _, _, _, (by k_is), by decide +kernel⟩, (by k_is), (by k_is), (by k_is), (by k_is), (by k_is), (by k_is), (by k_is), ⟨_, _, _, _, _, _, _, _, _, _, _, _, _, _, (by k_is), (by k_is)⟩⟩⟩); (case mkk_NoVariant => exact ⟨_, _, _, _, _, _, _, (by k_is), PySem.F.excBase_IndexError, PySem.Xc.initK_index PySem.F.store_IndexError (by decide +kernel), ⟨⟨_, _, _, _, _, _, _, _, _, _, _, _, _, _, _, (by k_is), by decide +kernel⟩, (by k_is), (by k_is), (by k_is), (by k_is), (by k_is), (by k_is), (by k_is), ⟨_, _, _, _, _, _, _, _, _, _, _, _, _, _, (by k_is), (by k_is)⟩⟩⟩); (case mkk_NoLine => exact ⟨_, _, _, _, _, _, _, (by k_is), PySem.F.excBase_IndexError, PySem.Xc.initK_index PySem.F.store_IndexError (by decide +kernel), ⟨⟨_, _, _, _, _, _, _, _, _, _, _, _, _, _, _, (by k_is), by decide +kernel⟩, (by k_is), (by k_is), (by k_is), (by k_is), (by k_is), (by k_is), (by k_is), ⟨_, _, _, _, _, _, _, _, _, _, _, _, _, _, (by k_is), (by k_is)⟩⟩⟩); (case v_LONGEST => k_is); (case v_MOST_CHARACTERS => k_is); (case v_MOST_LINES => k_is); (case v_MOST_STATES => k_is)
